import PyProof.Rows.All
import Wide.All
import OpenK.AllK
import Wide.FinOn
import HandS.ForMost
import HandS.Exc
import HandS.Lambda
import KE.KeyNested
import HandS.TupAny
import HandS.TupMul
import HandS.Dict
import HandS.Conv
import KE.KRevSl
import HandS.CallSlots
import HandS.WordsExc
import HandS.IsInst
import KE.SortData
import HandS.Deep
import KE.DataMinMax
import KE.DataEq
import KE.DataCmp
import KE.DataIsa
import HandS.Rev
import HandS.RaiseMore
import HandS.More
import HandS.WordsDict
import HandS.TupLen
import PyProof.ReprRoads
import PyProof.CallFns
import HandS.Iter
import HandS.Zip
import KE.GoesMore
import KE.GoesEnum
import KE.KIndexOf
import HandS.Style
import HandS.ExcInit
import KE.KExcSuper
import KE.KSuper
import HandS.ExcField
import HandS.ExcIs
import KE.KExcIs
import HandS.Head0
import HandS.Head1
import HandS.Head2
import HandS.HeadEnd
import HandS.HeadHook1
import HandS.HeadHook2
import HandS.HeadHook3
import HandS.HeadHook4
import HandS.HeadNt
import HandS.EndTab
import HandS.HeadWalk
import KE.KDictDisplayH
import KE.KTupSum
import PyProof.ReprLen
import KE.Datum
import PySem.Challenge.RW_flipsheets_k07_whole_counts_by_all_corne
set_option Elab.async false
set_option linter.all false
set_option maxRecDepth 100000
set_option maxHeartbeats 4000000
namespace FL
open PySem PySem.Spec PyProof.Rows L2

def keyD : Key -> PyData
  | .inl i => .int i
  | .inr x => .str x
/-- a key: a tuple of whole numbers and of such tuples -/
def keyTD (ks : List NestedKey) : PyData := .tuple (NestedKey.datas ks)
mutual
def nkI : NestedKey → Bool
  | .none => false
  | .num _ => true
  | .text _ => false
  | .tup ks => nksI ks
def nksI : List NestedKey → Bool
  | [] => true
  | k :: ks => nkI k && nksI ks
end
def okK (ks : List NestedKey) : Bool := nksI ks && decide (NestedKey.depthAll ks ≤ 7)
mutual
/-- the hash of such a key -/
def nkH : NestedKey → Int
  | .none => 0
  | .num i => hashInt i
  | .text _ => 0
  | .tup ks => reduceHash (Builtin.Tuple.tupleHashOf (nksH ks))
def nksH : List NestedKey → List Int
  | [] => []
  | k :: ks => nkH k :: nksH ks
end
mutual
theorem nkH_eq (w : World) : ∀ {k : NestedKey}, nkI k = true → NestedKey.hash w k = nkH k
  | .none, h => by simp [nkI] at h
  | .num i, _ => rfl
  | .text _, h => by simp [nkI] at h
  | .tup ks, h => by
    simp only [nkI] at h
    simp only [NestedKey.hash, nkH, nksH_eq w h]
theorem nksH_eq (w : World) : ∀ {ks : List NestedKey}, nksI ks = true → NestedKey.hashes w ks = nksH ks
  | [], _ => rfl
  | k :: ks, h => by
    simp only [nksI, Bool.and_eq_true] at h
    simp only [NestedKey.hashes, nksH, nkH_eq w h.1, nksH_eq w h.2]
end
abbrev hashI (k : NestedKey) : Int := nkH k
abbrev KTv := NestedKey × Addr × V
/-- a dict at a whose keys are such tuples, with their addresses and values -/
def dtP (a : Addr) (kvs : List KTv) (h : Heap) : Prop := kvs.length ≤ sizeLine ∧ (a == sysModules) = false ∧
  ∃ xs : List (NestedKey × Addr × Value), Paired (fun (p : KTv) (q : NestedKey × Addr × Value) => p.1 = q.1 ∧ p.2.1 = q.2.1 ∧ RelV p.2.2 q.2.2) kvs xs ∧
    ∃ o es ep, h.get? a = some o ∧ o.ExactDict ∧ o.data = .dict es ep ∧ es.toList = xs.map (fun x => (⟨hashI x.1, .ref x.2.1, x.2.2⟩ : DictEntry)) ∧ (xs.map (·.1)).Nodup
def DTi (a : Addr) (kvs : List KTv) : HO := .ext (dtP a kvs)
/-- three whole numbers -/
def trip : List PyData → Bool
  | [.int _, .int _, .int _] => true
  | _ => false
/-- a tuple; of three whole numbers its object is known to have no dict -/
def TpD (H : Hp) (a : Addr) (ds : List PyData) (xs : List V) : Prop := (∃ o : Obj, o.dict = none ∧ H a = some (.frz o (.tup xs))) ∨ (trip ds = false ∧ H a = some (.tup xs))
theorem TpD.sq {H : Hp} {a : Addr} {ds : List PyData} {xs : List V} {K : PySem.W.Frag} (h : TpD H a ds xs) : SqT K H a xs := by
  rcases h with ⟨o, _, h⟩ | ⟨_, h⟩
  · exact .inl (.inr ⟨o, h⟩)
  · exact .inl (.inl h)

mutual
/-- data read at a value; lists and dicts in it stand at addresses that are ok -/
inductive Rp (ok : Addr → Prop) (K : PySem.W.Frag) (H : Hp) : PyData → V → Prop
  | non : Rp ok K H .none .non
  | bl (b : Bool) : Rp ok K H (.bool b) (.bl b)
  | int (i : Int) : Rp ok K H (.int i) (.int i)
  | str (x : Str) : Rp ok K H (.str x) (.str x)
  | tup {a : Addr} {xs : List V} {ds : List PyData} : TpD H a ds xs → Rps ok K H ds xs → Rp ok K H (.tuple ds) (.ref a)
  | lst {a : Addr} {xs : List V} {ds : List PyData} : ok a → Rd H a (.lst xs) → Rps ok K H ds xs → Rp ok K H (.list ds) (.ref a)
  | dk {a : Addr} {kvs : List (Key × V)} {ps : List (PyData × PyData)} : ok a → Rd H a (.dK kvs) → Rkv ok K H ps kvs → Rp ok K H (.dict ps) (.ref a)
  | dt {a : Addr} {kvs : List KTv} {ps : List (PyData × PyData)} : ok a → H a = some (DTi a kvs) → Rtv ok K H ps kvs → Rp ok K H (.dict ps) (.ref a)
inductive Rps (ok : Addr → Prop) (K : PySem.W.Frag) (H : Hp) : List PyData → List V → Prop
  | nil : Rps ok K H [] []
  | cons {d : PyData} {ds : List PyData} {v : V} {vs : List V} : Rp ok K H d v → Rps ok K H ds vs → Rps ok K H (d :: ds) (v :: vs)
inductive Rkv (ok : Addr → Prop) (K : PySem.W.Frag) (H : Hp) : List (PyData × PyData) → List (Key × V) → Prop
  | nil : Rkv ok K H [] []
  | cons {k : Key} {d : PyData} {ds : List (PyData × PyData)} {v : V} {vs : List (Key × V)} : Rp ok K H d v → Rkv ok K H ds vs → Rkv ok K H ((keyD k, d) :: ds) ((k, v) :: vs)
inductive Rtv (ok : Addr → Prop) (K : PySem.W.Frag) (H : Hp) : List (PyData × PyData) → List KTv → Prop
  | nil : Rtv ok K H [] []
  | cons {k : List NestedKey} {b : Addr} {xs : List V} {d : PyData} {ds : List (PyData × PyData)} {v : V} {vs : List KTv} : okK k = true → TpD H b (NestedKey.datas k) xs → Rps ok K H (NestedKey.datas k) xs → Rp ok K H d v → Rtv ok K H ds vs → Rtv ok K H ((keyTD k, d) :: ds) ((.tup k, b, v) :: vs)
end

def imm : HO → Prop
  | .tup _ => True
  | .frz _ _ => True
  | _ => False
/-- what stands at q's addresses, and what never changes, stays -/
def Stp (q : Addr → Prop) (H H' : Hp) : Prop := ∀ a o, H a = some o → ((q a ∧ ∀ ps, o ≠ .tbl ps) ∨ imm o) → H' a = some o
def Grow (H H' : Hp) : Prop := ∀ a o, H a = some o → H' a = some o
theorem Stp.refl {q : Addr → Prop} {H : Hp} : Stp q H H := fun _ _ h _ => h
theorem Grow.refl {H : Hp} : Grow H H := fun _ _ h => h
theorem Grow.trans {H H1 H2 : Hp} (a : Grow H H1) (b : Grow H1 H2) : Grow H H2 := fun c o h => b c o (a c o h)
theorem Grow.stp {q : Addr → Prop} {H H' : Hp} (g : Grow H H') : Stp q H H' := fun a o h _ => g a o h
theorem Grow.upd {H : Hp} {a : Addr} {o : HO} (h : H a = none) : Grow H (upd H a o) := fun b u e => by rw [upd_ne (ne_of_none e h)]; exact e
theorem Stp.trans {q q1 : Addr → Prop} {H H1 H2 : Hp} (a : Stp q H H1) (m : ∀ x, q x → q1 x) (b : Stp q1 H1 H2) : Stp q H H2 := fun c o h k => b c o (a c o h k) (k.imp (fun z => ⟨m c z.1, z.2⟩) id)
theorem Stp.sub {q q1 : Addr → Prop} {H H1 : Hp} (a : Stp q1 H H1) (m : ∀ x, q x → q1 x) : Stp q H H1 := fun c o h k => a c o h (k.imp (fun z => ⟨m c z.1, z.2⟩) id)

section
variable {ok ok' : Addr → Prop} {K : PySem.W.Frag} {H H' : Hp}
theorem SqT.stp {a : Addr} {xs : List V} (h : SqT K H a xs) (s : Stp ok H H') : SqT K H' a xs := by
  rcases h with (h | ⟨o, h⟩) | h
  · exact .inl (.inl (s a _ h (.inr trivial)))
  · exact .inl (.inr ⟨o, s a _ h (.inr trivial)⟩)
  · exact .inr h
theorem Rd.stp {a : Addr} {u : HO} (h : Rd H a u) (q : ok a) (s : Stp ok H H') (t : ∀ ps, u ≠ .tbl ps := by intro _ z; cases z) : Rd H' a u := by
  rcases h with h | ⟨o, h⟩
  · exact .inl (s a _ h (.inl ⟨q, t⟩))
  · exact .inr ⟨o, s a _ h (.inr trivial)⟩
theorem Rd.trk {a : Addr} {u : HO} (h : Rd H a u) (t : ∀ ps, u ≠ .tbl ps := by intro _ z; cases z) : ∃ o, H a = some o ∧ ∀ ps, o ≠ .tbl ps := by
  rcases h with h | ⟨o, h⟩
  · exact ⟨_, h, t⟩
  · exact ⟨_, h, fun _ z => by cases z⟩
theorem TpD.stp {a : Addr} {ds : List PyData} {xs : List V} (h : TpD H a ds xs) (s : Stp ok H H') : TpD H' a ds xs := by
  rcases h with ⟨o, e, h⟩ | ⟨e, h⟩
  · exact .inl ⟨o, e, s a _ h (.inr trivial)⟩
  · exact .inr ⟨e, s a _ h (.inr trivial)⟩
mutual
theorem Rp.step0 (m : ∀ a u, ok a → H a = some u → (∀ ps, u ≠ .tbl ps) → ok' a) (s : Stp ok H H') : ∀ {d : PyData} {v : V}, Rp ok K H d v → Rp ok' K H' d v
  | _, _, .non => .non
  | _, _, .bl b => .bl b
  | _, _, .int i => .int i
  | _, _, .str x => .str x
  | _, _, .tup h r => .tup (TpD.stp h s) (Rps.step0 m s r)
  | _, _, .lst q h r => .lst (let ⟨u, e, t⟩ := Rd.trk h; m _ u q e t) (Rd.stp h q s) (Rps.step0 m s r)
  | _, _, .dk q h r => .dk (let ⟨u, e, t⟩ := Rd.trk h; m _ u q e t) (Rd.stp h q s) (Rkv.step0 m s r)
  | _, _, .dt q h r => .dt (m _ _ q h fun ps z => by cases z) (s _ _ h (.inl ⟨q, fun ps z => by cases z⟩)) (Rtv.step0 m s r)
theorem Rps.step0 (m : ∀ a u, ok a → H a = some u → (∀ ps, u ≠ .tbl ps) → ok' a) (s : Stp ok H H') : ∀ {d : List PyData} {v : List V}, Rps ok K H d v → Rps ok' K H' d v
  | _, _, .nil => .nil
  | _, _, .cons h r => .cons (Rp.step0 m s h) (Rps.step0 m s r)
theorem Rkv.step0 (m : ∀ a u, ok a → H a = some u → (∀ ps, u ≠ .tbl ps) → ok' a) (s : Stp ok H H') : ∀ {d : List (PyData × PyData)} {v : List (Key × V)}, Rkv ok K H d v → Rkv ok' K H' d v
  | _, _, .nil => .nil
  | _, _, .cons h r => .cons (Rp.step0 m s h) (Rkv.step0 m s r)
theorem Rtv.step0 (m : ∀ a u, ok a → H a = some u → (∀ ps, u ≠ .tbl ps) → ok' a) (s : Stp ok H H') : ∀ {d : List (PyData × PyData)} {v : List KTv}, Rtv ok K H d v → Rtv ok' K H' d v
  | _, _, .nil => .nil
  | _, _, .cons q t rs h r => .cons q (TpD.stp t s) (Rps.step0 m s rs) (Rp.step0 m s h) (Rtv.step0 m s r)
end
theorem Rp.step (m : ∀ a, ok a → ok' a) (s : Stp ok H H') {d : PyData} {v : V} (r : Rp ok K H d v) : Rp ok' K H' d v := r.step0 (fun a _ q _ _ => m a q) s
theorem Rps.step (m : ∀ a, ok a → ok' a) (s : Stp ok H H') {d : List PyData} {v : List V} (r : Rps ok K H d v) : Rps ok' K H' d v := r.step0 (fun a _ q _ _ => m a q) s
theorem Rkv.step (m : ∀ a, ok a → ok' a) (s : Stp ok H H') {d : List (PyData × PyData)} {v : List (Key × V)} (r : Rkv ok K H d v) : Rkv ok' K H' d v := r.step0 (fun a _ q _ _ => m a q) s
theorem Rtv.step (m : ∀ a, ok a → ok' a) (s : Stp ok H H') {d : List (PyData × PyData)} {v : List KTv} (r : Rtv ok K H d v) : Rtv ok' K H' d v := r.step0 (fun a _ q _ _ => m a q) s
theorem Rp.grow {d : PyData} {v : V} (r : Rp ok K H d v) (g : Grow H H') : Rp ok K H' d v := r.step (fun _ h => h) g.stp
theorem Rps.grow {d : List PyData} {v : List V} (r : Rps ok K H d v) (g : Grow H H') : Rps ok K H' d v := r.step (fun _ h => h) g.stp
theorem Rps.length : ∀ {ds : List PyData} {vs : List V}, Rps ok K H ds vs → ds.length = vs.length
  | _, _, .nil => rfl
  | _, _, .cons _ r => by simp [Rps.length r]
theorem Rps.get : ∀ {ds : List PyData} {vs : List V} {i : Nat} {d : PyData}, Rps ok K H ds vs → ds[i]? = some d → ∃ v, vs[i]? = some v ∧ Rp ok K H d v
  | _, _, _, _, .nil, e => by simp at e
  | _, _, 0, _, .cons h r, e => by simp at e; subst e; exact ⟨_, rfl, h⟩
  | _, _, i + 1, _, .cons h r, e => by
    obtain ⟨v, e1, e2⟩ := Rps.get (i := i) r (by simpa using e)
    exact ⟨v, by simpa using e1, e2⟩
theorem Rps.append : ∀ {ds es : List PyData} {vs us : List V}, Rps ok K H ds vs → Rps ok K H es us → Rps ok K H (ds ++ es) (vs ++ us)
  | _, _, _, _, .nil, r => r
  | _, _, _, _, .cons h t, r => .cons h (Rps.append t r)
theorem Rps.take : ∀ {ds : List PyData} {vs : List V} (n : Nat), Rps ok K H ds vs → Rps ok K H (ds.take n) (vs.take n)
  | _, _, 0, _ => .nil
  | _, _, _ + 1, .nil => .nil
  | _, _, n + 1, .cons h t => .cons h (Rps.take n t)
theorem Rps.drop : ∀ {ds : List PyData} {vs : List V} (n : Nat), Rps ok K H ds vs → Rps ok K H (ds.drop n) (vs.drop n)
  | _, _, 0, r => r
  | _, _, _ + 1, .nil => .nil
  | _, _, n + 1, .cons _ t => Rps.drop n t
theorem Rps.reverse : ∀ {ds : List PyData} {vs : List V}, Rps ok K H ds vs → Rps ok K H ds.reverse vs.reverse
  | _, _, .nil => .nil
  | _, _, .cons h t => by simpa using Rps.append (Rps.reverse t) (.cons h .nil)
theorem Rps.erase : ∀ {ds : List PyData} {vs : List V} (n : Nat), Rps ok K H ds vs → Rps ok K H (ds.eraseIdx n) (vs.eraseIdx n)
  | _, _, _, .nil => .nil
  | _, _, 0, .cons _ t => t
  | _, _, n + 1, .cons h t => .cons h (Rps.erase n t)
theorem Rps.set {d : PyData} {v : V} (h : Rp ok K H d v) : ∀ {ds : List PyData} {vs : List V} (n : Nat), Rps ok K H ds vs → Rps ok K H (ds.set n d) (vs.set n v)
  | _, _, _, .nil => .nil
  | _, _, 0, .cons _ t => .cons h t
  | _, _, n + 1, .cons h1 t => .cons h1 (Rps.set h n t)
theorem Rps.rep {ds : List PyData} {vs : List V} (r : Rps ok K H ds vs) : ∀ n : Nat, Rps ok K H (List.replicate n ds).flatten (List.replicate n vs).flatten
  | 0 => .nil
  | n + 1 => by simpa [List.replicate_succ] using r.append (Rps.rep r n)
theorem Rps.ints (ok : Addr → Prop) (K : PySem.W.Frag) (H : Hp) : ∀ ns : List Int, Rps ok K H (ns.map .int) (ns.map V.int)
  | [] => .nil
  | n :: ns => .cons (.int n) (Rps.ints ok K H ns)
theorem Rps.ints_inv : ∀ {ns : List Int} {vs : List V}, Rps ok K H (ns.map .int) vs → vs = ns.map V.int
  | [], _, h => by cases h; rfl
  | n :: ns, _, h => by
    cases h with
    | cons h t => cases h; rw [Rps.ints_inv t]; rfl
theorem Rkv.length : ∀ {ps : List (PyData × PyData)} {kvs : List (Key × V)}, Rkv ok K H ps kvs → ps.length = kvs.length
  | _, _, .nil => rfl
  | _, _, .cons _ r => by simp [Rkv.length r]
theorem Rtv.length : ∀ {ps : List (PyData × PyData)} {kvs : List KTv}, Rtv ok K H ps kvs → ps.length = kvs.length
  | _, _, .nil => rfl
  | _, _, .cons _ _ _ _ r => by simp [Rtv.length r]
end

structure OrcS where
  cells : List Int
  lefts : List Int
  at_ : Int
/-- the drawn state, and the tables of code objects that are known -/
structure Orc where
  st : Option OrcS
  tb : List (Addr × Str)
/-- where the drawn state stands, and the tables of code objects that a def's lambdas write -/
structure Sad where
  st : Option (Addr × Addr × Addr)
  tb : List (Addr × Str)
def stIn (t : Option (Addr × Addr × Addr)) (a : Addr) : Prop := match t with
  | none => False
  | some (s, c, l) => a = s ∨ a = c ∨ a = l
def inS (S : Sad) (a : Addr) : Prop := stIn S.st a ∨ ∃ q, (a, q) ∈ S.tb
def orcFields (c l : Addr) (q : OrcS) : List (Key × V) := [(.inr "cells", .ref c), (.inr "lefts", .ref l), (.inr "at", .int q.at_)]
def RStat (H : Hp) (o : Option OrcS) (t : Option (Addr × Addr × Addr)) : Prop := match o, t with
  | none, none => True
  | some q, some (s, c, l) => H s = some (.dK (orcFields c l q)) ∧ H c = some (.lst (q.cells.map V.int)) ∧ H l = some (.lst (q.lefts.map V.int)) ∧ c ≠ l
  | _, _ => False
def ROrc (H : Hp) (o : Orc) (S : Sad) : Prop := RStat H o.st S.st ∧ LamX.Tabs S.tb H ∧ o.tb = S.tb

abbrev Sl := L2.St
abbrev Env := List (Option PyData)
/-- the ghosts of a call: the heap at its entry, what its arguments may stand at, the drawn state -/
structure Gh where
  H0 : Hp
  ok0 : Addr → Prop
  S0 : Sad
/-- of a def's text: the names of its own lists and dicts, the name of the drawn state -/
structure Sta where
  own : List Nat
  ist : Option Nat

/-- the container at a, its parts ok -/
def CtA (ok : Addr → Prop) (K : PySem.W.Frag) (H : Hp) (d : PyData) (a : Addr) : Prop := match d with
  | .list ds => ∃ xs, H a = some (.lst xs) ∧ Rps ok K H ds xs
  | .dict ps => (∃ kvs, H a = some (.dK kvs) ∧ Rkv ok K H ps kvs) ∨ (∃ kvs, H a = some (DTi a kvs) ∧ Rtv ok K H ps kvs)
  | _ => False
def isC : PyData → Bool
  | .list _ => true
  | .dict _ => true
  | _ => false
/-- data, the top free -/
def RpT (okT ok : Addr → Prop) (K : PySem.W.Frag) (H : Hp) (d : PyData) (x : V) : Prop := match d with
  | .list ds => ∃ a xs, x = .ref a ∧ okT a ∧ Rd H a (.lst xs) ∧ Rps ok K H ds xs
  | .dict ps => ∃ a, x = .ref a ∧ okT a ∧ ((∃ kvs, Rd H a (.dK kvs) ∧ Rkv ok K H ps kvs) ∨ (∃ kvs, H a = some (DTi a kvs) ∧ Rtv ok K H ps kvs))
  | d => Rp ok K H d x
section
variable {ok ok' okT okT' : Addr → Prop} {K : PySem.W.Frag} {H H' : Hp}
theorem Rp.toT (m : ∀ a, ok a → okT a) {d : PyData} {x : V} (r : Rp ok K H d x) : RpT okT ok K H d x := by
  cases r with
  | lst q h r => exact ⟨_, _, rfl, m _ q, h, r⟩
  | dk q h r => exact ⟨_, rfl, m _ q, .inl ⟨_, h, r⟩⟩
  | dt q h r => exact ⟨_, rfl, m _ q, .inr ⟨_, h, r⟩⟩
  | non => exact .non
  | bl b => exact .bl b
  | int i => exact .int i
  | str x => exact .str x
  | tup h r => exact .tup h r
theorem RpT.step (m : ∀ a, ok a → ok' a) (mT : ∀ a, okT a → okT' a) (s : Stp ok H H') (sT : Stp okT H H') {d : PyData} {x : V} (r : RpT okT ok K H d x) : RpT okT' ok' K H' d x := by
  cases d with
  | list ds =>
    obtain ⟨a, xs, e, q, h, r⟩ := r
    exact ⟨a, xs, e, mT a q, Rd.stp h q sT, r.step m s⟩
  | dict ps =>
    obtain ⟨a, e, q, h⟩ := r
    refine ⟨a, e, mT a q, ?_⟩
    rcases h with ⟨kvs, h, r⟩ | ⟨kvs, h, r⟩
    · exact .inl ⟨kvs, Rd.stp h q sT, r.step m s⟩
    · exact .inr ⟨kvs, sT _ _ h (.inl ⟨q, fun ps z => by cases z⟩), r.step m s⟩
  | none => exact Rp.step m s r
  | bool b => exact Rp.step m s r
  | int i => exact Rp.step m s r
  | str x => exact Rp.step m s r
  | tuple xs => exact Rp.step m s r
theorem CtA.step (m : ∀ a u, ok a → H a = some u → (∀ ps, u ≠ .tbl ps) → ok' a) (s : Stp ok H H') {d : PyData} {a : Addr} (h : CtA ok K H d a) (ha : ∀ o, H a = some o → H' a = some o) : CtA ok' K H' d a := by
  cases d with
  | list ds =>
    obtain ⟨xs, h, r⟩ := h
    exact ⟨xs, ha _ h, r.step0 m s⟩
  | dict ps =>
    rcases h with ⟨kvs, h, r⟩ | ⟨kvs, h, r⟩
    · exact .inl ⟨kvs, ha _ h, r.step0 m s⟩
    · exact .inr ⟨kvs, ha _ h, r.step0 m s⟩
  | none => exact h
  | bool b => exact h
  | int i => exact h
  | str x => exact h
  | tuple xs => exact h
theorem CtA.there {d : PyData} {a : Addr} (h : CtA ok K H d a) : ∃ o, H a = some o ∧ ¬ imm o := by
  cases d with
  | list ds => obtain ⟨xs, h, _⟩ := h; exact ⟨_, h, fun z => z⟩
  | dict ps =>
    rcases h with ⟨kvs, h, r⟩ | ⟨kvs, h, r⟩
    · exact ⟨_, h, fun z => z⟩
    · exact ⟨_, h, fun z => z⟩
  | none => exact h.elim
  | bool b => exact h.elim
  | int i => exact h.elim
  | str x => exact h.elim
  | tuple xs => exact h.elim
theorem CtA.toT {d : PyData} {a : Addr} (h : CtA ok K H d a) (q : okT a) : RpT okT ok K H d (.ref a) := by
  cases d with
  | list ds => obtain ⟨xs, h, r⟩ := h; exact ⟨a, xs, rfl, q, .inl h, r⟩
  | dict ps =>
    refine ⟨a, rfl, q, ?_⟩
    rcases h with ⟨kvs, h, r⟩ | ⟨kvs, h, r⟩
    · exact .inl ⟨kvs, .inl h, r⟩
    · exact .inr ⟨kvs, h, r⟩
  | none => exact h.elim
  | bool b => exact h.elim
  | int i => exact h.elim
  | str x => exact h.elim
  | tuple xs => exact h.elim
theorem CtA.toRp {d : PyData} {a : Addr} (h : CtA ok K H d a) (q : ok a) : Rp ok K H d (.ref a) := by
  cases d with
  | list ds => obtain ⟨xs, h, r⟩ := h; exact .lst q (.inl h) r
  | dict ps =>
    rcases h with ⟨kvs, h, r⟩ | ⟨kvs, h, r⟩
    · exact .dk q (.inl h) r
    · exact .dt q h r
  | none => exact h.elim
  | bool b => exact h.elim
  | int i => exact h.elim
  | str x => exact h.elim
  | tuple xs => exact h.elim
end

/-- an own list or dict of the def -/
structure Own (g : Gh) (ok : Addr → Prop) (S : Sad) (K : PySem.W.Frag) (H : Hp) (d : PyData) (a : Addr) : Prop where
  nok : ¬ ok a
  nS : ¬ inS S a
  new : g.H0 a = none
  ct : CtA ok K H d a
def okw (g : Gh) (S : Sad) (a : Addr) : Prop := g.ok0 a ∧ ¬ inS S a

structure Rst (sg : Sta) (g : Gh) (ok : Addr → Prop) (S : Sad) (K : PySem.W.Frag) (H : Hp) (σ : L2.St) (ρ : Env) (o : Orc) : Prop where
  len : σ.length = ρ.length
  pl : ∀ (i : Nat) d, ρ[i]? = some (some d) → i ∉ sg.own → ∃ x, σ[i]? = some (some x) ∧ Rp ok K H d x
  ow : ∀ (i : Nat) d, ρ[i]? = some (some d) → i ∈ sg.own → ∃ a, σ[i]? = some (some (.ref a)) ∧ Own g ok S K H d a
  inj : ∀ (i j : Nat) a d e, i ∈ sg.own → j ∈ sg.own → ρ[i]? = some (some d) → ρ[j]? = some (some e) → σ[i]? = some (some (.ref a)) → σ[j]? = some (some (.ref a)) → i = j
  fr : ∀ a, H a = none → ok a
  sub : ∀ a, ok a → okw g S a
  h0 : ∀ a, g.H0 a = none → g.ok0 a
  chg : ∀ a u, g.H0 a = some u → ¬ inS g.S0 a → (∀ ps, u ≠ .tbl ps) → H a = some u
  trk : ∀ a u, g.H0 a = some u → ∃ u', H a = some u'
  orc : ROrc H o S
  sS : S = g.S0 ∨ (g.S0.st = none ∧ S.tb = g.S0.tb ∧ ∀ a, stIn S.st a → g.H0 a = none)
  ist : ∀ i, sg.ist = some i → ∀ s c l, S.st = some (s, c, l) → σ[i]? = some (some (.ref s))
end FL
namespace FL
open PySem PySem.Spec PyProof.Rows L2 PySem.W

/-- what is asked of a new tuple -/
def HardQ (H : Hp) (xs : List V) (Q : VK) : Prop := ∀ p o, Obj.dict o = none → H p = none → Q (.ref p) (upd H p (.frz o (.tup xs)))
section
variable {X : Cx} {pins : List (Addr × Obj)} {σ : Sl} {H : Hp} {s : Shared}
theorem lay_hard {xs : List V} {its : List Value} (I : Inv X pins σ H s) (r : Vals xs its) (hz : xs.length ≤ sizeLine) :
    Inv X pins σ (upd H s.heap.objs.size (.frz { cls := .type "tuple", data := .seq its.toArray } (.tup xs))) { s with heap := s.heap.push { cls := .type "tuple", data := .seq its.toArray } } := by
  have at_ : (s.heap.push { cls := .type "tuple", data := .seq its.toArray }).get? s.heap.objs.size = some { cls := .type "tuple", data := .seq its.toArray } := Heap.get?_push_size _ rfl
  exact I.laid (t' := s.toks) (fun b u e => Heap.get?_push_of_some _ e) (Nat.le_refl _) ⟨at_, hz, its, r, ⟨_, at_, rfl, _, rfl⟩⟩
theorem end_hard {xs : List V} {its : List Value} {Q : VK} (I : Inv X pins σ H s) (r : Vals xs its) (hz : xs.length ≤ sizeLine) (q : HardQ H xs Q) : EP X pins σ Q (.ref s.heap.objs.size) { s with heap := s.heap.push { cls := .type "tuple", data := .seq its.toArray } } :=
  ⟨.ref s.heap.objs.size, _, lay_hard I r hz, rfl, q _ _ rfl (I.hok.fresh (Nat.le_refl _))⟩
end
section
variable {X : Cx} {es : List Expr} {pos : Pos}
theorem pe_tupH {k : Nat} {t : TA} (h : PA X es t) : PE X (.Tuple es k pos) (fun σ H Q => t σ H fun xs H1 => xs.length ≤ sizeLine ∧ HardQ H1 xs Q) := by
  refine ⟨fun pins s σ H Q I hq => ?_⟩
  exact wpAny_Tuple_spliced (thn (h.run pos pins s σ H _ I hq) fun us s1 ⟨xs, H1, I1, r, z, q⟩ => ⟨by rw [← r.length]; exact z, end_hard I1 r z q⟩)
/-- + -/
theorem op_catH : OpR X (binaryOp .Add) (fun x y H Q => ∃ a b xs ys, x = .ref a ∧ y = .ref b ∧ SqT X.K H a xs ∧ SqT X.K H b ys ∧ xs.length + ys.length ≤ sizeLine ∧
    (xs = [] → Q (.ref b) H) ∧ (xs ≠ [] → ys = [] → Q (.ref a) H) ∧ (xs ≠ [] → ys ≠ [] → HardQ H (xs ++ ys) Q)) := by
  intro pins s σ H x y v u Q I rx ry ⟨a, b, xs, ys, ex, ey, ha, hb, hz, q0, q1, q2⟩
  subst ex ey
  cases rx
  cases ry
  obtain ⟨its, r1, p1, z1⟩ := I.tuple ha
  obtain ⟨jts, r2, p2, z2⟩ := I.tuple hb
  by_cases hx : xs = []
  · subst hx
    cases r1
    exact L2.cat_tup0 p1 p2 ⟨.ref b, H, I, rfl, q0 rfl⟩
  · refine HT.cat_tup p1 p2 (fun z => hx (r1.nil_iff.mp z)) (fun z => ⟨.ref a, H, I, rfl, q1 hx (r2.nil_iff.mp z)⟩) (fun z => ?_) (by rw [← r1.length, ← r2.length]; exact hz)
    exact end_hard I (r1.append r2) (by rw [List.length_append]; exact hz) (q2 hx fun w => z (r2.nil_iff.mpr w))
/-- a part -/
theorem sl_hard : SlR X (fun x lo hi H Q => ∃ a xs, x = .ref a ∧ SqT X.K H a xs ∧
    (HT.sIx xs.length 0 lo = 0 ∧ HT.sIx xs.length xs.length hi = xs.length → Q (.ref a) H) ∧ (¬ (HT.sIx xs.length 0 lo = 0 ∧ HT.sIx xs.length xs.length hi = xs.length) → HardQ H (cutV xs lo hi) Q)) := by
  intro pins s σ H x v vl vu lo hi sl Q I rx hs pl pu ⟨a, xs, ex, hx, q1, q2⟩
  subst ex
  cases rx
  obtain ⟨its, r, ht, hz⟩ := I.tuple hx
  have hlen : its.toArray.size = xs.length := by rw [List.size_toArray]; exact r.length.symm
  refine ⟨"tuple", _, PyProof.Rows.slot_tuple_getitem.lookup, ht.typeIs, ?_⟩
  by_cases hw : HT.sIx xs.length 0 lo = 0 ∧ HT.sIx xs.length xs.length hi = xs.length
  · exact L2.getItem_tuple_whole ht hs pl pu (by rw [hlen]; exact hw) ⟨.ref a, H, I, rfl, q1 hw⟩
  · refine HT.getItem_tuple_cut ht hs pl pu (by rw [hlen]; exact hw) ?_ (by rw [hlen]; exact hz)
    rw [hlen]
    exact end_hard I ((r.drop _).take _) (Nat.le_trans (cutV_length xs lo hi) hz) (q2 hw)
/-- tuple(l) -/
theorem call_tupH : CallR X (.type "tuple") (fun xs H Q => ∃ p ys, xs = [.ref p] ∧ ((SqL X.K H p ys ∧ HardQ H ys Q) ∨ (SqT X.K H p ys ∧ Q (.ref p) H))) := by
  intro pins s σ H xs us Q I r ⟨p, ys, ex, h⟩
  subst ex
  obtain ⟨u, rfl, rx⟩ := vals1 r
  cases rx
  rcases h with ⟨hq, q⟩ | ⟨hq, q⟩
  · obtain ⟨its, rv, pl, hz⟩ := I.list hq
    refine call_tuple_list pl.isList (fun h' kp => ?_) (by rw [List.size_toArray, ← rv.length]; exact hz)
    exact end_hard (s := { s with heap := h' }) (I.kept (t' := s.toks) kp) rv hz q
  · obtain ⟨its, rv, pl, hz⟩ := I.tuple hq
    exact call_tuple_same pl ⟨.ref p, H, I, rfl, q⟩
/-- t * k, k ≥ 2 -/
theorem op_repH : OpR X (binaryOp .Mult) (fun x y H Q => ∃ l k xs, x = .ref l ∧ y = .int k ∧ SqT X.K H l xs ∧ xs ≠ [] ∧ 2 ≤ k ∧ k ≤ 1000 ∧ xs.length ≤ 1000 ∧ HardQ H (List.replicate k.toNat xs).flatten Q) := by
  intro pins s σ H x y v u Q I rx ry ⟨l, k, xs, ex, ey, hT, hne, h1, h2, hz, q⟩
  subst ex ey
  cases rx
  obtain ⟨t, rfl⟩ := ry
  obtain ⟨its, r, ⟨⟨cls, dd, data, sl⟩, ho, hc, n, hd⟩, hs⟩ := I.tuple hT
  simp only at hc hd
  subst hc hd
  have hle : its.length = xs.length := r.length.symm
  have hi : its.toArray.isEmpty = false := by
    cases its with
    | nil => exact absurd (List.eq_nil_of_length_eq_zero hle.symm) hne
    | cons _ _ => rfl
  have hs0 : its.toArray.size = xs.length := by rw [List.size_toArray, hle]
  have hm : ((its.toArray.size : Nat) : Int) * k ≤ 1000000 := by
    rw [hs0]
    have : ((xs.length : Nat) : Int) * k ≤ 1000 * k := Int.mul_le_mul_of_nonneg_right (by omega) (by omega)
    omega
  have big : k.toNat * xs.length ≤ 1000 * 1000 := Nat.mul_le_mul (by omega) hz
  have fl : (List.replicate k.toNat its).flatten.length ≤ sizeLine := by
    rw [PyProof.Rows.lm_len_rep_flat, hle, sizeLine_eq]
    omega
  have c0 : (decide (k < -(2 ^ 63)) || decide (k ≥ 2 ^ 63)) = false := by
    rw [Bool.or_eq_false_iff]
    exact ⟨decide_eq_false (by omega), decide_eq_false (by omega)⟩
  have c1 : (its.toArray.isEmpty || k == 1) = false := by
    rw [hi]
    simp
    omega
  have c2 : (decide (k ≤ 0) || its.toArray.isEmpty) = false := by
    rw [hi]
    simp
    omega
  have c4 : Builtin.Tuple.tupleTooMany (((its.toArray.size : Nat) : Int) * k) = false := by
    unfold Builtin.Tuple.tupleTooMany
    rw [sizeLine_eq]
    exact decide_eq_false (by omega)
  have inner : wpAny (model X.prog X.w) X.A (call (.builtin "tuple.__mul__") [.ref l, .int k t]) (EP X pins σ Q) X.xe s := by
    refine call_meets F.slot_tuple_mul ⟨_, ho, rfl⟩ F.entry_tuple_mul (F.args_tuple_mul_2 _ _) (tuple_mulW l its.toArray n dd sl k t c0 c1 c2 (by omega) c4 (by rw [size_rep, List.size_toArray]; exact fl)) ⟨ho, ?_⟩
    rw [size_rep]
    exact end_hard I (r.rep k.toNat) (by rw [PyProof.Rows.lm_len_rep_flat, sizeLine_eq]; omega) q
  exact wpAny_binaryOp_repeat_ref (T := "tuple") (U := "int") (by decide) ⟨_, ho, rfl⟩ (fun s' => typeIs_int s' k t) noFill_tuple_mul F.fills_int_mul F.slot_int_rmul repeat_tuple F.slot_int_index.lookup
    (call_meets F.slot_int_rmul (typeIs_int s k t) F.entry_int_rmul (F.args_int_rmul_2 _ _) (int_rmul_tuple k t l its.toArray n dd sl) ⟨ho, rfl, ⟨_, ho, rfl⟩, inner⟩)
end

/-- the key kind -/
abbrev kTI (X : Cx) := nestedKind X.prog X.w
theorem entry_dti (X : Cx) (x : NestedKey × Addr × Value) (h : nkI x.1 = true) : entryOfKey (kTI X) x = ⟨hashI x.1, .ref x.2.1, x.2.2⟩ := by
  show (⟨NestedKey.hash X.w x.1, .ref x.2.1, x.2.2⟩ : DictEntry) = _
  rw [nkH_eq X.w h]
mutual
/-- a key's value -/
inductive NkV (K : PySem.W.Frag) (H : Hp) : NestedKey → V → Prop
  | int (i : Int) : NkV K H (.num i) (.int i)
  | tup {a : Addr} {xs : List V} {ks : List NestedKey} : SqT K H a xs → NkVs K H ks xs → NkV K H (.tup ks) (.ref a)
inductive NkVs (K : PySem.W.Frag) (H : Hp) : List NestedKey → List V → Prop
  | nil : NkVs K H [] []
  | cons {k : NestedKey} {v : V} {ks : List NestedKey} {vs : List V} : NkV K H k v → NkVs K H ks vs → NkVs K H (k :: ks) (v :: vs)
end
mutual
theorem NkV.nkI {K : PySem.W.Frag} {H : Hp} : ∀ {k : NestedKey} {v : V}, NkV K H k v → nkI k = true
  | _, _, .int _ => rfl
  | _, _, .tup _ r => by simp only [FL.nkI]; exact NkVs.nksI r
theorem NkVs.nksI {K : PySem.W.Frag} {H : Hp} : ∀ {k : List NestedKey} {v : List V}, NkVs K H k v → nksI k = true
  | _, _, .nil => rfl
  | _, _, .cons h r => by simp only [FL.nksI, NkV.nkI h, NkVs.nksI r, Bool.and_self]
end
mutual
theorem NkV.mv {K : PySem.W.Frag} {H H' : Hp} (h : ∀ b xs, SqT K H b xs → SqT K H' b xs) : ∀ {k : NestedKey} {v : V}, NkV K H k v → NkV K H' k v
  | _, _, .int i => .int i
  | _, _, .tup t r => .tup (h _ _ t) (NkVs.mv h r)
theorem NkVs.mv {K : PySem.W.Frag} {H H' : Hp} (h : ∀ b xs, SqT K H b xs → SqT K H' b xs) : ∀ {k : List NestedKey} {v : List V}, NkVs K H k v → NkVs K H' k v
  | _, _, .nil => .nil
  | _, _, .cons t r => .cons (NkV.mv h t) (NkVs.mv h r)
end
mutual
theorem Rp.nk {ok : Addr → Prop} {K : PySem.W.Frag} {H : Hp} : ∀ {k : NestedKey} {v : V}, nkI k = true → Rp ok K H (NestedKey.data k) v → NkV K H k v
  | .num i, _, _, h => by
    simp only [NestedKey.data] at h
    cases h; exact .int i
  | .tup ks, _, e, h => by
    simp only [NestedKey.data] at h
    simp only [nkI] at e
    cases h with
    | tup t r => exact .tup t.sq (Rps.nk e r)
  | .none, _, e, _ => by simp [nkI] at e
  | .text _, _, e, _ => by simp [nkI] at e
theorem Rps.nk {ok : Addr → Prop} {K : PySem.W.Frag} {H : Hp} : ∀ {k : List NestedKey} {v : List V}, nksI k = true → Rps ok K H (NestedKey.datas k) v → NkVs K H k v
  | [], _, _, h => by
    simp only [NestedKey.datas] at h
    cases h; exact .nil
  | k :: ks, _, e, h => by
    simp only [NestedKey.datas] at h
    simp only [nksI, Bool.and_eq_true] at e
    cases h with
    | cons h r => exact .cons (Rp.nk e.1 h) (Rps.nk e.2 r)
end
/-- the key's tuple stands at b -/
def KeyAt (K : PySem.W.Frag) (H : Hp) (k : NestedKey) (b : Addr) : Prop := NkV K H k (.ref b) ∧ k.depth ≤ 8
theorem KeyAt.nkI {K : PySem.W.Frag} {H : Hp} {k : NestedKey} {b : Addr} (h : KeyAt K H k b) : nkI k = true := h.1.nkI
theorem keyAt_of {ok : Addr → Prop} {K : PySem.W.Frag} {H : Hp} {k : List NestedKey} {b : Addr} {xs : List V} (q : okK k = true) (t : TpD H b (NestedKey.datas k) xs) (r : Rps ok K H (NestedKey.datas k) xs) : KeyAt K H (.tup k) b := by
  unfold okK at q
  rw [Bool.and_eq_true, decide_eq_true_eq] at q
  exact ⟨.tup t.sq (r.nk q.1), by simp only [NestedKey.depth]; omega⟩
section
variable {X : Cx} {pins : List (Addr × Obj)} {σ : Sl} {H : Hp} {s : Shared} {a b : Addr} {kvs : List KTv} {k : NestedKey} {A : Around} {E : Value → Shared → Prop}
theorem dti_ok {h : Heap} (e : dtP a kvs h) : ObjOk X.prog X.w H h a (DTi a kvs) := by
  refine ⟨e, ?_, fun h1 h2 ⟨z, y, xs, r, o, es, ep, e1, e2⟩ st => ⟨z, y, xs, r, o, es, ep, st _ e1, e2⟩⟩
  obtain ⟨_, _, _, _, o, _, _, e1, _⟩ := e
  exact ⟨o, e1⟩
theorem dti_at (I : Inv X pins σ H s) (e : H a = some (DTi a kvs)) : dtP a kvs s.heap := (I.hok a _ e).1
mutual
theorem nk_is (I : Inv X pins σ H s) : ∀ {k : NestedKey} {v : V} {u : Value}, NkV X.K H k v → RelV v u → NestedIs s.heap k u
  | _, _, _, .int i, r => by
    obtain ⟨t, rfl⟩ := r
    exact .int i t
  | _, _, _, .tup t rs, r => by
    cases r
    obtain ⟨its, rv, ⟨o, ho, hc, n, hd⟩, hz⟩ := I.tuple t
    exact .tup ho hc hd (by simpa using nks_is I rs rv)
theorem nks_is (I : Inv X pins σ H s) : ∀ {k : List NestedKey} {v : List V} {u : List Value}, NkVs X.K H k v → Vals v u → NestedAll s.heap k u
  | _, _, _, .nil, .nil => .nil
  | _, _, _, .cons h r, .cons rv rs => .cons (nk_is I h rv) (nks_is I r rs)
end
theorem key_ints (I : Inv X pins σ H s) (h : KeyAt X.K H k b) : (kTI X).is s.heap k b := ⟨nk_is I h.1 rfl, h.2⟩
/-- all keys are tuples that are told -/
def KeysT (K : PySem.W.Frag) (H : Hp) (kvs : List KTv) : Prop := ∀ p ∈ kvs, KeyAt K H p.1 p.2.1
theorem dti_dict (I : Inv X pins σ H s) (e : H a = some (DTi a kvs)) (hk : KeysT X.K H kvs) : kvs.length ≤ sizeLine ∧ (a == sysModules) = false ∧
    ∃ xs : List (NestedKey × Addr × Value), Paired (fun (p : KTv) (q : NestedKey × Addr × Value) => p.1 = q.1 ∧ p.2.1 = q.2.1 ∧ RelV p.2.2 q.2.2) kvs xs ∧ s.heap.DictOfH (kTI X) a xs := by
  obtain ⟨z, y, xs, r, o, es, ep, e1, e2, e3, e4, e5⟩ := dti_at I e
  have there : ∀ x ∈ xs, ∃ p ∈ kvs, p.1 = x.1 ∧ p.2.1 = x.2.1 := fun x hx => by
    clear e e1 e2 e3 e4 e5 z hk
    induction r with
    | nil => cases hx
    | @cons p q ps qs h t ih =>
      rcases List.mem_cons.mp hx with rfl | hx
      · exact ⟨p, by simp, h.1, h.2.1⟩
      · obtain ⟨p', h1, h2⟩ := ih hx
        exact ⟨p', by simp [h1], h2⟩
  refine ⟨z, y, xs, r, o, es, ep, e1, e2, e3, e4.trans (List.map_congr_left fun x hx => ?_), fun x hx => ?_, e5⟩
  · obtain ⟨p, hp, h1, _⟩ := there x hx
    exact (entry_dti X x (h1 ▸ (hk p hp).nkI)).symm
  obtain ⟨p, hp, h1, h2⟩ := there x hx
  rw [← h1, ← h2]
  exact key_ints I (hk p hp)
end

/-- what is there at a key -/
def valI : List KTv → NestedKey → Option V
  | [], _ => none
  | p :: r, k => if p.1 = k then some p.2.2 else valI r k
/-- stored: an old key keeps its tuple -/
def putI (kvs : List KTv) (k : NestedKey) (b : Addr) (v : V) : List KTv :=
  if (kvs.any fun p => decide (p.1 = k)) = true then kvs.map (fun p => if p.1 = k then (p.1, p.2.1, v) else p) else kvs ++ [(k, b, v)]
abbrev RelKT (p : KTv) (q : NestedKey × Addr × Value) : Prop := p.1 = q.1 ∧ p.2.1 = q.2.1 ∧ RelV p.2.2 q.2.2
theorem putI_length (kvs : List KTv) (k : NestedKey) (b : Addr) (v : V) : (putI kvs k b v).length ≤ kvs.length + 1 := by
  unfold putI
  split
  · rw [List.length_map]; omega
  · rw [List.length_append]; exact Nat.le_refl _
theorem paired_back : ∀ {kvs : List KTv} {xs : List (NestedKey × Addr × Value)}, Paired RelKT kvs xs → ∀ x ∈ xs, ∃ p ∈ kvs, p.1 = x.1 ∧ p.2.1 = x.2.1
  | _, _, .nil, _, h => by cases h
  | p :: kvs, q :: xs, .cons h t, x, hx => by
    rcases List.mem_cons.mp hx with rfl | hx
    · exact ⟨p, by simp, h.1, h.2.1⟩
    · obtain ⟨p', m, h1, h2⟩ := paired_back t x hx
      exact ⟨p', by simp [m], h1, h2⟩
theorem putI_nk {kvs : List KTv} {k : NestedKey} {b : Addr} {v : V} (h : ∀ p ∈ kvs, nkI p.1 = true) (hk : nkI k = true) : ∀ p ∈ putI kvs k b v, nkI p.1 = true := by
  unfold putI
  split
  · intro p hp
    obtain ⟨q, hq, rfl⟩ := List.mem_map.mp hp
    split
    · exact h q hq
    · exact h q hq
  · intro p hp
    rcases List.mem_append.mp hp with hp | hp
    · exact h p hp
    · simp at hp; subst hp; exact hk
theorem val_at : ∀ {kvs : List KTv} {xs : List (NestedKey × Addr × Value)}, Paired RelKT kvs xs → ∀ k, (valI kvs k = none ∧ atKey xs k = none) ∨ ∃ v w b, valI kvs k = some v ∧ atKey xs k = some (b, w) ∧ RelV v w
  | _, _, .nil, k => .inl ⟨rfl, rfl⟩
  | p :: kvs, q :: xs, .cons h t, k => by
    by_cases e : p.1 = k
    · have e2 : q.1 = k := h.1.symm.trans e
      exact .inr ⟨p.2.2, q.2.2, q.2.1, by simp [valI, e], by simp [atKey, List.find?_cons, e2], h.2.2⟩
    · have e2 : ¬ q.1 = k := fun z => e (h.1.trans z)
      have h1 : valI (p :: kvs) k = valI kvs k := by simp [valI, e]
      have h2 : atKey (q :: xs) k = atKey xs k := by simp [atKey, List.find?_cons, e2]
      rw [h1, h2]
      exact val_at t k
theorem val_any : ∀ {kvs : List KTv} {xs : List (NestedKey × Addr × Value)}, Paired RelKT kvs xs → ∀ k, (kvs.any fun p => decide (p.1 = k)) = (atKey xs k).isSome
  | _, _, .nil, k => rfl
  | p :: kvs, q :: xs, .cons h t, k => by
    by_cases e : p.1 = k
    · have e2 : q.1 = k := h.1.symm.trans e
      simp [atKey, List.find?_cons, e2, e]
    · have e2 : ¬ q.1 = k := fun z => e (h.1.trans z)
      have h2 : atKey (q :: xs) k = atKey xs k := by simp [atKey, List.find?_cons, e2]
      rw [h2, ← val_any t k]
      simp [e]
theorem put_rel {kvs : List KTv} {xs : List (NestedKey × Addr × Value)} (r : Paired RelKT kvs xs) (k : NestedKey) (b : Addr) {v : V} {w : Value} (h : RelV v w) : Paired RelKT (putI kvs k b v) (storedH xs k b w) := by
  unfold putI storedH
  rw [val_any r k]
  split
  · rename_i hx
    clear hx b
    induction r with
    | nil => exact .nil
    | @cons p q ps qs hq t ih =>
      refine .cons ?_ ih
      unfold putAt
      simp only
      by_cases e : p.1 = k
      · rw [if_pos e, if_pos (hq.1.symm.trans e)]; exact ⟨hq.1, hq.2.1, h⟩
      · rw [if_neg e, if_neg (fun z => e (hq.1.trans z))]; exact hq
  · exact Paired.snoc r ⟨rfl, rfl, h⟩
section
variable {X : Cx} {pins : List (Addr × Obj)} {σ : Sl} {H : Hp} {s : Shared} {a b : Addr} {kvs : List KTv} {k : NestedKey} {A : Around} {E : Value → Shared → Prop}
theorem dti_getItem {v : V} {Q : Value → Shared → Prop} (hu : A.units + 9 < cLine) (I : Inv X pins σ H s) (e : H a = some (DTi a kvs)) (hk : KeysT X.K H kvs) (hb : KeyAt X.K H k b) (hv : valI kvs k = some v)
    (h : ∀ w' s', Inv X pins σ H s' → RelV v w' → Q w' s') : wpAny (model X.prog X.w) A (getItem (.ref a) (.ref b)) Q E s := by
  obtain ⟨z, y, xs, r, dd⟩ := dti_dict I e hk
  rcases val_at r k with ⟨h1, _⟩ | ⟨v', w', c, h1, h2, h3⟩
  · rw [hv] at h1; cases h1
  · rw [hv] at h1; cases h1
    exact wpAny_getItem_heap (by show A.in1.units + 8 < cLine; rw [Around.in1_units]; omega) (key_ints I hb) dd h2 (h w' _ (I.tok _) h3)
theorem val_some {kvs : List KTv} {xs : List (NestedKey × Addr × Value)} (r : Paired RelKT kvs xs) (k : NestedKey) : (atKey xs k).isSome = (valI kvs k).isSome := by
  rcases val_at r k with ⟨h1, h2⟩ | ⟨v', w', c, h1, h2, h3⟩ <;> rw [h1, h2] <;> rfl
theorem dti_in {Q : Value → Shared → Prop} (hu : A.units + 9 < cLine) (I : Inv X pins σ H s) (e : H a = some (DTi a kvs)) (hk : KeysT X.K H kvs) (hb : KeyAt X.K H k b)
    (h : ∀ s', Inv X pins σ H s' → Q (.bool (valI kvs k).isSome) s') : wpAny (model X.prog X.w) A (compareOp .In (.ref b) (.ref a)) Q E s := by
  obtain ⟨z, y, xs, r, dd⟩ := dti_dict I e hk
  refine wpAny_in_heap (by show A.in1.units + 8 < cLine; rw [Around.in1_units]; omega) (key_ints I hb) y dd ?_
  rw [val_some r]
  exact h _ (I.tok _)
theorem dti_notIn {Q : Value → Shared → Prop} (hu : A.units + 9 < cLine) (I : Inv X pins σ H s) (e : H a = some (DTi a kvs)) (hk : KeysT X.K H kvs) (hb : KeyAt X.K H k b)
    (h : ∀ s', Inv X pins σ H s' → Q (.bool (!(valI kvs k).isSome)) s') : wpAny (model X.prog X.w) A (compareOp .NotIn (.ref b) (.ref a)) Q E s := by
  obtain ⟨z, y, xs, r, dd⟩ := dti_dict I e hk
  refine wpAny_notIn_heap (by show A.in1.units + 8 < cLine; rw [Around.in1_units]; omega) (key_ints I hb) y dd ?_
  rw [val_some r]
  exact h _ (I.tok _)
theorem dti_setItem {v : V} {w' : Value} {Q : Unit → Shared → Prop} (hu : A.units + 9 < cLine) (I : Inv X pins σ H s) (e : H a = some (DTi a kvs)) (hk : KeysT X.K H kvs) (hb : KeyAt X.K H k b) (hl : kvs.length < sizeLine) (rv : RelV v w')
    (h : ∀ s', Inv X pins σ (upd H a (DTi a (putI kvs k b v))) s' → Q () s') : wpAny (model X.prog X.w) A (setItem (.ref a) (.ref b) w') Q E s := by
  obtain ⟨z, y, xs, r, dd⟩ := dti_dict I e hk
  have hz : xs.length ≤ sizeLine := by rw [← Paired.length r]; exact z
  refine wpAny_setItem_heap (hsz := hz) (by show A.in1.units + 8 < cLine; rw [Around.in1_units]; omega) (key_ints I hb) dd fun h' dd' hs => h _ ?_
  obtain ⟨o, es, ep, hq, h2, h3, h4, _, h5⟩ := dd'
  have h6 : es.toList = (storedH xs k b w').map (fun x => (⟨hashI x.1, .ref x.2.1, x.2.2⟩ : DictEntry)) := h4.trans (List.map_congr_left fun x hx => by
    obtain ⟨p, hp, h1, _⟩ := paired_back (put_rel r k b rv) x hx
    exact entry_dti X x (h1 ▸ putI_nk (fun p hp => (hk p hp).nkI) hb.nkI p hp))
  refine d_write I (by rw [e]; exact True.intro) hs ⟨o, hq⟩ (dti_ok ⟨by have := putI_length kvs k b v; omega, y, _, put_rel r k b rv, o, es, ep, hq, h2, h3, h6, h5⟩)
/-- an empty dict may be taken for one with tuple keys, or for one without -/
theorem empty_toT (I : Inv X pins σ H s) (e : H a = some (.dK [])) : Inv X pins σ (upd H a (DTi a [])) s := by
  obtain ⟨z, hd, vs, rel, o, es, ep, h1, h2, h3, h4, h5, h6⟩ := dk_of I.hok e
  cases rel
  have he : es.toList = [] := by
    generalize es.toList = l at h5
    cases h5
    rfl
  exact d_write (t' := s.toks) I (by rw [e]; exact True.intro) (Heap.SameBut.refl a s.heap) ⟨o, h1⟩ (dti_ok ⟨Nat.zero_le _, hd, [], .nil, o, es, ep, h1, h2, h3, by rw [he]; rfl, List.nodup_nil⟩)
theorem empty_toK (I : Inv X pins σ H s) (e : H a = some (DTi a [])) : Inv X pins σ (upd H a (.dK [])) s := by
  obtain ⟨z, hd, xs, rel, o, es, ep, h1, h2, h3, h4, h5⟩ := dti_at I e
  cases rel
  have hes : es = #[] := by
    obtain ⟨l⟩ := es
    simp at h4
    rw [h4]
  subst hes
  exact d_write (t' := s.toks) I (by rw [e]; exact True.intro) (Heap.SameBut.refl a s.heap) ⟨o, h1⟩ ⟨Nat.zero_le _, hd, [], .nil, o, #[], ep, h1, h2, h3, by intro i h; simp at h, .nil, List.nodup_nil⟩
theorem dti_ne {a c : Addr} {kvs : List KTv} (q : Str) : DTi a kvs ≠ LamX.CodeO c q := fun z => by
  unfold DTi LamX.CodeO at z
  injection z with z
  have hh : ∀ n : Nat, ∃ h : Heap, h.objs.size = n + 1 ∧ ∀ i, i < n + 1 → h.get? i = some { cls := .none, data := .fields #[.none, .str q 0] } := fun n =>
    ⟨{ objs := Array.replicate (n + 1) { cls := .none, data := .fields #[.none, .str q 0] } }, by simp, fun i hi => by
      unfold Heap.get?
      simp [hi]⟩
  obtain ⟨h, _, hg⟩ := hh (max a c)
  have h1 := congrFun z h
  have h2 : ∃ (oc : Obj) (vs : Array Value) (t : Tok), h.get? c = some oc ∧ oc.data = .fields vs ∧ vs[1]? = some (.str q t) := ⟨_, _, 0, hg c (by omega), rfl, rfl⟩
  rw [← h1] at h2
  obtain ⟨_, _, xs, _, o, es, ep, e1, _, e3, _⟩ := h2
  rw [hg a (by omega)] at e1
  cases e1
  cases e3
end

/-- the collected keys of such a dict -/
theorem dti_keys {P : Program} {w : World} {es : Array DictEntry} {kvs : List KTv} {xs : List (NestedKey × Addr × Value)} {acc : Array Value} (r : Paired RelKT kvs xs) (he : es.toList = xs.map (fun x => (⟨hashI x.1, .ref x.2.1, x.2.2⟩ : DictEntry)))
    (it : ItemsOf (fun i v => ∃ en : DictEntry, es[i]? = some en ∧ v = en.key) acc es.size) : Vals (kvs.map fun p => V.ref p.2.1) acc.toList := by
  have l1 : es.size = xs.length := by
    have := congrArg List.length he
    simpa using this
  have l2 : kvs.length = xs.length := Paired.length r
  have l9 : acc.toList.length = acc.size := Array.length_toList
  refine vals_of_at (by rw [List.length_map, l9, it.1, l1, l2]) fun j x v h1 h2 => ?_
  obtain ⟨en, hen, hv⟩ := it.2 j v (by rw [← Array.getElem?_toList]; exact h2)
  rw [← Array.getElem?_toList, he, List.getElem?_map] at hen
  rw [List.getElem?_map] at h1
  cases hb : kvs[j]? with
  | none => rw [hb] at h1; cases h1
  | some p =>
    rw [hb] at h1
    cases h1
    cases hx : xs[j]? with
    | none => rw [hx] at hen; cases hen
    | some q =>
      rw [hx] at hen
      cases hen
      have := pairedAt r hb hx
      have e2 : v = Value.ref q.2.1 := hv
      have e3 : p.2.1 = q.2.1 := this.2.1
      rw [e2, ← e3]
      exact rfl
where pairedAt : ∀ {kvs : List KTv} {xs : List (NestedKey × Addr × Value)} {j : Nat} {p : KTv} {q : NestedKey × Addr × Value}, Paired RelKT kvs xs → kvs[j]? = some p → xs[j]? = some q → RelKT p q
  | _, _, _, _, _, .nil, e, _ => by simp at e
  | _, _, 0, _, _, .cons h _, e1, e2 => by simp at e1 e2; subst e1 e2; exact h
  | _, _, j + 1, _, _, .cons _ t, e1, e2 => pairedAt (j := j) t (by simpa using e1) (by simpa using e2)
section
variable {X : Cx}
theorem call_list_dti (hc : X.calm = true) : CallR X (.type "list") (fun xs H Q => ∃ d kvs, xs = [V.ref d] ∧ H d = some (DTi d kvs) ∧ ∀ p, H p = none → Q (.ref p) (upd H p (.lst (kvs.map fun q => V.ref q.2.1)))) := by
  intro pins s σ H xs us Q I r ⟨d, kvs, ex, hd, q⟩
  subst ex
  obtain ⟨u, rfl, rx⟩ := r.one
  cases rx
  obtain ⟨z, hs, ks, pr, o, es, ep, ho, hx, hdt, he, hn⟩ := dti_at I hd
  have l1 : es.size = ks.length := by
    have := congrArg List.length he
    simpa using this
  have l2 : kvs.length = ks.length := Paired.length pr
  refine PySem.W.kdl_call (kdl_raw hs hx hdt) (I.ok.hd hc) ho (by omega) fun h' tk acc c' kp e it => ?_
  refine ⟨.ref s.heap.objs.size, _, I.laid (t' := tk) (o := .lst (kvs.map fun q => V.ref q.2.1)) kp (Nat.le_refl _) ?_, rfl, q _ (I.hok.fresh (Nat.le_refl _))⟩
  exact ⟨by rw [List.length_map]; exact z, acc.toList, c', dti_keys (P := X.prog) (w := X.w) pr he it, by rw [Array.toArray_toList]; exact e⟩
end
end FL
namespace FL
open PySem PySem.Spec PyProof.Rows L2

/-- an exception by its class's name and its fields -/
structure Exn where
  cls : Str
  fs : List (Str × PyData)
inductive Res (α : Type) where
  | ok (a : α) (e : Env) (o : Orc)
  | ex (c : Exn) (e : Env) (o : Orc)
  | bad
abbrev DE := Env → Orc → Res PyData
@[simp] def Res.bind {α β : Type} (r : Res α) (f : α → Env → Orc → Res β) : Res β := match r with
  | .ok a e o => f a e o
  | .ex c e o => .ex c e o
  | .bad => .bad
@[simp] def Res.ofO {α : Type} (x : Option α) (e : Env) (o : Orc) : Res α := match x with
  | some a => .ok a e o
  | none => .bad

/-- the fields of an exception in its own dict -/
inductive Rfs (ok : Addr → Prop) (K : PySem.W.Frag) (H : Hp) : List (Str × PyData) → List (Str × V) → Prop
  | nil : Rfs ok K H [] []
  | cons {f : Str} {d : PyData} {fs : List (Str × PyData)} {v : V} {vs : List (Str × V)} : Rp ok K H d v → Rfs ok K H fs vs → Rfs ok K H ((f, d) :: fs) ((f, v) :: vs)
def ExR (mg : Str → Option Value) (ok : Addr → Prop) (K : PySem.W.Frag) (H : Hp) (c : Exn) (cls : Value) (dd : Option Addr) : Prop :=
  ∃ (C d : Addr) (vs : List (Str × V)), mg c.cls = some (.ref C) ∧ cls = .ref C ∧ dd = some d ∧ H d = some (.xd vs) ∧ Rfs ok K H c.fs vs

def RpM (w : Bool) (okT ok : Addr → Prop) (K : PySem.W.Frag) (H : Hp) (d : PyData) (x : V) : Prop := if w = true then RpT okT ok K H d x else Rp ok K H d x

/-- ok without a -/
def mns (ok : Addr → Prop) (a : Addr) : Addr → Prop := fun b => ok b ∧ b ≠ a

/-- the def's own lists and dicts, by the names that hold them -/
def Held (sg : Sta) (σ : Sl) (ρ : Env) (a : Addr) : Prop := ∃ (i : Nat) (d : PyData), i ∈ sg.own ∧ ρ[i]? = some (some d) ∧ σ[i]? = some (some (.ref a))
/-- a step of the state by an expression: p, nothing of the def's own was changed -/
structure Nx (p : Bool) (sg : Sta) (g : Gh) (ok : Addr → Prop) (S : Sad) (K : PySem.W.Frag) (H : Hp) (σ : Sl) (ρ ρ' : Env) (o' : Orc) (H' : Hp) (ok' : Addr → Prop) : Prop where
  st : Rst sg g ok' S K H' σ ρ' o'
  mono : ∀ a, ok a → ok' a
  lim : ∀ a, ok' a → ok a ∨ Held sg σ ρ a
  dom : ∀ (i : Nat) d, i ∈ sg.own → ρ'[i]? = some (some d) → ∃ d', ρ[i]? = some (some d')
  trk : ∀ a u, H a = some u → ∃ u', H' a = some u'
  stx : ∀ a u, H a = some u → ¬ inS S a → (∀ ps, u ≠ .tbl ps) → (p = false → ¬ Held sg σ ρ a) → H' a = some u
/-- a fresh container -/
def Fresh (sg : Sta) (g : Gh) (ok' : Addr → Prop) (S : Sad) (K : PySem.W.Frag) (H H' : Hp) (σ : Sl) (ρ' : Env) (o' : Orc) (v : PyData) (x : V) : Prop :=
  ∃ a, x = .ref a ∧ H a = none ∧ g.H0 a = none ∧ ¬ inS S a ∧ Rst sg g (mns ok' a) S K H' σ ρ' o' ∧ CtA (mns ok' a) K H' v a ∧ ∀ (i : Nat) d, i ∈ sg.own → ρ'[i]? = some (some d) → σ[i]? ≠ some (some (.ref a))

/-- the judgement of an expression: w its top may be the def's own, p it changes nothing of the def's own, f a container is new -/
def tE (K : PySem.W.Frag) (mg : Str → Option Value) (sg : Sta) (W : WX) (w p f : Bool) (d : DE) : TE := fun σ H Q => ∃ g ρ o S ok, Rst sg g ok S K H σ ρ o ∧
  match d ρ o with
  | .ok v ρ' o' => ∀ x H' ok', Nx p sg g ok S K H σ ρ ρ' o' H' ok' → RpM w (okw g S) ok' K H' v x →
      (f = true → isC v = true → Fresh sg g ok' S K H H' σ ρ' o' v x) → Q x H'
  | .ex c ρ' o' => ∀ cls dd H' ok', Nx false sg g ok S K H σ ρ ρ' o' H' ok' → ExR mg ok' K H' c cls dd → W cls dd σ H'
  | .bad => False

theorem PE.imp {X : Cx} {e : Expr} {t t' : TE} (h : PE X e t) (i : ∀ σ H Q, t' σ H Q → t σ H Q) : PE X e t' := ⟨fun pins s σ H Q I q => h.run pins s σ H Q I (i σ H Q q)⟩
theorem PT.imp {X : Cx} {e : Expr} {t t' : TT} (h : PT X e t) (i : ∀ σ H Q, t' σ H Q → t σ H Q) : PT X e t' := ⟨fun pins s σ H Q I q => h.run pins s σ H Q I (i σ H Q q)⟩
theorem PS.imp {X : Cx} {e : Stmt} {t t' : TS} (h : PS X e t) (i : ∀ D σ H, t' D σ H → t D σ H) : PS X e t' := ⟨fun pins s σ H Q I q => h.run pins s σ H Q I (i Q σ H q)⟩
theorem PSs.imp {X : Cx} {e : List Stmt} {t t' : TS} (h : PSs X e t) (i : ∀ D σ H, t' D σ H → t D σ H) : PSs X e t' := ⟨fun pins s σ H Q I q => h.run pins s σ H Q I (i Q σ H q)⟩
theorem PA.imp {X : Cx} {e : List Expr} {t t' : TA} (h : PA X e t) (i : ∀ σ H Q, t' σ H Q → t σ H Q) : PA X e t' := ⟨fun pos pins s σ H Q I q => h.run pos pins s σ H Q I (i σ H Q q)⟩

section
variable {sg : Sta} {g : Gh} {ok ok' ok1 ok2 : Addr → Prop} {S : Sad} {K : PySem.W.Frag} {H H' H1 H2 : Hp} {σ : Sl} {ρ ρ' ρ1 ρ2 : Env} {o o' o1 o2 : Orc}
theorem okw.imp (r : Rst sg g ok S K H σ ρ o) : ∀ a, ok a → okw g S a := r.sub
theorem ROrc.grow (r : ROrc H o S) (h : Grow H H') : ROrc H' o S := by
  refine ⟨?_, r.2.1.ext h, r.2.2⟩
  have r1 := r.1
  unfold RStat at r1 ⊢
  split at r1
  · trivial
  · exact ⟨h _ _ r1.1, h _ _ r1.2.1, h _ _ r1.2.2.1, r1.2.2.2⟩
  · exact r1.elim
theorem RStat.there {o : Option OrcS} {t : Option (Addr × Addr × Addr)} (r : RStat H o t) {a : Addr} (h : stIn t a) : ∃ u, H a = some u ∧ ¬ imm u ∧ ∀ f, u ≠ .ext f := by
  unfold RStat at r
  split at r
  · exact h.elim
  · rcases h with rfl | rfl | rfl
    · exact ⟨_, r.1, fun z => z, fun f z => by cases z⟩
    · exact ⟨_, r.2.1, fun z => z, fun f z => by cases z⟩
    · exact ⟨_, r.2.2.1, fun z => z, fun f z => by cases z⟩
  · exact r.elim
theorem ROrc.there (r : ROrc H o S) {a : Addr} (h : inS S a) : ∃ u, H a = some u ∧ ¬ imm u := by
  rcases h with h | ⟨q, h⟩
  · obtain ⟨u, h1, h2, _⟩ := r.1.there h
    exact ⟨u, h1, h2⟩
  · obtain ⟨ps, e, _⟩ := r.2.1 _ h
    exact ⟨_, e, fun z => z⟩
/-- new objects -/
theorem Rst.grow (r : Rst sg g ok S K H σ ρ o) (h : Grow H H') : Rst sg g ok S K H' σ ρ o where
  len := r.len
  pl := fun i d e n => let ⟨x, e1, e2⟩ := r.pl i d e n; ⟨x, e1, e2.grow h⟩
  ow := fun i d e n => by
    obtain ⟨a, e1, w⟩ := r.ow i d e n
    exact ⟨a, e1, w.nok, w.nS, w.new, w.ct.step (fun _ _ z _ _ => z) h.stp (h a)⟩
  inj := r.inj
  fr := fun a e => r.fr a (by
    cases q : H a with
    | none => rfl
    | some u => rw [h a u q] at e; cases e)
  sub := r.sub
  h0 := r.h0
  chg := fun a u e n t => h a u (r.chg a u e n t)
  trk := fun a u e => let ⟨u', q⟩ := r.trk a u e; ⟨u', h a u' q⟩
  orc := r.orc.grow h
  sS := r.sS
  ist := r.ist
theorem Rst.orcS (r : Rst sg g ok S K H σ ρ o) {a : Addr} (n : H a = none) : ¬ inS S a := fun z => by
  obtain ⟨u, e, _⟩ := r.orc.there z
  rw [n] at e; cases e
/-- new objects, one of which is taken out of ok -/
theorem Rst.growBut (r : Rst sg g ok S K H σ ρ o) (h : Grow H H') {a : Addr} (n : H a = none) (n' : ∃ u, H' a = some u) : Rst sg g (mns ok a) S K H' σ ρ o where
  len := r.len
  pl := fun i d e m => let ⟨x, e1, e2⟩ := r.pl i d e m; ⟨x, e1, e2.step0 (fun b u q e _ => ⟨q, ne_of_none e n⟩) h.stp⟩
  ow := fun i d e m => by
    obtain ⟨b, e1, w⟩ := r.ow i d e m
    exact ⟨b, e1, fun z => w.nok z.1, w.nS, w.new, w.ct.step (fun b u q e _ => ⟨q, ne_of_none e n⟩) h.stp (h b)⟩
  inj := r.inj
  fr := fun b e => ⟨r.fr b (by
    cases q : H b with
    | none => rfl
    | some u => rw [h b u q] at e; cases e), fun z => by
      obtain ⟨u, q⟩ := n'
      rw [z, q] at e; cases e⟩
  sub := fun b q => r.sub b q.1
  h0 := r.h0
  chg := (r.grow h).chg
  trk := (r.grow h).trk
  orc := r.orc.grow h
  sS := r.sS
  ist := r.ist
theorem Rst.newH0 (r : Rst sg g ok S K H σ ρ o) {a : Addr} (n : H a = none) : g.H0 a = none := by
  cases q : g.H0 a with
  | none => rfl
  | some u =>
    obtain ⟨u', e⟩ := r.trk a u q
    rw [n] at e; cases e
theorem Rst.imm {a : Addr} {u : HO} (r : Rst sg g ok S K H σ ρ o) (e : H a = some u) (m : imm u) : ¬ inS S a ∧ (∀ ps, u ≠ .tbl ps) ∧ ¬ Held sg σ ρ a := by
  refine ⟨fun z => ?_, fun ps z => by rw [z] at m; exact m, fun ⟨i, d, hi, hd, hs⟩ => ?_⟩
  · obtain ⟨v, e1, e2⟩ := r.orc.there z
    rw [e] at e1; cases e1
    exact e2 m
  · obtain ⟨b, e1, w⟩ := r.ow i d hd hi
    rw [hs] at e1
    injection e1 with e1; injection e1 with e1; injection e1 with e1
    subst e1
    obtain ⟨v, e1, e2⟩ := w.ct.there
    rw [e] at e1; cases e1
    exact e2 m
theorem Rst.held (r : Rst sg g ok S K H σ ρ o) {a : Addr} (h : Held sg σ ρ a) : ∃ d, Own g ok S K H d a := by
  obtain ⟨i, d, hi, hd, hs⟩ := h
  obtain ⟨b, e1, w⟩ := r.ow i d hd hi
  rw [hs] at e1
  injection e1 with e1; injection e1 with e1; injection e1 with e1
  subst e1
  exact ⟨d, w⟩
theorem Nx.refl (r : Rst sg g ok S K H σ ρ o) (p : Bool) : Nx p sg g ok S K H σ ρ ρ o H ok := ⟨r, fun _ h => h, fun _ h => .inl h, fun i d _ e => ⟨d, e⟩, fun _ u h => ⟨u, h⟩, fun _ _ h _ _ _ => h⟩
theorem Nx.grow {p : Bool} (r : Nx p sg g ok S K H σ ρ ρ1 o1 H1 ok1) (h : Grow H1 H2) : Nx p sg g ok S K H σ ρ ρ1 o1 H2 ok1 :=
  ⟨r.st.grow h, r.mono, r.lim, r.dom, fun a u e => let ⟨u', q⟩ := r.trk a u e; ⟨u', h a u' q⟩, fun a u e n t w => h a u (r.stx a u e n t w)⟩
theorem Held.dom {p : Bool} (r : Nx p sg g ok S K H σ ρ ρ1 o1 H1 ok1) {a : Addr} (h : Held sg σ ρ1 a) : Held sg σ ρ a := by
  obtain ⟨i, d, hi, hd, hs⟩ := h
  obtain ⟨d', e⟩ := r.dom i d hi hd
  exact ⟨i, d', hi, e, hs⟩
theorem Nx.trans {p q : Bool} (r : Nx p sg g ok S K H σ ρ ρ1 o1 H1 ok1) (t : Nx q sg g ok1 S K H1 σ ρ1 ρ2 o2 H2 ok2) : Nx (p && q) sg g ok S K H σ ρ ρ2 o2 H2 ok2 where
  st := t.st
  mono := fun a h => t.mono a (r.mono a h)
  lim := fun a h => (t.lim a h).elim (r.lim a) fun z => .inr (z.dom r)
  dom := fun i d hi e => let ⟨d1, e1⟩ := t.dom i d hi e; r.dom i d1 hi e1
  trk := fun a u e => let ⟨u', q⟩ := r.trk a u e; t.trk a u' q
  stx := fun a u e n tb w => by
    refine t.stx a u (r.stx a u e n tb fun hp => w (by rw [hp]; rfl)) n tb fun hq hh => w (by rw [hq, Bool.and_false]) (hh.dom r)
theorem Nx.weak {p : Bool} (r : Nx p sg g ok S K H σ ρ ρ1 o1 H1 ok1) : Nx false sg g ok S K H σ ρ ρ1 o1 H1 ok1 := ⟨r.st, r.mono, r.lim, r.dom, r.trk, fun a u e n t w => r.stx a u e n t fun _ => w rfl⟩
theorem Nx.back {p : Bool} (n : Nx p sg g ok S K H σ ρ ρ1 o1 H1 ok1) {a : Addr} (h : H1 a = none) : H a = none := by
  cases q : H a with
  | none => rfl
  | some u =>
    obtain ⟨u', e⟩ := n.trk a u q
    rw [h] at e; cases e
theorem Fresh.back {p : Bool} {ok' : Addr → Prop} {v : PyData} {x : V} (f : Fresh sg g ok' S K H1 H2 σ ρ2 o2 v x) (n : Nx p sg g ok S K H σ ρ ρ1 o1 H1 ok1) : Fresh sg g ok' S K H H2 σ ρ2 o2 v x := by
  obtain ⟨a, e, h, r⟩ := f
  exact ⟨a, e, n.back h, r⟩
theorem Nx.stp {p : Bool} (n : Nx p sg g ok S K H σ ρ ρ1 o1 H1 ok1) (r : Rst sg g ok S K H σ ρ o) : Stp ok H H1 := fun a u e h => by
  rcases h with ⟨h, t⟩ | h
  · refine n.stx a u e (r.sub a h).2 t fun _ hh => ?_
    obtain ⟨d, w⟩ := r.held hh
    exact w.nok h
  · obtain ⟨h1, h2, h3⟩ := r.imm e h
    exact n.stx a u e h1 h2 fun _ => h3
theorem Nx.pure (n : Nx true sg g ok S K H σ ρ ρ1 o1 H1 ok1) (r : Rst sg g ok S K H σ ρ o) : Stp (okw g S) H H1 := fun a u e h => by
  rcases h with ⟨h, t⟩ | h
  · exact n.stx a u e h.2 t fun z => by cases z
  · obtain ⟨h1, h2, h3⟩ := r.imm e h
    exact n.stx a u e h1 h2 fun _ => h3
theorem RpM.T {w : Bool} {okT : Addr → Prop} {d : PyData} {x : V} (m : ∀ a, ok a → okT a) (r : RpM w okT ok K H d x) : RpT okT ok K H d x := by
  unfold RpM at r
  split at r
  · exact r
  · exact r.toT m
/-- an earlier value behind a later step -/
theorem RpM.later {w q : Bool} {d : PyData} {x : V} (r : RpM w (okw g S) ok1 K H1 d x) (s : Rst sg g ok1 S K H1 σ ρ1 o1) (t : Nx q sg g ok1 S K H1 σ ρ1 ρ2 o2 H2 ok2) (h : w = true → q = true) : RpM w (okw g S) ok2 K H2 d x := by
  unfold RpM at r ⊢
  split
  · rename_i e
    rw [if_pos e] at r
    obtain rfl := h e
    exact r.step t.mono (fun _ z => z) (t.stp s) (t.pure s)
  · rename_i e
    rw [if_neg e] at r
    exact r.step t.mono (t.stp s)
end

/-- the answer of an operation: f, a container is new -/
structure Nw (f : Bool) (ok : Addr → Prop) (K : PySem.W.Frag) (H H' : Hp) (d : PyData) (x : V) : Prop where
  grow : Grow H H'
  rp : Rp ok K H' d x
  new : f = true → isC d = true → ∃ a, x = .ref a ∧ H a = none ∧ CtA (mns ok a) K H' d a
theorem Nw.same {f : Bool} {ok : Addr → Prop} {K : PySem.W.Frag} {H : Hp} {d : PyData} {x : V} (r : Rp ok K H d x) (h : isC d = false) : Nw f ok K H H d x :=
  ⟨.refl, r, fun _ e => by rw [h] at e; cases e⟩
theorem Nw.old {ok : Addr → Prop} {K : PySem.W.Frag} {H : Hp} {d : PyData} {x : V} (r : Rp ok K H d x) : Nw false ok K H H d x := ⟨.refl, r, fun e => by cases e⟩
theorem Nw.any {f : Bool} {ok : Addr → Prop} {K : PySem.W.Frag} {H H' : Hp} {d : PyData} {x : V} (r : Nw true ok K H H' d x) : Nw f ok K H H' d x := ⟨r.grow, r.rp, fun _ => r.new rfl⟩
/-- a new list -/
theorem Nw.lst {f : Bool} {ok : Addr → Prop} {K : PySem.W.Frag} {H : Hp} {ds : List PyData} {xs : List V} {p : Addr} (fr : ∀ a, H a = none → ok a) (n : H p = none) (r : Rps ok K H ds xs) : Nw f ok K H (upd H p (.lst xs)) (.list ds) (.ref p) :=
  ⟨.upd n, .lst (fr p n) (.inl upd_same) (r.grow (.upd n)), fun _ _ => ⟨p, rfl, n, xs, upd_same, r.step0 (fun b u q e _ => ⟨q, ne_of_none e n⟩) (Grow.upd n).stp⟩⟩
theorem Nw.hard {f : Bool} {ok : Addr → Prop} {K : PySem.W.Frag} {H : Hp} {ds : List PyData} {xs : List V} {p : Addr} {o : Obj} (ho : o.dict = none) (n : H p = none) (r : Rps ok K H ds xs) : Nw f ok K H (upd H p (.frz o (.tup xs))) (.tuple ds) (.ref p) :=
  ⟨.upd n, .tup (.inl ⟨o, ho, upd_same⟩) (r.grow (.upd n)), fun _ e => by cases e⟩
theorem Nw.dk {f : Bool} {ok : Addr → Prop} {K : PySem.W.Frag} {H : Hp} {ps : List (PyData × PyData)} {kvs : List (Key × V)} {p : Addr} (fr : ∀ a, H a = none → ok a) (n : H p = none) (r : Rkv ok K H ps kvs) : Nw f ok K H (upd H p (.dK kvs)) (.dict ps) (.ref p) :=
  ⟨.upd n, .dk (fr p n) (.inl upd_same) (r.step (fun _ h => h) (Grow.upd n).stp), fun _ _ => ⟨p, rfl, n, .inl ⟨kvs, upd_same, r.step0 (fun b u q e _ => ⟨q, ne_of_none e n⟩) (Grow.upd n).stp⟩⟩⟩

/-- an operation's reading by data: on one, two, many values -/
def r1D (K : PySem.W.Frag) (f : Bool) (φ : PyData → Option PyData) : V → Hp → VK → Prop := fun x H Q => ∃ ok okT v d, (∀ a, H a = none → ok a) ∧ RpT okT ok K H v x ∧ φ v = some d ∧ ∀ z H', Nw f ok K H H' d z → Q z H'
def r2D (K : PySem.W.Frag) (f : Bool) (φ : PyData → PyData → Option PyData) : R2 := fun x y H Q => ∃ ok okT v u d, (∀ a, H a = none → ok a) ∧ RpT okT ok K H v x ∧ RpT okT ok K H u y ∧ φ v u = some d ∧ ∀ z H', Nw f ok K H H' d z → Q z H'
inductive RpTs (okT ok : Addr → Prop) (K : PySem.W.Frag) (H : Hp) : List PyData → List V → Prop
  | nil : RpTs okT ok K H [] []
  | cons {d : PyData} {ds : List PyData} {v : V} {vs : List V} : RpT okT ok K H d v → RpTs okT ok K H ds vs → RpTs okT ok K H (d :: ds) (v :: vs)
def rnD (K : PySem.W.Frag) (f : Bool) (φ : List PyData → Option PyData) : List V → Hp → VK → Prop := fun xs H Q => ∃ ok okT vs d, (∀ a, H a = none → ok a) ∧ RpTs okT ok K H vs xs ∧ φ vs = some d ∧ ∀ z H', Nw f ok K H H' d z → Q z H'

def dVar (i : Nat) : DE := fun ρ o => match ρ[i]? with
  | some (some d) => .ok d ρ o
  | _ => .bad
def dC (d : PyData) : DE := fun ρ o => .ok d ρ o
def dOp1 (φ : PyData → Option PyData) (a : DE) : DE := fun ρ o => (a ρ o).bind fun v ρ1 o1 => .ofO (φ v) ρ1 o1
def dOp2 (φ : PyData → PyData → Option PyData) (a b : DE) : DE := fun ρ o => (a ρ o).bind fun v ρ1 o1 => (b ρ1 o1).bind fun u ρ2 o2 => .ofO (φ v u) ρ2 o2
/-- a name of the def's own, its value handed away -/
def dMove (i : Nat) : DE := fun ρ o => match ρ[i]? with
  | some (some d) => .ok d (ρ.set i none) o
  | _ => .bad

section
variable {X : Cx} {sg : Sta} {g : Gh} {W : WX} {e a b : Expr} {d d1 d2 : DE} {w w1 w2 p p1 p2 f f1 f2 : Bool} {pos : Pos}
theorem tE.of_ok {σ : Sl} {H : Hp} {Q : VK} {ρ ρ' : Env} {o o' : Orc} {S : Sad} {ok : Addr → Prop} {v : PyData} (r : Rst sg g ok S X.K H σ ρ o) (e : d ρ o = .ok v ρ' o')
    (h : ∀ x H' ok', Nx p sg g ok S X.K H σ ρ ρ' o' H' ok' → RpM w (okw g S) ok' X.K H' v x → (f = true → isC v = true → Fresh sg g ok' S X.K H H' σ ρ' o' v x) → Q x H') : tE X.K X.mg sg W w p f d σ H Q :=
  ⟨g, ρ, o, S, ok, r, by rw [e]; exact h⟩
theorem tE.of_ex {σ : Sl} {H : Hp} {Q : VK} {ρ ρ' : Env} {o o' : Orc} {S : Sad} {ok : Addr → Prop} {c : Exn} (r : Rst sg g ok S X.K H σ ρ o) (e : d ρ o = .ex c ρ' o')
    (h : ∀ cls dd H' ok', Nx false sg g ok S X.K H σ ρ ρ' o' H' ok' → ExR X.mg ok' X.K H' c cls dd → W cls dd σ H') : tE X.K X.mg sg W w p f d σ H Q :=
  ⟨g, ρ, o, S, ok, r, by rw [e]; exact h⟩
/-- from a fresh answer of an operation -/
theorem fin_op {f : Bool} {ok ok2 : Addr → Prop} {S : Sad} {H H2 H' : Hp} {σ : Sl} {ρ2 : Env} {o2 : Orc} {v : PyData} {z : V} {Q : VK} {ρ : Env} (n : Nx p sg g ok S X.K H σ ρ ρ2 o2 H2 ok2) (nw : Nw f ok2 X.K H2 H' v z)
    (q : ∀ x H' ok', Nx p sg g ok S X.K H σ ρ ρ2 o2 H' ok' → RpM w (okw g S) ok' X.K H' v x → (f = true → isC v = true → Fresh sg g ok' S X.K H H' σ ρ2 o2 v x) → Q x H') : Q z H' := by
  refine q z H' ok2 (n.grow nw.grow) ?_ fun hf hc => ?_
  · unfold RpM
    split
    · exact nw.rp.toT n.st.sub
    · exact nw.rp
  · obtain ⟨a, e, hn, ct⟩ := nw.new hf hc
    obtain ⟨u, hu, _⟩ := ct.there
    refine ⟨a, e, n.back hn, n.st.newH0 hn, n.st.orcS hn, n.st.growBut nw.grow hn ⟨u, hu⟩, ct, fun i d hi hd z => ?_⟩
    obtain ⟨b, e1, w1⟩ := n.st.ow i d hd hi
    obtain ⟨u1, hu1, _⟩ := w1.ct.there
    rw [e1] at z
    injection z with z; injection z with z; injection z with z
    rw [z, hn] at hu1; cases hu1
theorem pe_opD1 {t : V → Hp → VK → Prop} {te : TE → TE} (h : ∀ {ta : TE}, PE X a ta → PE X e (te ta)) (hr : ∀ ta σ H Q, te ta σ H Q = ta σ H fun x H1 => t x H1 Q) {φ : PyData → Option PyData}
    (ht : ∀ x H Q, r1D X.K f φ x H Q → t x H Q) (ha : PE X a (tE X.K X.mg sg W w1 p1 f1 d1)) : PE X e (tE X.K X.mg sg W w p1 f (dOp1 φ d1)) := by
  refine PE.imp (h ha) fun σ H Q hq => ?_
  rw [hr]
  obtain ⟨g, ρ, o, S, ok, r, hq⟩ := hq
  unfold dOp1 at hq
  cases e1 : d1 ρ o with
  | bad => rw [e1] at hq; exact hq.elim
  | ex c ρ1 o1 => rw [e1] at hq; exact tE.of_ex r e1 hq
  | ok v ρ1 o1 =>
    rw [e1] at hq
    simp only [Res.bind] at hq
    cases e2 : φ v with
    | none => rw [e2] at hq; exact hq.elim
    | some y =>
      rw [e2] at hq
      refine tE.of_ok r e1 fun x H1 ok1 n1 r1 _ => ht _ _ _ ?_
      exact ⟨ok1, okw g S, v, y, n1.st.fr, r1.T n1.st.sub, e2, fun z H' nw => fin_op n1 nw hq⟩
theorem pe_opD2 {t : R2} {te : TE → TE → TE} (h : ∀ {ta tb : TE}, PE X a ta → PE X b tb → PE X e (te ta tb)) (hr : ∀ ta tb σ H Q, te ta tb σ H Q = ta σ H fun x H1 => tb σ H1 fun y H2 => t x y H2 Q) {φ : PyData → PyData → Option PyData}
    (ht : ∀ x y H Q, r2D X.K f φ x y H Q → t x y H Q) (ha : PE X a (tE X.K X.mg sg W w1 p1 f1 d1)) (hb : PE X b (tE X.K X.mg sg W w2 p2 f2 d2)) (hw : (!w1 || p2) = true := by rfl) : PE X e (tE X.K X.mg sg W w (p1 && p2) f (dOp2 φ d1 d2)) := by
  refine PE.imp (h ha hb) fun σ H Q hq => ?_
  rw [hr]
  obtain ⟨g, ρ, o, S, ok, r, hq⟩ := hq
  unfold dOp2 at hq
  have hw' : w1 = true → p2 = true := fun e => by rw [e] at hw; simpa using hw
  cases e1 : d1 ρ o with
  | bad => rw [e1] at hq; exact hq.elim
  | ex c ρ1 o1 => rw [e1] at hq; exact tE.of_ex r e1 hq
  | ok v ρ1 o1 =>
    rw [e1] at hq
    simp only [Res.bind] at hq
    refine tE.of_ok r e1 fun x H1 ok1 n1 r1 _ => ?_
    cases e2 : d2 ρ1 o1 with
    | bad => rw [e2] at hq; exact hq.elim
    | ex c ρ2 o2 =>
      rw [e2] at hq
      exact tE.of_ex n1.st e2 fun cls dd H' ok' n2 x2 => hq cls dd H' ok' (n1.weak.trans n2) x2
    | ok u ρ2 o2 =>
      rw [e2] at hq
      simp only [Res.bind] at hq
      refine tE.of_ok n1.st e2 fun y H2 ok2 n2 r2 _ => ht _ _ _ _ ?_
      cases e3 : φ v u with
      | none => rw [e3] at hq; exact hq.elim
      | some z =>
        rw [e3] at hq
        exact ⟨ok2, okw g S, v, u, z, n2.st.fr, (r1.later n1.st n2 hw').T n2.st.sub, r2.T n2.st.sub, e3, fun zz H' nw => fin_op (n1.trans n2) nw hq⟩
end
end FL
namespace FL
open PySem PySem.Spec PyProof.Rows L2

abbrev DT := Env → Orc → Res Bool
abbrev DA := Env → Orc → Res (List PyData)
/-- the judgement of a test -/
def tT (K : PySem.W.Frag) (mg : Str → Option Value) (sg : Sta) (W : WX) (p : Bool) (d : DT) : TT := fun σ H Q => ∃ g ρ o S ok, Rst sg g ok S K H σ ρ o ∧
  match d ρ o with
  | .ok b ρ' o' => ∀ H' ok', Nx p sg g ok S K H σ ρ ρ' o' H' ok' → Q b H'
  | .ex c ρ' o' => ∀ cls dd H' ok', Nx false sg g ok S K H σ ρ ρ' o' H' ok' → ExR mg ok' K H' c cls dd → W cls dd σ H'
  | .bad => False
/-- the judgement of arguments -/
def tA (K : PySem.W.Frag) (mg : Str → Option Value) (sg : Sta) (W : WX) (w p : Bool) (d : DA) : TA := fun σ H Q => ∃ g ρ o S ok, Rst sg g ok S K H σ ρ o ∧
  match d ρ o with
  | .ok vs ρ' o' => ∀ xs H' ok', Nx p sg g ok S K H σ ρ ρ' o' H' ok' → (if w = true then RpTs (okw g S) ok' K H' vs xs else Rps ok' K H' vs xs) → Q xs H'
  | .ex c ρ' o' => ∀ cls dd H' ok', Nx false sg g ok S K H σ ρ ρ' o' H' ok' → ExR mg ok' K H' c cls dd → W cls dd σ H'
  | .bad => False

def asB : PyData → Option Bool
  | .bool b => some b
  | _ => none
theorem asB_some {v : PyData} {b : Bool} (h : asB v = some b) : v = .bool b := by
  unfold asB at h
  split at h
  · cases h; rfl
  · cases h
def dTest (d : DE) : DT := fun ρ o => (d ρ o).bind fun v ρ1 o1 => .ofO (asB v) ρ1 o1
def dOfT (d : DT) : DE := fun ρ o => (d ρ o).bind fun b ρ1 o1 => .ok (.bool b) ρ1 o1
def dTop2 (φ : PyData → PyData → Option PyData) (a b : DE) : DT := dTest (dOp2 φ a b)
def dAndT (a b : DT) : DT := fun ρ o => (a ρ o).bind fun v ρ1 o1 => if v = true then b ρ1 o1 else .ok false ρ1 o1
def dOrT (a b : DT) : DT := fun ρ o => (a ρ o).bind fun v ρ1 o1 => if v = true then .ok true ρ1 o1 else b ρ1 o1
def dNotT (a : DT) : DT := fun ρ o => (a ρ o).bind fun v ρ1 o1 => .ok (!v) ρ1 o1
def dIf (c : DT) (a b : DE) : DE := fun ρ o => (c ρ o).bind fun v ρ1 o1 => if v = true then a ρ1 o1 else b ρ1 o1
def dNil : DA := fun ρ o => .ok [] ρ o
def dCons (d : DE) (ds : DA) : DA := fun ρ o => (d ρ o).bind fun v ρ1 o1 => (ds ρ1 o1).bind fun vs ρ2 o2 => .ok (v :: vs) ρ2 o2
def dTup (ds : DA) : DE := fun ρ o => (ds ρ o).bind fun vs ρ1 o1 => if vs.length ≤ sizeLine then .ok (.tuple vs) ρ1 o1 else .bad
def dLst (ds : DA) : DE := fun ρ o => (ds ρ o).bind fun vs ρ1 o1 => if vs.length ≤ sizeLine then .ok (.list vs) ρ1 o1 else .bad
def dOpN (φ : List PyData → Option PyData) (a : DA) : DE := fun ρ o => (a ρ o).bind fun vs ρ1 o1 => .ofO (φ vs) ρ1 o1

section
variable {X : Cx} {sg : Sta} {g : Gh} {W : WX} {σ : Sl} {H : Hp} {ρ ρ' : Env} {o o' : Orc} {S : Sad} {ok : Addr → Prop} {p w : Bool}
theorem tT.of_ok {d : DT} {Q : Bool → Hp → Prop} {v : Bool} (r : Rst sg g ok S X.K H σ ρ o) (e : d ρ o = .ok v ρ' o') (h : ∀ H' ok', Nx p sg g ok S X.K H σ ρ ρ' o' H' ok' → Q v H') : tT X.K X.mg sg W p d σ H Q :=
  ⟨g, ρ, o, S, ok, r, by rw [e]; exact h⟩
theorem tT.of_ex {d : DT} {Q : Bool → Hp → Prop} {c : Exn} (r : Rst sg g ok S X.K H σ ρ o) (e : d ρ o = .ex c ρ' o')
    (h : ∀ cls dd H' ok', Nx false sg g ok S X.K H σ ρ ρ' o' H' ok' → ExR X.mg ok' X.K H' c cls dd → W cls dd σ H') : tT X.K X.mg sg W p d σ H Q := ⟨g, ρ, o, S, ok, r, by rw [e]; exact h⟩
theorem tA.of_ok {d : DA} {Q : List V → Hp → Prop} {v : List PyData} (r : Rst sg g ok S X.K H σ ρ o) (e : d ρ o = .ok v ρ' o')
    (h : ∀ xs H' ok', Nx p sg g ok S X.K H σ ρ ρ' o' H' ok' → (if w = true then RpTs (okw g S) ok' X.K H' v xs else Rps ok' X.K H' v xs) → Q xs H') : tA X.K X.mg sg W w p d σ H Q :=
  ⟨g, ρ, o, S, ok, r, by rw [e]; exact h⟩
theorem tA.of_ex {d : DA} {Q : List V → Hp → Prop} {c : Exn} (r : Rst sg g ok S X.K H σ ρ o) (e : d ρ o = .ex c ρ' o')
    (h : ∀ cls dd H' ok', Nx false sg g ok S X.K H σ ρ ρ' o' H' ok' → ExR X.mg ok' X.K H' c cls dd → W cls dd σ H') : tA X.K X.mg sg W w p d σ H Q := ⟨g, ρ, o, S, ok, r, by rw [e]; exact h⟩
end

section
variable {sg : Sta} {g : Gh} {ok ok1 ok2 okT : Addr → Prop} {S : Sad} {K : PySem.W.Frag} {H H' H1 H2 : Hp} {σ : Sl} {ρ ρ1 ρ2 : Env} {o o1 o2 : Orc}
theorem Nx.le {p q : Bool} (n : Nx p sg g ok S K H σ ρ ρ1 o1 H1 ok1) (h : q = true → p = true) : Nx q sg g ok S K H σ ρ ρ1 o1 H1 ok1 := ⟨n.st, n.mono, n.lim, n.dom, n.trk, fun a u e m t w => n.stx a u e m t fun hp => w (by cases q with | false => rfl | true => rw [h rfl] at hp; cases hp)⟩
theorem RpTs.step {ok' : Addr → Prop} (m : ∀ a, ok a → ok' a) (s : Stp ok H H') (sT : Stp okT H H') : ∀ {ds : List PyData} {vs : List V}, RpTs okT ok K H ds vs → RpTs okT ok' K H' ds vs
  | _, _, .nil => .nil
  | _, _, .cons h r => .cons (h.step m (fun _ z => z) s sT) (RpTs.step m s sT r)
theorem Rps.toT (m : ∀ a, ok a → okT a) : ∀ {ds : List PyData} {vs : List V}, Rps ok K H ds vs → RpTs okT ok K H ds vs
  | _, _, .nil => .nil
  | _, _, .cons h r => .cons (h.toT m) (Rps.toT m r)
end

section
variable {X : Cx} {sg : Sta} {g : Gh} {W : WX} {e a b c : Expr} {es : List Expr} {d d1 d2 : DE} {ds : DA} {c1 c2 : DT} {w w1 w2 p p1 p2 p3 f f1 f2 : Bool} {pos : Pos}
theorem e_int {i : Int} {j : Nat} : PE X (.Constant (.int i) j pos) (tE X.K X.mg sg W false true true (dC (.int i))) := PE.imp pe_int fun σ H Q ⟨g, ρ, o, S, ok, r, q⟩ => q _ _ ok (.refl r _) (.int i) fun _ e => by cases e
theorem e_bl {i : Bool} {j : Nat} : PE X (.Constant (.bool i) j pos) (tE X.K X.mg sg W false true true (dC (.bool i))) := PE.imp pe_bl fun σ H Q ⟨g, ρ, o, S, ok, r, q⟩ => q _ _ ok (.refl r _) (.bl i) fun _ e => by cases e
theorem e_non {j : Nat} : PE X (.Constant .none j pos) (tE X.K X.mg sg W false true true (dC .none)) := PE.imp pe_non fun σ H Q ⟨g, ρ, o, S, ok, r, q⟩ => q _ _ ok (.refl r _) .non fun _ e => by cases e
theorem e_str {x : Str} {j : Nat} : PE X (.Constant (.str x) j pos) (tE X.K X.mg sg W false true true (dC (.str x))) := PE.imp pe_str fun σ H Q ⟨g, ρ, o, S, ok, r, q⟩ => q _ _ ok (.refl r _) (.str x) fun _ e => by cases e
/-- a constant of the module -/
theorem e_glob {i : Int} {x : Str} {t : Tok} (hg : Gl X x) (hm : X.mg x = some (.int i t)) (hd : (x == ("__debug__" : Str)) = false := by decide) : PE X (.Name x pos) (tE X.K X.mg sg W false true true (dC (.int i))) :=
  PE.imp (pe_glob (v := .int i) hg hm ⟨t, rfl⟩ hd) fun σ H Q ⟨g, ρ, o, S, ok, r, q⟩ => q _ _ ok (.refl r _) (.int i) fun _ e => by cases e
theorem e_var {i : Nat} {x : Str} (hN : X.N[i]? = some x) (hv : Vis X.env.scope x) (ho : i ∉ sg.own) (hd : (x == ("__debug__" : Str)) = false := by decide) (hcd : (x == ("__classdict__" : Str)) = false := by decide) :
    PE X (.Name x pos) (tE X.K X.mg sg W false true false (dVar i)) := by
  refine PE.imp (pe_var hN hv hd hcd) fun σ H Q ⟨g, ρ, o, S, ok, r, q⟩ => ?_
  unfold dVar at q
  rcases e : ρ[i]? with _ | (_ | d) <;> rw [e] at q
  · exact q.elim
  · exact q.elim
  · obtain ⟨x, e1, e2⟩ := r.pl i d e ho
    exact ⟨x, e1, q x H ok (.refl r _) e2 fun e => by cases e⟩
/-- .. of the def's own: read, not handed on -/
theorem e_varT {i : Nat} {x : Str} (hN : X.N[i]? = some x) (hv : Vis X.env.scope x) (ho : i ∈ sg.own) (hd : (x == ("__debug__" : Str)) = false := by decide) (hcd : (x == ("__classdict__" : Str)) = false := by decide) :
    PE X (.Name x pos) (tE X.K X.mg sg W true true false (dVar i)) := by
  refine PE.imp (pe_var hN hv hd hcd) fun σ H Q ⟨g, ρ, o, S, ok, r, q⟩ => ?_
  unfold dVar at q
  rcases e : ρ[i]? with _ | (_ | d) <;> rw [e] at q
  · exact q.elim
  · exact q.elim
  · obtain ⟨a, e1, w1⟩ := r.ow i d e ho
    exact ⟨_, e1, q _ H ok (.refl r _) (w1.ct.toT ⟨r.h0 a w1.new, w1.nS⟩) fun e => by cases e⟩
/-- .. handed on: the name is no more the def's own -/
theorem Rst.move {ok : Addr → Prop} {S : Sad} {K : PySem.W.Frag} {H : Hp} {σ : Sl} {ρ : Env} {o : Orc} (r : Rst sg g ok S K H σ ρ o) {i : Nat} {d : PyData} (e : ρ[i]? = some (some d)) (ho : i ∈ sg.own) {a : Addr} (ea : σ[i]? = some (some (.ref a))) :
    Rst sg g (fun b => ok b ∨ b = a) S K H σ (ρ.set i none) o := by
  have old : ∀ (j : Nat) d', (ρ.set i none)[j]? = some (some d') → j ≠ i ∧ ρ[j]? = some (some d') := fun j d' h => by
    by_cases hj : i = j
    · subst hj
      rw [List.getElem?_set_self (List.getElem?_eq_some_iff.mp e).1] at h
      cases h
    · rw [List.getElem?_set_ne hj] at h
      exact ⟨Ne.symm hj, h⟩
  obtain ⟨a', ea', wa⟩ := r.ow i d e ho
  rw [ea] at ea'; cases ea'
  exact {
    len := by simpa using r.len
    pl := fun j d' h n => let ⟨x, e1, e2⟩ := r.pl j d' (old j d' h).2 n; ⟨x, e1, e2.step (fun _ => .inl) .refl⟩
    ow := fun j d' h n => by
      obtain ⟨b, e1, w1⟩ := r.ow j d' (old j d' h).2 n
      refine ⟨b, e1, fun z => z.elim w1.nok fun z => ?_, w1.nS, w1.new, w1.ct.step (fun _ _ z _ _ => .inl z) .refl fun _ h => h⟩
      subst z
      exact (old j d' h).1 (r.inj j i b d' d n ho (old j d' h).2 e e1 ea)
    inj := fun j k b d1 d2 hj hk h1 h2 => r.inj j k b d1 d2 hj hk (old j d1 h1).2 (old k d2 h2).2
    fr := fun b h => .inl (r.fr b h)
    sub := fun b h => h.elim (r.sub b) fun z => by subst z; exact ⟨r.h0 b wa.new, wa.nS⟩
    h0 := r.h0
    chg := r.chg
    trk := r.trk
    orc := r.orc
    sS := r.sS
    ist := r.ist }
theorem e_move {i : Nat} {x : Str} (hN : X.N[i]? = some x) (hv : Vis X.env.scope x) (ho : i ∈ sg.own) (hd : (x == ("__debug__" : Str)) = false := by decide) (hcd : (x == ("__classdict__" : Str)) = false := by decide) :
    PE X (.Name x pos) (tE X.K X.mg sg W false true false (dMove i)) := by
  refine PE.imp (pe_var hN hv hd hcd) fun σ H Q ⟨g, ρ, o, S, ok, r, q⟩ => ?_
  unfold dMove at q
  rcases e : ρ[i]? with _ | (_ | d) <;> rw [e] at q
  · exact q.elim
  · exact q.elim
  · obtain ⟨a, e1, w1⟩ := r.ow i d e ho
    refine ⟨_, e1, q _ H _ ⟨r.move e ho e1, fun _ h => .inl h, fun b h => h.imp id fun z => ⟨i, d, ho, e, by rw [z]; exact e1⟩, fun j d' hj hd => ?_, fun _ u h => ⟨u, h⟩, fun _ _ h _ _ _ => h⟩ ?_ fun e => by cases e⟩
    · by_cases hij : i = j
      · subst hij; exact ⟨d, e⟩
      · rw [List.getElem?_set_ne hij] at hd; exact ⟨d', hd⟩
    · exact (w1.ct.step (ok' := fun b => ok b ∨ b = a) (fun _ _ z _ _ => .inl z) .refl fun _ h => h).toRp (.inr rfl)

theorem t_val (h : PE X e (tE X.K X.mg sg W w p f d)) (he : ∀ whole, isTrue e X.env whole = (do let v ← whole; standAt e.pos; holding [v] (truthy v)) := by intro _; rfl) : PT X e (tT X.K X.mg sg W p (dTest d)) := by
  refine PT.imp (pt_val h he) fun σ H Q ⟨g, ρ, o, S, ok, r, q⟩ => ?_
  unfold dTest at q
  cases e1 : d ρ o with
  | bad => rw [e1] at q; exact q.elim
  | ex c ρ1 o1 => rw [e1] at q; exact tE.of_ex r e1 q
  | ok v ρ1 o1 =>
    rw [e1] at q
    refine tE.of_ok r e1 fun x H1 ok1 n1 r1 _ => ?_
    simp only [Res.bind] at q
    cases e2 : asB v with
    | none => rw [e2] at q; exact q.elim
    | some b =>
      rw [e2] at q
      obtain rfl := asB_some e2
      have r2 : Rp ok1 X.K H1 (.bool b) x := by
        unfold RpM at r1
        split at r1 <;> exact r1
      cases r2
      exact ⟨b, rfl, q _ _ n1⟩
theorem t_cmp {op : CmpOp} {φ : PyData → PyData → Option PyData} (h : OpR X (compareOp op) (r2D X.K f φ)) (ha : PE X a (tE X.K X.mg sg W w1 p1 f1 d1)) (hb : PE X b (tE X.K X.mg sg W w2 p2 f2 d2)) (hm : behindInMarks op b = false := by rfl) (hw : (!w1 || p2) = true := by rfl) :
    PT X (.Compare a [op] [b] pos) (tT X.K X.mg sg W (p1 && p2) (dTop2 φ d1 d2)) := by
  refine PT.imp (pt_cmpR h ha hb hm) fun σ H Q ⟨g, ρ, o, S, ok, r, hq⟩ => ?_
  have hw' : w1 = true → p2 = true := fun e => by rw [e] at hw; simpa using hw
  unfold dTop2 dTest dOp2 at hq
  show tE X.K X.mg sg W w1 p1 f1 d1 σ H _
  cases e1 : d1 ρ o with
  | bad => rw [e1] at hq; exact hq.elim
  | ex c ρ1 o1 => rw [e1] at hq; exact tE.of_ex r e1 hq
  | ok v ρ1 o1 =>
    rw [e1] at hq
    simp only [Res.bind] at hq
    refine tE.of_ok r e1 fun x H1 ok1 n1 r1 _ => ?_
    cases e2 : d2 ρ1 o1 with
    | bad => rw [e2] at hq; exact hq.elim
    | ex c ρ2 o2 =>
      rw [e2] at hq
      exact tE.of_ex n1.st e2 fun cls dd H' ok' n2 x2 => hq cls dd H' ok' (n1.weak.trans n2) x2
    | ok u ρ2 o2 =>
      rw [e2] at hq
      simp only [Res.bind] at hq
      refine tE.of_ok n1.st e2 fun y H2 ok2 n2 r2 _ => ?_
      cases e3 : φ v u with
      | none => rw [e3] at hq; exact hq.elim
      | some z =>
        rw [e3] at hq
        refine ⟨ok2, okw g S, v, u, z, n2.st.fr, (r1.later n1.st n2 hw').T n2.st.sub, r2.T n2.st.sub, e3, fun zz H' nw => ?_⟩
        simp only [Res.ofO] at hq
        cases e4 : asB z with
        | none => rw [e4] at hq; exact hq.elim
        | some b =>
          rw [e4] at hq
          obtain rfl := asB_some e4
          have nn := nw.rp
          cases nn
          exact ⟨b, rfl, hq _ _ ((n1.trans n2).grow nw.grow)⟩
theorem t_not (h : PT X e (tT X.K X.mg sg W p c1)) : PT X (.UnaryOp .Not e pos) (tT X.K X.mg sg W p (dNotT c1)) := by
  refine PT.imp (pt_not h) fun σ H Q ⟨g, ρ, o, S, ok, r, q⟩ => ?_
  unfold dNotT at q
  cases e1 : c1 ρ o with
  | bad => rw [e1] at q; exact q.elim
  | ex c ρ1 o1 => rw [e1] at q; exact tT.of_ex r e1 q
  | ok v ρ1 o1 => rw [e1] at q; exact tT.of_ok r e1 fun H1 ok1 n1 => q _ _ n1
theorem w_and1 (ha : PT X a (tT X.K X.mg sg W p c1)) : PW X (.BoolOp .And [a] pos) (tT X.K X.mg sg W p c1) := pw_and1 ha
theorem w_or1 (ha : PT X a (tT X.K X.mg sg W p c1)) : PW X (.BoolOp .Or [a] pos) (tT X.K X.mg sg W p c1) := pw_or1 ha
theorem PW.imp {e : Expr} {t t' : TT} (h : PW X e t) (i : ∀ σ H Q, t' σ H Q → t σ H Q) : PW X e t' := ⟨fun wh pins s σ H Q I q => h.run wh pins s σ H Q I (i σ H Q q)⟩
theorem w_and (ha : PT X a (tT X.K X.mg sg W p1 c1)) (hb : PW X (.BoolOp .And (b :: es) pos) (tT X.K X.mg sg W p2 c2)) : PW X (.BoolOp .And (a :: b :: es) pos) (tT X.K X.mg sg W (p1 && p2) (dAndT c1 c2)) := by
  refine PW.imp (pw_and ha hb) fun σ H Q ⟨g, ρ, o, S, ok, r, q⟩ => ?_
  unfold dAndT at q
  show tT X.K X.mg sg W p1 c1 σ H _
  cases e1 : c1 ρ o with
  | bad => rw [e1] at q; exact q.elim
  | ex c ρ1 o1 => rw [e1] at q; exact tT.of_ex r e1 q
  | ok v ρ1 o1 =>
    rw [e1] at q
    refine tT.of_ok r e1 fun H1 ok1 n1 => ?_
    simp only [Res.bind] at q
    cases v with
    | false => exact q _ _ (n1.le (by cases p1 <;> simp))
    | true =>
      simp only [if_true] at q ⊢
      cases e2 : c2 ρ1 o1 with
      | bad => rw [e2] at q; exact q.elim
      | ex c ρ2 o2 => rw [e2] at q; exact tT.of_ex n1.st e2 fun cls dd H' ok' n2 x2 => q cls dd H' ok' (n1.weak.trans n2) x2
      | ok u ρ2 o2 => rw [e2] at q; exact tT.of_ok n1.st e2 fun H2 ok2 n2 => q _ _ (n1.trans n2)
theorem w_or (ha : PT X a (tT X.K X.mg sg W p1 c1)) (hb : PW X (.BoolOp .Or (b :: es) pos) (tT X.K X.mg sg W p2 c2)) : PW X (.BoolOp .Or (a :: b :: es) pos) (tT X.K X.mg sg W (p1 && p2) (dOrT c1 c2)) := by
  refine PW.imp (pw_or ha hb) fun σ H Q ⟨g, ρ, o, S, ok, r, q⟩ => ?_
  unfold dOrT at q
  show tT X.K X.mg sg W p1 c1 σ H _
  cases e1 : c1 ρ o with
  | bad => rw [e1] at q; exact q.elim
  | ex c ρ1 o1 => rw [e1] at q; exact tT.of_ex r e1 q
  | ok v ρ1 o1 =>
    rw [e1] at q
    refine tT.of_ok r e1 fun H1 ok1 n1 => ?_
    simp only [Res.bind] at q
    cases v with
    | true => exact q _ _ (n1.le (by cases p1 <;> simp))
    | false =>
      simp only [Bool.false_eq_true, if_false] at q ⊢
      cases e2 : c2 ρ1 o1 with
      | bad => rw [e2] at q; exact q.elim
      | ex c ρ2 o2 => rw [e2] at q; exact tT.of_ex n1.st e2 fun cls dd H' ok' n2 x2 => q cls dd H' ok' (n1.weak.trans n2) x2
      | ok u ρ2 o2 => rw [e2] at q; exact tT.of_ok n1.st e2 fun H2 ok2 n2 => q _ _ (n1.trans n2)
theorem t_w (h : PW X e (tT X.K X.mg sg W p c1)) : PT X e (tT X.K X.mg sg W p c1) := h.pt

def dAndV (a b : DE) : DE := fun ρ o => (dTest a ρ o).bind fun v ρ1 o1 => if v = true then b ρ1 o1 else .ok (.bool false) ρ1 o1
def dOrV (a b : DE) : DE := fun ρ o => (dTest a ρ o).bind fun v ρ1 o1 => if v = true then .ok (.bool true) ρ1 o1 else b ρ1 o1
def dNotV (a : DE) : DE := fun ρ o => (dTest a ρ o).bind fun v ρ1 o1 => .ok (.bool !v) ρ1 o1
theorem e_one {op : PySem.BoolOp} (h : PE X a (tE X.K X.mg sg W w p f d)) : PE X (.BoolOp op [a] pos) (tE X.K X.mg sg W w p f d) := pe_one h
theorem RpM.bool {w : Bool} {okT ok : Addr → Prop} {K : PySem.W.Frag} {H : Hp} {b : Bool} {x : V} (r : RpM w okT ok K H (.bool b) x) : x = .bl b := by
  have r2 : Rp ok K H (.bool b) x := by
    unfold RpM at r
    split at r <;> exact r
  cases r2; rfl
theorem RpM.ofRp {w : Bool} {okT ok : Addr → Prop} {K : PySem.W.Frag} {H : Hp} {d : PyData} {x : V} (m : ∀ a, ok a → okT a) (r : Rp ok K H d x) : RpM w okT ok K H d x := by
  unfold RpM
  split
  · exact r.toT m
  · exact r
theorem RpM.le {w w' : Bool} {okT ok : Addr → Prop} {K : PySem.W.Frag} {H : Hp} {d : PyData} {x : V} (m : ∀ a, ok a → okT a) (h : w = true → w' = true) (r : RpM w okT ok K H d x) : RpM w' okT ok K H d x := by
  cases w with
  | true => rw [h rfl]; exact r
  | false => exact RpM.ofRp m r
theorem e_and (ha : PE X a (tE X.K X.mg sg W w1 p1 f1 d1)) (hb : PE X (.BoolOp .And (b :: es) pos) (tE X.K X.mg sg W w2 p2 f2 d2)) : PE X (.BoolOp .And (a :: b :: es) pos) (tE X.K X.mg sg W w2 (p1 && p2) f2 (dAndV d1 d2)) := by
  refine PE.imp (pe_and ha hb) fun σ H Q ⟨g, ρ, o, S, ok, r, q⟩ => ?_
  unfold dAndV dTest at q
  show tE X.K X.mg sg W w1 p1 f1 d1 σ H _
  cases e1 : d1 ρ o with
  | bad => rw [e1] at q; exact q.elim
  | ex c ρ1 o1 => rw [e1] at q; exact tE.of_ex r e1 q
  | ok v ρ1 o1 =>
    rw [e1] at q
    refine tE.of_ok r e1 fun x H1 ok1 n1 r1 _ => ?_
    simp only [Res.bind] at q
    cases e3 : asB v with
    | none => rw [e3] at q; exact q.elim
    | some t =>
      rw [e3] at q
      obtain rfl := asB_some e3
      obtain rfl := r1.bool
      refine ⟨t, rfl, ?_⟩
      simp only [Res.ofO] at q
      cases t with
      | true =>
        simp only [if_true] at q ⊢
        cases e2 : d2 ρ1 o1 with
        | bad => rw [e2] at q; exact q.elim
        | ex c ρ2 o2 => rw [e2] at q; exact tE.of_ex n1.st e2 fun cls dd H' ok' n2 x2 => q cls dd H' ok' (n1.weak.trans n2) x2
        | ok u ρ2 o2 => rw [e2] at q; exact tE.of_ok n1.st e2 fun y H2 ok2 n2 r2 z2 => q _ _ _ (n1.trans n2) r2 fun h1 h2 => (z2 h1 h2).back n1
      | false =>
        simp only [Bool.false_eq_true, if_false] at q ⊢
        exact q _ _ _ (n1.le (by cases p1 <;> simp)) (.ofRp n1.st.sub (.bl false)) fun _ e => by cases e
theorem e_or (ha : PE X a (tE X.K X.mg sg W w1 p1 f1 d1)) (hb : PE X (.BoolOp .Or (b :: es) pos) (tE X.K X.mg sg W w2 p2 f2 d2)) : PE X (.BoolOp .Or (a :: b :: es) pos) (tE X.K X.mg sg W w2 (p1 && p2) f2 (dOrV d1 d2)) := by
  refine PE.imp (pe_or ha hb) fun σ H Q ⟨g, ρ, o, S, ok, r, q⟩ => ?_
  unfold dOrV dTest at q
  show tE X.K X.mg sg W w1 p1 f1 d1 σ H _
  cases e1 : d1 ρ o with
  | bad => rw [e1] at q; exact q.elim
  | ex c ρ1 o1 => rw [e1] at q; exact tE.of_ex r e1 q
  | ok v ρ1 o1 =>
    rw [e1] at q
    refine tE.of_ok r e1 fun x H1 ok1 n1 r1 _ => ?_
    simp only [Res.bind] at q
    cases e3 : asB v with
    | none => rw [e3] at q; exact q.elim
    | some t =>
      rw [e3] at q
      obtain rfl := asB_some e3
      obtain rfl := r1.bool
      refine ⟨t, rfl, ?_⟩
      simp only [Res.ofO] at q
      cases t with
      | false =>
        simp only [Bool.false_eq_true, if_false] at q ⊢
        cases e2 : d2 ρ1 o1 with
        | bad => rw [e2] at q; exact q.elim
        | ex c ρ2 o2 => rw [e2] at q; exact tE.of_ex n1.st e2 fun cls dd H' ok' n2 x2 => q cls dd H' ok' (n1.weak.trans n2) x2
        | ok u ρ2 o2 => rw [e2] at q; exact tE.of_ok n1.st e2 fun y H2 ok2 n2 r2 z2 => q _ _ _ (n1.trans n2) r2 fun h1 h2 => (z2 h1 h2).back n1
      | true =>
        simp only [if_true] at q ⊢
        exact q _ _ _ (n1.le (by cases p1 <;> simp)) (.ofRp n1.st.sub (.bl true)) fun _ e => by cases e
theorem e_not (ha : PE X a (tE X.K X.mg sg W w1 p1 f1 d1)) : PE X (.UnaryOp .Not a pos) (tE X.K X.mg sg W w p1 f (dNotV d1)) := by
  refine PE.imp (pe_not ha) fun σ H Q ⟨g, ρ, o, S, ok, r, q⟩ => ?_
  unfold dNotV dTest at q
  show tE X.K X.mg sg W w1 p1 f1 d1 σ H _
  cases e1 : d1 ρ o with
  | bad => rw [e1] at q; exact q.elim
  | ex c ρ1 o1 => rw [e1] at q; exact tE.of_ex r e1 q
  | ok v ρ1 o1 =>
    rw [e1] at q
    refine tE.of_ok r e1 fun x H1 ok1 n1 r1 _ => ?_
    simp only [Res.bind] at q
    cases e3 : asB v with
    | none => rw [e3] at q; exact q.elim
    | some t =>
      rw [e3] at q
      obtain rfl := asB_some e3
      obtain rfl := r1.bool
      exact ⟨t, rfl, q _ _ _ n1 (.ofRp n1.st.sub (.bl (!t))) fun _ e => by cases e⟩
theorem e_if (hc : PT X c (tT X.K X.mg sg W p3 c1)) (ha : PE X a (tE X.K X.mg sg W w1 p1 f1 d1)) (hb : PE X b (tE X.K X.mg sg W w2 p2 f2 d2)) : PE X (.IfExp c a b pos) (tE X.K X.mg sg W (w1 || w2) (p3 && (p1 && p2)) (f1 && f2) (dIf c1 d1 d2)) := by
  refine PE.imp (pe_ifExp hc ha hb) fun σ H Q ⟨g, ρ, o, S, ok, r, q⟩ => ?_
  unfold dIf at q
  show tT X.K X.mg sg W p3 c1 σ H _
  cases e1 : c1 ρ o with
  | bad => rw [e1] at q; exact q.elim
  | ex c ρ1 o1 => rw [e1] at q; exact tT.of_ex r e1 q
  | ok v ρ1 o1 =>
    rw [e1] at q
    refine tT.of_ok r e1 fun H1 ok1 n1 => ?_
    simp only [Res.bind] at q
    cases v with
    | true =>
      simp only [if_true] at q ⊢
      cases e2 : d1 ρ1 o1 with
      | bad => rw [e2] at q; exact q.elim
      | ex c ρ2 o2 => rw [e2] at q; exact tE.of_ex n1.st e2 fun cls dd H' ok' n2 x2 => q cls dd H' ok' (n1.weak.trans n2) x2
      | ok u ρ2 o2 =>
        rw [e2] at q
        exact tE.of_ok n1.st e2 fun y H2 ok2 n2 r2 z2 => q _ _ _ ((n1.trans n2).le (by cases p3 <;> cases p1 <;> simp)) (r2.le n2.st.sub (by intro e; simp [e])) fun hf hc => (z2 (by cases f1 <;> simp at hf ⊢) hc).back n1
    | false =>
      simp only [Bool.false_eq_true, if_false] at q ⊢
      cases e2 : d2 ρ1 o1 with
      | bad => rw [e2] at q; exact q.elim
      | ex c ρ2 o2 => rw [e2] at q; exact tE.of_ex n1.st e2 fun cls dd H' ok' n2 x2 => q cls dd H' ok' (n1.weak.trans n2) x2
      | ok u ρ2 o2 =>
        rw [e2] at q
        exact tE.of_ok n1.st e2 fun y H2 ok2 n2 r2 z2 => q _ _ _ ((n1.trans n2).le (by cases p3 <;> cases p1 <;> cases p2 <;> simp)) (r2.le n2.st.sub (by intro e; simp [e])) fun hf hc => (z2 (by cases f1 <;> cases f2 <;> simp at hf ⊢) hc).back n1

theorem a_nil : PA X [] (tA X.K X.mg sg W w true dNil) := PA.imp pa_nil fun σ H Q ⟨g, ρ, o, S, ok, r, q⟩ => q _ _ ok (.refl r _) (by split; exact .nil; exact .nil)
theorem a_cons (ha : PE X a (tE X.K X.mg sg W w1 p1 f1 d1)) (hb : PA X es (tA X.K X.mg sg W w p2 ds)) (hw : (!w1 || (w && p2)) = true := by rfl) (hs : starEach (a :: es) X.env = (false, eval a X.env) :: starEach es X.env := by rfl) :
    PA X (a :: es) (tA X.K X.mg sg W w (p1 && p2) (dCons d1 ds)) := by
  refine PA.imp (pa_cons ha hb hs) fun σ H Q ⟨g, ρ, o, S, ok, r, q⟩ => ?_
  have hw1 : w1 = true → w = true := fun e => by rw [e] at hw; simp at hw; exact hw.1
  have hw2 : w1 = true → p2 = true := fun e => by rw [e] at hw; simp at hw; exact hw.2
  unfold dCons at q
  show tE X.K X.mg sg W w1 p1 f1 d1 σ H _
  cases e1 : d1 ρ o with
  | bad => rw [e1] at q; exact q.elim
  | ex c ρ1 o1 => rw [e1] at q; exact tE.of_ex r e1 q
  | ok v ρ1 o1 =>
    rw [e1] at q
    refine tE.of_ok r e1 fun x H1 ok1 n1 r1 _ => ?_
    simp only [Res.bind] at q
    cases e2 : ds ρ1 o1 with
    | bad => rw [e2] at q; exact q.elim
    | ex c ρ2 o2 => rw [e2] at q; exact tA.of_ex n1.st e2 fun cls dd H' ok' n2 x2 => q cls dd H' ok' (n1.weak.trans n2) x2
    | ok us ρ2 o2 =>
      rw [e2] at q
      refine tA.of_ok n1.st e2 fun xs H2 ok2 n2 r2 => q _ _ _ (n1.trans n2) ?_
      have r1' := r1.later n1.st n2 hw2
      cases w with
      | true =>
        simp only [if_true] at r2 ⊢
        exact .cons (r1'.T n2.st.sub) r2
      | false =>
        simp only [Bool.false_eq_true, if_false] at r2 ⊢
        cases w1 with
        | true => exact absurd (hw1 rfl) (by simp)
        | false => exact .cons r1' r2
theorem e_tup {k : Nat} (h : PA X es (tA X.K X.mg sg W false p ds)) : PE X (.Tuple es k pos) (tE X.K X.mg sg W w p f (dTup ds)) := by
  refine PE.imp (pe_tupH h) fun σ H Q ⟨g, ρ, o, S, ok, r, q⟩ => ?_
  unfold dTup at q
  show tA X.K X.mg sg W false p ds σ H _
  cases e1 : ds ρ o with
  | bad => rw [e1] at q; exact q.elim
  | ex c ρ1 o1 => rw [e1] at q; exact tA.of_ex r e1 q
  | ok vs ρ1 o1 =>
    rw [e1] at q
    refine tA.of_ok r e1 fun xs H1 ok1 n1 r1 => ?_
    simp only [Res.bind] at q
    simp only [Bool.false_eq_true, if_false] at r1
    by_cases hz : vs.length ≤ sizeLine
    · rw [if_pos hz] at q
      exact ⟨by rw [← r1.length]; exact hz, fun p o' ho hp => fin_op n1 (Nw.hard ho hp r1) q⟩
    · rw [if_neg hz] at q; exact q.elim
theorem e_lst (h : PA X es (tA X.K X.mg sg W false p ds)) : PE X (.List es pos) (tE X.K X.mg sg W w p f (dLst ds)) := by
  refine PE.imp (pe_lst h) fun σ H Q ⟨g, ρ, o, S, ok, r, q⟩ => ?_
  unfold dLst at q
  show tA X.K X.mg sg W false p ds σ H _
  cases e1 : ds ρ o with
  | bad => rw [e1] at q; exact q.elim
  | ex c ρ1 o1 => rw [e1] at q; exact tA.of_ex r e1 q
  | ok vs ρ1 o1 =>
    rw [e1] at q
    refine tA.of_ok r e1 fun xs H1 ok1 n1 r1 => ?_
    simp only [Res.bind] at q
    simp only [Bool.false_eq_true, if_false] at r1
    by_cases hz : vs.length ≤ sizeLine
    · rw [if_pos hz] at q
      exact ⟨by rw [← r1.length]; exact hz, fun p hp => fin_op n1 (Nw.lst n1.st.fr hp r1) q⟩
    · rw [if_neg hz] at q; exact q.elim
/-- a call of a built-in by its rule -/
theorem ope_N {t : TA} {r : List V → Hp → VK → Prop} {φ : List PyData → Option PyData} (h : ∀ {t : TA}, PA X es t → PE X e (fun σ H Q => t σ H fun vs H1 => r vs H1 Q)) (hr : ∀ xs H Q, rnD X.K f φ xs H Q → r xs H Q)
    (ha : PA X es (tA X.K X.mg sg W true p ds)) : PE X e (tE X.K X.mg sg W w p f (dOpN φ ds)) := by
  refine PE.imp (h ha) fun σ H Q ⟨g, ρ, o, S, ok, r, q⟩ => ?_
  unfold dOpN at q
  cases e1 : ds ρ o with
  | bad => rw [e1] at q; exact q.elim
  | ex c ρ1 o1 => rw [e1] at q; exact tA.of_ex r e1 q
  | ok vs ρ1 o1 =>
    rw [e1] at q
    refine tA.of_ok r e1 fun xs H1 ok1 n1 r1 => hr _ _ _ ?_
    simp only [Res.bind] at q
    simp only [if_true] at r1
    cases e2 : φ vs with
    | none => rw [e2] at q; exact q.elim
    | some z =>
      rw [e2] at q
      exact ⟨ok1, okw g S, vs, z, n1.st.fr, r1, e2, fun zz H' nw => fin_op n1 nw q⟩
theorem e_callB {id : String} {x : Str} {φ : List PyData → Option PyData} {p' : Pos} (hc : CallR X (.builtin id) (rnD X.K f φ)) (hg : Gl X x) (hm : X.mg x = none) (hv : bootBuiltins x = some (.builtin id)) (ha : PA X (a :: es) (tA X.K X.mg sg W true p ds))
    (hn : x ≠ "__name__" := by decide) (hdb : (x == ("__debug__" : Str)) = false := by decide) (he : starEach (a :: es) X.env = (false, eval a X.env) :: starEach es X.env := by rfl)
    (hpl : (backTo pos (starEach es X.env)).any (·.1) = false := by rfl) : PE X (.Call (.Name x p') (a :: es) [] pos) (tE X.K X.mg sg W w p f (dOpN φ ds)) :=
  ope_N (t := fun _ _ _ => True) (fun h => pe_callB hc hg hm hv h hn hdb he hpl) (fun _ _ _ h => h) ha
theorem e_callTy {T : String} {x : Str} {φ : List PyData → Option PyData} {p' : Pos} (hc : CallR X (.type T) (rnD X.K f φ)) (hg : Gl X x) (hm : X.mg x = none) (hv : bootBuiltins x = some (.type T)) (ha : PA X (a :: es) (tA X.K X.mg sg W true p ds))
    (hn : x ≠ "__name__" := by decide) (hdb : (x == ("__debug__" : Str)) = false := by decide) (he : starEach (a :: es) X.env = (false, eval a X.env) :: starEach es X.env := by rfl)
    (hpl : (backTo pos (starEach es X.env)).any (·.1) = false := by rfl) : PE X (.Call (.Name x p') (a :: es) [] pos) (tE X.K X.mg sg W w p f (dOpN φ ds)) :=
  ope_N (t := fun _ _ _ => True) (fun h => pe_callTy hc hg hm hv h hn hdb he hpl) (fun _ _ _ h => h) ha
theorem e_bin {op : Operator} {φ : PyData → PyData → Option PyData} (h : OpR X (binaryOp op) (r2D X.K f φ)) (ha : PE X a (tE X.K X.mg sg W w1 p1 f1 d1)) (hb : PE X b (tE X.K X.mg sg W w2 p2 f2 d2)) (hw : (!w1 || p2) = true := by rfl) :
    PE X (.BinOp a op b pos) (tE X.K X.mg sg W w (p1 && p2) f (dOp2 φ d1 d2)) := pe_opD2 (te := tOp (r2D X.K f φ)) (fun ha hb => pe_op h ha hb) (fun _ _ _ _ _ => rfl) (fun _ _ _ _ h => h) ha hb hw
theorem e_un {op : UnaryOp} {φ : PyData → Option PyData} (h : UnR X (unaryOp op) (r1D X.K f φ)) (ha : PE X a (tE X.K X.mg sg W w1 p1 f1 d1)) : PE X (.UnaryOp op a pos) (tE X.K X.mg sg W w p1 f (dOp1 φ d1)) :=
  pe_opD1 (te := tUn (r1D X.K f φ)) (fun ha => pe_un h ha) (fun _ _ _ _ => rfl) (fun _ _ _ h => h) ha
theorem e_cmp {op : CmpOp} {φ : PyData → PyData → Option PyData} (h : OpR X (compareOp op) (r2D X.K f φ)) (ha : PE X a (tE X.K X.mg sg W w1 p1 f1 d1)) (hb : PE X b (tE X.K X.mg sg W w2 p2 f2 d2)) (hm : behindInMarks op b = false := by rfl) (hw : (!w1 || p2) = true := by rfl) :
    PE X (.Compare a [op] [b] pos) (tE X.K X.mg sg W w (p1 && p2) f (dOp2 φ d1 d2)) := pe_opD2 (te := tOp (r2D X.K f φ)) (fun ha hb => pe_cmpR h ha hb hm) (fun _ _ _ _ _ => rfl) (fun _ _ _ _ h => h) ha hb hw
theorem e_ix {φ : PyData → PyData → Option PyData} (h : IxR X (r2D X.K f φ)) (ha : PE X a (tE X.K X.mg sg W w1 p1 f1 d1)) (hb : PE X b (tE X.K X.mg sg W w2 p2 f2 d2)) (hs : PlainIx b := by intro _ _; rfl) (hw : (!w1 || p2) = true := by rfl) :
    PE X (.Subscript a b pos) (tE X.K X.mg sg W w (p1 && p2) f (dOp2 φ d1 d2)) := pe_opD2 (te := tOp (r2D X.K f φ)) (fun ha hb => pe_ix h ha hb hs) (fun _ _ _ _ _ => rfl) (fun _ _ _ _ h => h) ha hb hw
end
end FL
namespace FL
open PySem PySem.Spec PyProof.Rows L2

inductive Fl where
  | nx | brk | ct
  | ret (v : PyData)
abbrev DS := Env → Orc → Res Fl
/-- a step by statements -/
structure Sx (ok : Addr → Prop) (H : Hp) (ok' : Addr → Prop) (H' : Hp) : Prop where
  stp : Stp ok H H'
  mono : ∀ a u, ok a → H a = some u → (∀ ps, u ≠ .tbl ps) → ok' a
def Out (K : PySem.W.Frag) (mg : Str → Option Value) (sg : Sta) (g : Gh) (W : WX) (ok : Addr → Prop) (H : Hp) (D : Ends) (r : Res Fl) : Prop := match r with
  | .ok .nx ρ' o' => ∀ σ' H' S' ok', Rst sg g ok' S' K H' σ' ρ' o' → Sx ok H ok' H' → D.nx σ' H'
  | .ok .brk ρ' o' => ∀ σ' H' S' ok', Rst sg g ok' S' K H' σ' ρ' o' → Sx ok H ok' H' → D.bk σ' H'
  | .ok .ct ρ' o' => ∀ σ' H' S' ok', Rst sg g ok' S' K H' σ' ρ' o' → Sx ok H ok' H' → D.ct σ' H'
  | .ok (.ret v) ρ' o' => ∀ x σ' H' S' ok', Rst sg g ok' S' K H' σ' ρ' o' → Rp g.ok0 K H' v x → D.rt x H'
  | .ex c ρ' o' => ∀ cls dd σ' H' S' ok', Rst sg g ok' S' K H' σ' ρ' o' → ExR mg ok' K H' c cls dd → W cls dd σ' H'
  | .bad => False
/-- the judgement of a statement -/
def tS (K : PySem.W.Frag) (mg : Str → Option Value) (sg : Sta) (W : WX) (d : DS) : TS := fun D σ H => ∃ g ρ o S ok, Rst sg g ok S K H σ ρ o ∧ Out K mg sg g W ok H D (d ρ o)

section
variable {X : Cx} {sg : Sta} {g : Gh} {W : WX} {ok ok' ok1 ok2 : Addr → Prop} {S S1 : Sad} {H H' H1 H2 : Hp} {σ σ1 : Sl} {ρ ρ' ρ1 ρ2 : Env} {o o' o1 o2 : Orc} {D : Ends} {p : Bool}
theorem Sx.refl : Sx ok H ok H := ⟨.refl, fun _ _ h _ _ => h⟩
theorem Sx.trans (a : Sx ok H ok1 H1) (b : Sx ok1 H1 ok2 H2) : Sx ok H ok2 H2 where
  stp := fun c u e h => b.stp c u (a.stp c u e h) (h.imp (fun z => ⟨a.mono c u z.1 e z.2, z.2⟩) id)
  mono := fun c u q e t => b.mono c u (a.mono c u q e t) (a.stp c u e (.inl ⟨q, t⟩)) t
theorem Nx.sx (n : Nx p sg g ok S X.K H σ ρ ρ' o' H' ok') (r : Rst sg g ok S X.K H σ ρ o) : Sx ok H ok' H' := ⟨n.stp r, fun a _ h _ _ => n.mono a h⟩
theorem Rp.sx {K : PySem.W.Frag} {d : PyData} {x : V} (r : Rp ok K H d x) (s : Sx ok H ok' H') : Rp ok' K H' d x := r.step0 s.mono s.stp
theorem Out.imp {D' : Ends} {r : Res Fl} (s : Sx ok H ok1 H1) (h : Out X.K X.mg sg g W ok H D r) (hn : ∀ σ H, D.nx σ H → D'.nx σ H) (hr : ∀ v H, D.rt v H → D'.rt v H) (hb : ∀ σ H, D.bk σ H → D'.bk σ H) (hc : ∀ σ H, D.ct σ H → D'.ct σ H) : Out X.K X.mg sg g W ok1 H1 D' r := by
  unfold Out at h ⊢
  split at h
  · exact fun σ' H' S' ok' q e => hn _ _ (h σ' H' S' ok' q (s.trans e))
  · exact fun σ' H' S' ok' q e => hb _ _ (h σ' H' S' ok' q (s.trans e))
  · exact fun σ' H' S' ok' q e => hc _ _ (h σ' H' S' ok' q (s.trans e))
  · exact fun x σ' H' S' ok' q e => hr _ _ (h x σ' H' S' ok' q e)
  · exact h
  · exact h
theorem tS.of {d : DS} (r : Rst sg g ok S X.K H σ ρ o) (h : Out X.K X.mg sg g W ok H D (d ρ o)) : tS X.K X.mg sg W d D σ H := ⟨g, ρ, o, S, ok, r, h⟩

def dSeq (a b : DS) : DS := fun ρ o => (a ρ o).bind fun v ρ1 o1 => match v with
  | .nx => b ρ1 o1
  | v => .ok v ρ1 o1
def dPass : DS := fun ρ o => .ok .nx ρ o
def dBrk : DS := fun ρ o => .ok .brk ρ o
def dCt : DS := fun ρ o => .ok .ct ρ o
def dAsg (i : Nat) (d : DE) : DS := fun ρ o => (d ρ o).bind fun v ρ1 o1 => .ok .nx (ρ1.set i (some v)) o1
def dAsgC (i : Nat) (d : DE) : DS := fun ρ o => (d ρ o).bind fun v ρ1 o1 => if isC v = true then .ok .nx (ρ1.set i (some v)) o1 else .bad
def dDrop (d : DE) : DS := fun ρ o => (d ρ o).bind fun _ ρ1 o1 => .ok .nx ρ1 o1
def dRet (d : DE) : DS := fun ρ o => (d ρ o).bind fun v ρ1 o1 => .ok (.ret v) ρ1 o1
def dRetN : DS := fun ρ o => .ok (.ret .none) ρ o
def dIfS (c : DT) (a b : DS) : DS := fun ρ o => (c ρ o).bind fun v ρ1 o1 => if v = true then a ρ1 o1 else b ρ1 o1
def dNo : DS := fun _ _ => .bad

/-- a slot that is not the def's own is stored -/
theorem Rst.set {K : PySem.W.Frag} {i : Nat} {d : PyData} {x : V} (rr : Rst sg g ok S K H σ ρ o) (h : Rp ok K H d x) (hi : i ∉ sg.own) (hs : sg.ist ≠ some i) : Rst sg g ok S K H (σ.set i (some x)) (ρ.set i (some d)) o := by
  have old : ∀ (j : Nat) d', (ρ.set i (some d))[j]? = some (some d') → (j = i ∧ d' = d ∧ i < ρ.length) ∨ (j ≠ i ∧ ρ[j]? = some (some d')) := fun j d' e => by
    by_cases hj : i = j
    · subst hj
      by_cases hl : i < ρ.length
      · rw [List.getElem?_set_self hl] at e
        injection e with e; injection e with e
        exact .inl ⟨rfl, e.symm, hl⟩
      · rw [List.getElem?_eq_none (by simp; omega)] at e
        cases e
    · rw [List.getElem?_set_ne hj] at e
      exact .inr ⟨Ne.symm hj, e⟩
  have own : ∀ (j : Nat) d', j ∈ sg.own → (ρ.set i (some d))[j]? = some (some d') → ρ[j]? = some (some d') ∧ (σ.set i (some x))[j]? = σ[j]? := fun j d' hj e => by
    rcases old j d' e with ⟨rfl, _⟩ | ⟨hn, e'⟩
    · exact absurd hj hi
    · exact ⟨e', List.getElem?_set_ne (Ne.symm hn)⟩
  exact {
    len := by simpa using rr.len
    pl := fun j d' e n => by
      rcases old j d' e with ⟨rfl, rfl, hl⟩ | ⟨hn, e'⟩
      · exact ⟨x, List.getElem?_set_self (by rw [rr.len]; exact hl), h⟩
      · obtain ⟨y, e1, e2⟩ := rr.pl j d' e' n
        exact ⟨y, by rw [List.getElem?_set_ne (Ne.symm hn)]; exact e1, e2⟩
    ow := fun j d' e n => by
      obtain ⟨e1, e2⟩ := own j d' n e
      obtain ⟨a, e3, w⟩ := rr.ow j d' e1 n
      exact ⟨a, by rw [e2]; exact e3, w⟩
    inj := fun j k a d1 d2 hj hk h1 h2 h3 h4 => by
      obtain ⟨e1, e2⟩ := own j d1 hj h1
      obtain ⟨e3, e4⟩ := own k d2 hk h2
      rw [e2] at h3; rw [e4] at h4
      exact rr.inj j k a d1 d2 hj hk e1 e3 h3 h4
    fr := rr.fr
    sub := rr.sub
    h0 := rr.h0
    chg := rr.chg
    trk := rr.trk
    orc := rr.orc
    sS := rr.sS
    ist := fun j hj s c l e => by
      rw [List.getElem?_set_ne (fun z => hs (by rw [z]; exact hj))]
      exact rr.ist j hj s c l e }
/-- a slot of the def's own is given a new container -/
theorem Fresh.set {v : PyData} {x : V} {K : PySem.W.Frag} (f : Fresh sg g ok S K H H' σ ρ o v x) {i : Nat} (hi : i ∈ sg.own) (hs : sg.ist ≠ some i) :
    ∃ a, x = .ref a ∧ H a = none ∧ Rst sg g (mns ok a) S K H' (σ.set i (some x)) (ρ.set i (some v)) o := by
  obtain ⟨a, rfl, hn, h0, hS, r, ct, ne⟩ := f
  refine ⟨a, rfl, hn, ?_⟩
  have old : ∀ (j : Nat) d', (ρ.set i (some v))[j]? = some (some d') → (j = i ∧ d' = v ∧ i < ρ.length) ∨ (j ≠ i ∧ ρ[j]? = some (some d')) := fun j d' e => by
    by_cases hj : i = j
    · subst hj
      by_cases hl : i < ρ.length
      · rw [List.getElem?_set_self hl] at e
        injection e with e; injection e with e
        exact .inl ⟨rfl, e.symm, hl⟩
      · rw [List.getElem?_eq_none (by simp; omega)] at e
        cases e
    · rw [List.getElem?_set_ne hj] at e
      exact .inr ⟨Ne.symm hj, e⟩
  have at_ : ∀ (j : Nat), j ≠ i → (σ.set i (some (V.ref a)))[j]? = σ[j]? := fun j hj => List.getElem?_set_ne (Ne.symm hj)
  exact {
    len := by simpa using r.len
    pl := fun j d' e n => by
      rcases old j d' e with ⟨rfl, _⟩ | ⟨hj, e'⟩
      · exact absurd hi n
      · rw [at_ j hj]; exact r.pl j d' e' n
    ow := fun j d' e n => by
      rcases old j d' e with ⟨rfl, rfl, hl⟩ | ⟨hj, e'⟩
      · exact ⟨a, List.getElem?_set_self (by rw [r.len]; exact hl), fun z => z.2 rfl, hS, h0, ct⟩
      · rw [at_ j hj]; exact r.ow j d' e' n
    inj := fun j k b d1 d2 hj hk h1 h2 h3 h4 => by
      rcases old j d1 h1 with ⟨rfl, rfl, hl⟩ | ⟨nj, e1⟩ <;> rcases old k d2 h2 with ⟨rfl, rfl, hl'⟩ | ⟨nk, e2⟩
      · rfl
      · rw [List.getElem?_set_self (by rw [r.len]; exact hl)] at h3
        injection h3 with h3; injection h3 with h3; injection h3 with h3
        rw [at_ k nk, ← h3] at h4
        exact absurd h4 (ne k d2 hk e2)
      · rw [List.getElem?_set_self (by rw [r.len]; exact hl')] at h4
        injection h4 with h4; injection h4 with h4; injection h4 with h4
        rw [at_ j nj, ← h4] at h3
        exact absurd h3 (ne j d1 hj e1)
      · rw [at_ j nj] at h3; rw [at_ k nk] at h4
        exact r.inj j k b d1 d2 hj hk e1 e2 h3 h4
    fr := r.fr
    sub := r.sub
    h0 := r.h0
    chg := r.chg
    trk := r.trk
    orc := r.orc
    sS := r.sS
    ist := fun j hj s c l e => by
      rw [at_ j (fun z => hs (by rw [← z]; exact hj))]
      exact r.ist j hj s c l e }
theorem Sx.minus (s : Sx ok H ok' H') {a : Addr} (n : H a = none) : Sx ok H (mns ok' a) H' := ⟨s.stp, fun b u q e t => ⟨s.mono b u q e t, ne_of_none e n⟩⟩
end

section
variable {X : Cx} {sg : Sta} {g : Gh} {W : WX} {st : Stmt} {rest : List Stmt} {a b d : DS} {e e2 : Expr} {d1 d2 : DE} {c1 : DT} {w w1 p p1 p2 f f1 f2 : Bool} {pos : Pos}
theorem ss_nil : PSs X [] (tS X.K X.mg sg W dPass) := PSs.imp pss_nil fun D σ H ⟨g, ρ, o, S, ok, r, q⟩ => q _ _ _ _ r .refl
theorem ss_cons (h1 : PS X st (tS X.K X.mg sg W a)) (h2 : PSs X rest (tS X.K X.mg sg W b)) : PSs X (st :: rest) (tS X.K X.mg sg W (dSeq a b)) := by
  refine PSs.imp (pss_cons h1 h2) fun D σ H ⟨g, ρ, o, S, ok, r, q⟩ => ⟨g, ρ, o, S, ok, r, ?_⟩
  unfold dSeq at q
  cases e1 : a ρ o with
  | bad => rw [e1] at q; exact q
  | ex c ρ1 o1 => rw [e1] at q; exact q
  | ok v ρ1 o1 =>
    rw [e1] at q
    cases v with
    | nx => exact fun σ' H' S' ok' r1 s1 => tS.of r1 (q.imp s1 (fun _ _ h => h) (fun _ _ h => h) (fun _ _ h => h) fun _ _ h => h)
    | brk => exact q
    | ct => exact q
    | ret x => exact q
theorem ss_one (h1 : PS X st (tS X.K X.mg sg W a)) : PSs X [st] (tS X.K X.mg sg W a) := pss_one h1
theorem s_no : PS X st (tS X.K X.mg sg W dNo) := PS.imp ps_never fun _ _ _ ⟨_, _, _, _, _, _, q⟩ => q
theorem s_pass : PS X (.Pass pos) (tS X.K X.mg sg W dPass) := PS.imp ps_pass fun D σ H ⟨g, ρ, o, S, ok, r, q⟩ => q _ _ _ _ r .refl
theorem s_brk : PS X (.Break pos) (tS X.K X.mg sg W dBrk) := PS.imp ps_break fun D σ H ⟨g, ρ, o, S, ok, r, q⟩ => q _ _ _ _ r .refl
theorem s_ct : PS X (.Continue pos) (tS X.K X.mg sg W dCt) := PS.imp ps_continue fun D σ H ⟨g, ρ, o, S, ok, r, q⟩ => q _ _ _ _ r .refl
theorem s_retN : PS X (.Return none pos) (tS X.K X.mg sg W dRetN) := PS.imp ps_retN fun D σ H ⟨g, ρ, o, S, ok, r, q⟩ => q _ _ _ _ _ r .non
/-- an exception on the way -/
theorem Out.ex1 {ok : Addr → Prop} {S : Sad} {H : Hp} {σ : Sl} {ρ ρ1 : Env} {o o1 : Orc} {D : Ends} {c : Exn} {Q : VK} (r : Rst sg g ok S X.K H σ ρ o) (e1 : d1 ρ o = .ex c ρ1 o1) (q : Out X.K X.mg sg g W ok H D (.ex c ρ1 o1)) : tE X.K X.mg sg W w p f d1 σ H Q :=
  tE.of_ex r e1 fun cls dd H' ok' n x => q cls dd σ H' S ok' n.st x
theorem s_asg {i : Nat} {x : Str} {p' : Pos} (hN : X.N.Nodup) (hi : X.N[i]? = some x) (hx : Loc X.env.scope x) (ho : i ∉ sg.own) (hst : sg.ist ≠ some i) (he : PE X e (tE X.K X.mg sg W false p f d1)) (hs : swapsWith e (some (.Name x p')) pos.line X.env = pure false := by rfl)
    (hf : X.fn x = true ∨ X.env.scope.names.lookup x = some .local := by first | exact .inl rfl | exact .inr rfl | assumption) : PS X (.Assign [.Name x p'] e pos) (tS X.K X.mg sg W (dAsg i d1)) := by
  refine PS.imp (ps_set hN hi hx he hs hf) fun D σ H ⟨g, ρ, o, S, ok, r, q⟩ => ?_
  unfold dAsg at q
  show tE X.K X.mg sg W false p f d1 σ H _
  cases e1 : d1 ρ o with
  | bad => rw [e1] at q; exact q.elim
  | ex c ρ1 o1 => rw [e1] at q; exact Out.ex1 r e1 q
  | ok v ρ1 o1 =>
    rw [e1] at q
    exact tE.of_ok r e1 fun y H1 ok1 n1 r1 _ => q _ _ S ok1 (Rst.set n1.st r1 ho hst) (n1.sx r)
theorem s_own {i : Nat} {x : Str} {p' : Pos} (hN : X.N.Nodup) (hi : X.N[i]? = some x) (hx : Loc X.env.scope x) (ho : i ∈ sg.own) (hst : sg.ist ≠ some i) (he : PE X e (tE X.K X.mg sg W w p true d1)) (hs : swapsWith e (some (.Name x p')) pos.line X.env = pure false := by rfl)
    (hf : X.fn x = true ∨ X.env.scope.names.lookup x = some .local := by first | exact .inl rfl | exact .inr rfl | assumption) : PS X (.Assign [.Name x p'] e pos) (tS X.K X.mg sg W (dAsgC i d1)) := by
  refine PS.imp (ps_set hN hi hx he hs hf) fun D σ H ⟨g, ρ, o, S, ok, r, q⟩ => ?_
  unfold dAsgC at q
  show tE X.K X.mg sg W w p true d1 σ H _
  cases e1 : d1 ρ o with
  | bad => rw [e1] at q; exact q.elim
  | ex c ρ1 o1 => rw [e1] at q; exact Out.ex1 r e1 q
  | ok v ρ1 o1 =>
    rw [e1] at q
    refine tE.of_ok r e1 fun y H1 ok1 n1 r1 fr => ?_
    simp only [Res.bind] at q
    by_cases hc : isC v = true
    · rw [if_pos hc] at q
      obtain ⟨a, rfl, hn, r2⟩ := Fresh.set (fr rfl hc) ho hst
      exact q _ _ S _ r2 ((n1.sx r).minus hn)
    · rw [if_neg hc] at q; exact q.elim
theorem s_drop (he : PE X e (tE X.K X.mg sg W w p f d1)) (hs : swapsWith e none pos.line X.env = pure false := by rfl) : PS X (.Expr e pos) (tS X.K X.mg sg W (dDrop d1)) := by
  refine PS.imp (ps_expr he hs) fun D σ H ⟨g, ρ, o, S, ok, r, q⟩ => ?_
  unfold dDrop at q
  show tE X.K X.mg sg W w p f d1 σ H _
  cases e1 : d1 ρ o with
  | bad => rw [e1] at q; exact q.elim
  | ex c ρ1 o1 => rw [e1] at q; exact Out.ex1 r e1 q
  | ok v ρ1 o1 =>
    rw [e1] at q
    exact tE.of_ok r e1 fun y H1 ok1 n1 r1 _ => q _ _ S ok1 n1.st (n1.sx r)
theorem s_ret (he : PE X e (tE X.K X.mg sg W false p f d1)) : PS X (.Return (some e) pos) (tS X.K X.mg sg W (dRet d1)) := by
  refine PS.imp (ps_ret he) fun D σ H ⟨g, ρ, o, S, ok, r, q⟩ => ?_
  unfold dRet at q
  show tE X.K X.mg sg W false p f d1 σ H _
  cases e1 : d1 ρ o with
  | bad => rw [e1] at q; exact q.elim
  | ex c ρ1 o1 => rw [e1] at q; exact Out.ex1 r e1 q
  | ok v ρ1 o1 =>
    rw [e1] at q
    refine tE.of_ok r e1 fun y H1 ok1 n1 r1 _ => q _ _ _ S ok1 n1.st ?_
    have r1' : Rp ok1 X.K H1 v y := r1
    exact r1'.step (fun b h => (n1.st.sub b h).1) .refl
theorem s_if {c : Expr} {sa sb : List Stmt} (hc : PT X c (tT X.K X.mg sg W p c1)) (ha : PSs X sa (tS X.K X.mg sg W a)) (hb : PSs X sb (tS X.K X.mg sg W b)) : PS X (.If c sa sb pos) (tS X.K X.mg sg W (dIfS c1 a b)) := by
  refine PS.imp (ps_if hc ha hb) fun D σ H ⟨g, ρ, o, S, ok, r, q⟩ => ?_
  unfold dIfS at q
  show tT X.K X.mg sg W p c1 σ H _
  cases e1 : c1 ρ o with
  | bad => rw [e1] at q; exact q.elim
  | ex c ρ1 o1 => rw [e1] at q; exact tT.of_ex r e1 fun cls dd H' ok' n x => q cls dd σ H' S ok' n.st x
  | ok v ρ1 o1 =>
    rw [e1] at q
    refine tT.of_ok r e1 fun H1 ok1 n1 => ?_
    simp only [Res.bind] at q
    cases v with
    | true =>
      simp only [if_true] at q ⊢
      exact tS.of n1.st (q.imp (n1.sx r) (fun _ _ h => h) (fun _ _ h => h) (fun _ _ h => h) fun _ _ h => h)
    | false =>
      simp only [Bool.false_eq_true, if_false] at q ⊢
      exact tS.of n1.st (q.imp (n1.sx r) (fun _ _ h => h) (fun _ _ h => h) (fun _ _ h => h) fun _ _ h => h)
end
end FL
namespace FL
open PySem PySem.Spec PyProof.Rows L2

structure Chg (S : Sad) (H H' : Hp) : Prop where
  keep : ∀ a u, H a = some u → ¬ inS S a → (∀ ps, u ≠ .tbl ps) → H' a = some u
  trk : ∀ a u, H a = some u → ∃ u', H' a = some u'
section
variable {sg : Sta} {g : Gh} {ok ok' ok1 ok2 okT : Addr → Prop} {S S1 : Sad} {K : PySem.W.Frag} {H H' H1 H2 : Hp} {σ σ1 : Sl} {ρ ρ' ρ1 ρ2 : Env} {o o' o1 o2 : Orc}
theorem Chg.refl : Chg S H H := ⟨fun _ _ h _ _ => h, fun _ u h => ⟨u, h⟩⟩
theorem Grow.chg (h : Grow H H') : Chg S H H' := ⟨fun a u e _ _ => h a u e, fun a u e => ⟨u, h a u e⟩⟩
theorem Chg.trans (a : Chg S H H1) (b : Chg S H1 H2) : Chg S H H2 := ⟨fun c u e n t => b.keep c u (a.keep c u e n t) n t, fun c u e => let ⟨u', q⟩ := a.trk c u e; b.trk c u' q⟩
theorem Chg.back (h : Chg S H H') {a : Addr} (n : H' a = none) : H a = none := by
  cases q : H a with
  | none => rfl
  | some u =>
    obtain ⟨u', e⟩ := h.trk a u q
    rw [n] at e; cases e
theorem imm_ns (r : ROrc H o S) {a : Addr} {u : HO} (e : H a = some u) (m : imm u) : ¬ inS S a ∧ ∀ ps, u ≠ .tbl ps := by
  refine ⟨fun z => ?_, fun ps z => by rw [z] at m; exact m⟩
  obtain ⟨v, e1, e2⟩ := r.there z
  rw [e] at e1; cases e1
  exact e2 m
theorem Chg.stp (h : Chg S H H') (r : ROrc H o S) (m : ∀ a, ok a → ¬ inS S a) : Stp ok H H' := fun a u e q => by
  rcases q with ⟨q, t⟩ | q
  · exact h.keep a u e (m a q) t
  · obtain ⟨h1, h2⟩ := imm_ns r e q
    exact h.keep a u e h1 h2
theorem Rst.through (r : Rst sg g ok S K H σ ρ o) (h : Chg S H H') (ro : ROrc H' o' S) : Rst sg g ok S K H' σ ρ o' where
  len := r.len
  pl := fun i d e n => let ⟨x, e1, e2⟩ := r.pl i d e n; ⟨x, e1, e2.step (fun _ z => z) (h.stp r.orc fun a q => (r.sub a q).2)⟩
  ow := fun i d e n => by
    obtain ⟨a, e1, w⟩ := r.ow i d e n
    obtain ⟨u, hu, nu⟩ := w.ct.there
    refine ⟨a, e1, w.nok, w.nS, w.new, w.ct.step (fun _ _ z _ _ => z) (h.stp r.orc fun a q => (r.sub a q).2) fun v hv => h.keep a v hv w.nS ?_⟩
    intro ps z
    rw [z] at hv
    have q := w.ct
    cases d <;> simp only [CtA] at q
    · obtain ⟨xs, q, _⟩ := q; rw [hv] at q; cases q
    · rcases q with ⟨kvs, q, _⟩ | ⟨kvs, q, _⟩ <;> rw [hv] at q <;> cases q
  inj := r.inj
  fr := fun a e => r.fr a (h.back e)
  sub := r.sub
  h0 := r.h0
  chg := fun a u e n t => by
    refine h.keep a u (r.chg a u e n t) (fun z => ?_) t
    rcases r.sS with q | ⟨_, t, q⟩
    · rw [q] at z; exact n z
    · rcases z with z | z
      · rw [q a z] at e; cases e
      · exact n (.inr (by rw [← t]; exact z))
  trk := fun a u e => let ⟨u', q⟩ := r.trk a u e; h.trk a u' q
  orc := ro
  sS := r.sS
  ist := r.ist
theorem Nx.through {p : Bool} (r : Rst sg g ok S K H σ ρ o) (h : Chg S H H') (ro : ROrc H' o' S) : Nx p sg g ok S K H σ ρ ρ o' H' ok :=
  ⟨r.through h ro, fun _ z => z, fun _ z => .inl z, fun i d _ e => ⟨d, e⟩, h.trk, fun a u e n t _ => h.keep a u e n t⟩
end

/-- the walk J yields vs in turn, as long as what stands at q's addresses stays -/
structure Wlk (q : Addr → Prop) (K : PySem.W.Frag) (J : It) (vs : List PyData) (ok : Addr → Prop) (H : Hp) : Prop where
  item : ∀ ok' H', Sx ok H ok' H' → Stp q H H' → (∀ a, H' a = none → ok' a) → ∀ (i : Nat) d, vs[i]? = some d → J.go i H' ∧ ∀ x H2, J.yld i H' x H2 → Grow H' H2 ∧ Rp ok' K H2 d x
  stop : ∀ ok' H', Sx ok H ok' H' → Stp q H H' → J.stop vs.length H'
def tI (K : PySem.W.Frag) (mg : Str → Option Value) (sg : Sta) (W : WX) (w p : Bool) (d : DA) : TI := fun σ H R => ∃ g ρ o S ok, Rst sg g ok S K H σ ρ o ∧
  match d ρ o with
  | .ok vs ρ' o' => ∀ J H' ok', Nx p sg g ok S K H σ ρ ρ' o' H' ok' → Wlk (if w = true then okw g S else ok') K J vs ok' H' → R J H'
  | .ex c ρ' o' => ∀ cls dd H' ok', Nx false sg g ok S K H σ ρ ρ' o' H' ok' → ExR mg ok' K H' c cls dd → W cls dd σ H'
  | .bad => False
theorem PI.imp {X : Cx} {tg e : Expr} {t t' : TI} (h : PI X tg e t) (i : ∀ σ H Q, t' σ H Q → t σ H Q) : PI X tg e t' := ⟨fun pins s σ H Q I q => h.run pins s σ H Q I (i σ H Q q)⟩

/-- a list or a tuple, walked -/
theorem pi_seq {X : Cx} {tg l : Expr} {tl : TE} (hl : PE X l tl) : PI X tg l (fun σ H R => tl σ H fun x H1 => ∃ a, x = .ref a ∧ (((∃ xs, SqL X.K H1 a xs) ∧ R (Itl X.K a) H1) ∨ ((∃ xs, SqT X.K H1 a xs) ∧ R (Itt X.K a) H1))) := by
  refine ⟨fun pins s σ H R I h => thn (hl.run pins s σ H _ I h) fun v s1 ⟨x, H1, I1, r1, q1⟩ => ?_⟩
  have new : ∀ (ob : Obj), ∀ b ∈ [s1.heap.objs.size], FpOk X pins H1 b := fun ob b hb => by
    obtain rfl : b = s1.heap.objs.size := by simpa using hb
    exact I1.fpOk (Nat.le_refl _) (I1.hok.fresh (Nat.le_refl _))
  have keep : ∀ (ob : Obj), Inv X pins σ H1 { s1 with heap := s1.heap.push ob } := fun ob => I1.kept (t' := s1.toks) fun b o e => Heap.get?_push_of_some _ e
  obtain ⟨a, rfl, ⟨⟨xs, hq⟩, q⟩ | ⟨⟨xs, hq⟩, q⟩⟩ := q1
  · cases r1
    obtain ⟨its, rv, p, hz⟩ := I1.list hq
    exact wpAny_pyIter_list p.isList ⟨s1.heap.objs.size, [s1.heap.objs.size], _, _, H1, rfl, keep _, turn_list a _, ⟨_, Heap.get?_push_size _ rfl, rfl, rfl⟩, new { cls := .none, data := .fields #[] }, q⟩
  · cases r1
    obtain ⟨its, rv, p, hz⟩ := I1.tuple hq
    exact wpAny_pyIter_tuple (show s1.heap.IsTuple a its.toArray from p) ⟨s1.heap.objs.size, [s1.heap.objs.size], _, _, H1, rfl, keep _, turn_tuple a _, ⟨_, Heap.get?_push_size _ rfl, rfl, rfl⟩, new { cls := .none, data := .fields #[] }, q⟩

def itemsD : PyData → Option (List PyData)
  | .list xs => some xs
  | .tuple xs => some xs
  | _ => none
def dItems (d : DE) : DA := fun ρ o => (d ρ o).bind fun v ρ1 o1 => .ofO (itemsD v) ρ1 o1
section
variable {K : PySem.W.Frag} {ok okT : Addr → Prop} {H : Hp}
/-- the items of a list or tuple -/
theorem RpT.items {v : PyData} {x : V} {vs : List PyData} (r : RpT okT ok K H v x) (e : itemsD v = some vs) : ∃ a xs, x = .ref a ∧ Rps ok K H vs xs ∧ ((okT a ∧ Rd H a (.lst xs)) ∨ SqT K H a xs) := by
  cases v with
  | list ds =>
    cases e
    obtain ⟨a, xs, e, q, h, r⟩ := r
    exact ⟨a, xs, e, r, .inl ⟨q, h⟩⟩
  | tuple ds =>
    cases e
    have r' : Rp ok K H (.tuple vs) x := r
    cases r' with
    | tup h r1 => exact ⟨_, _, rfl, r1, .inr h.sq⟩
  | none => cases e
  | bool b => cases e
  | int i => cases e
  | str x => cases e
  | dict ps => cases e
theorem Wlk.list {q : Addr → Prop} {a : Addr} {xs : List V} {vs : List PyData} (hq : q a) (h : Rd H a (.lst xs)) (r : Rps ok K H vs xs) : Wlk q K (Itl K a) vs ok H where
  item := fun ok' H' s st fr i d e => by
    have r1 := r.step0 s.mono s.stp
    have h1 : Rd H' a (.lst xs) := Rd.stp h hq st
    obtain ⟨x, ex, rx⟩ := r1.get e
    refine ⟨⟨xs, x, .inl h1, ex⟩, fun y H2 ⟨e2, hy⟩ => ?_⟩
    subst e2
    have := hy xs (.inl h1)
    rw [ex] at this; cases this
    exact ⟨.refl, rx⟩
  stop := fun ok' H' s st => ⟨xs, .inl (Rd.stp h hq st), by rw [r.length]; exact Nat.le_refl _⟩
theorem Wlk.tup {q : Addr → Prop} {a : Addr} {xs : List V} {vs : List PyData} (h : SqT K H a xs) (r : Rps ok K H vs xs) : Wlk q K (Itt K a) vs ok H where
  item := fun ok' H' s st fr i d e => by
    have r1 := r.step0 s.mono s.stp
    have h1 : SqT K H' a xs := SqT.stp h s.stp
    obtain ⟨x, ex, rx⟩ := r1.get e
    refine ⟨⟨xs, x, h1, ex⟩, fun y H2 ⟨e2, hy⟩ => ?_⟩
    subst e2
    have := hy xs h1
    rw [ex] at this; cases this
    exact ⟨.refl, rx⟩
  stop := fun ok' H' s st => ⟨xs, SqT.stp h s.stp, by rw [r.length]; exact Nat.le_refl _⟩
/-- whole numbers in a row -/
theorem Wlk.range {q : Addr → Prop} {lo : Int} {n : Nat} : Wlk q K (Itr lo n) ((List.range n).map fun (i : Nat) => .int (lo + i)) ok H where
  item := fun ok' H' s st fr i d e => by
    have hi : i < n := by
      have := (List.getElem?_eq_some_iff.mp e).1
      simpa using this
    refine ⟨hi, fun y H2 ⟨e2, hy⟩ => ?_⟩
    subst e2 hy
    rw [List.getElem?_map, List.getElem?_range hi] at e
    cases e
    exact ⟨.refl, .int _⟩
  stop := fun ok' H' s st => by show n ≤ _; simp
end
section
variable {X : Cx} {sg : Sta} {W : WX} {tg e a b c : Expr} {es : List Expr} {d d1 d2 : DE} {ds : DA} {w p f : Bool} {pos p' : Pos}
theorem i_seq (h : PE X e (tE X.K X.mg sg W w p f d)) : PI X tg e (tI X.K X.mg sg W w p (dItems d)) := by
  refine PI.imp (pi_seq h) fun σ H R ⟨g, ρ, o, S, ok, r, q⟩ => ?_
  unfold dItems at q
  cases e1 : d ρ o with
  | bad => rw [e1] at q; exact q.elim
  | ex c ρ1 o1 => rw [e1] at q; exact tE.of_ex r e1 q
  | ok v ρ1 o1 =>
    rw [e1] at q
    refine tE.of_ok r e1 fun x H1 ok1 n1 r1 _ => ?_
    simp only [Res.bind] at q
    cases e2 : itemsD v with
    | none => rw [e2] at q; exact q.elim
    | some vs =>
      rw [e2] at q
      have r2 : RpT (if w = true then okw g S else ok1) ok1 X.K H1 v x := by
        cases w with
        | true => exact r1
        | false => exact Rp.toT (fun _ h => h) r1
      obtain ⟨a, xs, rfl, rs, ⟨hq, hr⟩ | ht⟩ := r2.items e2
      · exact ⟨a, rfl, .inl ⟨⟨xs, .inl hr⟩, q _ _ _ n1 (Wlk.list hq hr rs)⟩⟩
      · exact ⟨a, rfl, .inr ⟨⟨xs, ht⟩, q _ _ _ n1 (Wlk.tup ht rs)⟩⟩
end
end FL
namespace FL
open PySem PySem.Spec PyProof.Rows L2

abbrev DG := PyData → Env → Option Env
abbrev DGs := List PyData → Env → Option Env
def tG (K : PySem.W.Frag) (sg : Sta) (ts : List Nat) (τ : DG) : TG := fun x σ H Q => ∃ g v ρ o S ok, Rst sg g ok S K H σ ρ o ∧ Rp ok K H v x ∧ ∃ ρ', τ v ρ = some ρ' ∧
  ∀ σ', Rst sg g ok S K H σ' ρ' o → σ'.length = σ.length → (∀ (i : Nat), i ∉ ts → σ'[i]? = σ[i]?) → Q σ' H
def tGs (K : PySem.W.Frag) (sg : Sta) (ts : List Nat) (τ : DGs) : TGs := fun xs σ H Q => ∃ g vs ρ o S ok, Rst sg g ok S K H σ ρ o ∧ Rps ok K H vs xs ∧ ∃ ρ', τ vs ρ = some ρ' ∧
  ∀ σ', Rst sg g ok S K H σ' ρ' o → σ'.length = σ.length → (∀ (i : Nat), i ∉ ts → σ'[i]? = σ[i]?) → Q σ' H
def gName (i : Nat) : DG := fun v ρ => some (ρ.set i (some v))
def gNil : DGs := fun vs ρ => match vs with
  | [] => some ρ
  | _ => none
def gCons (t : DG) (u : DGs) : DGs := fun vs ρ => match vs with
  | v :: r => (t v ρ).bind fun ρ1 => u r ρ1
  | [] => none
def tupD : PyData → Option (List PyData)
  | .tuple vs => some vs
  | _ => none
def gTup (n : Nat) (u : DGs) : DG := fun v ρ => (tupD v).bind fun vs => if vs.length = n then u vs ρ else none

theorem PG.imp {X : Cx} {e : Expr} {t t' : TG} (h : PG X e t) (i : ∀ x σ H Q, t' x σ H Q → t x σ H Q) : PG X e t' := ⟨fun pins s σ H v u Q I r q => h.run pins s σ H v u Q I r (i v σ H Q q)⟩
theorem PGs.imp {X : Cx} {e : List Expr} {t t' : TGs} (h : PGs X e t) (i : ∀ x σ H Q, t' x σ H Q → t x σ H Q) : PGs X e t' := ⟨fun pins s σ H v u Q I r q => h.run pins s σ H v u Q I r (i v σ H Q q)⟩
section
variable {X : Cx} {sg : Sta} {e : Expr} {es : List Expr} {τ : DG} {τs : DGs} {ts us : List Nat} {pos : Pos}
theorem g_name {i : Nat} {x : Str} (hN : X.N.Nodup) (hi : X.N[i]? = some x) (hx : Loc X.env.scope x) (ho : i ∉ sg.own) (hst : sg.ist ≠ some i) (hf : X.fn x = true ∨ X.env.scope.names.lookup x = some .local := by first | exact .inl rfl | exact .inr rfl | assumption) :
    PG X (.Name x pos) (tG X.K sg [i] (gName i)) := by
  refine PG.imp (pg_name hN hi hx hf) fun x σ H Q ⟨g, v, ρ, o, S, ok, r, rv, ρ', e, q⟩ => ?_
  cases e
  exact q _ (Rst.set r rv ho hst) (by simp) fun j hj => List.getElem?_set_ne (by rintro rfl; exact hj (by simp))
theorem gs_nil : PGs X [] (tGs X.K sg [] gNil) := by
  refine PGs.imp pgs_nil fun xs σ H Q ⟨g, vs, ρ, o, S, ok, r, rv, ρ', e, q⟩ => ?_
  cases rv with
  | nil => cases e; exact ⟨rfl, q _ r rfl fun _ _ => rfl⟩
  | cons _ _ => cases e
theorem gs_cons (h1 : PG X e (tG X.K sg ts τ)) (h2 : PGs X es (tGs X.K sg us τs)) (hs : (assignEach (e :: es) X.env).map (·.2) = assign e X.env :: (assignEach es X.env).map (·.2) := by rfl) :
    PGs X (e :: es) (tGs X.K sg (ts ++ us) (gCons τ τs)) := by
  refine PGs.imp (pgs_cons h1 h2 hs) fun xs σ H Q ⟨g, vs, ρ, o, S, ok, r, rv, ρ', e, q⟩ => ?_
  cases rv with
  | nil => cases e
  | @cons d ds x xs h t =>
    simp only [gCons] at e
    cases e1 : τ d ρ with
    | none => rw [e1] at e; cases e
    | some ρ1 =>
      rw [e1] at e
      refine ⟨x, xs, rfl, g, d, ρ, o, S, ok, r, h, ρ1, e1, fun σ1 r1 l1 k1 => ⟨g, ds, ρ1, o, S, ok, r1, t, ρ', e, fun σ2 r2 l2 k2 => q σ2 r2 (l2.trans l1) fun i hi => ?_⟩⟩
      rw [List.mem_append, not_or] at hi
      rw [k2 i hi.2, k1 i hi.1]
theorem g_tup {k n : Nat} (hc : X.calm = true) (h : PGs X es (tGs X.K sg ts τs)) (hn : (assignEach es X.env).length = n := by rfl) (hst : (assignEach es X.env).findIdx? (·.1) = none := by rfl) :
    PG X (.Tuple es k pos) (tG X.K sg ts (gTup n τs)) := by
  refine PG.imp (pg_tup hc h hn hst) fun x σ H Q ⟨g, v, ρ, o, S, ok, r, rv, ρ', e, q⟩ => ?_
  unfold gTup at e
  cases e1 : tupD v with
  | none => rw [e1] at e; cases e
  | some vs =>
    rw [e1] at e
    obtain rfl : v = .tuple vs := by
      unfold tupD at e1
      split at e1
      · cases e1; rfl
      · cases e1
    simp only [Option.bind] at e
    by_cases hl : vs.length = n
    · rw [if_pos hl] at e
      cases rv with
      | @tup a xs _ hs rs => exact ⟨a, xs, rfl, hs.sq, by rw [← rs.length]; exact hl, g, vs, ρ, o, S, ok, r, rs, ρ', e, q⟩
    · rw [if_neg hl] at e; cases e
end

def loopF (τ : DG) (body : DS) : List PyData → DS
  | [] => fun ρ o => .ok .nx ρ o
  | v :: vs => fun ρ o => match τ v ρ with
    | none => .bad
    | some ρ1 => (body ρ1 o).bind fun fl ρ2 o2 => match fl with
      | .nx => loopF τ body vs ρ2 o2
      | .ct => loopF τ body vs ρ2 o2
      | .brk => .ok .nx ρ2 o2
      | .ret v => .ok (.ret v) ρ2 o2
def dFor (it : DA) (τ : DG) (body : DS) : DS := fun ρ o => (it ρ o).bind fun vs ρ1 o1 => loopF τ body vs ρ1 o1
def loopW (c : DT) (body : DS) : Nat → DS
  | 0 => fun _ _ => .bad
  | n + 1 => fun ρ o => (c ρ o).bind fun b ρ1 o1 => if b = true then (body ρ1 o1).bind fun fl ρ2 o2 => (match fl with
      | .nx => loopW c body n ρ2 o2
      | .ct => loopW c body n ρ2 o2
      | .brk => .ok .nx ρ2 o2
      | .ret v => .ok (.ret v) ρ2 o2) else .ok .nx ρ1 o1
/-- the turns that a while may make -/
def fuelW : Nat := 1000000
def dWhile (c : DT) (body : DS) : DS := loopW c body fuelW
section
variable {X : Cx} {sg : Sta} {W : WX} {tg e c : Expr} {body : List Stmt} {d : DA} {τ : DG} {b : DS} {c1 : DT} {ts : List Nat} {w p : Bool} {pos : Pos}
theorem Nx.Sx {ok ok' : Addr → Prop} {S : Sad} {K : PySem.W.Frag} {H H' : Hp} {σ : Sl} {ρ ρ' : Env} {o o' : Orc} {g : Gh} {p : Bool} (n : Nx p sg g ok S K H σ ρ ρ' o' H' ok') (r : Rst sg g ok S K H σ ρ o) : Sx ok H ok' H' := ⟨n.stp r, fun a _ h _ _ => n.mono a h⟩
theorem s_for (hp : PassesOwn (model X.prog X.w) X.A X.env X.xe) (hc : X.calm = true) (hi : PI X tg e (tI X.K X.mg sg W false p d)) (hg : PG X tg (tG X.K sg ts τ)) (hb : PSs X body (tS X.K X.mg sg W b)) (hs : ∀ x, foldedSetIterable e X.env x = pure x := by intro _; rfl) :
    PS X (.For tg e body [] pos) (tS X.K X.mg sg W (dFor d τ b)) := by
  refine PS.imp (ps_for hp hc hi hg hb hs) fun D σ H ⟨g, ρ, o, S, ok, r, q⟩ => ?_
  unfold dFor at q
  show tI X.K X.mg sg W false p d σ H _
  refine ⟨g, ρ, o, S, ok, r, ?_⟩
  cases e1 : d ρ o with
  | bad => rw [e1] at q; exact q
  | ex c ρ1 o1 => rw [e1] at q; exact fun cls dd H' ok' n x => q cls dd σ H' S ok' n.st x
  | ok vs ρ1 o1 =>
    rw [e1] at q
    simp only [Res.bind] at q
    refine fun J H1 ok1 n1 wk => ?_
    have wk : Wlk ok1 X.K J vs ok1 H1 := wk
    refine ⟨fun i m σ' H' => m = vs.length - i ∧ i ≤ vs.length ∧ ∃ g' ρ' o' S' ok', Rst sg g' ok' S' X.K H' σ' ρ' o' ∧ Sx ok1 H1 ok' H' ∧ Out X.K X.mg sg g' W ok' H' D (loopF τ b (vs.drop i) ρ' o'),
      ⟨vs.length, by simp, Nat.zero_le _, g, ρ1, o1, S, ok1, n1.st, .refl, by rw [List.drop_zero]; exact q.imp (n1.Sx r) (fun _ _ h => h) (fun _ _ h => h) (fun _ _ h => h) fun _ _ h => h⟩, ?_⟩
    rintro i m σ' H' ⟨rfl, hi, g', ρ', o', S', ok', r', s', q'⟩
    by_cases hlt : i < vs.length
    · have hv : vs[i]? = some vs[i] := List.getElem?_eq_getElem hlt
      obtain ⟨go, yl⟩ := wk.item ok' H' s' s'.stp r'.fr i _ hv
      refine .inr ⟨go, fun σ'' H'' => ∃ m', m' < vs.length - i ∧ m' = vs.length - (i + 1) ∧ i + 1 ≤ vs.length ∧ ∃ g' ρ' o' S' ok', Rst sg g' ok' S' X.K H'' σ'' ρ' o' ∧ Sx ok1 H1 ok' H'' ∧ Out X.K X.mg sg g' W ok' H'' D (loopF τ b (vs.drop (i + 1)) ρ' o'),
        fun σ'' H'' ⟨m', h1, h2, h3⟩ => ⟨m', h1, h2, h3⟩, fun x H2 y => ?_⟩
      obtain ⟨gr, rx⟩ := yl x H2 y
      have ed : vs.drop i = vs[i] :: vs.drop (i + 1) := (List.drop_eq_getElem_cons hlt)
      rw [ed] at q'
      simp only [loopF] at q'
      cases e2 : τ vs[i] ρ' with
      | none => rw [e2] at q'; exact q'.elim
      | some ρ2 =>
        rw [e2] at q'
        refine ⟨g', vs[i], ρ', o', S', ok', r'.grow gr, rx, ρ2, e2, fun σ2 r2 _ _ => tS.of r2 ?_⟩
        have s2 : Sx ok' H' ok' H2 := ⟨gr.stp, fun _ _ h _ _ => h⟩
        simp only at q'
        cases e3 : b ρ2 o' with
        | bad => rw [e3] at q'; exact q'
        | ex c ρ3 o3 => rw [e3] at q'; exact q'
        | ok fl ρ3 o3 =>
          rw [e3] at q'
          have nxt : Out X.K X.mg sg g' W ok' H' D (loopF τ b (vs.drop (i + 1)) ρ3 o3) → ∀ σ3 H3 S3 ok3, Rst sg g' ok3 S3 X.K H3 σ3 ρ3 o3 → Sx ok' H2 ok3 H3 → ∃ m', m' < vs.length - i ∧ m' = vs.length - (i + 1) ∧ i + 1 ≤ vs.length ∧ ∃ g' ρ' o' S' ok', Rst sg g' ok' S' X.K H3 σ3 ρ' o' ∧ Sx ok1 H1 ok' H3 ∧ Out X.K X.mg sg g' W ok' H3 D (loopF τ b (vs.drop (i + 1)) ρ' o') := fun q3 σ3 H3 S3 ok3 r3 s3 =>
            ⟨_, by omega, rfl, hlt, g', ρ3, o3, S3, ok3, r3, s'.trans (s2.trans s3), q3.imp (s2.trans s3) (fun _ _ h => h) (fun _ _ h => h) (fun _ _ h => h) fun _ _ h => h⟩
          cases fl with
          | nx => exact nxt q'
          | ct => exact nxt q'
          | brk => exact fun σ3 H3 S3 ok3 r3 s3 => q' σ3 H3 S3 ok3 r3 (s2.trans s3)
          | ret v => exact q'
    · obtain rfl : i = vs.length := by omega
      refine .inl ⟨wk.stop ok' H' s' s'.stp, ?_⟩
      rw [List.drop_length] at q'
      exact q' σ' H' S' ok' r' .refl
theorem s_while (hp : PassesOwn (model X.prog X.w) X.A X.env X.xe) (hc : PT X c (tT X.K X.mg sg W p c1)) (hb : PSs X body (tS X.K X.mg sg W b)) : PS X (.While c body [] pos) (tS X.K X.mg sg W (dWhile c1 b)) := by
  refine PS.imp (ps_while hp hc hb) fun D σ H ⟨g, ρ, o, S, ok, r, q⟩ => ?_
  unfold dWhile at q
  generalize fuelW = F at q
  refine ⟨fun m σ' H' => ∃ g' ρ' o' S' ok', Rst sg g' ok' S' X.K H' σ' ρ' o' ∧ Out X.K X.mg sg g' W ok' H' D (loopW c1 b m ρ' o'), ⟨F, g, ρ, o, S, ok, r, q⟩, ?_⟩
  rintro m σ1 H1 ⟨g1, ρ1, o1, S1, ok1, r1, q1⟩
  cases m with
  | zero => exact q1.elim
  | succ m =>
    simp only [loopW] at q1
    show tT X.K X.mg sg W p c1 σ1 H1 _
    cases e1 : c1 ρ1 o1 with
    | bad => rw [e1] at q1; exact q1.elim
    | ex c ρ2 o2 => rw [e1] at q1; exact tT.of_ex r1 e1 fun cls dd H' ok' n x => q1 cls dd σ1 H' S1 ok' n.st x
    | ok v ρ2 o2 =>
      rw [e1] at q1
      refine tT.of_ok r1 e1 fun H2 ok2 n2 => ?_
      simp only [Res.bind] at q1
      cases v with
      | false =>
        simp only [Bool.false_eq_true, if_false] at q1 ⊢
        exact q1 σ1 H2 S1 ok2 n2.st (n2.Sx r1)
      | true =>
        simp only [if_true] at q1 ⊢
        refine ⟨fun σ' H' => ∃ g' ρ' o' S' ok', Rst sg g' ok' S' X.K H' σ' ρ' o' ∧ Out X.K X.mg sg g' W ok' H' D (loopW c1 b m ρ' o'), fun σ' H' h => ⟨m, Nat.lt_succ_self m, h⟩, tS.of n2.st ?_⟩
        cases e3 : b ρ2 o2 with
        | bad => rw [e3] at q1; exact q1
        | ex c ρ3 o3 => rw [e3] at q1; exact q1
        | ok fl ρ3 o3 =>
          rw [e3] at q1
          have s2 := n2.Sx r1
          cases fl with
          | nx => exact fun σ3 H3 S3 ok3 r3 s3 => ⟨g1, ρ3, o3, S3, ok3, r3, q1.imp (s2.trans s3) (fun _ _ h => h) (fun _ _ h => h) (fun _ _ h => h) fun _ _ h => h⟩
          | ct => exact fun σ3 H3 S3 ok3 r3 s3 => ⟨g1, ρ3, o3, S3, ok3, r3, q1.imp (s2.trans s3) (fun _ _ h => h) (fun _ _ h => h) (fun _ _ h => h) fun _ _ h => h⟩
          | brk => exact fun σ3 H3 S3 ok3 r3 s3 => q1 σ3 H3 S3 ok3 r3 (s2.trans s3)
          | ret v => exact q1
end
end FL
namespace FL
open PySem PySem.Spec PyProof.Rows L2

mutual
/-- no list, no dict within -/
def flat : PyData → Bool
  | .list _ => false
  | .dict _ => false
  | .tuple xs => flats xs
  | _ => true
def flats : List PyData → Bool
  | [] => true
  | x :: xs => flat x && flats xs
end
section
variable {ok ok' : Addr → Prop} {K : PySem.W.Frag} {H H' : Hp}
mutual
theorem Rp.flat : ∀ {d : PyData} {v : V}, flat d = true → Rp ok K H d v → Rp ok' K H d v
  | _, _, _, .non => .non
  | _, _, _, .bl b => .bl b
  | _, _, _, .int i => .int i
  | _, _, _, .str x => .str x
  | _, _, e, .tup h r => .tup h (Rps.flat (by simpa [FL.flat] using e) r)
  | _, _, e, .lst q h r => by simp [FL.flat] at e
  | _, _, e, .dk q h r => by simp [FL.flat] at e
  | _, _, e, .dt q h r => by simp [FL.flat] at e
theorem Rps.flat : ∀ {d : List PyData} {v : List V}, flats d = true → Rps ok K H d v → Rps ok' K H d v
  | _, _, _, .nil => .nil
  | _, _, e, .cons h r => by
    simp only [flats, Bool.and_eq_true] at e
    exact .cons (Rp.flat e.1 h) (Rps.flat e.2 r)
end
theorem flats_append : ∀ {xs ys : List PyData}, flats xs = true → flats ys = true → flats (xs ++ ys) = true
  | [], _, _, h => h
  | x :: xs, ys, h, k => by
    simp only [flats, Bool.and_eq_true, List.cons_append] at h ⊢
    exact ⟨h.1, flats_append h.2 k⟩
end

def wipeE (ρ : Env) : List Nat → Env
  | [] => ρ
  | v :: vs => (wipeE ρ vs).set v none
theorem wipeE_length (ρ : Env) : ∀ vs : List Nat, (wipeE ρ vs).length = ρ.length
  | [] => rfl
  | v :: vs => by unfold wipeE; rw [List.length_set, wipeE_length ρ vs]
theorem wipeE_some {ρ : Env} {i : Nat} {x : PyData} : ∀ {vs : List Nat}, (wipeE ρ vs)[i]? = some (some x) → ρ[i]? = some (some x) ∧ i ∉ vs
  | [], h => ⟨h, by simp⟩
  | v :: vs, h => by
    unfold wipeE at h
    by_cases hi : v = i
    · subst hi
      by_cases hv : v < (wipeE ρ vs).length
      · rw [List.getElem?_set_self hv] at h; cases h
      · rw [List.getElem?_eq_none (by simpa using hv)] at h; cases h
    · rw [List.getElem?_set_ne hi] at h
      obtain ⟨h1, h2⟩ := wipeE_some h
      exact ⟨h1, by simp only [List.mem_cons, not_or]; exact ⟨fun e => hi e.symm, h2⟩⟩
theorem wipe_eq {σ σ' : Sl} (hl : σ'.length = σ.length) : ∀ {vs : List Nat}, (∀ (i : Nat), i ∉ vs → σ'[i]? = σ[i]?) → wipe σ' vs = wipe σ vs := fun {vs} h => by
  apply List.ext_getElem?
  intro i
  by_cases hi : i ∈ vs
  · have hn : ∀ (τ : Sl) (ws : List Nat), i ∈ ws → (wipe τ ws)[i]? = if i < τ.length then some none else none := by
      intro τ ws
      induction ws with
      | nil => intro h; cases h
      | cons v ws ih =>
        intro h
        unfold wipe
        by_cases hv : v = i
        · subst hv
          by_cases hl : v < τ.length
          · rw [if_pos hl, List.getElem?_set_self (by rw [wipe_length]; exact hl)]
          · rw [if_neg hl, List.getElem?_eq_none (by rw [List.length_set, wipe_length]; omega)]
        · rw [List.getElem?_set_ne hv]
          exact ih ((List.mem_cons.mp h).resolve_left fun e => hv e.symm)
    rw [hn σ' vs hi, hn σ vs hi, hl]
  · rw [wipe_out hi, wipe_out hi, h i hi]

/-- the turns of a comprehension -/
def loopC (τ : DG) (t : DT) (e : DE) (ρ : Env) : List PyData → Orc → List PyData → Res (List PyData)
  | [], o, acc => .ok acc ρ o
  | v :: vs, o, acc => match τ v ρ with
    | none => .bad
    | some ρ1 => match t ρ1 o with
      | .ok b ρ2 o2 => if b = true then (match e ρ2 o2 with
          | .ok d _ o3 => if flat d = true ∧ acc.length < sizeLine then loopC τ t e ρ vs o3 (acc ++ [d]) else .bad
          | _ => .bad) else loopC τ t e ρ vs o2 acc
      | _ => .bad
def dComp (it : DA) (vs : List Nat) (τ : DG) (t : DT) (e : DE) : DE := fun ρ o => (it ρ o).bind fun xs ρ1 o1 => (loopC τ t e (wipeE ρ1 vs) xs o1 []).bind fun acc _ o2 => .ok (.list acc) ρ1 o2
def dYes : DT := fun ρ o => .ok true ρ o
/-- no exception -/
def WF : WX := fun _ _ _ _ => False

section
variable {sg : Sta} {g : Gh} {ok ok' : Addr → Prop} {S : Sad} {K : PySem.W.Frag} {H H' H1 : Hp} {σ : Sl} {ρ ρ' : Env} {o o' : Orc}
/-- within a comprehension nothing is the def's own -/
abbrev Sta.blk (sg : Sta) : Sta := ⟨[], sg.ist⟩
def okB (sg : Sta) (ok : Addr → Prop) (σ : Sl) (ρ : Env) : Addr → Prop := fun a => ok a ∨ Held sg σ ρ a
theorem Rst.blk (r : Rst sg g ok S K H σ ρ o) {vs : List Nat} (hi : ∀ i, sg.ist = some i → i ∉ vs) : Rst sg.blk ⟨H, okB sg ok σ ρ, S⟩ (okB sg ok σ ρ) S K H (wipe σ vs) (wipeE ρ vs) o where
  len := by rw [wipe_length, wipeE_length]; exact r.len
  pl := fun i d e _ => by
    obtain ⟨e1, hn⟩ := wipeE_some e
    rw [wipe_out hn]
    by_cases ho : i ∈ sg.own
    · obtain ⟨a, e2, w⟩ := r.ow i d e1 ho
      exact ⟨_, e2, (w.ct.step (ok' := okB sg ok σ ρ) (fun _ _ z _ _ => .inl z) .refl fun _ h => h).toRp (.inr ⟨i, d, ho, e1, e2⟩)⟩
    · obtain ⟨x, e2, e3⟩ := r.pl i d e1 ho
      exact ⟨x, e2, e3.step (fun _ => .inl) .refl⟩
  ow := fun i d _ h => by cases h
  inj := fun i j a d e h => by cases h
  fr := fun a e => .inl (r.fr a e)
  sub := fun a h => ⟨h, h.elim (fun h => (r.sub a h).2) fun h => let ⟨d, w⟩ := r.held h; w.nS⟩
  h0 := fun a e => .inl (r.fr a e)
  chg := fun a u e _ _ => e
  trk := fun a u e => ⟨u, e⟩
  orc := r.orc
  sS := .inl rfl
  ist := fun i hi' s c l e => by rw [wipe_out (hi i hi')]; exact r.ist i hi' s c l e
/-- what a block's steps leave -/
theorem Nx.chg {p : Bool} (n : Nx p sg.blk g ok S K H σ ρ ρ' o' H' ok') : Chg S H H' := ⟨fun a u e m t => n.stx a u e m t fun _ ⟨_, _, h, _⟩ => (by cases h), n.trk⟩
theorem Nx.okB {p : Bool} (n : Nx p sg.blk g ok S K H σ ρ ρ' o' H' ok') : ∀ a, ok' a ↔ ok a := fun a => ⟨fun h => (n.lim a h).elim id fun ⟨_, _, h, _⟩ => (by cases h), n.mono a⟩
theorem Rst.okEq (r : Rst sg g ok S K H σ ρ o) (h : ∀ a, ok' a ↔ ok a) : Rst sg g ok' S K H σ ρ o := by
  have e : ok' = ok := funext fun a => propext (h a)
  rw [e]; exact r
/-- another object is written -/
theorem ROrc.put (r : ROrc H o S) {a : Addr} (nS : ¬ inS S a) (hx : ∀ q, H a ≠ some (LamX.CodeO a q)) (u : HO) : ROrc (upd H a u) o S := by
  have nS1 : ¬ stIn S.st a := fun z => nS (.inl z)
  have r1 := r.1
  refine ⟨?_, fun p hp => ?_, r.2.2⟩
  · generalize S.st = t at r1 nS1
    unfold RStat at r1 ⊢
    split at r1
    · trivial
    · exact ⟨(upd_ne fun z => nS1 (.inl z.symm)).trans r1.1, (upd_ne fun z => nS1 (.inr (.inl z.symm))).trans r1.2.1, (upd_ne fun z => nS1 (.inr (.inr z.symm))).trans r1.2.2.1, r1.2.2.2⟩
    · exact r1.elim
  · obtain ⟨ps, h1, h2, h3⟩ := r.2.1 p hp
    refine ⟨ps, (upd_ne fun z => nS (.inr ⟨p.2, by rw [← z]; exact hp⟩)).trans h1, h2, fun pos cv hc => ?_⟩
    obtain ⟨c, e1, e2⟩ := h3 pos cv hc
    exact ⟨c, e1, (upd_ne fun z => hx p.2 (by subst z; exact e2)).trans e2⟩
/-- the new list of a comprehension is not known within -/
theorem Rst.side (r : Rst sg g ok S K H σ ρ o) {a : Addr} (n : ¬ ok a) (nh : ¬ Held sg σ ρ a) (nS : ¬ inS S a) (n0 : g.H0 a = none) (ht : ∃ u, H a = some u ∧ ¬ FL.imm u) (hx : ∀ q, H a ≠ some (LamX.CodeO a q)) (u : HO) : Rst sg g ok S K (upd H a u) σ ρ o := by
  have st : Stp ok H (upd H a u) := fun b v e h => by
    rw [upd_ne]
    · exact e
    · rintro rfl
      obtain ⟨v', e', m⟩ := ht
      rw [e] at e'; cases e'
      rcases h with ⟨h, _⟩ | h
      · exact n h
      · exact m h
  exact {
    len := r.len
    pl := fun i d e m => let ⟨x, e1, e2⟩ := r.pl i d e m; ⟨x, e1, e2.step (fun _ h => h) st⟩
    ow := fun i d e m => by
      obtain ⟨b, e1, w⟩ := r.ow i d e m
      refine ⟨b, e1, w.nok, w.nS, w.new, w.ct.step (fun _ _ h _ _ => h) st fun v hv => ?_⟩
      rw [upd_ne (fun z => nh ⟨i, d, m, e, by rw [← z]; exact e1⟩)]; exact hv
    inj := r.inj
    fr := fun b e => r.fr b (by
      by_cases hb : b = a
      · subst hb; rw [upd_same] at e; cases e
      · rw [upd_ne hb] at e; exact e)
    sub := r.sub
    h0 := r.h0
    chg := fun b v e m t => by
      rw [upd_ne (fun z => by rw [z, n0] at e; cases e)]
      exact r.chg b v e m t
    trk := fun b v e => by
      by_cases hb : b = a
      · subst hb; exact ⟨u, upd_same⟩
      · rw [upd_ne hb]; exact r.trk b v e
    orc := r.orc.put nS hx u
    sS := r.sS
    ist := r.ist }
end

abbrev bX (X : Cx) (s : Shared) (H : Hp) (scope : Scope) (C : Addr) (cl : List (Str × Addr)) (fp : List Addr) : Cx := X.blk s H scope (compEnvC scope cl C X.env) fp
/-- the tests of a clause, by data -/
theorem ts_nil {X : Cx} {K : PySem.W.Frag} {mg : Str → Option Value} {sg : Sta} {W : WX} : PTs X [] (tT K mg sg W true dYes) := by
  refine ⟨fun pins s σ H Q I ⟨g, ρ, o, S, ok, r, q⟩ => (pts_nil).run pins s σ H Q I ?_⟩
  exact q H ok (.refl r _)
theorem ts_one {X : Cx} {c : Expr} {t : TT} (h : PT X c t) : PTs X [c] t := pts_one h

section
variable {X : Cx} {sg : Sta} {W : WX} {elt tg iter : Expr} {ifs : List Expr} {scope : Scope} {own : List (Str × Nat)} {d : DA} {d1 : DE} {c1 : DT} {τ : DG} {ts vs : List Nat} {w w1 p p1 p2 f f1 : Bool} {pos : Pos}
theorem loopC_len {τ : DG} {t : DT} {e : DE} {ρ : Env} : ∀ {vs : List PyData} {o : Orc} {acc : List PyData} {r : List PyData} {ρ' : Env} {o' : Orc}, loopC τ t e ρ vs o acc = .ok r ρ' o' → acc.length ≤ r.length
  | [], _, _, _, _, _, h => by cases h; exact Nat.le_refl _
  | v :: vs, o, acc, r, ρ', o', h => by
    simp only [loopC] at h
    split at h
    · cases h
    · split at h
      · split at h
        · split at h
          · split at h
            · have := loopC_len h
              simp at this; omega
            · cases h
          · cases h
        · exact loopC_len h
      · cases h
theorem RpT.flat {okT ok ok' : Addr → Prop} {K : PySem.W.Frag} {H : Hp} {d : PyData} {x : V} (e : flat d = true) (r : RpT okT ok K H d x) : Rp ok' K H d x := by
  cases d with
  | list ds => simp [FL.flat] at e
  | dict ds => simp [FL.flat] at e
  | none => exact Rp.flat e r
  | bool b => exact Rp.flat e r
  | int i => exact Rp.flat e r
  | str x => exact Rp.flat e r
  | tuple xs => exact Rp.flat e r
theorem RpM.flat {w : Bool} {okT ok ok' : Addr → Prop} {K : PySem.W.Frag} {H : Hp} {d : PyData} {x : V} (e : FL.flat d = true) (r : RpM w okT ok K H d x) : Rp ok' K H d x := by
  unfold RpM at r
  split at r
  · exact r.flat e
  · exact Rp.flat e r
theorem comp_core {σ : Sl} {H : Hp} {Q : VK} (hv : ts.all (fun i => decide (i ∈ vs)) = true) (hst : (match sg.ist with | some i => decide (i ∉ vs) | none => true) = true)
    (q : tE X.K X.mg sg W false p true (dComp d vs τ c1 d1) σ H Q) : tLc (tI X.K X.mg sg W w p d) (tG X.K sg.blk ts τ) (tT X.K X.mg sg.blk WF p1 c1) (tE X.K X.mg sg.blk WF w1 p2 f1 d1) vs σ H Q := by
  obtain ⟨g, ρ, o, S, ok, r, q⟩ := q
  have hvs : ∀ i, i ∈ ts → i ∈ vs := fun i hi => by
    have := List.all_eq_true.mp hv i hi
    simpa using this
  have hist : ∀ i, sg.ist = some i → i ∉ vs := fun i e => by
    rw [e] at hst
    simpa using hst
  unfold dComp at q
  refine ⟨g, ρ, o, S, ok, r, ?_⟩
  cases e1 : d ρ o with
  | bad => rw [e1] at q; exact q
  | ex c ρ1 o1 => rw [e1] at q; exact q
  | ok xs ρ1 o1 =>
    rw [e1] at q
    simp only [Res.bind] at q
    intro J H1 ok1 n1 wk D hD
    cases e2 : loopC τ c1 d1 (wipeE ρ1 vs) xs o1 [] with
    | bad => rw [e2] at q; exact q.elim
    | ex c ρ2 o2 =>
      exfalso
      have none : ∀ (xs : List PyData) (o : Orc) (acc : List PyData) c ρ' o', loopC τ c1 d1 (wipeE ρ1 vs) xs o acc ≠ .ex c ρ' o' := by
        intro xs
        induction xs with
        | nil => intro o acc c ρ' o' h; cases h
        | cons v vs' ih =>
          intro o acc c ρ' o' h
          simp only [loopC] at h
          split at h
          · cases h
          · split at h
            · split at h
              · split at h
                · split at h
                  · exact ih _ _ _ _ _ h
                  · cases h
                · cases h
              · exact ih _ _ _ _ _ h
            · cases h
      exact none _ _ _ _ _ _ e2
    | ok acc0 ρ2 o2 =>
      rw [e2] at q
      simp only at q
      have rB := n1.st.blk (vs := vs) hist
      let gB : Gh := ⟨H1, okB sg ok1 σ ρ1, S⟩
      let okD : Addr → Prop := mns (okB sg ok1 σ ρ1) D
      have nSD : ¬ inS S D := n1.st.orcS hD
      have hw : ∀ {H'}, Chg S H1 H' → Stp (if w = true then okw g S else ok1) H1 H' := fun c => by
        split
        · exact c.stp n1.st.orc fun a h => h.2
        · exact c.stp n1.st.orc fun a h => (n1.st.sub a h).2
      have hok : ∀ {H'}, Chg S H1 H' → Sx ok1 H1 (mns ok1 D) H' := fun c => ⟨c.stp n1.st.orc fun a h => (n1.st.sub a h).2, fun a u h e _ => ⟨h, ne_of_none e hD⟩⟩
      refine ⟨fun i m H' => m = xs.length - i ∧ i ≤ xs.length ∧ ∃ o' acc ys, Rst sg.blk gB okD S X.K H' (wipe σ vs) (wipeE ρ1 vs) o' ∧ Chg S H1 H' ∧ H' D = some (.lst ys) ∧ Rps okD X.K H' acc ys ∧ flats acc = true ∧
          loopC τ c1 d1 (wipeE ρ1 vs) (xs.drop i) o' acc = .ok acc0 ρ2 o2, ⟨xs.length, by simp, Nat.zero_le _, o1, [], [], ?_, (Grow.upd hD).chg, upd_same, .nil, rfl, by rw [List.drop_zero]; exact e2⟩, ?_⟩
      · exact rB.growBut (.upd hD) hD ⟨_, upd_same⟩
      · rintro i m H' ⟨rfl, hi, o', acc, ys, r', ch, hD', ra, fa, el⟩
        by_cases hlt : i < xs.length
        · have hx : xs[i]? = some xs[i] := List.getElem?_eq_getElem hlt
          obtain ⟨go, yl⟩ := wk.item (mns ok1 D) H' (hok ch) (hw ch) (fun a h => ⟨n1.st.fr a (ch.back h), fun z => by rw [z, hD'] at h; cases h⟩) i _ hx
          have ed : xs.drop i = xs[i] :: xs.drop (i + 1) := List.drop_eq_getElem_cons hlt
          rw [ed] at el
          simp only [loopC] at el
          refine .inr ⟨go, fun H'' => i + 1 ≤ xs.length ∧ ∃ o' acc ys, Rst sg.blk gB okD S X.K H'' (wipe σ vs) (wipeE ρ1 vs) o' ∧ Chg S H1 H'' ∧ H'' D = some (.lst ys) ∧ Rps okD X.K H'' acc ys ∧ flats acc = true ∧
            loopC τ c1 d1 (wipeE ρ1 vs) (xs.drop (i + 1)) o' acc = .ok acc0 ρ2 o2, fun H'' h => ⟨xs.length - (i + 1), by omega, rfl, h⟩, fun x H2 y => ?_⟩
          obtain ⟨gr, rx⟩ := yl x H2 y
          have rx' : Rp okD X.K H2 xs[i] x := rx.step (fun a h => ⟨.inl h.1, h.2⟩) .refl
          have lst_of : ∀ {H3 : Hp}, Chg S H2 H3 → H3 D = some (.lst ys) := fun c => c.keep D _ (gr D _ hD') nSD fun ps z => by cases z
          have back : ∀ {σ3 : Sl} {ρ3 ρ4 : Env} {H3 : Hp} {ok3 : Addr → Prop} {o3 : Orc}, Rst sg.blk gB ok3 S X.K H3 σ3 ρ4 o3 → (∀ a, ok3 a ↔ okD a) → Chg S H2 H3 → Rst sg.blk gB okD S X.K H3 (wipe σ vs) (wipeE ρ1 vs) o3 := fun r3 e3 c3 =>
            (r'.grow gr).through c3 r3.orc
          split at el
          · cases el
          · rename_i ρ3 e3
            refine ⟨gB, xs[i], wipeE ρ1 vs, o', S, okD, r'.grow gr, rx', ρ3, e3, fun σ3 r3 l3 k3 => ⟨?_, ?_⟩⟩
            · exact wipe_eq (by rw [l3, wipe_length]) fun i hi => by rw [k3 i fun h => hi (hvs i h), wipe_out hi]
            · show tT X.K X.mg sg.blk WF p1 c1 σ3 H2 _
              split at el
              · rename_i b ρ4 o4 e4
                refine tT.of_ok r3 e4 fun H3 ok3 n3 => ?_
                have c3 : Chg S H2 H3 := n3.chg
                cases b with
                | false =>
                  simp only [Bool.false_eq_true, if_false] at el ⊢
                  exact ⟨hlt, o4, acc, ys, back (ρ3 := ρ3) n3.st n3.okB c3, (ch.trans gr.chg).trans c3, lst_of c3, ra.step (fun _ h => h) ((gr.chg.trans c3).stp r'.orc fun a h => (r'.sub a h).2), fa, el⟩
                | true =>
                  simp only [if_true] at el ⊢
                  split at el
                  · rename_i dv ρ5 o5 e5
                    by_cases hf : FL.flat dv = true ∧ acc.length < sizeLine
                    · rw [if_pos hf] at el
                      refine tE.of_ok n3.st e5 fun y H4 ok4 n4 ry _ => ?_
                      have c4 : Chg S H2 H4 := c3.trans n4.chg
                      have ry' : Rp okD X.K H4 dv y := ry.flat hf.1
                      have r4 := back (ρ3 := ρ3) n4.st (fun a => (n4.okB a).trans (n3.okB a)) c4
                      have D4 := lst_of c4
                      have st4 : Stp okD H' H4 := (gr.chg.trans c4).stp r'.orc fun a h => (r'.sub a h).2
                      have stD : Stp okD H4 (upd H4 D (.lst (ys ++ [y]))) := fun b v e h => by
                        rw [upd_ne]
                        · exact e
                        · rintro rfl
                          rcases h with ⟨h, _⟩ | h
                          · exact h.2 rfl
                          · rw [D4] at e; cases e; exact h
                      refine ⟨ys, D4, by rw [← ra.length]; exact hf.2, hlt, o5, acc ++ [dv], ys ++ [y], ?_, ?_, upd_same, ?_, flats_append fa (by simp [flats, hf.1]), el⟩
                      · exact r4.side (fun h => h.2 rfl) (fun ⟨_, _, h, _⟩ => by cases h) nSD hD ⟨_, D4, fun z => z⟩ (fun f z => by rw [D4] at z; unfold LamX.CodeO at z; cases z) _
                      · refine ⟨fun a u e n t => ?_, fun a u e => ?_⟩
                        · rw [upd_ne (ne_of_none e hD)]
                          exact ((ch.trans gr.chg).trans c4).keep a u e n t
                        · rw [upd_ne (ne_of_none e hD)]
                          exact ((ch.trans gr.chg).trans c4).trk a u e
                      · exact (ra.step (fun _ h => h) (st4.trans (fun _ h => h) stD)).append (.cons (ry'.step (fun _ h => h) stD) .nil)
                    · rw [if_neg hf] at el; cases el
                  · cases el
              · cases el
        · obtain rfl : i = xs.length := by omega
          refine .inl ⟨wk.stop (mns ok1 D) H' (hok ch) (hw ch), ?_⟩
          rw [List.drop_length] at el
          cases el
          have st1 := n1.st.through ch r'.orc
          have nt : Nx true sg g ok1 S X.K H1 σ ρ1 ρ1 o2 H' ok1 := Nx.through n1.st ch r'.orc
          have n2 : Nx p sg g ok S X.K H σ ρ ρ1 o2 H' ok1 := (n1.trans nt).le (by intro e; rw [e]; rfl)
          refine q (.ref D) H' ok1 n2 ?_ fun _ _ => ?_
          · exact Rp.lst (n1.st.fr D hD) (.inl hD') (ra.flat fa)
          · refine ⟨D, rfl, n1.back hD, n1.st.newH0 hD, nSD, ?_, ⟨ys, hD', ra.flat fa⟩, fun i d hi hd z => ?_⟩
            · have c' : Chg S (upd H1 D (.lst ys)) H' := by
                refine ⟨fun a u e n t => ?_, fun a u e => ?_⟩
                · by_cases ha : a = D
                  · subst ha; rw [upd_same] at e; cases e; exact hD'
                  · rw [upd_ne ha] at e; exact ch.keep a u e n t
                · by_cases ha : a = D
                  · subst ha; exact ⟨_, hD'⟩
                  · rw [upd_ne ha] at e; exact ch.trk a u e
              exact (n1.st.growBut (.upd hD) hD ⟨_, upd_same⟩).through c' r'.orc
            · obtain ⟨b, e1, w1⟩ := n1.st.ow i d hd hi
              obtain ⟨u1, hu1, _⟩ := w1.ct.there
              rw [e1] at z
              injection z with z; injection z with z; injection z with z
              rw [z, hD] at hu1; cases hu1
theorem e_comp (hc : X.calm = true) (hN : X.N.Nodup) (hi : PI X tg iter (tI X.K X.mg sg W w p d)) (ok : BlkOk X.N X.env.scope scope own)
    (hg : ∀ s H C cl fp, PG (bX X s H scope C cl fp) tg (tG X.K sg.blk ts τ)) (ht : ∀ s H C cl fp, PTs (bX X s H scope C cl fp) ifs (tT X.K X.mg sg.blk WF p1 c1)) (he : ∀ s H C cl fp, PE (bX X s H scope C cl fp) elt (tE X.K X.mg sg.blk WF w1 p2 f1 d1))
    (hv : ts.all (fun i => decide (i ∈ own.map (·.2))) = true := by rfl) (hst : (match sg.ist with | some i => decide (i ∉ own.map (·.2)) | none => true) = true := by rfl) (hs : ∀ x, foldedSetIterable iter X.env x = pure x := by intro _; rfl) :
    PE X (.ListComp elt [⟨tg, iter, ifs, 0⟩] scope pos) (tE X.K X.mg sg W false p true (dComp d (own.map (·.2)) τ c1 d1)) :=
  PE.imp (pe_lc hc hN hi ok hg ht he hs) fun _ _ _ q => comp_core hv hst q
/-- x = [..], x a local on the comprehension's line -/
theorem s_asgLc {i : Nat} {y : Str} {py spos : Pos} (hc : X.calm = true) (hN : X.N.Nodup) (hy : X.N[i]? = some y) (hyl : X.env.scope.names.lookup y = some .local)
    (hsw : swapsWith (.ListComp elt [⟨tg, iter, ifs, 0⟩] scope pos) (some (.Name y py)) spos.line X.env = pure true) (hi : PI X tg iter (tI X.K X.mg sg W w p d)) (ok : BlkOk X.N X.env.scope scope own)
    (hg : ∀ s H C cl fp, PG (bX X s H scope C cl fp) tg (tG X.K sg.blk ts τ)) (ht : ∀ s H C cl fp, PTs (bX X s H scope C cl fp) ifs (tT X.K X.mg sg.blk WF p1 c1)) (he : ∀ s H C cl fp, PE (bX X s H scope C cl fp) elt (tE X.K X.mg sg.blk WF w1 p2 f1 d1)) (ho : i ∉ sg.own) (hst' : sg.ist ≠ some i)
    (hv : ts.all (fun i => decide (i ∈ own.map (·.2))) = true := by rfl) (hst : (match sg.ist with | some i => decide (i ∉ own.map (·.2)) | none => true) = true := by rfl) (hs : ∀ x, foldedSetIterable iter X.env x = pure x := by intro _; rfl) :
    PS X (.Assign [.Name y py] (.ListComp elt [⟨tg, iter, ifs, 0⟩] scope pos) spos) (tS X.K X.mg sg W (dAsg i (dComp d (own.map (·.2)) τ c1 d1))) := by
  refine PS.imp (ps_setLc hc hN hy hyl hsw hi ok hg ht he hs) fun D σ H ⟨g, ρ, o, S, ok, r, q⟩ => comp_core hv hst ?_
  unfold dAsg at q
  cases e1 : dComp d (own.map (·.2)) τ c1 d1 ρ o with
  | bad => rw [e1] at q; exact q.elim
  | ex c ρ1 o1 => rw [e1] at q; exact Out.ex1 r e1 q
  | ok v ρ1 o1 =>
    rw [e1] at q
    exact tE.of_ok r e1 fun y H1 ok1 n1 r1 _ => q _ _ S ok1 (Rst.set n1.st r1 ho hst') (n1.Sx r)
theorem s_ownLc {i : Nat} {y : Str} {py spos : Pos} (hc : X.calm = true) (hN : X.N.Nodup) (hy : X.N[i]? = some y) (hyl : X.env.scope.names.lookup y = some .local)
    (hsw : swapsWith (.ListComp elt [⟨tg, iter, ifs, 0⟩] scope pos) (some (.Name y py)) spos.line X.env = pure true) (hi : PI X tg iter (tI X.K X.mg sg W w p d)) (ok : BlkOk X.N X.env.scope scope own)
    (hg : ∀ s H C cl fp, PG (bX X s H scope C cl fp) tg (tG X.K sg.blk ts τ)) (ht : ∀ s H C cl fp, PTs (bX X s H scope C cl fp) ifs (tT X.K X.mg sg.blk WF p1 c1)) (he : ∀ s H C cl fp, PE (bX X s H scope C cl fp) elt (tE X.K X.mg sg.blk WF w1 p2 f1 d1)) (ho : i ∈ sg.own) (hst' : sg.ist ≠ some i)
    (hv : ts.all (fun i => decide (i ∈ own.map (·.2))) = true := by rfl) (hst : (match sg.ist with | some i => decide (i ∉ own.map (·.2)) | none => true) = true := by rfl) (hs : ∀ x, foldedSetIterable iter X.env x = pure x := by intro _; rfl) :
    PS X (.Assign [.Name y py] (.ListComp elt [⟨tg, iter, ifs, 0⟩] scope pos) spos) (tS X.K X.mg sg W (dAsgC i (dComp d (own.map (·.2)) τ c1 d1))) := by
  refine PS.imp (ps_setLc hc hN hy hyl hsw hi ok hg ht he hs) fun D σ H ⟨g, ρ, o, S, ok, r, q⟩ => comp_core hv hst ?_
  unfold dAsgC at q
  cases e1 : dComp d (own.map (·.2)) τ c1 d1 ρ o with
  | bad => rw [e1] at q; exact q.elim
  | ex c ρ1 o1 => rw [e1] at q; exact Out.ex1 r e1 q
  | ok v ρ1 o1 =>
    rw [e1] at q
    refine tE.of_ok r e1 fun y H1 ok1 n1 r1 fr => ?_
    simp only [Res.bind] at q
    by_cases hc : isC v = true
    · rw [if_pos hc] at q
      obtain ⟨a, rfl, hn, r2⟩ := Fresh.set (fr rfl hc) ho hst'
      exact q _ _ S _ r2 ((n1.Sx r).minus hn)
    · rw [if_neg hc] at q; exact q.elim
end
end FL
namespace FL
open PySem PySem.Spec PyProof.Rows L2

def Rao (okT ok : Addr → Prop) (K : PySem.W.Frag) (H : Hp) (S : Sad) : Option PyData → V → Prop
  | none, x => ∃ s c l, S.st = some (s, c, l) ∧ x = .ref s
  | some d, x => RpT okT ok K H d x
inductive Raos (okT ok : Addr → Prop) (K : PySem.W.Frag) (H : Hp) (S : Sad) : Env → List V → Prop
  | nil : Raos okT ok K H S [] []
  | cons {d : Option PyData} {ds : Env} {x : V} {xs : List V} : Rao okT ok K H S d x → Raos okT ok K H S ds xs → Raos okT ok K H S (d :: ds) (x :: xs)
inductive FR where
  | ok (v : PyData) (o : Orc)
  | ex (c : Exn) (o : Orc)
  | bad
abbrev DF := Env → Orc → FR
abbrev DAo := Env → Orc → Res Env

section
variable {okT ok okT' ok' : Addr → Prop} {K : PySem.W.Frag} {H H' : Hp} {S : Sad}
theorem Rao.step (m : ∀ a, ok a → ok' a) (mT : ∀ a, okT a → okT' a) (s : Stp ok H H') (sT : Stp okT H H') {d : Option PyData} {x : V} (r : Rao okT ok K H S d x) : Rao okT' ok' K H' S d x := by
  cases d with
  | none => exact r
  | some d => exact RpT.step m mT s sT r
theorem Raos.step (m : ∀ a, ok a → ok' a) (mT : ∀ a, okT a → okT' a) (s : Stp ok H H') (sT : Stp okT H H') : ∀ {ds : Env} {xs : List V}, Raos okT ok K H S ds xs → Raos okT' ok' K H' S ds xs
  | _, _, .nil => .nil
  | _, _, .cons h r => .cons (h.step m mT s sT) (Raos.step m mT s sT r)
theorem Raos.length : ∀ {ds : Env} {xs : List V}, Raos okT ok K H S ds xs → ds.length = xs.length
  | _, _, .nil => rfl
  | _, _, .cons _ r => by simp [Raos.length r]
theorem Raos.get : ∀ {ds : Env} {xs : List V} {i : Nat} {d : Option PyData}, Raos okT ok K H S ds xs → ds[i]? = some d → ∃ x, xs[i]? = some x ∧ Rao okT ok K H S d x
  | _, _, _, _, .nil, e => by simp at e
  | _, _, 0, _, .cons h r, e => by simp at e; subst e; exact ⟨_, rfl, h⟩
  | _, _, i + 1, _, .cons h r, e => by
    obtain ⟨v, e1, e2⟩ := Raos.get (i := i) r (by simpa using e)
    exact ⟨v, by simpa using e1, e2⟩
theorem RpT.rp (m : ∀ a, ok a → okT a) {d : PyData} {x : V} (r : RpT okT ok K H d x) : Rp okT K H d x := by
  cases d with
  | list ds => obtain ⟨a, xs, rfl, q, h, r⟩ := r; exact .lst q h (r.step m .refl)
  | dict ps =>
    obtain ⟨a, rfl, q, h⟩ := r
    rcases h with ⟨kvs, h, r⟩ | ⟨kvs, h, r⟩
    · exact .dk q h (r.step m .refl)
    · exact .dt q h (r.step m .refl)
  | none => exact Rp.step m .refl r
  | bool b => exact Rp.step m .refl r
  | int i => exact Rp.step m .refl r
  | str x => exact Rp.step m .refl r
  | tuple xs => exact Rp.step m .refl r
end

def tAo (K : PySem.W.Frag) (mg : Str → Option Value) (sg : Sta) (W : WX) (w p : Bool) (d : DAo) : TA := fun σ H Q => ∃ g ρ o S ok, Rst sg g ok S K H σ ρ o ∧
  match d ρ o with
  | .ok vs ρ' o' => ∀ xs H' ok', Nx p sg g ok S K H σ ρ ρ' o' H' ok' → Raos (if w = true then okw g S else ok') ok' K H' S vs xs → Q xs H'
  | .ex c ρ' o' => ∀ cls dd H' ok', Nx false sg g ok S K H σ ρ ρ' o' H' ok' → ExR mg ok' K H' c cls dd → W cls dd σ H'
  | .bad => False
def aNil : DAo := fun ρ o => .ok [] ρ o
def aCons (d : DE) (ds : DAo) : DAo := fun ρ o => (d ρ o).bind fun v ρ1 o1 => (ds ρ1 o1).bind fun vs ρ2 o2 => .ok (some v :: vs) ρ2 o2
/-- the drawn state handed on -/
def aSt (ds : DAo) : DAo := fun ρ o => match o.st with
  | none => .bad
  | some _ => (ds ρ o).bind fun vs ρ2 o2 => .ok (none :: vs) ρ2 o2
section
variable {X : Cx} {sg : Sta} {W : WX} {a : Expr} {es : List Expr} {d1 : DE} {ds : DAo} {w w1 p p1 p2 f1 : Bool} {pos : Pos}
theorem tAo.of_ok {g : Gh} {σ : Sl} {H : Hp} {Q : List V → Hp → Prop} {ρ ρ' : Env} {o o' : Orc} {S : Sad} {ok : Addr → Prop} {v : Env} (r : Rst sg g ok S X.K H σ ρ o) (e : ds ρ o = .ok v ρ' o')
    (h : ∀ xs H' ok', Nx p sg g ok S X.K H σ ρ ρ' o' H' ok' → Raos (if w = true then okw g S else ok') ok' X.K H' S v xs → Q xs H') : tAo X.K X.mg sg W w p ds σ H Q := ⟨g, ρ, o, S, ok, r, by rw [e]; exact h⟩
theorem tAo.of_ex {g : Gh} {σ : Sl} {H : Hp} {Q : List V → Hp → Prop} {ρ ρ' : Env} {o o' : Orc} {S : Sad} {ok : Addr → Prop} {c : Exn} (r : Rst sg g ok S X.K H σ ρ o) (e : ds ρ o = .ex c ρ' o')
    (h : ∀ cls dd H' ok', Nx false sg g ok S X.K H σ ρ ρ' o' H' ok' → ExR X.mg ok' X.K H' c cls dd → W cls dd σ H') : tAo X.K X.mg sg W w p ds σ H Q := ⟨g, ρ, o, S, ok, r, by rw [e]; exact h⟩
theorem ao_nil : PA X [] (tAo X.K X.mg sg W w true aNil) := PA.imp pa_nil fun σ H Q ⟨g, ρ, o, S, ok, r, q⟩ => q _ _ ok (.refl r _) .nil
theorem ao_cons (ha : PE X a (tE X.K X.mg sg W w1 p1 f1 d1)) (hb : PA X es (tAo X.K X.mg sg W w p2 ds)) (hw : (!w1 || (w && p2)) = true := by rfl) (hs : starEach (a :: es) X.env = (false, eval a X.env) :: starEach es X.env := by rfl) :
    PA X (a :: es) (tAo X.K X.mg sg W w (p1 && p2) (aCons d1 ds)) := by
  refine PA.imp (pa_cons ha hb hs) fun σ H Q ⟨g, ρ, o, S, ok, r, q⟩ => ?_
  have hw1 : w1 = true → w = true := fun e => by rw [e] at hw; simp at hw; exact hw.1
  have hw2 : w1 = true → p2 = true := fun e => by rw [e] at hw; simp at hw; exact hw.2
  unfold aCons at q
  show tE X.K X.mg sg W w1 p1 f1 d1 σ H _
  cases e1 : d1 ρ o with
  | bad => rw [e1] at q; exact q.elim
  | ex c ρ1 o1 => rw [e1] at q; exact tE.of_ex r e1 q
  | ok v ρ1 o1 =>
    rw [e1] at q
    refine tE.of_ok r e1 fun x H1 ok1 n1 r1 _ => ?_
    simp only [Res.bind] at q
    cases e2 : ds ρ1 o1 with
    | bad => rw [e2] at q; exact q.elim
    | ex c ρ2 o2 => rw [e2] at q; exact tAo.of_ex n1.st e2 fun cls dd H' ok' n2 x2 => q cls dd H' ok' (n1.weak.trans n2) x2
    | ok us ρ2 o2 =>
      rw [e2] at q
      refine tAo.of_ok n1.st e2 fun xs H2 ok2 n2 r2 => q _ _ _ (n1.trans n2) ?_
      have r1' := r1.later n1.st n2 hw2
      refine .cons ?_ r2
      cases w with
      | true => exact r1'.T n2.st.sub
      | false =>
        cases w1 with
        | true => exact absurd (hw1 rfl) (by simp)
        | false => exact Rp.toT (fun _ h => h) r1'
theorem ao_st {i : Nat} {x : Str} (hN : X.N[i]? = some x) (hv : Vis X.env.scope x) (hi : sg.ist = some i) (hb : PA X es (tAo X.K X.mg sg W w p2 ds)) (hd : (x == ("__debug__" : Str)) = false := by decide) (hcd : (x == ("__classdict__" : Str)) = false := by decide)
    (hs : starEach (.Name x pos :: es) X.env = (false, eval (.Name x pos) X.env) :: starEach es X.env := by rfl) : PA X (.Name x pos :: es) (tAo X.K X.mg sg W w p2 (aSt ds)) := by
  refine PA.imp (pa_cons (pe_var hN hv hd hcd) hb hs) fun σ H Q ⟨g, ρ, o, S, ok, r, q⟩ => ?_
  unfold aSt at q
  cases ho : o.st with
  | none => rw [ho] at q; exact q.elim
  | some oo =>
    have ro := r.orc.1
    rw [ho] at ro
    cases hS : S.st with
    | none => rw [hS] at ro; exact ro.elim
    | some y =>
      obtain ⟨s, c, l⟩ := y
      refine ⟨_, r.ist i hi s c l hS, ?_⟩
      rw [ho] at q
      simp only at q
      show tAo X.K X.mg sg W w p2 ds σ H _
      cases e2 : ds ρ o with
      | bad => rw [e2] at q; exact q.elim
      | ex c ρ2 o2 => rw [e2] at q; exact tAo.of_ex r e2 q
      | ok us ρ2 o2 =>
        rw [e2] at q
        exact tAo.of_ok r e2 fun xs H2 ok2 n2 r2 => q _ _ _ n2 (.cons ⟨s, c, l, hS, rfl⟩ r2)
end

def spF (K : PySem.W.Frag) (mg : Str → Option Value) (F : DF) : Sp := fun vs H Q E => ∃ args ok S o, (∀ a, H a = none → ok a) ∧ (∀ a, ok a → ¬ inS S a) ∧ ROrc H o S ∧ Raos ok ok K H S args vs ∧
  match F args o with
  | .ok v o' => ∀ x H', Chg S H H' → ROrc H' o' S → Rp ok K H' v x → Q x H'
  | .ex c o' => ∀ cls dd H', Chg S H H' → ROrc H' o' S → ExR mg ok K H' c cls dd → E cls dd H'
  | .bad => False
theorem spF_len {K : PySem.W.Frag} {mg : Str → Option Value} {n : Nat} {F : DF} (hF : ∀ args o, args.length ≠ n → F args o = .bad) : ∀ vs H Q E, spF K mg F vs H Q E → vs.length = n := fun vs H Q E ⟨args, ok, S, o, _, _, _, r, q⟩ => by
  by_cases h : args.length = n
  · exact r.length.symm.trans h
  · rw [hF args o h] at q; exact q.elim
/-- a def by its body: N names, n parameters, the state's place -/
def stAt (args : Env) (n : Nat) : Option Nat → Bool
  | some i => !decide (i < n) || (match args[i]? with
    | some none => true
    | _ => false)
  | none => true
def dFn (N n : Nat) (ist : Option Nat) (d : DS) : DF := fun args o =>
  if (decide (args.length = n) && stAt args n ist) = true then
    match d (args ++ List.replicate (N - args.length) none) o with
    | .ok .nx _ o' => if o.st.isNone && o'.st.isSome then .bad else .ok .none o'
    | .ok (.ret v) _ o' => if o.st.isNone && o'.st.isSome then .bad else .ok v o'
    | .ok _ _ _ => .bad
    | .ex c _ o' => if o.st.isNone && o'.st.isSome then .bad else .ex c o'
    | .bad => .bad
  else .bad
theorem dFn_len {N n : Nat} {ist : Option Nat} {d : DS} (args : Env) (o : Orc) (h : args.length ≠ n) : dFn N n ist d args o = .bad := by
  unfold dFn
  rw [if_neg (by simp [h])]
def dCall (w : Bool) (F : DF) (args : DAo) : DE := fun ρ o => (args ρ o).bind fun as ρ1 o1 => match F as o1 with
  | .ok v o2 => if (!w || flat v) = true then .ok v ρ1 o2 else .bad
  | .ex c o2 => if w = true then .bad else .ex c ρ1 o2
  | .bad => .bad

/-- what is wanted of an exception at the def's own slots -/
abbrev wE (E : XK) : WX := fun cls d _ H => E cls d H
theorem Rfs.step {ok ok' : Addr → Prop} {K : PySem.W.Frag} {H H' : Hp} (m : ∀ a, ok a → ok' a) (st : Stp ok H H') : ∀ {fs : List (Str × PyData)} {vs : List (Str × V)}, Rfs ok K H fs vs → Rfs ok' K H' fs vs
  | _, _, .nil => .nil
  | _, _, .cons h r => .cons (h.step m st) (Rfs.step m st r)
theorem ExR.step {mg : Str → Option Value} {ok ok' : Addr → Prop} {K : PySem.W.Frag} {H : Hp} {c : Exn} {cls : Value} {dd : Option Addr} (r : ExR mg ok K H c cls dd) (m : ∀ a, ok a → ok' a) : ExR mg ok' K H c cls dd := by
  obtain ⟨C, d, vs, h1, h2, h3, h4, h5⟩ := r
  exact ⟨C, d, vs, h1, h2, h3, h4, h5.step m .refl⟩

section
variable {P : Program} {w : World} {K : PySem.W.Frag} {mg : Str → Option Value} {base : Heap}
theorem start_get {N : List Str} {vs : List V} {i : Nat} {x : V} (h : vs[i]? = some x) : (L2.start N vs)[i]? = some (some x) := by
  unfold L2.start
  have hl := (List.getElem?_eq_some_iff.mp h).1
  rw [List.getElem?_append_left (by rw [List.length_map]; exact hl), List.getElem?_map, h]
  rfl
theorem args_get {args : Env} {m i : Nat} {d : PyData} (h : (args ++ List.replicate m none)[i]? = some (some d)) : args[i]? = some (some d) := by
  by_cases hl : i < args.length
  · rwa [List.getElem?_append_left hl] at h
  · rw [List.getElem?_append_right (by omega), List.getElem?_replicate] at h
    split at h <;> cases h
/-- a def's state at its entry -/
theorem Rst.begin {sg : Sta} {ok : Addr → Prop} {H : Hp} {S : Sad} {o : Orc} {args : Env} {vs : List V} {N : List Str} {n : Nat} (fr : ∀ a, H a = none → ok a) (nS : ∀ a, ok a → ¬ inS S a) (ro : ROrc H o S) (r : Raos ok ok K H S args vs) (hn : args.length = n)
    (hN : n ≤ N.length) (hown : sg.own.all (fun i => decide (n ≤ i)) = true) (hist : ∀ i, sg.ist = some i → i < n ∨ S.st = none) (hst : stAt args n sg.ist = true) :
    Rst sg ⟨H, ok, S⟩ ok S K H (L2.start N vs) (args ++ List.replicate (N.length - args.length) none) o where
  len := by
    unfold L2.start
    simp [r.length]
  pl := fun i d e _ => by
    obtain ⟨x, e1, e2⟩ := r.get (args_get e)
    exact ⟨x, start_get e1, RpT.rp (fun _ h => h) e2⟩
  ow := fun i d e hi => by
    have h1 := (List.getElem?_eq_some_iff.mp (args_get e)).1
    have h2 := List.all_eq_true.mp hown i hi
    simp at h2
    omega
  inj := fun i j a d e hi hj h1 => by
    have h1 := (List.getElem?_eq_some_iff.mp (args_get h1)).1
    have h2 := List.all_eq_true.mp hown i hi
    simp at h2
    omega
  fr := fr
  sub := fun a h => ⟨h, nS a h⟩
  h0 := fr
  chg := fun a u e _ _ => e
  trk := fun a u e => ⟨u, e⟩
  orc := ro
  sS := .inl rfl
  ist := fun i hi s c l e => by
    rcases hist i hi with hlt | hS
    · rw [hi] at hst
      simp only [stAt, hlt, decide_true, Bool.not_true, Bool.false_or] at hst
      cases e1 : args[i]? with
      | none => rw [e1] at hst; cases hst
      | some d =>
        rw [e1] at hst
        cases d with
        | some d => cases hst
        | none =>
          obtain ⟨x, e2, s', c', l', e3, rfl⟩ := r.get e1
          rw [e] at e3; cases e3
          exact start_get e2
    · rw [hS] at e; cases e
/-- a def's promise by its body's reading -/
theorem fn_core {N ps : List Str} {sg : Sta} {d : DS} {vs : List V} {H : Hp} {Q : VK} {E : XK} (hN : Nat.ble ps.length N.length = true) (hown : sg.own.all (fun i => decide (ps.length ≤ i)) = true)
    (hist : (match sg.ist with | some i => decide (i < ps.length) | none => true) = true) (h : spF K mg (dFn N.length ps.length sg.ist d) vs H Q E) : tS K mg sg (wE E) d { nx := fun _ H' => Q .non H', rt := Q } (L2.start N vs) H := by
  obtain ⟨args, ok, S, o, fr, nS, ro, ra, q⟩ := h
  unfold dFn at q
  by_cases hst0 : (decide (args.length = ps.length) && stAt args ps.length sg.ist) = true
  · rw [if_pos hst0] at q
    obtain ⟨hn, hst⟩ : args.length = ps.length ∧ stAt args ps.length sg.ist = true := by simpa using hst0
    have r0 := Rst.begin (sg := sg) fr nS ro ra hn (Nat.le_of_ble_eq_true hN) hown (fun i hi => by
      rw [hi] at hist
      simp at hist
      exact .inl hist) hst
    refine ⟨_, _, _, _, _, r0, ?_⟩
    -- behind the body
    have fin : ∀ {σ' : Sl} {H' : Hp} {S' : Sad} {ok' : Addr → Prop} {ρ' : Env} {o' : Orc}, Rst sg ⟨H, ok, S⟩ ok' S' K H' σ' ρ' o' → (o.st.isNone && o'.st.isSome) = false → Chg S H H' ∧ ROrc H' o' S := fun {σ' H' S' ok' ρ' o'} r ho => by
      refine ⟨⟨r.chg, r.trk⟩, ?_⟩
      have q1 := r.orc
      rcases r.sS with e | ⟨e, t, _⟩
      · have e : S' = S := e
        rw [← e]; exact q1
      · have e : S.st = none := e
        have t : S'.tb = S.tb := t
        have ro1 := ro.1
        refine ⟨?_, by rw [← t]; exact q1.2⟩
        rw [e] at ro1 ⊢
        cases p1 : o.st with
        | some _ => rw [p1] at ro1; exact ro1.elim
        | none =>
          cases p2 : o'.st with
          | some _ => rw [p1, p2] at ho; cases ho
          | none => trivial
    cases e1 : d (args ++ List.replicate (N.length - args.length) none) o with
    | bad => rw [e1] at q; exact q.elim
    | ex c ρ' o' =>
      rw [e1] at q
      simp only at q
      intro cls dd σ' H' S' ok' r x
      by_cases ho : (o.st.isNone && o'.st.isSome) = true
      · rw [if_pos ho] at q; exact q.elim
      · rw [if_neg ho] at q
        obtain ⟨h1, h2⟩ := fin r (by simpa using ho)
        exact q cls dd H' h1 h2 (x.step fun a h => (r.sub a h).1)
    | ok fl ρ' o' =>
      rw [e1] at q
      cases fl with
      | brk => exact q.elim
      | ct => exact q.elim
      | nx =>
        simp only at q
        intro σ' H' S' ok' r _
        by_cases ho : (o.st.isNone && o'.st.isSome) = true
        · rw [if_pos ho] at q; exact q.elim
        · rw [if_neg ho] at q
          obtain ⟨h1, h2⟩ := fin r (by simpa using ho)
          exact q _ H' h1 h2 .non
      | ret v =>
        simp only at q
        intro x σ' H' S' ok' r rx
        by_cases ho : (o.st.isNone && o'.st.isSome) = true
        · rw [if_pos ho] at q; exact q.elim
        · rw [if_neg ho] at q
          obtain ⟨h1, h2⟩ := fin r (by simpa using ho)
          exact q _ H' h1 h2 rx
  · rw [if_neg hst0] at q; exact q.elim
/-- THE RULE for a def -/
theorem fn_ok {x qual : Str} {st : Stmt} {f : Addr} {fd : FuncData} {N ps : List Str} {k : Nat} {sg : Sta} {d : DS} (F : Fun K x qual st f fd) (Sc : FnScope N ps (defScope st)) (hN : Nat.ble ps.length N.length = true) (hown : sg.own.all (fun i => decide (ps.length ≤ i)) = true)
    (hist : (match sg.ist with | some i => decide (i < ps.length) | none => true) = true)
    (hbody : ∀ (cdv : Value) (A : Around) (outer : List PySem.Env) (s : Shared) (H : Hp) (E : XK), Room k (A.deeper (envOfC qual (defScope st) s.heap.objs.size f cdv)) →
      PSs (cxOf (L2.CX P w) P w K mg base N qual (defScope st) f cdv A outer s H E) (defBody st) (tS K mg sg (wE E) d)) : FnOk P w K mg base (L2.CX P w) (k + 1) f fd ps (spF K mg (dFn N.length ps.length sg.ist d)) :=
  F.okX Sc (spF_len dFn_len) fun cdv A outer s H vs Q E hr h => ⟨_, hbody cdv A outer s H E hr, fn_core hN hown hist h⟩
/-- a def's promise where no repr is under way -/
structure FnG (P : Program) (w : World) (K : PySem.W.Frag) (mg : Str → Option Value) (base : Heap) (k : Nat) (f : Addr) (fd : FuncData) (ps : List Str) (sp : Sp) : Prop where
  len : ∀ vs H Q E, sp vs H Q E → vs.length = ps.length
  run : ∀ (A : Around) (outer : List PySem.Env) (s : Shared) (H : Hp) (args : Args) (us : List Value) (vs : List V) (Q : VK) (E : XK), Room k A → A.guards = some [] → Env0 P w K mg base A outer s H → BindsTo s fd args (ps.zip us) → Vals vs us → sp vs H Q E →
    codeAny (model P w) A (.call (.ref f) args) (CR (L2.CX P w) outer P w H s Q E) s
theorem FnG.of {k : Nat} {f : Addr} {fd : FuncData} {ps : List Str} {sp : Sp} (F : FnOk P w K mg base (L2.CX P w) k f fd ps sp) : FnG P w K mg base k f fd ps sp :=
  ⟨F.len, fun A outer s H args us vs Q E hr _ => F.run A outer s H args us vs Q E hr⟩
theorem FnG.mono {j k : Nat} {f : Addr} {fd : FuncData} {ps : List Str} {sp : Sp} (F : FnG P w K mg base j f fd ps sp) (h : j ≤ k) : FnG P w K mg base k f fd ps sp :=
  ⟨F.len, fun A outer s H args us vs Q E hr => F.run A outer s H args us vs Q E (hr.mono h)⟩
theorem fn_raw {x qual : Str} {st : Stmt} {f : Addr} {fd : FuncData} {N ps : List Str} {k : Nat} {sp : Sp} (F : Fun K x qual st f fd) (Sc : FnScope N ps (defScope st)) (len : ∀ vs H Q E, sp vs H Q E → vs.length = ps.length)
    (hbody : ∀ (cdv : Value) (A : Around) (outer : List PySem.Env) (s : Shared) (H : Hp) (vs : List V) (Q : VK) (E : XK), Room k (A.deeper (envOfC qual (defScope st) s.heap.objs.size f cdv)) → A.guards = some [] → sp vs H Q E →
      ∃ t, PSs (cxOf (L2.CX P w) P w K mg base N qual (defScope st) f cdv A outer s H E) (defBody st) t ∧ t { nx := fun _ H' => Q .non H', rt := Q } (L2.start N vs) H) : FnG P w K mg base (k + 1) f fd ps sp := by
  obtain ⟨oc, od, kV, doc, pm, an, cdv, ct, osl, rfl, lk, hcd⟩ := F.ex
  exact ⟨len, fun A outer s H args us vs Q E hr hg e0 hb r hsp => LamX.run_ofS lk hcd Sc hr e0 hb r (len _ _ _ _ hsp) fun hr' => hbody cdv A outer s H vs Q E hr' hg hsp⟩
theorem fn_okG {x qual : Str} {st : Stmt} {f : Addr} {fd : FuncData} {N ps : List Str} {k : Nat} {sg : Sta} {d : DS} (F : Fun K x qual st f fd) (Sc : FnScope N ps (defScope st)) (hN : Nat.ble ps.length N.length = true) (hown : sg.own.all (fun i => decide (ps.length ≤ i)) = true)
    (hist : (match sg.ist with | some i => decide (i < ps.length) | none => true) = true)
    (hbody : ∀ (cdv : Value) (A : Around) (outer : List PySem.Env) (s : Shared) (H : Hp) (E : XK), Room k (A.deeper (envOfC qual (defScope st) s.heap.objs.size f cdv)) → A.guards = some [] →
      PSs (cxOf (L2.CX P w) P w K mg base N qual (defScope st) f cdv A outer s H E) (defBody st) (tS K mg sg (wE E) d)) : FnG P w K mg base (k + 1) f fd ps (spF K mg (dFn N.length ps.length sg.ist d)) :=
  fn_raw F Sc (spF_len dFn_len) fun cdv A outer s H vs Q E hr hg h => ⟨_, hbody cdv A outer s H E hr hg, fn_core hN hown hist h⟩
end

section
variable {X : Cx} {sg : Sta} {W : WX} {a : Expr} {es : List Expr} {as : DAo} {F : DF} {w w0 p f1 : Bool} {k : Nat} {f : Addr} {fd : FuncData} {ps : List Str} {n : Nat} {x : Str} {pos p' : Pos}
/-- f(..) of a def -/
theorem call_core {σ : Sl} {H : Hp} {Q : VK} (q : tE X.K X.mg sg W w0 p false (dCall w F as) σ H Q) :
    tAo X.K X.mg sg W w p as σ H fun vs H1 => spF X.K X.mg F vs H1 Q fun cls d H => W cls d σ H := by
  obtain ⟨g, ρ, o, S, ok, r, q⟩ := q
  unfold dCall at q
  cases e1 : as ρ o with
  | bad => rw [e1] at q; exact q.elim
  | ex c ρ1 o1 => rw [e1] at q; exact tAo.of_ex r e1 q
  | ok args ρ1 o1 =>
    rw [e1] at q
    refine tAo.of_ok r e1 fun xs H1 ok1 n1 r1 => ?_
    simp only [Res.bind] at q
    have hsub : ∀ a, ok1 a → (if w = true then okw g S else ok1) a := fun a h => by
      split
      · exact n1.st.sub a h
      · exact h
    refine ⟨args, (if w = true then okw g S else ok1), S, o1, fun a h => hsub a (n1.st.fr a h), fun a h => ?_, n1.st.orc, ?_, ?_⟩
    · split at h
      · exact h.2
      · exact (n1.st.sub a h).2
    · exact r1.step hsub (fun _ h => h) .refl .refl
    · cases e2 : F args o1 with
      | bad => rw [e2] at q; exact q.elim
      | ex c o2 =>
        rw [e2] at q
        simp only at q
        cases w with
        | true => exact q.elim
        | false =>
          simp only [Bool.false_eq_true, if_false] at q ⊢
          exact fun cls dd H' ch ro x => q cls dd H' ok1 (n1.weak.trans (Nx.through (p := false) n1.st ch ro)) x
      | ok v o2 =>
        rw [e2] at q
        simp only at q
        by_cases hf : (!w || flat v) = true
        · rw [if_pos hf] at q
          refine fun x H' ch ro rx => q x H' ok1 ((n1.trans (Nx.through (p := true) n1.st ch ro)).le (by intro e; rw [e]; rfl)) (RpM.ofRp n1.st.sub ?_) fun e => by cases e
          cases w with
          | false => exact rx
          | true => exact Rp.flat (by simpa using hf) rx
        · rw [if_neg hf] at q; exact q.elim
theorem e_call (Fo : FnOk X.prog X.w X.K X.mg X.base (L2.CX X.prog X.w) k f fd ps (spF X.K X.mg F)) (hr : Room k X.A) (hg : Gl X x) (hm : X.mg x = some (.ref f)) (hk : PySem.W.keepIn X.K (.ref f) = true) (hb : Binds X.K fd ps []) (tk : Takes X W)
    (ha : PA X (a :: es) (tAo X.K X.mg sg W w p as)) (hdb : (x == ("__debug__" : Str)) = false := by decide) (he : starEach (a :: es) X.env = (false, eval a X.env) :: starEach es X.env := by rfl) (hpl : (backTo pos (starEach es X.env)).any (·.1) = false := by rfl) :
    PE X (.Call (.Name x p') (a :: es) [] pos) (tE X.K X.mg sg W w0 p false (dCall w F as)) := by
  refine PE.imp (pe_callSD (E := fun σ cls d H => W cls d σ H) Fo hr hg hm hk hb .nil (fun σ => passAt tk σ) ha hdb he hpl) fun σ H Q q => ?_
  unfold tCallSD
  simp only [List.append_nil]
  exact call_core q
theorem e_call0 (Fo : FnOk X.prog X.w X.K X.mg X.base (L2.CX X.prog X.w) k f fd ps (spF X.K X.mg F)) (hr : Room k X.A) (hg : Gl X x) (hm : X.mg x = some (.ref f)) (hk : PySem.W.keepIn X.K (.ref f) = true) (hb : Binds X.K fd ps [])
    (hx : Passes (L2.CX X.prog X.w) X E0) (hdb : (x == ("__debug__" : Str)) = false := by decide) : PE X (.Call (.Name x p') [] [] pos) (tE X.K X.mg sg WF w0 true false (dCall false F aNil)) := by
  refine PE.imp (pe_call0 (E := E0) Fo hr hg hm hk hb .nil hx hdb) fun σ H Q q => ?_
  obtain ⟨g, ρ, o, S, ok, r, q⟩ := call_core q
  unfold tCall tNil
  simp only [List.append_nil]
  exact q [] H ok (.refl r _) .nil
/-- .. where no repr is under way -/
theorem e_callG (Fo : FnG X.prog X.w X.K X.mg X.base k f fd ps (spF X.K X.mg F)) (hr : Room k X.A) (hgd : X.A.guards = some []) (hg : Gl X x) (hm : X.mg x = some (.ref f)) (hk : PySem.W.keepIn X.K (.ref f) = true) (hb : Binds X.K fd ps []) (tk : Takes X W)
    (ha : PA X (a :: es) (tAo X.K X.mg sg W w p as)) (hdb : (x == ("__debug__" : Str)) = false := by decide) (he : starEach (a :: es) X.env = (false, eval a X.env) :: starEach es X.env := by rfl) (hpl : (backTo pos (starEach es X.env)).any (·.1) = false := by rfl) :
    PE X (.Call (.Name x p') (a :: es) [] pos) (tE X.K X.mg sg W w0 p false (dCall w F as)) := by
  refine ⟨fun pins s σ H Q I h => wpAny_Call_Name_kw (ld_glob I hg hm ?_ hdb)⟩
  refine PySem.W.callWith_K (h₀ := X.base) I.ok.mod.kin hk (thn (ha.run pos pins s σ H _ I (call_core h)) fun us s1 ⟨vs, H1, I1, r, q⟩ => ⟨I1.kIn, ?_⟩) he hpl
  have hl : us.length = ps.length := by rw [← r.length]; exact Fo.len _ _ _ _ q
  have hb1 := hb s1 us I1.kIn (by simpa using hl)
  rw [List.append_nil] at hb1
  refine wpAny_call (codeAny_mono (Fo.run X.A X.stack s1 H1 ⟨us, []⟩ us vs Q _ hr hgd I1.env0 hb1 r q) fun rr s' hq => ?_)
  cases rr with
  | error ee => exact passAt tk σ pins H1 s1 ee s' I1 hq
  | ok fl =>
    cases fl with
    | ret u => exact I1.after hq
    | next => exact hq.elim
    | brk => exact hq.elim
    | cont => exact hq.elim
end
end FL
namespace FL
open PySem PySem.Spec PyProof.Rows L2

theorem OpR.imp {X : Cx} {f : Value → Value → Sem Value} {r r' : R2} (h : OpR X f r) (i : ∀ x y H Q, r' x y H Q → r x y H Q) : OpR X f r' := fun pins s σ H x y v u Q I rx ry q => h pins s σ H x y v u Q I rx ry (i _ _ _ _ q)
theorem UnR.imp {X : Cx} {f : Value → Sem Value} {r r' : V → Hp → VK → Prop} (h : UnR X f r) (i : ∀ x H Q, r' x H Q → r x H Q) : UnR X f r' := fun pins s σ H x v Q I rx q => h pins s σ H x v Q I rx (i _ _ _ q)
theorem CallR.imp {X : Cx} {f : Value} {r r' : List V → Hp → VK → Prop} (h : CallR X f r) (i : ∀ x H Q, r' x H Q → r x H Q) : CallR X f r' := fun pins s σ H xs us Q I rx q => h pins s σ H xs us Q I rx (i _ _ _ q)
theorem IxR.imp {X : Cx} {r r' : R2} (h : IxR X r) (i : ∀ x y H Q, r' x y H Q → r x y H Q) : IxR X r' := fun va sl pins s σ H x y v u Q I rx ry q hs => h va sl pins s σ H x y v u Q I rx ry (i _ _ _ _ q) hs

section
variable {okT ok : Addr → Prop} {K : PySem.W.Frag} {H : Hp}
theorem RpT.int {i : Int} {x : V} (r : RpT okT ok K H (.int i) x) : x = .int i := by
  have r' : Rp ok K H (.int i) x := r
  cases r'; rfl
theorem RpT.str {i : Str} {x : V} (r : RpT okT ok K H (.str i) x) : x = .str i := by
  have r' : Rp ok K H (.str i) x := r
  cases r'; rfl
theorem RpT.bl {i : Bool} {x : V} (r : RpT okT ok K H (.bool i) x) : x = .bl i := by
  have r' : Rp ok K H (.bool i) x := r
  cases r'; rfl
theorem RpT.non {x : V} (r : RpT okT ok K H .none x) : x = .non := by
  have r' : Rp ok K H .none x := r
  cases r'; rfl
theorem RpT.tup {ds : List PyData} {x : V} (r : RpT okT ok K H (.tuple ds) x) : ∃ a xs, x = .ref a ∧ TpD H a ds xs ∧ Rps ok K H ds xs := by
  have r' : Rp ok K H (.tuple ds) x := r
  cases r' with
  | tup h r1 => exact ⟨_, _, rfl, h, r1⟩
theorem RpT.lst {ds : List PyData} {x : V} (r : RpT okT ok K H (.list ds) x) : ∃ a xs, x = .ref a ∧ SqL K H a xs ∧ Rps ok K H ds xs := by
  obtain ⟨a, xs, e, _, h, r⟩ := r
  exact ⟨a, xs, e, .inl h, r⟩
end

/-- below a bound in size, told so that the kernel can look at it without reckoning down from the bound -/
def absLt (i : Int) (n : Nat) : Bool := Nat.blt i.natAbs n
theorem absLt_iff {i : Int} {n : Nat} : absLt i n = true ↔ -(n : Int) < i ∧ i < n := by
  unfold absLt
  rw [Nat.blt_eq]
  omega
def phI (h : Int → Int → Option Int) : PyData → PyData → Option PyData
  | .int i, .int j => (h i j).map .int
  | _, _ => none
theorem phI_some {h : Int → Int → Option Int} {v u d : PyData} (e : phI h v u = some d) : ∃ i j k, v = .int i ∧ u = .int j ∧ h i j = some k ∧ d = .int k := by
  unfold phI at e
  split at e
  · rename_i i j
    cases q : h i j with
    | none => rw [q] at e; cases e
    | some k => rw [q] at e; cases e; exact ⟨i, j, k, rfl, rfl, q, rfl⟩
  · cases e
theorem op_phI {X : Cx} {f : Value → Value → Sem Value} {C : Int → Int → Prop} {g : Int → Int → Int} {h : Int → Int → Option Int} (ho : OpR X f (rI C fun i j => .int (g i j))) (hh : ∀ i j k, h i j = some k → C i j ∧ k = g i j) : OpR X f (r2D X.K true (phI h)) := by
  refine OpR.imp ho fun x y H Q ⟨ok, okT, v, u, d, fr, r1, r2, e, q⟩ => ?_
  obtain ⟨i, j, k, rfl, rfl, e2, rfl⟩ := phI_some e
  obtain ⟨c, rfl⟩ := hh i j k e2
  exact ⟨i, j, r1.int, r2.int, c, q _ _ (Nw.same (.int _) rfl)⟩
theorem op_phI0 {X : Cx} {f : Value → Value → Sem Value} {g : Int → Int → Int} (ho : OpR X f (rI0 fun i j => .int (g i j))) : OpR X f (r2D X.K true (phI fun i j => some (g i j))) := by
  refine OpR.imp ho fun x y H Q ⟨ok, okT, v, u, d, fr, r1, r2, e, q⟩ => ?_
  obtain ⟨i, j, k, rfl, rfl, e2, rfl⟩ := phI_some e
  cases e2
  exact ⟨i, j, r1.int, r2.int, q _ _ (Nw.same (.int _) rfl)⟩
def phSub : PyData → PyData → Option PyData := phI fun i j => some (i - j)
theorem opSub {X : Cx} : OpR X (binaryOp .Sub) (r2D X.K true phSub) := op_phI0 op_sub
/-- a remainder by a number above 0 -/
def phMod : PyData → PyData → Option PyData := phI fun i j => if 0 < j then some (i % j) else none
theorem opMod {X : Cx} : OpR X (binaryOp .Mod) (r2D X.K true phMod) := op_phI op_mod fun i j k e => by
  by_cases h : 0 < j
  · rw [if_pos h] at e; cases e; exact ⟨h, rfl⟩
  · rw [if_neg h] at e; cases e
def phDiv : PyData → PyData → Option PyData := phI fun i j => if 0 < j ∧ absLt j 1073741824 = true then some (i / j) else none
theorem opDiv {X : Cx} : OpR X (binaryOp .FloorDiv) (r2D X.K true phDiv) := op_phI op_fdiv fun i j k e => by
  by_cases h : 0 < j ∧ absLt j 1073741824 = true
  · rw [if_pos h] at e; cases e; exact ⟨⟨h.1, (absLt_iff.mp h.2).2⟩, rfl⟩
  · rw [if_neg h] at e; cases e
def phPow : PyData → PyData → Option PyData := phI fun i j => if 0 ≤ j ∧ absLt j 1000001 = true ∧ absLt i 18446744073709551616 = true then some (i ^ j.toNat) else none
theorem opPow {X : Cx} : OpR X (binaryOp .Pow) (r2D X.K true phPow) := op_phI op_pow fun i j k e => by
  by_cases h : 0 ≤ j ∧ absLt j 1000001 = true ∧ absLt i 18446744073709551616 = true
  · rw [if_pos h] at e; cases e; exact ⟨⟨h.1, by have := absLt_iff.mp h.2.1; omega, by have := absLt_iff.mp h.2.2; omega⟩, rfl⟩
  · rw [if_neg h] at e; cases e
def smallM (i j : Int) : Bool := absLt i 18446744073709551616 || absLt j 18446744073709551616
/-- +: whole numbers, tuples, lists -/
def phAdd : PyData → PyData → Option PyData
  | .int i, .int j => some (.int (i + j))
  | .tuple xs, .tuple ys => if xs.length + ys.length ≤ sizeLine then some (.tuple (xs ++ ys)) else none
  | .list xs, .list ys => if xs.length + ys.length ≤ sizeLine then some (.list (xs ++ ys)) else none
  | _, _ => none
theorem op_catL {X : Cx} : OpR X (binaryOp .Add) (fun x y H Q => ∃ l b xs zs, x = .ref l ∧ y = .ref b ∧ SqL X.K H l xs ∧ SqL X.K H b zs ∧ xs.length + zs.length ≤ sizeLine ∧ ∀ p, H p = none → Q (.ref p) (upd H p (.lst (xs ++ zs)))) := by
  intro pins s σ H x y v u Q I rx ry h
  obtain ⟨l, b, xs, zs, rfl, rfl, hH, hB, hz, q⟩ := h
  cases rx
  cases ry
  obtain ⟨its, r, pl, z⟩ := I.list hH
  obtain ⟨its2, r2, pl2, z2⟩ := I.list hB
  have za : its.length + its2.length ≤ sizeLine := by rw [← r.length, ← r2.length]; exact hz
  obtain ⟨⟨cls, dd, data, sl⟩, n, ho, hc, _, hd⟩ := id pl
  obtain ⟨⟨cls2, dd2, data2, sl2⟩, n2, ho2, hc2, _, hd2⟩ := id pl2
  simp only at hc hd hc2 hd2
  subst hc hd hc2 hd2
  have e : its.toArray ++ its2.toArray = (its ++ its2).toArray := by simp
  refine concat_meets ⟨_, ho, rfl⟩ ⟨_, ho2, rfl⟩ noFill_list_add seq_list_add PySem.F.slot_list_add PySem.F.entry_list_add (PySem.F.args_list_add_2 _ _) (list_addW l b its.toArray its2.toArray n n2 dd dd2 sl sl2 (by simpa using za)) ⟨ho, ho2, ?_⟩
  rw [e]
  exact ⟨.ref s.heap.objs.size, _, I.lnew (t' := s.toks) (r.append r2) (by simpa using hz), rfl, q _ I.fresh⟩
theorem opAdd {X : Cx} : OpR X (binaryOp .Add) (r2D X.K true phAdd) := by
  refine OpR.imp ((op_add.or op_catH).or op_catL) fun x y H Q ⟨ok, okT, v, u, d, fr, r1, r2, e, q⟩ => ?_
  unfold phAdd at e
  split at e
  · cases e
    exact .inl (.inl ⟨_, _, r1.int, r2.int, q _ _ (Nw.same (.int _) rfl)⟩)
  · rename_i xs ys
    by_cases hz : xs.length + ys.length ≤ sizeLine
    · rw [if_pos hz] at e
      cases e
      obtain ⟨a, us, rfl, h1, s1⟩ := r1.tup
      obtain ⟨b, vs, rfl, h2, s2⟩ := r2.tup
      refine .inl (.inr ⟨a, b, us, vs, rfl, rfl, h1.sq, h2.sq, by rw [← s1.length, ← s2.length]; exact hz, fun e => ?_, fun _ e => ?_, fun _ _ p o ho hp => q _ _ (Nw.hard ho hp (s1.append s2))⟩)
      · subst e
        cases s1
        exact q _ _ (Nw.same (.tup h2 s2) rfl)
      · subst e
        cases s2
        rw [List.append_nil] at q
        exact q _ _ (Nw.same (.tup h1 s1) rfl)
    · rw [if_neg hz] at e; cases e
  · rename_i xs ys
    by_cases hz : xs.length + ys.length ≤ sizeLine
    · rw [if_pos hz] at e
      cases e
      obtain ⟨a, us, rfl, h1, s1⟩ := r1.lst
      obtain ⟨b, vs, rfl, h2, s2⟩ := r2.lst
      exact .inr ⟨a, b, us, vs, rfl, rfl, h1, h2, by rw [← s1.length, ← s2.length]; exact hz, fun p hp => q _ _ (Nw.lst fr hp (s1.append s2))⟩
    · rw [if_neg hz] at e; cases e
  · cases e
def phNeg : PyData → Option PyData
  | .int i => some (.int (-i))
  | _ => none
theorem unNeg {X : Cx} : UnR X (unaryOp .USub) (r1D X.K true phNeg) := by
  refine UnR.imp un_neg fun x H Q ⟨ok, okT, v, d, fr, r1, e, q⟩ => ?_
  unfold phNeg at e
  split at e
  · cases e
    exact ⟨_, r1.int, q _ _ (Nw.same (.int _) rfl)⟩
  · cases e

def phC (h : Int → Int → Bool) : PyData → PyData → Option PyData
  | .int i, .int j => some (.bool (h i j))
  | _, _ => none
theorem op_phC {X : Cx} {f : Value → Value → Sem Value} {g : Int → Int → Bool} (ho : OpR X f (rI0 fun i j => .bl (g i j))) : OpR X f (r2D X.K true (phC g)) := by
  refine OpR.imp ho fun x y H Q ⟨ok, okT, v, u, d, fr, r1, r2, e, q⟩ => ?_
  unfold phC at e
  split at e
  · cases e
    exact ⟨_, _, r1.int, r2.int, q _ _ (Nw.same (.bl _) rfl)⟩
  · cases e
theorem opLt {X : Cx} : OpR X (compareOp .Lt) (r2D X.K true (phC fun i j => decide (i < j))) := op_phC op_lt
theorem opLe {X : Cx} : OpR X (compareOp .LtE) (r2D X.K true (phC fun i j => decide (i ≤ j))) := op_phC op_le
theorem opGt {X : Cx} : OpR X (compareOp .Gt) (r2D X.K true (phC fun i j => decide (j < i))) := op_phC op_gt
theorem opGe {X : Cx} : OpR X (compareOp .GtE) (r2D X.K true (phC fun i j => decide (j ≤ i))) := op_phC op_ge
end FL
namespace FL
open PySem PySem.Spec PyProof.Rows L2 PySem.W

/-- no dict within, not too deep -/
def okD (d : PyData) : Bool := d.plain && decide (d.depth ≤ 64)
def okDs (ds : List PyData) : Bool := PyData.plainAll ds && decide (PyData.depthAll ds ≤ 64)
theorem okD_plain {d : PyData} (h : okD d = true) : d.plain = true ∧ d.depth ≤ 64 := by
  simpa [okD] using h
theorem okDs_plain {d : List PyData} (h : okDs d = true) : PyData.plainAll d = true ∧ PyData.depthAll d ≤ 64 := by
  simpa [okDs] using h

section
variable {okT ok : Addr → Prop} {K : PySem.W.Frag} {H : Hp}
mutual
theorem Rp.dpl : ∀ {d : PyData} {x : V}, d.plain = true → Rp ok K H d x → Dp K H x d
  | _, _, _, .non => .non
  | _, _, _, .bl b => .bl b
  | _, _, _, .int i => .int i
  | _, _, _, .str x => .str x
  | _, _, e, .tup h r => .tup h.sq (Rps.dpl (by simpa [PyData.plain] using e) r)
  | _, _, e, .lst q h r => .lst (.inl h) (Rps.dpl (by simpa [PyData.plain] using e) r)
  | _, _, e, .dk q h r => by simp [PyData.plain] at e
  | _, _, e, .dt q h r => by simp [PyData.plain] at e
theorem Rps.dpl : ∀ {d : List PyData} {x : List V}, PyData.plainAll d = true → Rps ok K H d x → DpAll K H x d
  | _, _, _, .nil => .nil
  | _, _, e, .cons h r => by
    simp only [PyData.plainAll, Bool.and_eq_true] at e
    exact .cons (Rp.dpl e.1 h) (Rps.dpl e.2 r)
end
theorem RpT.dpl {d : PyData} {x : V} (e : d.plain = true) (r : RpT okT ok K H d x) : Dp K H x d := by
  cases d with
  | list ds =>
    obtain ⟨a, xs, rfl, h, r⟩ := r.lst
    exact .lst h (Rps.dpl (by simpa [PyData.plain] using e) r)
  | dict ps => simp [PyData.plain] at e
  | none => exact Rp.dpl e r
  | bool b => exact Rp.dpl e r
  | int i => exact Rp.dpl e r
  | str x => exact Rp.dpl e r
  | tuple xs => exact Rp.dpl e r
end
section
variable {X : Cx} {pins : List (Addr × Obj)} {σ : Sl} {H : Hp} {s : Shared} {ok okT : Addr → Prop}
theorem RpT.rd (I : Inv X pins σ H s) {d : PyData} {x : V} {v : Value} (e : d.plain = true) (r : RpT okT ok X.K H d x) (rx : RelV x v) : ∃ as, Reads s.heap v d as := (r.dpl e).reads I _ _ _ rx
theorem Rps.rd (I : Inv X pins σ H s) {d : List PyData} {x : List V} {v : List Value} (e : PyData.plainAll d = true) (r : Rps ok X.K H d x) (rx : Vals x v) : ∃ as, ReadsAll s.heap v d as := Dp.readsAll I _ _ _ (r.dpl e) rx

/-- a key of a dict -/
def toK : PyData → Option Key
  | .int i => some (.inl i)
  | .str x => some (.inr x)
  | _ => none
mutual
def toN : PyData → Option NestedKey
  | .int i => some (.num i)
  | .tuple ds => (toKs ds).map .tup
  | _ => none
def toKs : List PyData → Option (List NestedKey)
  | [] => some []
  | d :: ds => (toN d).bind fun k => (toKs ds).map fun ks => k :: ks
end
def toKT : PyData → Option (List NestedKey)
  | .tuple ds => (toKs ds).bind fun ks => if okK ks = true then some ks else none
  | _ => none
theorem toK_some {d : PyData} {k : Key} (h : toK d = some k) : d = keyD k := by
  cases d <;> simp only [toK] at h <;> first | (cases h; rfl) | cases h
mutual
theorem toN_some : ∀ {d : PyData} {k : NestedKey}, toN d = some k → d = NestedKey.data k
  | .int i, _, h => by simp only [toN] at h; cases h; rfl
  | .tuple ds, k, h => by
    simp only [toN] at h
    cases e : toKs ds with
    | none => rw [e] at h; cases h
    | some ks =>
      rw [e] at h
      cases h
      rw [toKs_some e]
      rfl
  | .none, _, h => by simp [toN] at h
  | .bool _, _, h => by simp [toN] at h
  | .str _, _, h => by simp [toN] at h
  | .list _, _, h => by simp [toN] at h
  | .dict _, _, h => by simp [toN] at h
theorem toKs_some : ∀ {d : List PyData} {k : List NestedKey}, toKs d = some k → d = NestedKey.datas k
  | [], _, h => by simp only [toKs] at h; cases h; rfl
  | d :: ds, k, h => by
    simp only [toKs] at h
    cases e1 : toN d with
    | none => rw [e1] at h; cases h
    | some x =>
    cases e2 : toKs ds with
    | none => rw [e1, e2] at h; cases h
    | some ks =>
      rw [e1, e2] at h
      cases h
      rw [toN_some e1, toKs_some e2]
      rfl
end
theorem toKT_ok {d : PyData} {k : List NestedKey} (h : toKT d = some k) : d = keyTD k ∧ okK k = true := by
  cases d <;> simp only [toKT] at h
  case tuple ds =>
    cases e : toKs ds with
    | none => rw [e] at h; cases h
    | some ks =>
      rw [e] at h
      simp only [Option.bind] at h
      by_cases hk : okK ks = true
      · rw [if_pos hk] at h
        cases h
        exact ⟨by rw [toKs_some e]; rfl, hk⟩
      · rw [if_neg hk] at h; cases h
  all_goals cases h
theorem toKT_some {d : PyData} {k : List NestedKey} (h : toKT d = some k) : d = keyTD k := (toKT_ok h).1
theorem toK_keyD (k : Key) : toK (keyD k) = some k := by cases k <;> rfl
mutual
theorem toN_data : ∀ {k : NestedKey}, nkI k = true → toN (NestedKey.data k) = some k
  | .num i, _ => rfl
  | .tup ks, h => by
    simp only [nkI] at h
    simp only [NestedKey.data, toN, toKs_keyD h, Option.map]
  | .none, h => by simp [nkI] at h
  | .text _, h => by simp [nkI] at h
theorem toKs_keyD : ∀ {k : List NestedKey}, nksI k = true → toKs (NestedKey.datas k) = some k
  | [], _ => rfl
  | k :: ks, h => by
    simp only [nksI, Bool.and_eq_true] at h
    simp only [NestedKey.datas, toKs, toN_data h.1, toKs_keyD h.2, Option.bind, Option.map]
end
theorem toKT_keyTD {k : List NestedKey} (h : okK k = true) : toKT (keyTD k) = some k := by
  have h1 : nksI k = true := by
    unfold okK at h
    rw [Bool.and_eq_true] at h
    exact h.1
  simp only [keyTD, toKT, toKs_keyD h1, Option.bind, if_pos h]
theorem toK_keyTD (k : List NestedKey) : toK (keyTD k) = none := rfl
theorem datas_nums : ∀ k : List Int, NestedKey.datas (k.map .num) = k.map .int
  | [] => rfl
  | k :: ks => by simp [NestedKey.datas, NestedKey.data, datas_nums ks]
theorem okK_nums (k : List Int) : okK (k.map .num) = true := by
  have h : ∀ k : List Int, nksI (k.map .num) = true ∧ NestedKey.depthAll (k.map .num) = 0 := fun k => by
    induction k with
    | nil => exact ⟨rfl, rfl⟩
    | cons x xs ih => exact ⟨by simp only [List.map_cons, nksI, nkI, ih.1, Bool.and_self], by simp only [List.map_cons, NestedKey.depthAll, NestedKey.depth, ih.2, Nat.max_self]⟩
  unfold okK
  rw [(h k).1, (h k).2]
  rfl
/-- flat keys -/
theorem toKT_ints (k : List Int) : toKT (.tuple (k.map .int)) = some (k.map .num) := by
  rw [← datas_nums]
  exact toKT_keyTD (okK_nums k)
theorem toKT_keyD (k : Key) : toKT (keyD k) = none := by cases k <;> rfl
/-- what a dict holds at a key: none, it is not told -/
def getK (k : Key) : List (PyData × PyData) → Option PyData
  | [] => none
  | p :: ps => if toK p.1 = some k then some p.2 else getK k ps
def getT (k : List NestedKey) : List (PyData × PyData) → Option PyData
  | [] => none
  | p :: ps => if toKT p.1 = some k then some p.2 else getT k ps
def allK (ps : List (PyData × PyData)) : Bool := ps.all fun p => (toK p.1).isSome
def allT (ps : List (PyData × PyData)) : Bool := ps.all fun p => (toKT p.1).isSome
def getD (ps : List (PyData × PyData)) (y : PyData) : Option (Option PyData) :=
  if ps.isEmpty = true then none else match toK y with
  | some k => if allK ps = true then some (getK k ps) else none
  | none => match toKT y with
    | some k => if allT ps = true then some (getT k ps) else none
    | none => none
theorem Rp.key {k : Key} {x : V} (r : Rp ok X.K H (keyD k) x) : x = kV k := by
  cases k with
  | inl i => cases r; rfl
  | inr i => cases r; rfl
theorem RpT.key {k : Key} {x : V} (r : RpT okT ok X.K H (keyD k) x) : x = kV k := by
  cases k with
  | inl i => exact r.int
  | inr i => exact r.str
theorem RpT.keyT {k : List NestedKey} {x : V} (r : RpT okT ok X.K H (keyTD k) x) : ∃ a xs, x = .ref a ∧ TpD H a (NestedKey.datas k) xs ∧ Rps ok X.K H (NestedKey.datas k) xs := by
  obtain ⟨a, xs, rfl, h, rs⟩ := r.tup
  exact ⟨a, xs, rfl, h, rs⟩
/-- what is there, if anything -/
inductive OptR (ok : Addr → Prop) (K : PySem.W.Frag) (H : Hp) : Option PyData → Option V → Prop
  | none : OptR ok K H none none
  | some {d : PyData} {v : V} : Rp ok K H d v → OptR ok K H (some d) (some v)
theorem OptR.some_eq {o : Option PyData} {q : Option V} (h : OptR ok X.K H o q) : q.isSome = o.isSome := by cases h <;> rfl
theorem Rkv.get {ps : List (PyData × PyData)} {kvs : List (Key × V)} (r : Rkv ok X.K H ps kvs) (k : Key) : OptR ok X.K H (getK k ps) (valV kvs k) := by
  induction kvs generalizing ps with
  | nil => cases r; exact .none
  | cons p kvs ih =>
    cases r with
    | @cons k0 d ds v vs h t =>
      by_cases e : k0 = k
      · subst e
        rw [show getK k0 ((keyD k0, d) :: ds) = some d by simp [getK, toK_keyD], valV_pos (show (k0, v).1 = k0 from rfl)]
        exact .some h
      · rw [valV_neg (show ¬ (k0, v).1 = k from e)]
        have : getK k ((keyD k0, d) :: ds) = getK k ds := by simp [getK, toK_keyD, e]
        rw [this]
        exact ih t
theorem Rtv.get {ps : List (PyData × PyData)} {kvs : List KTv} (r : Rtv ok X.K H ps kvs) (k : List NestedKey) : OptR ok X.K H (getT k ps) (valI kvs (.tup k)) := by
  induction kvs generalizing ps with
  | nil => cases r; exact .none
  | cons p kvs ih =>
    cases r with
    | @cons k0 b xs d ds v vs q tk rs h t =>
      by_cases e : k0 = k
      · subst e
        rw [show getT k0 ((keyTD k0, d) :: ds) = some d by simp [getT, toKT_keyTD q], show valI ((.tup k0, b, v) :: kvs) (.tup k0) = some v by simp [valI]]
        exact .some h
      · rw [show valI ((.tup k0, b, v) :: kvs) (.tup k) = valI kvs (.tup k) by simp [valI, e]]
        have : getT k ((keyTD k0, d) :: ds) = getT k ds := by simp [getT, toKT_keyTD q, e]
        rw [this]
        exact ih t
theorem Rtv.keysT : ∀ {ps : List (PyData × PyData)} {kvs : List KTv}, Rtv ok X.K H ps kvs → KeysT X.K H kvs
  | _, _, .nil => fun p hp => by cases hp
  | _, _, .cons q tk rs _ t => fun p hp => by
    rcases List.mem_cons.mp hp with rfl | hp
    · exact keyAt_of q tk rs
    · exact Rtv.keysT t p hp
theorem Rkv.noT {ps : List (PyData × PyData)} {kvs : List (Key × V)} (r : Rkv ok X.K H ps kvs) (h : allT ps = true) (n : ps.isEmpty = false) : False := by
  cases r with
  | nil => cases n
  | cons _ _ => simp [allT, toKT_keyD] at h
theorem Rtv.noK {ps : List (PyData × PyData)} {kvs : List KTv} (r : Rtv ok X.K H ps kvs) (h : allK ps = true) (n : ps.isEmpty = false) : False := by
  cases r with
  | nil => cases n
  | cons _ _ _ _ _ => simp [allK, toK_keyTD] at h
/-- what the dict at a holds at y -/
def DGt (K : PySem.W.Frag) (H : Hp) (a : Addr) (y : V) (q : Option V) : Prop := (∃ kvs k, Rd H a (.dK kvs) ∧ y = kV k ∧ q = valV kvs k) ∨ ∃ kvs k b, H a = some (DTi a kvs) ∧ KeysT K H kvs ∧ y = .ref b ∧ KeyAt K H k b ∧ q = valI kvs k
/-- a dict's answer -/
theorem RpT.dget {ps : List (PyData × PyData)} {y : PyData} {o : Option PyData} {x z : V} (e : getD ps y = some o) (r : RpT okT ok X.K H (.dict ps) x) (ry : RpT okT ok X.K H y z) :
    ∃ a, x = .ref a ∧ ∃ q, DGt X.K H a z q ∧ OptR ok X.K H o q := by
  unfold getD at e
  cases hn : ps.isEmpty with
  | true => rw [hn] at e; cases e
  | false =>
  rw [hn] at e
  simp only [Bool.false_eq_true, if_false] at e
  obtain ⟨a, rfl, _, hr⟩ := r
  refine ⟨a, rfl, ?_⟩
  cases e1 : toK y with
  | some k =>
    rw [e1] at e
    obtain rfl := toK_some e1
    simp only at e
    by_cases hk : allK ps = true
    · rw [if_pos hk] at e
      cases e
      rcases hr with ⟨kvs, h, rr⟩ | ⟨kvs, h, rr⟩
      · exact ⟨_, .inl ⟨kvs, k, h, ry.key, rfl⟩, rr.get k⟩
      · exact (rr.noK hk hn).elim
    · rw [if_neg hk] at e; cases e
  | none =>
    rw [e1] at e
    simp only at e
    cases e2 : toKT y with
    | none => rw [e2] at e; cases e
    | some k =>
      rw [e2] at e
      obtain ⟨rfl, hok⟩ := toKT_ok e2
      simp only at e
      by_cases hk : allT ps = true
      · rw [if_pos hk] at e
        cases e
        rcases hr with ⟨kvs, h, rr⟩ | ⟨kvs, h, rr⟩
        · exact (rr.noT hk hn).elim
        · obtain ⟨b, xs, rfl, hb, rs⟩ := ry.keyT
          exact ⟨_, .inr ⟨kvs, .tup k, b, h, rr.keysT, rfl, keyAt_of hok hb rs, rfl⟩, rr.get k⟩
      · rw [if_neg hk] at e; cases e
section
variable {pins : List (Addr × Obj)} {σ : Sl} {s : Shared} {a : Addr} {y : V} {u : Value} {A : Around} {E : Value → Shared → Prop}
theorem dg_in {o : Option V} {Q : Value → Shared → Prop} (hu : A.units + 9 < cLine) (I : Inv X pins σ H s) (g : DGt X.K H a y o) (ry : RelV y u) (h : ∀ s', Inv X pins σ H s' → Q (.bool o.isSome) s') : wpAny (model X.prog X.w) A (compareOp .In u (.ref a)) Q E s := by
  rcases g with ⟨kvs, k, e, ey, l⟩ | ⟨kvs, k, b, e, hk, ey, hb, l⟩
  · exact d_in (by omega) I (.inl ⟨kvs, k, e, ey, l⟩) ry h
  · subst ey l
    cases ry
    exact dti_in hu I e hk hb h
theorem dg_notIn {o : Option V} {Q : Value → Shared → Prop} (hu : A.units + 9 < cLine) (I : Inv X pins σ H s) (g : DGt X.K H a y o) (ry : RelV y u) (h : ∀ s', Inv X pins σ H s' → Q (.bool (!o.isSome)) s') : wpAny (model X.prog X.w) A (compareOp .NotIn u (.ref a)) Q E s := by
  rcases g with ⟨kvs, k, e, ey, l⟩ | ⟨kvs, k, b, e, hk, ey, hb, l⟩
  · exact d_notIn (by omega) I (.inl ⟨kvs, k, e, ey, l⟩) ry h
  · subst ey l
    cases ry
    exact dti_notIn hu I e hk hb h
theorem dg_get {v : V} {Q : Value → Shared → Prop} (hu : A.units + 9 < cLine) (I : Inv X pins σ H s) (g : DGt X.K H a y (some v)) (ry : RelV y u) (h : ∀ w' s', Inv X pins σ H s' → RelV v w' → Q w' s') : wpAny (model X.prog X.w) A (getItem (.ref a) u) Q E s := by
  rcases g with ⟨kvs, k, e, ey, l⟩ | ⟨kvs, k, b, e, hk, ey, hb, l⟩
  · exact d_getItem (by omega) I (.inl ⟨kvs, k, e, ey, l⟩) ry h
  · subst ey
    cases ry
    exact dti_getItem hu I e hk hb l.symm h
theorem dg_type {o : Option V} (I : Inv X pins σ H s) (g : DGt X.K H a y o) : s.TypeIs (.ref a) "dict" := by
  rcases g with ⟨kvs, k, e, ey, l⟩ | ⟨kvs, k, b, e, hk, ey, hb, l⟩
  · exact dict_typeIs I (.inl ⟨kvs, k, e, ey, l⟩)
  · obtain ⟨_, _, xs, _, ob, _, _, h1, h2, _⟩ := dti_at I e
    exact ⟨ob, h1, h2.1⟩
end

def inD (v u : PyData) : Option Bool := match u with
  | .list xs => if okD v && okDs xs then some (xs.any fun y => PyData.eqv y v) else none
  | .tuple xs => if okD v && okDs xs then some (xs.any fun y => PyData.eqv y v) else none
  | .dict ps => (getD ps v).map fun o => o.isSome
  | _ => none
def phIn (v u : PyData) : Option PyData := (inD v u).map .bool
def phNotIn (v u : PyData) : Option PyData := (inD v u).map fun b => .bool (!b)
end
section
variable {X : Cx}
theorem room66 (hu : X.A.units + 66 < cLine) {a b : Nat} (h : b ≤ 64) : X.A.units + 1 + min a b < cLine := by
  have := Nat.min_le_right a b
  omega
theorem opIn (hu : X.A.units + 66 < cLine) : OpR X (compareOp .In) (r2D X.K true phIn) := by
  intro pins s σ H x y v u Q I rx ry ⟨ok, okT, dv, du, d, fr, r1, r2, e, q⟩
  unfold phIn inD at e
  split at e
  · rename_i xs
    by_cases hd : (okD dv && okDs xs) = true
    · rw [if_pos hd] at e
      cases e
      rw [Bool.and_eq_true] at hd
      obtain ⟨as, h1⟩ := r1.rd I (okD_plain hd.1).1 rx
      obtain ⟨bs, h2⟩ := r2.rd (d := .list xs) I (by simpa [PyData.plain] using (okDs_plain hd.2).1) ry
      exact PySem.SeqAt.in_list_data h2 h1 (okDs_plain hd.2).1 (okD_plain hd.1).1 (room66 hu (okD_plain hd.1).2) ⟨.bl _, H, I, rfl, q (.bl _) H (Nw.same (.bl _) rfl)⟩
    · rw [if_neg hd] at e; cases e
  · rename_i xs
    by_cases hd : (okD dv && okDs xs) = true
    · rw [if_pos hd] at e
      cases e
      rw [Bool.and_eq_true] at hd
      obtain ⟨as, h1⟩ := r1.rd I (okD_plain hd.1).1 rx
      obtain ⟨bs, h2⟩ := r2.rd (d := .tuple xs) I (by simpa [PyData.plain] using (okDs_plain hd.2).1) ry
      exact PySem.SeqAt.in_tuple_data h2 h1 (okDs_plain hd.2).1 (okD_plain hd.1).1 (room66 hu (okD_plain hd.1).2) ⟨.bl _, H, I, rfl, q (.bl _) H (Nw.same (.bl _) rfl)⟩
    · rw [if_neg hd] at e; cases e
  · rename_i ps
    cases e1 : getD ps dv with
    | none => rw [e1] at e; cases e
    | some o =>
      rw [e1] at e
      cases e
      obtain ⟨a, rfl, w, g, hw⟩ := r2.dget e1 r1
      cases ry
      have ew := hw.some_eq
      refine dg_in (by omega) I g rx fun s' I' => ?_
      rw [ew]
      exact ⟨.bl _, H, I', rfl, q (.bl _) H (Nw.same (.bl _) rfl)⟩
  · cases e
theorem opNotIn (hu : X.A.units + 66 < cLine) : OpR X (compareOp .NotIn) (r2D X.K true phNotIn) := by
  intro pins s σ H x y v u Q I rx ry ⟨ok, okT, dv, du, d, fr, r1, r2, e, q⟩
  unfold phNotIn inD at e
  split at e
  · rename_i xs
    by_cases hd : (okD dv && okDs xs) = true
    · rw [if_pos hd] at e
      cases e
      rw [Bool.and_eq_true] at hd
      obtain ⟨as, h1⟩ := r1.rd I (okD_plain hd.1).1 rx
      obtain ⟨bs, h2⟩ := r2.rd (d := .list xs) I (by simpa [PyData.plain] using (okDs_plain hd.2).1) ry
      exact PySem.SeqAt.notIn_list_data h2 h1 (okDs_plain hd.2).1 (okD_plain hd.1).1 (room66 hu (okD_plain hd.1).2) ⟨.bl _, H, I, rfl, q (.bl _) H (Nw.same (.bl _) rfl)⟩
    · rw [if_neg hd] at e; cases e
  · rename_i xs
    by_cases hd : (okD dv && okDs xs) = true
    · rw [if_pos hd] at e
      cases e
      rw [Bool.and_eq_true] at hd
      obtain ⟨as, h1⟩ := r1.rd I (okD_plain hd.1).1 rx
      obtain ⟨bs, h2⟩ := r2.rd (d := .tuple xs) I (by simpa [PyData.plain] using (okDs_plain hd.2).1) ry
      exact PySem.SeqAt.notIn_tuple_data h2 h1 (okDs_plain hd.2).1 (okD_plain hd.1).1 (room66 hu (okD_plain hd.1).2) ⟨.bl _, H, I, rfl, q (.bl _) H (Nw.same (.bl _) rfl)⟩
    · rw [if_neg hd] at e; cases e
  · rename_i ps
    cases e1 : getD ps dv with
    | none => rw [e1] at e; cases e
    | some o =>
      rw [e1] at e
      cases e
      obtain ⟨a, rfl, w, g, hw⟩ := r2.dget e1 r1
      cases ry
      have ew := hw.some_eq
      refine dg_notIn (by omega) I g rx fun s' I' => ?_
      rw [ew]
      exact ⟨.bl _, H, I', rfl, q (.bl _) H (Nw.same (.bl _) rfl)⟩
  · cases e
def phEq (v u : PyData) : Option PyData := if (okD v && okD u) = true then some (.bool (PyData.eqv v u)) else none
def phNe (v u : PyData) : Option PyData := if (okD v && okD u) = true then some (.bool (!PyData.eqv v u)) else none
theorem room65 (hu : X.A.units + 66 < cLine) {a b : Nat} (h : b ≤ 64) : X.A.units + min a b < cLine := by
  have := Nat.min_le_right a b
  omega
theorem opEq (hu : X.A.units + 66 < cLine) : OpR X (compareOp .Eq) (r2D X.K true phEq) := by
  intro pins s σ H x y v u Q I rx ry ⟨ok, okT, dv, du, d, fr, r1, r2, e, q⟩
  unfold phEq at e
  by_cases hd : (okD dv && okD du) = true
  · rw [if_pos hd] at e
    cases e
    rw [Bool.and_eq_true] at hd
    obtain ⟨as, h1⟩ := r1.rd I (okD_plain hd.1).1 rx
    obtain ⟨bs, h2⟩ := r2.rd I (okD_plain hd.2).1 ry
    exact PySem.SeqAt.eq_plain h1 h2 (okD_plain hd.1).1 (okD_plain hd.2).1 (room65 hu (okD_plain hd.2).2) ⟨.bl _, H, I, rfl, q (.bl _) H (Nw.same (.bl _) rfl)⟩
  · rw [if_neg hd] at e; cases e
theorem opNe (hu : X.A.units + 66 < cLine) : OpR X (compareOp .NotEq) (r2D X.K true phNe) := by
  intro pins s σ H x y v u Q I rx ry ⟨ok, okT, dv, du, d, fr, r1, r2, e, q⟩
  unfold phNe at e
  by_cases hd : (okD dv && okD du) = true
  · rw [if_pos hd] at e
    cases e
    rw [Bool.and_eq_true] at hd
    obtain ⟨as, h1⟩ := r1.rd I (okD_plain hd.1).1 rx
    obtain ⟨bs, h2⟩ := r2.rd I (okD_plain hd.2).1 ry
    exact PySem.SeqAt.ne_plain h1 h2 (okD_plain hd.1).1 (okD_plain hd.2).1 (room65 hu (okD_plain hd.2).2) ⟨.bl _, H, I, rfl, q (.bl _) H (Nw.same (.bl _) rfl)⟩
  · rw [if_neg hd] at e; cases e

end
end FL
namespace FL
open PySem PySem.Spec PyProof.Rows L2 PySem.W

section
variable {X : Cx}
theorem Rps.atI {ok : Addr → Prop} {K : PySem.W.Frag} {H : Hp} {ds : List PyData} {xs : List V} {i : Int} {d : PyData} (r : Rps ok K H ds xs) (e : L2.atI ds i = some d) : ∃ x, L2.atI xs i = some x ∧ Rp ok K H d x := by
  unfold L2.atI at e ⊢
  rw [← r.length]
  cases h : ixN ds.length i with
  | none => rw [h] at e; cases e
  | some j =>
    rw [h] at e
    exact r.get e
def phIx (v u : PyData) : Option PyData := match v with
  | .list xs => (match u with | .int i => L2.atI xs i | _ => none)
  | .tuple xs => (match u with | .int i => L2.atI xs i | _ => none)
  | .dict ps => (getD ps u).bind id
  | _ => none
theorem op_ixD (hu : X.A.units + 66 < cLine) : IxR X (fun x y H Q => ∃ a v, x = .ref a ∧ DGt X.K H a y (some v) ∧ Q v H) := by
  intro value slice pins s σ H x y v u Q I rx ry h hs
  obtain ⟨a, z, rfl, g, q⟩ := h
  cases rx
  exact tail_any (dg_type I g) PySem.F.slot_dict_getitem.lookup (dg_get (by omega) I g ry fun w s1 I1 rw1 => ⟨z, H, I1, rw1, q⟩) hs
theorem ixD (hu : X.A.units + 66 < cLine) : IxR X (r2D X.K false phIx) := by
  refine IxR.imp ((ix_list.or ix_tup).or (op_ixD hu)) fun x y H Q ⟨ok, okT, v, u, d, fr, r1, r2, e, q⟩ => ?_
  unfold phIx at e
  split at e
  · split at e
    · rename_i xs i
      obtain ⟨a, ys, rfl, h, rs⟩ := r1.lst
      obtain ⟨z, ez, rz⟩ := rs.atI e
      exact .inl (.inl ⟨a, ys, i, z, rfl, r2.int, h, ez, q _ _ (Nw.old rz)⟩)
    · cases e
  · split at e
    · rename_i xs i
      obtain ⟨a, ys, rfl, h, rs⟩ := r1.tup
      obtain ⟨z, ez, rz⟩ := rs.atI e
      exact .inl (.inr ⟨a, ys, i, z, rfl, r2.int, h.sq, ez, q _ _ (Nw.old rz)⟩)
    · cases e
  · rename_i ps
    cases e1 : getD ps u with
    | none => rw [e1] at e; cases e
    | some o =>
      rw [e1] at e
      simp only [Option.bind, id] at e
      subst e
      obtain ⟨a, rfl, w, g, hw⟩ := r1.dget e1 r2
      cases hw with
      | some hr => exact .inr ⟨a, _, rfl, g, q _ _ (Nw.old hr)⟩
  · cases e

def cutD (xs : List PyData) (lo hi : Option Int) : List PyData := (xs.drop (HT.sIx xs.length 0 lo)).take (HT.sIx xs.length xs.length hi - HT.sIx xs.length 0 lo)
theorem Rps.cut {ok : Addr → Prop} {K : PySem.W.Frag} {H : Hp} {ds : List PyData} {xs : List V} (r : Rps ok K H ds xs) (lo hi : Option Int) : Rps ok K H (cutD ds lo hi) (cutV xs lo hi) := by
  unfold cutD cutV
  rw [← r.length]
  exact (r.drop _).take _
theorem cut_all {xs : List PyData} {lo hi : Option Int} (h : HT.sIx xs.length 0 lo = 0 ∧ HT.sIx xs.length xs.length hi = xs.length) : cutD xs lo hi = xs := by
  unfold cutD
  rw [h.1, h.2]
  simp
def phCut (v : PyData) (lo hi : Option Int) : Option PyData := match v with
  | .list xs => some (.list (cutD xs lo hi))
  | .tuple xs => some (.tuple (cutD xs lo hi))
  | _ => none
def rCut (K : PySem.W.Frag) : V → Option Int → Option Int → Hp → VK → Prop := fun x lo hi H Q => ∃ ok okT v d, (∀ a, H a = none → ok a) ∧ RpT okT ok K H v x ∧ phCut v lo hi = some d ∧ ∀ z H', Nw true ok K H H' d z → Q z H'
theorem slD : SlR X (rCut X.K) := by
  intro pins s σ H x v vl vu lo hi sl Q I rx hs pl pu ⟨ok, okT, dv, d, fr, r1, e, q⟩
  unfold phCut at e
  split at e
  · cases e
    obtain ⟨a, xs, rfl, h, rs⟩ := r1.lst
    exact sl_list pins s σ H _ v vl vu lo hi sl Q I rx hs pl pu ⟨a, xs, rfl, h, fun p hp => q _ _ (Nw.lst fr hp (rs.cut lo hi))⟩
  · cases e
    obtain ⟨a, xs, rfl, h, rs⟩ := r1.tup
    refine sl_hard pins s σ H _ v vl vu lo hi sl Q I rx hs pl pu ⟨a, xs, rfl, h.sq, fun w => ?_, fun w p o ho hp => q _ _ (Nw.hard ho hp (rs.cut lo hi))⟩
    rw [← rs.length] at w
    rw [cut_all w] at q
    exact q _ _ (Nw.same (.tup h rs) rfl)
  · cases e

def phMul : PyData → PyData → Option PyData
  | .int i, .int j => if smallM i j = true then some (.int (i * j)) else none
  | .tuple xs, .int k => if (!xs.isEmpty && decide (1 ≤ k) && decide (k ≤ 1000) && decide (xs.length ≤ 1000)) = true then some (.tuple (List.replicate k.toNat xs).flatten) else none
  | _, _ => none
theorem smallM_ok {i j : Int} (h : smallM i j = true) : CMul i j := by
  unfold smallM at h
  unfold CMul
  rw [Bool.or_eq_true] at h
  exact h.imp absLt_iff.mp absLt_iff.mp
theorem tuple_mul1W (l : Addr) (items : Array Value) (n : Nat) (dd : Option Addr) (sl : Array (Option Value)) (u : Tok) :
    Meets (Builtin.«tuple.__mul__» ⟨[.ref l, .int 1 u], []⟩) (fun _ R s => s.heap.get? l = some { cls := .type "tuple", dict := dd, data := .seq items n, slots := sl } ∧ R (.ok (.ret (Value.ref l))) s) :=
  .of_wp fun prog w A R s h => by
    obtain ⟨hp, g, d, tk, os⟩ := s
    obtain ⟨hl, h⟩ := h
    have f1 := AutoSeq1.idx_int
    have c1 : (items.isEmpty || (1 : Int) == 1) = true := by simp
    wp_walk using wpAny_loadPart' hl
    exact ⟨_, rfl, h⟩
/-- a tuple once: itself -/
theorem op_rep1 : OpR X (binaryOp .Mult) (fun x y H Q => ∃ l xs, x = .ref l ∧ y = .int 1 ∧ SqT X.K H l xs ∧ Q (.ref l) H) := by
  intro pins s σ H x y v u Q I rx ry h
  obtain ⟨l, xs, rfl, rfl, hT, q⟩ := h
  cases rx
  obtain ⟨t, rfl⟩ := ry
  obtain ⟨its, r, ⟨⟨cls, dd, data, sl⟩, ho, hc, n, hd⟩, hs⟩ := I.tuple hT
  simp only at hc hd
  subst hc hd
  have inner : wpAny (model X.prog X.w) X.A (call (.builtin "tuple.__mul__") [.ref l, .int 1 t]) (EP X pins σ Q) X.xe s :=
    call_meets F.slot_tuple_mul ⟨_, ho, rfl⟩ F.entry_tuple_mul (F.args_tuple_mul_2 _ _) (tuple_mul1W l its.toArray n dd sl t) ⟨ho, ⟨.ref l, H, I, rfl, q⟩⟩
  exact wpAny_binaryOp_repeat_ref (T := "tuple") (U := "int") (by decide) ⟨_, ho, rfl⟩ (fun s' => typeIs_int s' 1 t) noFill_tuple_mul F.fills_int_mul F.slot_int_rmul repeat_tuple F.slot_int_index.lookup
    (call_meets F.slot_int_rmul (typeIs_int s 1 t) F.entry_int_rmul (F.args_int_rmul_2 _ _) (int_rmul_tuple 1 t l its.toArray n dd sl) ⟨ho, rfl, ⟨_, ho, rfl⟩, inner⟩)
theorem opMul : OpR X (binaryOp .Mult) (r2D X.K true phMul) := by
  refine OpR.imp ((op_mul.or op_repH).or op_rep1) fun x y H Q ⟨ok, okT, v, u, d, fr, r1, r2, e, q⟩ => ?_
  unfold phMul at e
  split at e
  · rename_i i j
    by_cases h : smallM i j = true
    · rw [if_pos h] at e
      cases e
      exact .inl (.inl ⟨i, j, r1.int, r2.int, smallM_ok h, q _ _ (Nw.same (.int _) rfl)⟩)
    · rw [if_neg h] at e; cases e
  · rename_i xs k
    by_cases h : (!xs.isEmpty && decide (1 ≤ k) && decide (k ≤ 1000) && decide (xs.length ≤ 1000)) = true
    · rw [if_pos h] at e
      cases e
      simp only [Bool.and_eq_true, decide_eq_true_eq] at h
      obtain ⟨⟨⟨h0, h1⟩, h2⟩, h3⟩ := h
      obtain ⟨a, ys, rfl, ha, rs⟩ := r1.tup
      have hy : ys ≠ [] := by
        rintro rfl
        cases rs
        simp at h0
      by_cases hk : k = 1
      · subst hk
        have e1 : (List.replicate (1 : Int).toNat xs).flatten = xs := by simp
        rw [e1] at q
        exact .inr ⟨a, ys, rfl, r2.int, ha.sq, q _ _ (Nw.same (.tup ha rs) rfl)⟩
      · exact .inl (.inr ⟨a, k, ys, rfl, r2.int, ha.sq, hy, by omega, h2, by rw [← rs.length]; exact h3, fun p o ho hp => q _ _ (Nw.hard ho hp (rs.rep _))⟩)
    · rw [if_neg h] at e; cases e
  · cases e

def someT (d : PyData) : Bool := match d with
  | .none => false
  | _ => true
/-- may be ordered -/
def ordD (xs : List PyData) : Bool := (xs.all fun x => someT x && xs.all fun y => alike x y) && okDs xs
theorem ordD_all {xs : List PyData} (h : ordD xs = true) : AlikeAll xs ∧ PyData.plainAll xs = true ∧ PyData.depthAll xs ≤ 64 := by
  unfold ordD at h
  rw [Bool.and_eq_true, List.all_eq_true] at h
  obtain ⟨h1, h2⟩ := h
  refine ⟨⟨fun x hx y hy => ?_, fun x hx z => ?_⟩, okDs_plain h2⟩
  · have := h1 x hx
    rw [Bool.and_eq_true, List.all_eq_true] at this
    exact this.2 y hy
  · have := h1 x hx
    rw [z] at this
    simp [someT] at this
def leastD : List PyData → Option PyData
  | [] => none
  | x :: xs => if ordD (x :: xs) = true then some (minD x xs) else none
def mostD : List PyData → Option PyData
  | [] => none
  | x :: xs => if ordD (x :: xs) = true then some (maxD x xs) else none
theorem plainAll_mem {d : PyData} : ∀ {ds : List PyData} {i : Nat}, PyData.plainAll ds = true → ds[i]? = some d → d.plain = true
  | x :: xs, 0, h, e => by
    simp only [PyData.plainAll, Bool.and_eq_true] at h
    simp at e
    rw [← e]; exact h.1
  | x :: xs, i + 1, h, e => by
    simp only [PyData.plainAll, Bool.and_eq_true] at h
    exact plainAll_mem (i := i) h.2 (by simpa using e)
/-- an item of the items, known by what it reads as -/
theorem pick_item {s : Shared} {pins : List (Addr × Obj)} {σ : Sl} {H : Hp} {ok : Addr → Prop} {ds : List PyData} {xs : List V} {us : List Value} {i : Nat} {v : Value} {d : PyData} {bs : List Addr} {h' : Heap} {tk : Nat} (I : Inv X pins σ H { s with heap := h', toks := tk })
    (rs : Rps ok X.K H ds xs) (rv : Vals xs us) (hp : PyData.plainAll ds = true) (e : us[i]? = some v) (rd : Reads h' v d bs) : ∃ x, RelV x v ∧ Rp ok X.K H d x := by
  have hi : i < ds.length := by
    rw [rs.length, rv.length]
    exact (List.getElem?_eq_some_iff.mp e).1
  obtain ⟨x, ex, rx⟩ := rs.get (List.getElem?_eq_getElem hi)
  obtain ⟨w, ew, rw1⟩ := rv.get ex
  rw [e] at ew; cases ew
  have pl := plainAll_mem hp (List.getElem?_eq_getElem hi)
  obtain ⟨as, rd1⟩ := (rx.dpl pl).reads I _ _ _ rw1
  have := PySem.SeqAt.plain_unique _ _ _ _ _ pl rd1 rd
  exact ⟨x, rw1, by rw [← this]; exact rx⟩
def phMin : List PyData → Option PyData
  | [.list xs] => leastD xs
  | [.tuple xs] => leastD xs
  | _ => none
def phMax : List PyData → Option PyData
  | [.list xs] => mostD xs
  | [.tuple xs] => mostD xs
  | _ => none
theorem least_some {xs : List PyData} {d : PyData} (e : leastD xs = some d) : ∃ y ys, xs = y :: ys ∧ ordD (y :: ys) = true ∧ d = minD y ys := by
  cases xs with
  | nil => cases e
  | cons y ys =>
    simp only [leastD] at e
    by_cases h : ordD (y :: ys) = true
    · rw [if_pos h] at e; cases e; exact ⟨y, ys, rfl, h, rfl⟩
    · rw [if_neg h] at e; cases e
theorem most_some {xs : List PyData} {d : PyData} (e : mostD xs = some d) : ∃ y ys, xs = y :: ys ∧ ordD (y :: ys) = true ∧ d = maxD y ys := by
  cases xs with
  | nil => cases e
  | cons y ys =>
    simp only [mostD] at e
    by_cases h : ordD (y :: ys) = true
    · rw [if_pos h] at e; cases e; exact ⟨y, ys, rfl, h, rfl⟩
    · rw [if_neg h] at e; cases e
theorem flat_item {f : Bool} {ok : Addr → Prop} {H : Hp} {d : PyData} {x : V} (r : Rp ok X.K H d x) (h : f = false) : Nw f ok X.K H H d x := by subst h; exact .old r
theorem call_minD (hc : X.calm = true) (hu : X.A.units + 66 < cLine) : CallR X (.builtin "min") (rnD X.K false phMin) := by
  intro pins s σ H xs us Q I r ⟨ok, okT, vs, d, fr, rs, e, q⟩
  unfold phMin at e
  split at e
  · rename_i ds
    obtain ⟨y, ys, rfl, ho, rfl⟩ := least_some e
    obtain ⟨hal, hpl, hdp⟩ := ordD_all ho
    cases rs with
    | cons r1 r0 =>
      cases r0
      obtain ⟨a, zs, rfl, h, rz⟩ := r1.lst
      obtain ⟨its, rv, pl, hz⟩ := I.list h
      rw [Vals.ref1 r]
      obtain ⟨as, hr⟩ := rz.rd I hpl rv
      refine min_list_data (I.ok.hd hc) pl.isList (by simpa using hr) hal (by omega) fun i v h' tk bs ev rd hk => ?_
      have I1 : Inv X pins σ H { s with heap := h', toks := tk } := I.kept hk
      obtain ⟨x, rx, rp⟩ := pick_item I1 rz rv hpl (by simpa using ev) rd
      exact ⟨x, H, I1, rx, q _ _ (.old rp)⟩
  · rename_i ds
    obtain ⟨y, ys, rfl, ho, rfl⟩ := least_some e
    obtain ⟨hal, hpl, hdp⟩ := ordD_all ho
    cases rs with
    | cons r1 r0 =>
      cases r0
      obtain ⟨a, zs, rfl, h, rz⟩ := r1.tup
      obtain ⟨its, rv, pl, hz⟩ := I.tuple h.sq
      rw [Vals.ref1 r]
      obtain ⟨as, hr⟩ := rz.rd I hpl rv
      refine min_tuple_data (I.ok.hd hc) pl (by simpa using hr) hal (by omega) fun i v h' tk bs ev rd hk => ?_
      have I1 : Inv X pins σ H { s with heap := h', toks := tk } := I.kept hk
      obtain ⟨x, rx, rp⟩ := pick_item I1 rz rv hpl (by simpa using ev) rd
      exact ⟨x, H, I1, rx, q _ _ (.old rp)⟩
  · cases e
theorem call_maxD (hc : X.calm = true) (hu : X.A.units + 66 < cLine) : CallR X (.builtin "max") (rnD X.K false phMax) := by
  intro pins s σ H xs us Q I r ⟨ok, okT, vs, d, fr, rs, e, q⟩
  unfold phMax at e
  split at e
  · rename_i ds
    obtain ⟨y, ys, rfl, ho, rfl⟩ := most_some e
    obtain ⟨hal, hpl, hdp⟩ := ordD_all ho
    cases rs with
    | cons r1 r0 =>
      cases r0
      obtain ⟨a, zs, rfl, h, rz⟩ := r1.lst
      obtain ⟨its, rv, pl, hz⟩ := I.list h
      rw [Vals.ref1 r]
      obtain ⟨as, hr⟩ := rz.rd I hpl rv
      refine max_list_data (I.ok.hd hc) pl.isList (by simpa using hr) hal (by omega) fun i v h' tk bs ev rd hk => ?_
      have I1 : Inv X pins σ H { s with heap := h', toks := tk } := I.kept hk
      obtain ⟨x, rx, rp⟩ := pick_item I1 rz rv hpl (by simpa using ev) rd
      exact ⟨x, H, I1, rx, q _ _ (.old rp)⟩
  · rename_i ds
    obtain ⟨y, ys, rfl, ho, rfl⟩ := most_some e
    obtain ⟨hal, hpl, hdp⟩ := ordD_all ho
    cases rs with
    | cons r1 r0 =>
      cases r0
      obtain ⟨a, zs, rfl, h, rz⟩ := r1.tup
      obtain ⟨its, rv, pl, hz⟩ := I.tuple h.sq
      rw [Vals.ref1 r]
      obtain ⟨as, hr⟩ := rz.rd I hpl rv
      refine max_tuple_data (I.ok.hd hc) pl (by simpa using hr) hal (by omega) fun i v h' tk bs ev rd hk => ?_
      have I1 : Inv X pins σ H { s with heap := h', toks := tk } := I.kept hk
      obtain ⟨x, rx, rp⟩ := pick_item I1 rz rv hpl (by simpa using ev) rd
      exact ⟨x, H, I1, rx, q _ _ (.old rp)⟩
  · cases e
end
end FL
namespace FL
open PySem PySem.Spec PyProof.Rows L2 PySem.W

section
variable {prog : Program} {w : World} {A : Around} {E : Value → Shared → Prop} {s : Shared}
theorem args_min2 (a b : Value) : argsOk "min" ⟨[a, b], []⟩ := by unfold argsOk; kernel_rfl
theorem args_min3 (a b c : Value) : argsOk "min" ⟨[a, b, c], []⟩ := by unfold argsOk; kernel_rfl
/-- min(a, b, ..): as of the tuple of them -/
theorem min_of_tuple {us : List Value} {Q : Value → Shared → Prop} (ha : argsOk "min" ⟨us, []⟩) (h2 : ∃ a b r, us = a :: b :: r) (hz : us.length ≤ sizeLine)
    (h : wpAny (model prog w) A.in1 (pyIter (.ref s.heap.objs.size)) (fun it s2 => ∃ I fp wr G n P St H bt, it = .ref I ∧ WalksS prog w A.in1 I fp wr G n P St ∧ St 0 s2 ∧ (∀ b ∈ fp, b < s2.heap.objs.size) ∧ 0 < n ∧
      (∀ b o, H.get? b = some o → b ∉ wr) ∧ (∀ b o, H.get? b = some o → s2.heap.get? b = some o) ∧ CmpIn prog w A.in1 .Lt H P bt ∧ ∀ v s', P (argBest bt (n - 1)) v → Moved wr G s2 s' → Q v s') E
      { s with heap := s.heap.push { cls := .type "tuple", data := .seq us.toArray } }) :
    wpAny (model prog w) A (call (.builtin "min") us) Q E s := by
  have hname : (toString "min" ++ toString ".loop" : String) = "min.loop" := by decide
  obtain ⟨a, b, r, rfl⟩ := h2
  refine call_function_tree F.kind_min F.plain_min F.entry_min ha ?_
  refine wpAny_bind (wpAny_of_eq (show Builtin.Builtins.bindParams "min" ["key", "default"] 0 ⟨[], []⟩ = pure [none, none] from rfl) ?_)
  show wpAny _ A.in1 (newTuple (a :: b :: r) >>= _) _ _ s
  refine wpAny_bind (wpAny_newObj_type ?_ (show (a :: b :: r).toArray.size ≤ sizeLine by simpa using hz))
  refine wpAny_bind (wpAny_mono h (fun it s2 h2 => ?_) fun _ _ e => e)
  obtain ⟨I, fp, wr, G, n, P, St, H, bt, rfl, W, hst, hfp, hn, hw, hkeep, hcmp, hQ⟩ := h2
  refine wpAny_bind (wpAny_newObj_type ?_)
  have hSf : s2.heap.objs.size ∉ fp := fun hm => Nat.lt_irrefl _ (hfp _ hm)
  rw [hname]
  refine wpAny_pure ⟨plainId_quiet F.plain_min_loop _, codeAny_min_loop_firstH W H hw bt hcmp s2.heap.objs.size hSf (fresh_in hkeep) _ hn (fun b o e => Heap.get?_push_of_some _ (hkeep b o e)) (W.frame 0 s2 _ s2.toks hst (Nat.le_refl _) fun b _ o e => Heap.get?_push_of_some _ e) (Heap.get?_push_size _ rfl) fun v s' hP hm => ?_⟩
  exact hQ v s' hP (Moved.drop_new (tk := s2.toks) hm (Nat.le_refl _))
end
section
variable {X : Cx}
/-- the least of what was handed over -/
theorem min_args {pins : List (Addr × Obj)} {s : Shared} {σ : Sl} {H : Hp} {xs : List V} {us : List Value} {Q : VK} {ok : Addr → Prop} {y : PyData} {ys : List PyData} (hc : X.calm = true) (hu : X.A.units + 66 < cLine) (I : Inv X pins σ H s) (ha : argsOk "min" ⟨us, []⟩) (h2 : ∃ a b r, us = a :: b :: r) (hz : us.length ≤ sizeLine)
    (rv : Vals xs us) (rs : Rps ok X.K H (y :: ys) xs) (ho : ordD (y :: ys) = true) (q : ∀ z H', Nw false ok X.K H H' (minD y ys) z → Q z H') : wpAny (model X.prog X.w) X.A (call (.builtin "min") us) (EP X pins σ Q) X.xe s := by
  obtain ⟨hal, hpl, hdp⟩ := ordD_all ho
  obtain ⟨as, hr⟩ := rs.rd I hpl rv
  have kp : ∀ b o, s.heap.get? b = some o → (s.heap.push { cls := .type "tuple", data := .seq us.toArray }).get? b = some o := fun b o e => Heap.get?_push_of_some _ e
  have hr2 : ReadsAll (s.heap.push { cls := .type "tuple", data := .seq us.toArray }) us.toArray.toList (y :: ys) as := by simpa using ReadsAll.keeps kp hr
  have hT : (s.heap.push { cls := .type "tuple", data := .seq us.toArray }).IsTuple s.heap.objs.size us.toArray := ⟨_, Heap.get?_push_size _ rfl, rfl, 0, rfl⟩
  have hn : us.toArray.size = ys.length + 1 := by
    rw [List.size_toArray, ← rv.length, ← rs.length]; rfl
  refine min_of_tuple ha h2 hz (iter_tupleW (A := X.A.in1) (s := { s with heap := s.heap.push { cls := .type "tuple", data := .seq us.toArray } }) (I.ok.hd hc) hT fun s2 e W st hfp hw hk => ?_)
  refine ⟨_, _, _, _, _, _, _, s.heap.push { cls := .type "tuple", data := .seq us.toArray }, _, rfl, W, st, hfp, by omega, hw, hk, cmpIn_lt (A := X.A.in1) (s := { s with heap := s.heap.push { cls := .type "tuple", data := .seq us.toArray } }) hr2 hal (by show X.A.units + 1 + _ < _; omega), fun v s' hP m => ?_⟩
  obtain ⟨h', tk, rfl, hk'⟩ := moved_old (s := { s with heap := s.heap.push { cls := .type "tuple", data := .seq us.toArray } }) e rfl m
  obtain ⟨bs, r, _, _, _⟩ := readsAll_atA hr2 _ v hP
  have e1 : us.toArray.size - 1 = ys.length := by omega
  have e2 := (argBest_fold dataLt PyData.none y ys ys.length (Nat.le_refl _)).2
  rw [List.take_length] at e2
  rw [e1] at r
  have I1 : Inv X pins σ H { s with heap := h', toks := tk } := I.kept fun b o eb => hk' b o (kp b o eb)
  have r3 : Reads h' v (minD y ys) bs := Reads.keeps hk' (by unfold minD; rw [← e2]; exact r)
  obtain ⟨x, rx, rp⟩ := pick_item I1 rs rv hpl (by simpa using hP) r3
  exact ⟨x, H, I1, rx, q _ _ (.old rp)⟩
def flatI (d : PyData) : Bool := match d with
  | .list _ => false
  | .dict _ => false
  | _ => true
theorem RpT.flatI {okT ok : Addr → Prop} {K : PySem.W.Frag} {H : Hp} {d : PyData} {x : V} (e : flatI d = true) (r : RpT okT ok K H d x) : Rp ok K H d x := by
  cases d <;> first | exact r | (simp [FL.flatI] at e)
def phMinN : List PyData → Option PyData
  | [.list xs] => leastD xs
  | [.tuple xs] => leastD xs
  | [a, b] => if (FL.flatI a && FL.flatI b) = true then leastD [a, b] else none
  | [a, b, c] => if (FL.flatI a && FL.flatI b && FL.flatI c) = true then leastD [a, b, c] else none
  | _ => none
theorem call_minN (hc : X.calm = true) (hu : X.A.units + 66 < cLine) : CallR X (.builtin "min") (rnD X.K false phMinN) := by
  intro pins s σ H xs us Q I r ⟨ok, okT, vs, d, fr, rs, e, q⟩
  unfold phMinN at e
  split at e
  · exact call_minD hc hu pins s σ H xs us Q I r ⟨ok, okT, _, d, fr, rs, e, q⟩
  · exact call_minD hc hu pins s σ H xs us Q I r ⟨ok, okT, _, d, fr, rs, e, q⟩
  · rename_i a b
    by_cases hf : (FL.flatI a && FL.flatI b) = true
    · rw [if_pos hf] at e
      obtain ⟨y, ys, e3, ho, rfl⟩ := least_some e
      cases e3
      rw [Bool.and_eq_true] at hf
      cases rs with
      | cons r1 rs =>
        cases rs with
        | cons r2 rs =>
          cases rs
          cases r with
          | cons v1 r =>
            cases r with
            | cons v2 r =>
              cases r
              exact min_args hc hu I (args_min2 _ _) ⟨_, _, _, rfl⟩ (by rw [sizeLine_eq]; simp) (.cons v1 (.cons v2 .nil)) (.cons (r1.flatI hf.1) (.cons (r2.flatI hf.2) .nil)) ho q
    · rw [if_neg hf] at e; cases e
  · rename_i a b c
    by_cases hf : (FL.flatI a && FL.flatI b && FL.flatI c) = true
    · rw [if_pos hf] at e
      obtain ⟨y, ys, e3, ho, rfl⟩ := least_some e
      cases e3
      rw [Bool.and_eq_true, Bool.and_eq_true] at hf
      cases rs with
      | cons r1 rs =>
        cases rs with
        | cons r2 rs =>
          cases rs with
          | cons r3 rs =>
            cases rs
            cases r with
            | cons v1 r =>
              cases r with
              | cons v2 r =>
                cases r with
                | cons v3 r =>
                  cases r
                  exact min_args hc hu I (args_min3 _ _ _) ⟨_, _, _, rfl⟩ (by rw [sizeLine_eq]; simp) (.cons v1 (.cons v2 (.cons v3 .nil))) (.cons (r1.flatI hf.1.1) (.cons (r2.flatI hf.1.2) (.cons (r3.flatI hf.2) .nil))) ho q
    · rw [if_neg hf] at e; cases e
  · cases e

def phLenS : List PyData → Option PyData
  | [.list xs] => some (.int xs.length)
  | [.tuple xs] => some (.int xs.length)
  | _ => none
def phLen : List PyData → Option PyData
  | [.list xs] => some (.int xs.length)
  | [.tuple xs] => some (.int xs.length)
  | [.dict ps] => some (.int ps.length)
  | _ => none
theorem callLenS : CallR X (.builtin "len") (rnD X.K true phLenS) := by
  refine CallR.imp call_len_seq fun xs H Q ⟨ok, okT, vs, d, fr, rs, e, q⟩ => ?_
  unfold phLenS at e
  split at e
  · cases e
    cases rs with
    | cons r1 rs =>
      cases rs
      obtain ⟨a, zs, rfl, h, rz⟩ := r1.lst
      refine ⟨a, zs, rfl, .inl h, ?_⟩
      rw [← rz.length]
      exact q _ _ (Nw.same (.int _) rfl)
  · cases e
    cases rs with
    | cons r1 rs =>
      cases rs
      obtain ⟨a, zs, rfl, h, rz⟩ := r1.tup
      refine ⟨a, zs, rfl, .inr h.sq, ?_⟩
      rw [← rz.length]
      exact q _ _ (Nw.same (.int _) rfl)
  · cases e
theorem callLen : CallR X (.builtin "len") (rnD X.K true phLen) := by
  intro pins s σ H xs us Q I r h
  obtain ⟨ok, okT, vs, d, fr, rs, e, q⟩ := h
  unfold phLen at e
  split at e
  · exact callLenS _ _ _ _ _ _ _ I r ⟨ok, okT, _, d, fr, rs, e, q⟩
  · exact callLenS _ _ _ _ _ _ _ I r ⟨ok, okT, _, d, fr, rs, e, q⟩
  · cases e
    cases rs with
    | cons r1 rs =>
      cases rs
      obtain ⟨a, rfl, _, hr⟩ := r1
      obtain ⟨u, rfl, ru⟩ := vals1 r
      cases ru
      rcases hr with ⟨kvs, h, rr⟩ | ⟨kvs, h, rr⟩
      · refine d_len I h fun t s' I' => ⟨.int kvs.length, H, I', ⟨t, rfl⟩, ?_⟩
        rw [← rr.length]
        exact q _ _ (Nw.same (.int _) rfl)
      · obtain ⟨z, y, xs, rx, dd⟩ := dti_dict I h rr.keysT
        have hl : kvs.length = xs.length := Paired.length rx
        refine call_len_dictH y dd (by rw [← hl]; rw [sizeLine_eq] at z; omega) ?_
        rw [← hl]
        refine ⟨.int kvs.length, H, I.tok _, ⟨_, rfl⟩, ?_⟩
        rw [← rr.length]
        exact q _ _ (Nw.same (.int _) rfl)
  · cases e
theorem Rtv.keysOf {ok : Addr → Prop} {K : PySem.W.Frag} {H : Hp} : ∀ {ps : List (PyData × PyData)} {kvs : List KTv}, Rtv ok K H ps kvs → Rps ok K H (ps.map (·.1)) (kvs.map fun q => V.ref q.2.1)
  | _, _, .nil => .nil
  | _, _, .cons _ tk rs _ t => .cons (.tup tk rs) (Rtv.keysOf t)
theorem Rkv.keysOf {ok : Addr → Prop} {K : PySem.W.Frag} {H : Hp} : ∀ {ps : List (PyData × PyData)} {kvs : List (Key × V)}, Rkv ok K H ps kvs → Rps ok K H (ps.map (·.1)) (kvs.map fun kv => kV kv.1)
  | _, _, .nil => .nil
  | _, _, .cons (k := k) r t => .cons (by cases k with | inl i => exact .int i | inr i => exact .str i) (Rkv.keysOf t)
def phList : List PyData → Option PyData
  | [.list xs] => some (.list xs)
  | [.tuple xs] => some (.list xs)
  | [.dict ps] => some (.list (ps.map (·.1)))
  | _ => none
theorem callList (hc : X.calm = true) : CallR X (.type "list") (rnD X.K true phList) := by
  refine CallR.imp ((call_list_of.or (call_listD hc)).or (call_list_dti hc)) fun xs H Q ⟨ok, okT, vs, d, fr, rs, e, q⟩ => ?_
  unfold phList at e
  split at e
  · cases e
    cases rs with
    | cons r1 rs =>
      cases rs
      obtain ⟨a, zs, rfl, h, rz⟩ := r1.lst
      exact .inl (.inl ⟨a, zs, rfl, .inl h, fun p hp => q _ _ (Nw.lst fr hp rz)⟩)
  · cases e
    cases rs with
    | cons r1 rs =>
      cases rs
      obtain ⟨a, zs, rfl, h, rz⟩ := r1.tup
      exact .inl (.inl ⟨a, zs, rfl, .inr h.sq, fun p hp => q _ _ (Nw.lst fr hp rz)⟩)
  · cases e
    cases rs with
    | cons r1 rs =>
      cases rs
      obtain ⟨a, rfl, _, h⟩ := r1
      rcases h with ⟨kvs, h, rr⟩ | ⟨kvs, h, rr⟩
      · exact .inl (.inr ⟨a, kvs, rfl, h, fun p hp => q _ _ (Nw.lst fr hp rr.keysOf)⟩)
      · exact .inr ⟨a, kvs, rfl, h, fun p hp => q _ _ (Nw.lst fr hp rr.keysOf)⟩
  · cases e
def phTuple : List PyData → Option PyData
  | [.list xs] => some (.tuple xs)
  | [.tuple xs] => some (.tuple xs)
  | _ => none
theorem callTuple : CallR X (.type "tuple") (rnD X.K true phTuple) := by
  refine CallR.imp call_tupH fun xs H Q ⟨ok, okT, vs, d, fr, rs, e, q⟩ => ?_
  unfold phTuple at e
  split at e
  · cases e
    cases rs with
    | cons r1 rs =>
      cases rs
      obtain ⟨a, zs, rfl, h, rz⟩ := r1.lst
      exact ⟨a, zs, rfl, .inl ⟨h, fun p o ho hp => q _ _ (Nw.hard ho hp rz)⟩⟩
  · cases e
    cases rs with
    | cons r1 rs =>
      cases rs
      obtain ⟨a, zs, rfl, h, rz⟩ := r1.tup
      exact ⟨a, zs, rfl, .inr ⟨h.sq, q _ _ (Nw.same (.tup h rz) rfl)⟩⟩
  · cases e
def phInt : List PyData → Option PyData
  | [.int i] => some (.int i)
  | [.bool b] => some (.int (if b then 1 else 0))
  | _ => none
theorem callInt : CallR X (.type "int") (rnD X.K true phInt) := by
  refine CallR.imp call_int1 fun xs H Q ⟨ok, okT, vs, d, fr, rs, e, q⟩ => ?_
  unfold phInt at e
  split at e
  · cases e
    cases rs with
    | cons r1 rs =>
      cases rs
      obtain rfl := r1.int
      exact .inl ⟨_, rfl, q _ _ (Nw.same (.int _) rfl)⟩
  · cases e
    cases rs with
    | cons r1 rs =>
      cases rs
      obtain rfl := r1.bl
      exact .inr ⟨_, rfl, q _ _ (Nw.same (.int _) rfl)⟩
  · cases e
end
end FL
namespace FL
open PySem PySem.Spec PyProof.Rows L2 PySem.W

def isTup1 (d : PyData) : Bool := match d with
  | .tuple (_ :: _) => true
  | _ => false
def noTup (d : PyData) : Bool := match d with
  | .tuple _ => false
  | .none => false
  | _ => true
/-- may be sorted -/
def srtD (xs : List PyData) : Bool := (xs.all fun x => xs.all fun y => alike x y) && okDs xs && (xs.all isTup1 || xs.all noTup) && decide (xs.length ≤ sizeLine)
def mgF {α : Type} (le : α → α → Bool) : Nat → List α → List α → List α
  | 0, _, _ => []
  | _ + 1, [], ys => ys
  | _ + 1, xs, [] => xs
  | n + 1, x :: xs, y :: ys => if le x y = true then x :: mgF le n xs (y :: ys) else y :: mgF le n (x :: xs) ys
theorem mgF_eq {α : Type} (le : α → α → Bool) : ∀ (n : Nat) (xs ys : List α), xs.length + ys.length < n → mgF le n xs ys = List.merge xs ys le
  | 0, _, _, h => absurd h (Nat.not_lt_zero _)
  | _ + 1, [], ys, _ => by rw [List.merge]; rfl
  | _ + 1, x :: xs, [], _ => by rw [List.merge]; rfl; intro h; cases h
  | n + 1, x :: xs, y :: ys, h => by
    simp only [List.length_cons] at h
    rw [List.merge]
    simp only [mgF]
    rw [mgF_eq le n xs (y :: ys) (by simp only [List.length_cons]; omega), mgF_eq le n (x :: xs) ys (by simp only [List.length_cons]; omega)]
def msF {α : Type} (le : α → α → Bool) : Nat → List α → List α
  | 0, xs => xs
  | _ + 1, [] => []
  | _ + 1, [x] => [x]
  | n + 1, x :: y :: xs => mgF le (xs.length + 3) (msF le n ((x :: y :: xs).take ((xs.length + 3) / 2))) (msF le n ((x :: y :: xs).drop ((xs.length + 3) / 2)))
theorem msF_eq {α : Type} (le : α → α → Bool) : ∀ (n : Nat) (xs : List α), xs.length ≤ n → msF le n xs = xs.mergeSort le
  | 0, [], _ => by rw [List.mergeSort]; rfl
  | 0, _ :: _, h => by simp at h
  | _ + 1, [], _ => by rw [List.mergeSort]; rfl
  | _ + 1, [x], _ => by rw [List.mergeSort]; rfl
  | n + 1, x :: y :: xs, h => by
    simp only [List.length_cons] at h
    have e1 : (xs.length + 3) / 2 ≤ xs.length + 1 := by omega
    have e2 : 1 ≤ (xs.length + 3) / 2 := by omega
    rw [List.mergeSort]
    simp only [msF]
    rw [msF_eq le n _ (by simp only [List.length_take, List.length_cons]; omega), msF_eq le n _ (by simp only [List.length_drop, List.length_cons]; omega)]
    rw [mgF_eq le _ _ _ (by simp only [List.length_mergeSort, List.length_take, List.length_drop, List.length_cons]; omega)]
    simp only [List.MergeSort.Internal.splitInTwo_fst, List.MergeSort.Internal.splitInTwo_snd, List.length_cons]
def sortL (xs : List PyData) : List PyData := msF (dataLe false id) xs.length xs
theorem sortL_eq (xs : List PyData) : sortL xs = xs.mergeSort (dataLe false id) := msF_eq _ _ xs (Nat.le_refl _)
def sortD (xs : List PyData) : Option (List PyData) := if srtD xs = true then some (sortL xs) else none
theorem srtD_all {xs : List PyData} (h : srtD xs = true) : AllAlike xs ∧ Sortable xs ∧ PyData.plainAll xs = true ∧ PyData.depthAll xs ≤ 64 ∧ xs.length ≤ sizeLine := by
  unfold srtD at h
  simp only [Bool.and_eq_true, Bool.or_eq_true, decide_eq_true_eq, List.all_eq_true] at h
  obtain ⟨⟨⟨h1, h2⟩, h3⟩, h4⟩ := h
  refine ⟨h1, ?_, (okDs_plain h2).1, (okDs_plain h2).2, h4⟩
  rcases h3 with h3 | h3
  · refine .inl fun d hd => ?_
    have := h3 d hd
    unfold isTup1 at this
    split at this
    · exact ⟨_, _, rfl⟩
    · cases this
  · refine .inr fun d hd => ?_
    have := h3 d hd
    unfold noTup at this
    split at this
    · cases this
    · cases this
    · rename_i h5 h6
      exact ⟨fun z => h6 z, fun ys z => h5 ys z⟩
theorem depth_mem {d : PyData} : ∀ {ds : List PyData}, d ∈ ds → d.depth ≤ PyData.depthAll ds
  | x :: xs, h => by
    rw [PyData.depthAll]
    rcases List.mem_cons.mp h with rfl | h
    · exact Nat.le_max_left _ _
    · exact Nat.le_trans (depth_mem h) (Nat.le_max_right _ _)

section
variable {X : Cx} {ok : Addr → Prop} {pins : List (Addr × Obj)} {σ : Sl} {H : Hp} {s : Shared}
/-- values with what they stand for, side by side -/
theorem pairs_each {h : Heap} (I : Inv X pins σ H s) : ∀ {ds : List PyData} {xs : List V} {us : List Value}, PyData.plainAll ds = true → Rps ok X.K H ds xs → Vals xs us →
    ∃ bs : List (V × PyData), bs.map (·.2) = ds ∧ bs.map (·.1) = xs ∧ EachIs (fun v b => RelV b.1 v) us bs ∧ EachIs (fun v b => ∃ as, Reads s.heap v b.2 as) us bs ∧ ∀ b ∈ bs, Rp ok X.K H b.2 b.1
  | _, _, _, _, .nil, .nil => ⟨[], rfl, rfl, .nil, .nil, by simp⟩
  | _, _, _, hp, .cons r1 t, .cons v1 tv => by
    simp only [PyData.plainAll, Bool.and_eq_true] at hp
    obtain ⟨bs, h1, h2, h3, h4, h5⟩ := pairs_each (h := h) I hp.2 t tv
    obtain ⟨as, hr⟩ := (r1.dpl hp.1).reads I _ _ _ v1
    refine ⟨(_, _) :: bs, by simp [h1], by simp [h2], .cons v1 h3, .cons ⟨as, hr⟩ h4, fun b hb => ?_⟩
    rcases List.mem_cons.mp hb with rfl | hb
    · exact r1
    · exact h5 b hb
theorem sort_pairs (bs : List (V × PyData)) : (bs.mergeSort (dataLe false (·.2))).map (·.2) = sortL (bs.map (·.2)) := by
  rw [sortL_eq]
  exact List.map_mergeSort fun _ _ _ _ => rfl
theorem rps_pairs : ∀ {bs : List (V × PyData)}, (∀ b ∈ bs, Rp ok X.K H b.2 b.1) → Rps ok X.K H (bs.map (·.2)) (bs.map (·.1))
  | [], _ => .nil
  | b :: bs, h => .cons (h b (by simp)) (rps_pairs fun c hc => h c (by simp [hc]))
theorem vals_pairs : ∀ {bs : List (V × PyData)} {us : List Value}, EachIs (fun v b => RelV b.1 v) us bs → Vals (bs.map (·.1)) us
  | _, _, .nil => .nil
  | _, _, .cons h t => .cons h (vals_pairs t)
/-- the sorted items, as values and as data -/
theorem sort_out {bs : List (V × PyData)} {out : List Value} (e : EachIs (fun v b => RelV b.1 v) out (bs.mergeSort (dataLe false (·.2)))) (h : ∀ b ∈ bs, Rp ok X.K H b.2 b.1) :
    ∃ ys, Vals ys out ∧ Rps ok X.K H (sortL (bs.map (·.2))) ys := by
  refine ⟨_, vals_pairs e, ?_⟩
  rw [← sort_pairs]
  exact rps_pairs fun b hb => h b ((List.mergeSort_perm _ _).mem_iff.mp hb)
/-- sorted: the sort of a new list of the items -/
theorem sort_new {Q : VK} {h' : Heap} {tk : Nat} {ds ts : List PyData} {xs : List V} {us : List Value} (hu : X.A.units + 70 < cLine) (fr : ∀ a, H a = none → ok a) (I : Inv X pins σ H { s with heap := h', toks := tk }) (rs : Rps ok X.K H ds xs) (rv : Vals xs us) (e : sortD ds = some ts)
    (q : ∀ z H', Nw true ok X.K H H' (.list ts) z → Q z H') :
    wpAny (model X.prog X.w) X.A.in1 (call (.builtin "list.sort") [.ref h'.objs.size]) (fun _ s2 => EP X pins σ Q (.ref h'.objs.size) s2) X.xe { s with heap := h'.push (seqObj "list" us.toArray 0), toks := tk } := by
  unfold sortD at e
  by_cases hs : srtD ds = true
  · rw [if_pos hs] at e
    cases e
    obtain ⟨hal, hso, hpl, hdp, hz⟩ := srtD_all hs
    obtain ⟨bs, e1, e2, b1, b2, b3⟩ := pairs_each (h := h') I hpl rs rv
    have ho : (h'.push (seqObj "list" us.toArray 0)).get? h'.objs.size = some (seqObj "list" us.toArray 0) := Heap.get?_push_size _ rfl
    have hL : us.length ≤ sizeLine := by rw [← rv.length, ← rs.length]; exact hz
    have k : ∀ b o, h'.get? b = some o → (sortingHeap (h'.push (seqObj "list" us.toArray 0)) h'.objs.size us).get? b = some o := fun b o eb =>
      sortingHeap_old (Nat.ne_of_lt (Heap.lt_size eb)) (Heap.get?_push_of_some _ eb)
    have b4 : EachIs (fun v b => ∃ as, Reads (sortingHeap (h'.push (seqObj "list" us.toArray 0)) h'.objs.size us) v b.2 as) us bs := b2.mono fun _ _ ⟨as, r⟩ => ⟨as, Reads.keeps k r⟩
    have hal' : AllAlike (bs.map (·.2)) := by rw [e1]; exact hal
    refine wpAny_call_entry slot_list_sort ⟨_, ho, rfl⟩ entry_list_sort (list_sort_vals (s := { s with heap := h'.push (seqObj "list" us.toArray 0), toks := tk }) (κ := dataKind (sortingHeap (h'.push (seqObj "list" us.toArray 0)) h'.objs.size us) (bs.map fun b : V × PyData => b.2)) ho
      (SortsAt.data (s := { s with heap := sortingHeap (h'.push (seqObj "list" us.toArray 0)) h'.objs.size us, toks := tk }) (each_map (R := fun v d => ∃ as, Reads (sortingHeap (h'.push (seqObj "list" us.toArray 0)) h'.objs.size us) v d as) (fun b : V × PyData => b.2) b4) hal' (by rw [e1]; exact hso) (by
        rw [e1]
        intro d hd
        have h1 := depth_mem hd
        show X.A.units + 1 + 1 + d.depth < cLine
        omega)) hL ⟨.none, rfl, ?_⟩) (args_list_sort _)
    have out := sortVals_data (R := fun v (b : V × PyData) => RelV b.1 v) (enc := (·.2)) false b1 b4 hal'
    obtain ⟨ys, r1, r2⟩ := sort_out (X := X) (ok := ok) out b3
    rw [e1] at r2
    obtain ⟨e', he'⟩ := sortedHeap_at (vs := us) (out := (sortVals (dataKind (sortingHeap (h'.push (seqObj "list" us.toArray 0)) h'.objs.size us) (bs.map (·.2))) false us us).toArray) ho
    have hlen : ys.length ≤ sizeLine := by
      rw [r1.length, sortVals_length false rfl]
      exact hL
    refine ⟨.ref h'.objs.size, upd H h'.objs.size (.lst ys), I.laid (t' := tk) (fun b u eb => ?_) (Nat.le_refl _) (show ObjOk X.prog X.w _ _ _ (.lst ys) from ⟨hlen, _, e', r1, he'⟩), rfl, q _ _ (Nw.lst fr (I.hok.fresh (Nat.le_refl _)) r2)⟩
    have hb : b < h'.objs.size := Heap.lt_size eb
    rw [sortedHeap_old (Nat.ne_of_lt hb) (by rw [size_push']; exact Nat.lt_succ_of_lt hb)]
    exact Heap.get?_push_of_some _ eb
  · rw [if_neg hs] at e; cases e
/-- sorted(c): what is collected, sorted -/
theorem sorted_by {Q : VK} {ds ts : List PyData} {xs : List V} {a : Addr} (hu : X.A.units + 70 < cLine) (fr : ∀ a, H a = none → ok a) (I : Inv X pins σ H s) (rs : Rps ok X.K H ds xs) (e : sortD ds = some ts)
    (hcol : ∀ (R : List Value → Shared → Prop), (∀ (h' : Heap) (tk : Nat) (acc : List Value), (∀ b o, s.heap.get? b = some o → h'.get? b = some o) → Vals xs acc → R acc { s with heap := h', toks := tk }) → wpAny (model X.prog X.w) X.A.in1 (collect (.ref a)) R X.xe s)
    (q : ∀ z H', Nw true ok X.K H H' (.list ts) z → Q z H') : wpAny (model X.prog X.w) X.A (call (.builtin "sorted") [.ref a]) (EP X pins σ Q) X.xe s := by
  have hz : ds.length ≤ sizeLine := by
    unfold sortD at e
    by_cases hs : srtD ds = true
    · exact (srtD_all hs).2.2.2.2
    · rw [if_neg hs] at e; cases e
  refine Calls.call_function_entry kind_sorted plain_sorted entry_sorted (args_sorted1 _) ?_
  unfold Builtin.«sorted»
  refine wpAny_bind (m := checkCount "sorted" 1 1 _) (wpAny_pure ?_)
  refine wpAny_bind (hcol _ fun h' tk acc kp rv => ?_)
  have hL : acc.length ≤ sizeLine := by rw [← rv.length, ← rs.length]; exact hz
  refine wpAny_bind (wpAny_newList ?_ hL)
  show wpAny _ _ _ _ _ { s with heap := h'.push (seqObj "list" acc.toArray 0), toks := tk }
  refine wpAny_bind (wpAny_holding (wpAny_mono (sort_new hu fr (I.kept kp) rs rv e q) (fun v s2 h2 => wpAny_pure ⟨_, rfl, h2⟩) fun _ _ h => h))
def phSorted : List PyData → Option PyData
  | [.list xs] => (sortD xs).map .list
  | [.dict ps] => (sortD (ps.map (·.1))).map .list
  | _ => none
theorem callSorted (hc : X.calm = true) (hu : X.A.units + 70 < cLine) : CallR X (.builtin "sorted") (rnD X.K true phSorted) := by
  intro pins s σ H xs us Q I r ⟨ok, okT, vs, d, fr, rs, e, q⟩
  unfold phSorted at e
  split at e
  · rename_i ds
    cases e1 : sortD ds with
    | none => rw [e1] at e; cases e
    | some ts =>
      rw [e1] at e
      cases e
      cases rs with
      | cons r1 rs =>
        cases rs
        obtain ⟨a, zs, rfl, h, rz⟩ := r1.lst
        obtain ⟨its, rv, pl, hz⟩ := I.list h
        rw [Vals.ref1 r]
        refine sorted_by hu fr I rz e1 (fun R hR => collect_list pl.isList (hR _ s.toks its (fun b o eb => ?_) rv) (by rw [← rv.length]; exact hz)) q
        rw [Heap.get?_update_ne _ _ _ _ (Nat.ne_of_lt (Heap.lt_size eb))]
        exact Heap.get?_push_of_some _ eb
  · rename_i ps
    cases e1 : sortD (ps.map (·.1)) with
    | none => rw [e1] at e; cases e
    | some ts =>
      rw [e1] at e
      cases e
      cases rs with
      | cons r1 rs =>
        cases rs
        obtain ⟨a, rfl, _, h⟩ := r1
        rw [Vals.ref1 r]
        rcases h with ⟨kvs, h, rr⟩ | ⟨kvs, h, rr⟩
        · obtain ⟨z, lo, vs, rel, dd⟩ := dk_rd I.hok h
          obtain ⟨ep, hat⟩ := dd.dictAt
          have hl : kvs.length = vs.length := Paired.length rel
          refine sorted_by hu fr I rr.keysOf e1 (fun R hR => kdu_collect (A := X.A.in1) (kdl_dict (knd := mixKind X.prog X.w) (kvs := vs) (ep := ep) lo) (I.ok.hd hc) hat (by omega) fun h' tk acc hk hacc => hR h' tk acc.toList hk ?_) q
          refine vals_of_at (by have l9 : acc.toList.length = acc.size := Array.length_toList; rw [List.length_map, l9, hacc.1, hl]) fun j x w h1 h2 => ?_
          obtain ⟨k, y, hky, hi⟩ := hacc.2 j w (by rw [← Array.getElem?_toList]; exact h2)
          have e3 : (kvs.map (·.1))[j]? = some k := by rw [rel.keys, List.getElem?_map, hky]; rfl
          rw [List.getElem?_map] at h1 e3
          cases hj : kvs[j]? with
          | none => rw [hj] at h1; cases h1
          | some p =>
            rw [hj] at h1 e3
            cases h1
            cases e3
            exact keyIs_rel hi
        · obtain ⟨z, hs, ks, pr, o, es, ep, ho, hx, hdt, he, hn⟩ := dti_at I h
          have l1 : es.size = ks.length := by
            have := congrArg List.length he
            simpa using this
          have l2 : kvs.length = ks.length := Paired.length pr
          exact sorted_by hu fr I rr.keysOf e1 (fun R hR => kdu_collect (A := X.A.in1) (kdl_raw hs hx hdt) (I.ok.hd hc) ho (by omega) fun h' tk acc hk hacc => hR h' tk acc.toList hk (dti_keys (P := X.prog) (w := X.w) pr he hacc)) q
  · cases e

def isaD (T : String) (d : PyData) : Option Bool := if d.plain = true then match T with
  | "int" => some d.isInt
  | "bool" => some d.isBool
  | "str" => some d.isStr
  | "tuple" => some d.isTuple
  | "list" => some d.isList
  | _ => none else none
theorem isa_call (T : String) {x : V} {u : Value} {d : PyData} {b : Bool} {okT : Addr → Prop} {Q : VK} (I : Inv X pins σ H s) (r : RpT okT ok X.K H d x) (rx : RelV x u) (e : isaD T d = some b) (q : Q (.bl b) H) :
    wpAny (model X.prog X.w) X.A (call (.builtin "isinstance") [u, .type T]) (EP X pins σ Q) X.xe s := by
  unfold isaD at e
  by_cases hp : d.plain = true
  · rw [if_pos hp] at e
    obtain ⟨as, rd⟩ := r.rd I hp rx
    split at e
    · cases e; exact isinstance_int_data rd fun tk _ => ⟨.bl _, H, I.tok tk, rfl, q⟩
    · cases e; exact isinstance_bool_data rd fun tk _ => ⟨.bl _, H, I.tok tk, rfl, q⟩
    · cases e; exact isinstance_str_data rd fun tk _ => ⟨.bl _, H, I.tok tk, rfl, q⟩
    · cases e; exact isinstance_tuple_data rd fun tk _ => ⟨.bl _, H, I.tok tk, rfl, q⟩
    · cases e; exact isinstance_list_data rd fun tk _ => ⟨.bl _, H, I.tok tk, rfl, q⟩
    · cases e
  · rw [if_neg hp] at e; cases e
end
end FL
namespace FL
open PySem PySem.Spec PyProof.Rows L2 PySem.W

section
variable {prog : Program} {w : World} {A : Around} {E : Value → Shared → Prop} {s : Shared}
theorem adjust_rev (n : Nat) : Builtin.Slice.sliceAdjust none none (-1) (n : Int) = ((n : Int) - 1, -1) := by
  unfold Builtin.Slice.sliceAdjust
  have h1 : (-1 : Int) < 0 := by omega
  simp only [h1, if_true]
theorem places_rev (n : Nat) : Builtin.Slice.slicePlaces ((n : Int) - 1) (-1) (-1) = n := by
  unfold Builtin.Slice.slicePlaces
  have h1 : ¬ ((-1 : Int) > 0) := by omega
  simp only [h1, if_false]
  by_cases h : (n : Int) - 1 > -1
  · simp only [h, if_true]
    rw [show (- -1 : Int) = 1 by decide, Int.ediv_one]
    omega
  · simp only [h, if_false]
    omega
theorem applied_rev {sl : Addr} {t : Tok} {n : Nat} {Q : Int × Int × Nat → Shared → Prop} (hs : s.heap.IsSliceOf sl .none .none (.int (-1) t)) (h : Q ((n : Int) - 1, -1, n) s) :
    wpAny (model prog w) A (Builtin.Slice.sliceApplied (.ref sl) (pure (n : Int))) Q E s := by
  obtain ⟨os, hos, hcs, hds⟩ := id hs
  unfold Builtin.Slice.sliceApplied Builtin.Slice.sliceFields
  refine wpAny_bind (wpAny_bind (wpAny_field hos hds (x := .none) rfl (wpAny_bind (wpAny_field hos hds (x := .none) rfl (wpAny_bind (wpAny_field hos hds (x := .int (-1) t) rfl (wpAny_pure ?_)))))))
  refine wpAny_bind (slicePart_int ?_)
  show wpAny _ _ (if ((-1 : Int) == 0) = true then _ else _) _ _ s
  rw [if_neg (by decide)]
  refine wpAny_bind (HT.slicePart_ .none (wpAny_bind (HT.slicePart_ .none (wpAny_bind (wpAny_pure ?_)))))
  show wpAny _ _ (match Builtin.Slice.sliceAdjust none none (-1) (n : Int) with | (lo, hi) => pure (lo, (-1 : Int), Builtin.Slice.slicePlaces lo hi (-1))) _ _ s
  rw [adjust_rev n]
  show wpAny _ _ (pure ((n : Int) - 1, (-1 : Int), Builtin.Slice.slicePlaces ((n : Int) - 1) (-1) (-1))) _ _ s
  rw [places_rev]
  exact wpAny_pure h
theorem pick_rev (xs : Array Value) : ((List.range xs.size).filterMap fun (m : Nat) => xs[((xs.size : Int) - 1 + (m : Int) * -1).toNat]?).toArray = xs.toList.reverse.toArray := by
  have e : (List.range xs.size).map (fun (m : Nat) => ((xs.size : Int) - 1 + (m : Int) * -1).toNat) = (List.range xs.size).reverse := by
    rw [← krv_range]
    apply List.map_congr_left
    intro m hm
    have := List.mem_range.mp hm
    omega
  have e2 : ((List.range xs.size).map (fun (m : Nat) => ((xs.size : Int) - 1 + (m : Int) * -1).toNat)).filterMap (xs[·]?) = (List.range xs.size).filterMap fun (m : Nat) => xs[((xs.size : Int) - 1 + (m : Int) * -1).toNat]? := by
    rw [List.filterMap_map]
    rfl
  rw [← e2, e, List.filterMap_reverse, krv_all]
theorem getItem_rev {t sl : Addr} {items : Array Value} {u : Tok} {Q : Value → Shared → Prop} (ht : IsTup s.heap t items) (hs : s.heap.IsSliceOf sl .none .none (.int (-1) u))
    (h : Q (.ref s.heap.objs.size) { s with heap := s.heap.push { cls := .type "tuple", data := .seq items.toList.reverse.toArray } }) (hsz : items.size ≤ sizeLine) :
    wpAny (model prog w) A (getItem (.ref t) (.ref sl)) Q E s := by
  have htake : sizeOk (.seq items.toList.reverse.toArray) := by
    show items.toList.reverse.toArray.size ≤ sizeLine
    rw [List.size_toArray, List.length_reverse, Array.length_toList]
    exact hsz
  obtain ⟨os, hos, hcs, hds⟩ := id hs
  have hTs : s.TypeIs (.ref sl) "slice" := ⟨os, hos, hcs⟩
  unfold getItem
  refine wpAny_holding ?_
  refine wpAny_bind (wpAny_sequenceKey ht.typeIs (by decide) ?_)
  refine wpAny_bind (wpAny_callSpecial?_slot (name := Str.ofString "__getitem__") ht.typeIs PyProof.Rows.slot_tuple_getitem
    (wpAny_call_entry PyProof.Rows.slot_tuple_getitem ht.typeIs entry_tuple_getitem ?_ (args_tuple_getitem _ _)))
  show wpAny _ _ (Builtin.Tuple.tupleItemsOf (.ref t) >>= _) _ _ s
  refine wpAny_bind (tupleItemsOf_ ht ?_)
  refine wpAny_bind (wpAny_typeOf hTs ?_)
  rw [if_pos (by decide)]
  refine wpAny_bind (applied_rev hs ?_)
  have hno : ¬ (((items.size : Int) - 1 == 0 && (-1 : Int) == 1 && items.size == items.size) = true) := by
    intro q
    rw [Bool.and_eq_true, Bool.and_eq_true] at q
    exact absurd q.1.2 (by decide)
  show wpAny _ _ (if ((items.size : Int) - 1 == 0 && (-1 : Int) == 1 && items.size == items.size) = true then _ else _) _ _ s
  rw [if_neg hno, pick_rev]
  first
    | exact wpAny_bind (m := Builtin.Tuple.tupleExact _) (wpAny_newObj_type (wpAny_pure ⟨_, rfl, wpAny_pure h⟩) htake)
    | exact wpAny_bind (m := Builtin.Tuple.tupleExact _) (wpAny_newObj_type (wpAny_bind (wpAny_pure (wpAny_pure ⟨_, rfl, wpAny_pure h⟩))) htake)
    | exact wpAny_bind (wpAny_bind (m := Builtin.Tuple.tupleExact _) (wpAny_newObj_type (wpAny_pure (wpAny_pure ⟨_, rfl, wpAny_pure h⟩)) htake))
    | exact wpAny_bind (wpAny_bind (m := Builtin.Tuple.tupleExact _) (wpAny_newObj_type (wpAny_pure ⟨_, rfl, wpAny_pure h⟩) htake))
end

def phIsa (T : String) (d : PyData) : Option PyData := (isaD T d).map .bool
section
variable {X : Cx} {sg : Sta} {W : WX} {e a b c : Expr} {d d1 d2 d3 : DE} {w w1 w2 w3 p p1 p2 p3 f f1 f2 f3 : Bool} {pos p' p'' : Pos}
theorem call_isaD (T : String) : CallR X (.builtin "isinstance") (fun xs H Q => ∃ ok okT x d b, xs = [x, V.ty T] ∧ RpT okT ok X.K H d x ∧ isaD T d = some b ∧ Q (.bl b) H) := by
  intro pins s σ H xs us Q I r ⟨ok, okT, x, d, b, ex, rx, e, q⟩
  subst ex
  obtain ⟨u1, u2, rfl, r1, r2⟩ := vals2 r
  cases (show u2 = Value.type T from r2)
  exact isa_call T I rx r1 e q
theorem e_isa {T : String} {x : Str} (hg : Gl X "isinstance") (hm : X.mg "isinstance" = none) (hgT : Gl X x) (hmT : X.mg x = none) (hvT : bootBuiltins x = some (.type T)) (ha : PE X e (tE X.K X.mg sg W w1 p f1 d))
    (hn : x ≠ "__name__" := by decide) (hd : (x == ("__debug__" : Str)) = false := by decide) (he : starEach [e, .Name x p''] X.env = (false, eval e X.env) :: starEach [.Name x p''] X.env := by rfl) (he2 : starEach [.Name x p''] X.env = (false, eval (.Name x p'') X.env) :: starEach [] X.env := by rfl)
    (hpl : (backTo pos (starEach [.Name x p''] X.env)).any (·.1) = false := by rfl) : PE X (.Call (.Name "isinstance" p') [e, .Name x p''] [] pos) (tE X.K X.mg sg W w p f (dOp1 (phIsa T) d)) := by
  refine PE.imp (pe_callB (call_isaD T) hg hm (by decide +kernel) (pa_cons ha (pa_cons (pe_bltn hgT hmT hvT (show RelV (V.ty T) (Value.type T) from rfl) hn hd) pa_nil he2) he) (he := he) (hpl := hpl)) fun σ H Q ⟨g, ρ, o, S, ok, r, q⟩ => ?_
  unfold dOp1 at q
  show tE X.K X.mg sg W w1 p f1 d σ H _
  cases e1 : d ρ o with
  | bad => rw [e1] at q; exact q.elim
  | ex c ρ1 o1 => rw [e1] at q; exact tE.of_ex r e1 q
  | ok v ρ1 o1 =>
    rw [e1] at q
    refine tE.of_ok r e1 fun x H1 ok1 n1 r1 _ => ?_
    simp only [Res.bind, phIsa] at q
    cases e2 : isaD T v with
    | none => rw [e2] at q; exact q.elim
    | some b =>
      rw [e2] at q
      exact ⟨ok1, okw g S, x, v, b, rfl, r1.T n1.st.sub, e2, fin_op n1 (Nw.same (.bl b) rfl) q⟩

def phRepr : List PyData → Option PyData
  | [d] => if (d.showable && !d.hasDict && okD d && decide (d.shown.length ≤ sizeLine)) = true then some (.str d.shown) else none
  | _ => none
theorem callRepr (hg : X.A.guards = some []) (hu : X.A.units + 70 < cLine) : CallR X (.builtin "repr") (rnD X.K true phRepr) := by
  intro pins s σ H xs us Q I r ⟨ok, okT, vs, d, fr, rs, e, q⟩
  unfold phRepr at e
  split at e
  · rename_i d0
    by_cases hh : (d0.showable && !d0.hasDict && okD d0 && decide (d0.shown.length ≤ sizeLine)) = true
    · rw [if_pos hh] at e
      cases e
      simp only [Bool.and_eq_true, decide_eq_true_eq] at hh
      obtain ⟨⟨⟨h1, h2⟩, h3⟩, h4⟩ := hh
      have h2 : d0.hasDict = false := by simpa using h2
      obtain ⟨h5, h6⟩ := okD_plain h3
      cases rs with
      | cons r1 rs =>
        cases rs
        obtain ⟨u, rfl, rx⟩ := vals1 r
        obtain ⟨as, rd⟩ := r1.rd I h5 rx
        have big : ∀ {a : Addr}, u = .ref a → wpAny (model X.prog X.w) X.A (call (.builtin "repr") [u]) (EP X pins σ Q) X.xe s := fun {a} ea => by
          subst ea
          exact repr_of_reads' rd h1 (PyData.noDict_hsm h2) hg (by omega) (fun _ _ e => e) (fun h' u tk hk => ⟨.str d0.shown, H, I.kept hk, ⟨u, rfl⟩, q _ _ (Nw.same (.str _) rfl)⟩) h4
        cases d0 with
        | none =>
          obtain rfl := r1.non
          cases rx
          exact P.repr_of_none ⟨.str _, H, I.tok _, ⟨_, rfl⟩, q _ _ (Nw.same (.str _) rfl)⟩
        | bool b =>
          obtain rfl := r1.bl
          cases rx
          exact P.repr_of_bool ⟨.str _, H, I.tok _, ⟨_, rfl⟩, q _ _ (Nw.same (.str _) rfl)⟩
        | int i =>
          obtain rfl := r1.int
          obtain ⟨t, rfl⟩ := rx
          exact P.repr_of_int (by simpa [PyData.showable] using h1) ⟨.str _, H, I.tok _, ⟨_, rfl⟩, q _ _ (Nw.same (.str _) rfl)⟩
        | str y =>
          obtain rfl := r1.str
          obtain ⟨t, rfl⟩ := rx
          exact P.repr_of_str ⟨.str _, H, I.tok _, ⟨_, rfl⟩, q _ _ (Nw.same (.str _) rfl)⟩ (by simpa [PyData.shown] using h4)
        | list ys =>
          obtain ⟨a, zs, rfl, _, _⟩ := r1.lst
          exact big rx
        | tuple ys =>
          obtain ⟨a, zs, rfl, _, _⟩ := r1.tup
          exact big rx
        | dict ps => simp [PyData.hasDict] at h2
    · rw [if_neg hh] at e; cases e
  · cases e

abbrev DO := Env → Orc → Res (Option Int)
def tPt (K : PySem.W.Frag) (mg : Str → Option Value) (sg : Sta) (W : WX) (p : Bool) (d : DO) : TO := fun σ H Q => ∃ g ρ o S ok, Rst sg g ok S K H σ ρ o ∧
  match d ρ o with
  | .ok v ρ' o' => ∀ H' ok', Nx p sg g ok S K H σ ρ ρ' o' H' ok' → Q v H'
  | .ex c ρ' o' => ∀ cls dd H' ok', Nx false sg g ok S K H σ ρ ρ' o' H' ok' → ExR mg ok' K H' c cls dd → W cls dd σ H'
  | .bad => False
theorem PO.imp {x : Option Expr} {t t' : TO} (h : PO X x t) (i : ∀ σ H Q, t' σ H Q → t σ H Q) : PO X x t' := ⟨fun pins s σ H Q I q => h.run pins s σ H Q I (i σ H Q q)⟩
theorem tPt.of_ok {d : DO} {g : Gh} {σ : Sl} {H : Hp} {ρ ρ' : Env} {o o' : Orc} {S : Sad} {ok : Addr → Prop} {Q : Option Int → Hp → Prop} {v : Option Int} (r : Rst sg g ok S X.K H σ ρ o) (e : d ρ o = .ok v ρ' o') (h : ∀ H' ok', Nx p sg g ok S X.K H σ ρ ρ' o' H' ok' → Q v H') : tPt X.K X.mg sg W p d σ H Q :=
  ⟨g, ρ, o, S, ok, r, by rw [e]; exact h⟩
theorem tPt.of_ex {d : DO} {g : Gh} {σ : Sl} {H : Hp} {ρ ρ' : Env} {o o' : Orc} {S : Sad} {ok : Addr → Prop} {Q : Option Int → Hp → Prop} {c : Exn} (r : Rst sg g ok S X.K H σ ρ o) (e : d ρ o = .ex c ρ' o')
    (h : ∀ cls dd H' ok', Nx false sg g ok S X.K H σ ρ ρ' o' H' ok' → ExR X.mg ok' X.K H' c cls dd → W cls dd σ H') : tPt X.K X.mg sg W p d σ H Q := ⟨g, ρ, o, S, ok, r, by rw [e]; exact h⟩
def asI : PyData → Option Int
  | .int i => some i
  | _ => none
theorem asI_some {d : PyData} {i : Int} (h : asI d = some i) : d = .int i := by
  unfold asI at h
  split at h
  · cases h; rfl
  · cases h
def dNoPt : DO := fun ρ o => .ok none ρ o
def dPt (d : DE) : DO := fun ρ o => (d ρ o).bind fun v ρ1 o1 => (Res.ofO (asI v) ρ1 o1).bind fun i ρ2 o2 => .ok (some i) ρ2 o2
theorem o_none : PO X none (tPt X.K X.mg sg W true dNoPt) := PO.imp po_none fun σ H Q ⟨g, ρ, o, S, ok, r, q⟩ => q _ ok (.refl r _)
theorem RpM.int {w : Bool} {okT ok : Addr → Prop} {K : PySem.W.Frag} {H : Hp} {i : Int} {x : V} (r : RpM w okT ok K H (.int i) x) : x = .int i := by
  have r2 : Rp ok K H (.int i) x := by
    unfold RpM at r
    split at r <;> exact r
  cases r2; rfl
theorem o_some (h : PE X e (tE X.K X.mg sg W w p f d)) : PO X (some e) (tPt X.K X.mg sg W p (dPt d)) := by
  refine PO.imp (po_some h) fun σ H Q ⟨g, ρ, o, S, ok, r, q⟩ => ?_
  unfold dPt at q
  show tE X.K X.mg sg W w p f d σ H _
  cases e1 : d ρ o with
  | bad => rw [e1] at q; exact q.elim
  | ex c ρ1 o1 => rw [e1] at q; exact tE.of_ex r e1 q
  | ok v ρ1 o1 =>
    rw [e1] at q
    refine tE.of_ok r e1 fun x H1 ok1 n1 r1 _ => ?_
    simp only [Res.bind] at q
    cases e2 : asI v with
    | none => rw [e2] at q; exact q.elim
    | some i =>
      rw [e2] at q
      obtain rfl := asI_some e2
      exact ⟨i, r1.int, q _ _ n1⟩
def dCut (d : DE) (a b : DO) : DE := fun ρ o => (d ρ o).bind fun v ρ1 o1 => (a ρ1 o1).bind fun i ρ2 o2 => (b ρ2 o2).bind fun j ρ3 o3 => .ofO (phCut v i j) ρ3 o3
theorem e_cut {lo hi : Option Expr} {da db : DO} (he : PE X e (tE X.K X.mg sg W w1 p1 f1 d)) (ha : PO X lo (tPt X.K X.mg sg W p2 da)) (hb : PO X hi (tPt X.K X.mg sg W p3 db)) (hw : (!w1 || (p2 && p3)) = true := by rfl) :
    PE X (.Subscript e (.Slice lo hi none p') pos) (tE X.K X.mg sg W w (p1 && (p2 && p3)) true (dCut d da db)) := by
  refine PE.imp (pe_slice slD he ha hb) fun σ H Q ⟨g, ρ, o, S, ok, r, q⟩ => ?_
  have hw' : w1 = true → (p2 && p3) = true := fun e => by rw [e] at hw; simpa using hw
  unfold dCut at q
  show tE X.K X.mg sg W w1 p1 f1 d σ H _
  cases e1 : d ρ o with
  | bad => rw [e1] at q; exact q.elim
  | ex c ρ1 o1 => rw [e1] at q; exact tE.of_ex r e1 q
  | ok v ρ1 o1 =>
    rw [e1] at q
    refine tE.of_ok r e1 fun x H1 ok1 n1 r1 _ => ?_
    simp only [Res.bind] at q
    show tPt X.K X.mg sg W p2 da σ H1 _
    cases e2 : da ρ1 o1 with
    | bad => rw [e2] at q; exact q.elim
    | ex c ρ2 o2 => rw [e2] at q; exact tPt.of_ex n1.st e2 fun cls dd H' ok' n2 x2 => q cls dd H' ok' (n1.weak.trans n2) x2
    | ok i ρ2 o2 =>
      rw [e2] at q
      refine tPt.of_ok n1.st e2 fun H2 ok2 n2 => ?_
      simp only at q
      show tPt X.K X.mg sg W p3 db σ H2 _
      cases e3 : db ρ2 o2 with
      | bad => rw [e3] at q; exact q.elim
      | ex c ρ3 o3 => rw [e3] at q; exact tPt.of_ex n2.st e3 fun cls dd H' ok' n3 x3 => q cls dd H' ok' ((n1.weak.trans n2).weak.trans n3) x3
      | ok j ρ3 o3 =>
        rw [e3] at q
        refine tPt.of_ok n2.st e3 fun H3 ok3 n3 => ?_
        simp only at q
        have n23 := n2.trans n3
        have r3 := (r1.later n1.st n23 hw').T n3.st.sub
        cases e4 : phCut v i j with
        | none => rw [e4] at q; exact q.elim
        | some z =>
          rw [e4] at q
          simp only [Res.ofO] at q
          exact ⟨ok3, okw g S, v, z, n3.st.fr, r3, e4, fun zz H' nw => fin_op (f := true) (n1.trans n23) nw fun x H' ok' a b c => q x H' ok' a b fun _ => c rfl⟩
/-- t[::-1] of a tuple -/
def phRev : PyData → Option PyData
  | .tuple xs => some (.tuple xs.reverse)
  | _ => none
theorem pe_rev {te : TE} {j : Nat} {p1 p2 p3 : Pos} (he : PE X e te) : PE X (.Subscript e (.Slice none none (some (.UnaryOp .USub (.Constant (.int 1) j p1) p2)) p3) pos) (fun σ H Q => te σ H fun x H1 => r1D X.K true phRev x H1 Q) := by
  refine ⟨fun pins s σ H Q I h => ?_⟩
  refine Subscript_ (thn (he.run pins s σ H _ I h) fun v s1 ⟨x, H1, I1, r1, ok, okT, dv, d, fr, rp, e, q⟩ => ?_)
  unfold phRev at e
  split at e
  · cases e
    obtain ⟨a, xs, rfl, ha, rs⟩ := rp.tup
    cases r1
    refine wpAny_Slice ?_
    rw [evalPart_none]
    refine wpAny_pure ?_
    refine wpAny_pure ?_
    rw [evalPart_some]
    refine thn ((pe_un (X := X) (pos := p2) un_neg (pe_int (X := X) (i := 1) (j := j) (pos := p1))).run pins s1 σ H1 (fun x H' => x = .int (-1) ∧ H' = H1) I1 ⟨1, rfl, rfl, rfl⟩) fun u s2 ⟨y, H2, I2, r2, ey, eH⟩ => ?_
    subst ey eH
    obtain ⟨t, rfl⟩ := r2
    have I4 : Inv X pins σ H2 { s2 with heap := s2.heap.push { cls := .type "slice", data := .fields #[.none, .none, .int (-1) t] } } := I2.kept (t' := s2.toks) fun b ob q => Heap.get?_push_of_some _ q
    obtain ⟨its, rv, ht, hz⟩ := I4.tuple ha.sq
    refine tail_any (ops := [.ref a, .ref s2.heap.objs.size]) ht.typeIs PyProof.Rows.slot_tuple_getitem.lookup (getItem_rev ht ⟨_, Heap.get?_push_size _ rfl, rfl, rfl⟩ ?_ (by rw [List.size_toArray, ← rv.length]; exact hz)) (by with_unfolding_all rfl)
    have rr : Vals xs.reverse its.reverse := by simpa using rv.reverse
    exact end_hard I4 rr (by rw [List.length_reverse]; exact hz) fun p o ho hp => q _ _ (Nw.hard ho hp rs.reverse)
  · cases e
theorem e_rev {j : Nat} {p1' p2' p3' : Pos} (he : PE X e (tE X.K X.mg sg W w1 p f1 d)) : PE X (.Subscript e (.Slice none none (some (.UnaryOp .USub (.Constant (.int 1) j p1') p2')) p3') pos) (tE X.K X.mg sg W w p true (dOp1 phRev d)) :=
  pe_opD1 (te := fun ta σ H Q => ta σ H fun x H1 => r1D X.K true phRev x H1 Q) (fun ha => pe_rev ha) (fun _ _ _ _ => rfl) (fun _ _ _ h => h) he
end
end FL
namespace FL
open PySem PySem.Spec PyProof.Rows L2 PySem.W

def IteT (K : PySem.W.Frag) (a : Addr) : It :=
  ⟨fun i H => ∃ (xs : List V) (x : V), SqT K H a xs ∧ (∃ u, H a = some u) ∧ xs[i]? = some x, fun i H v H' => ∃ T x, v = .ref T ∧ H T = none ∧ H' = upd H T (.tup [.int (i : Nat), x]) ∧ ∀ xs, SqT K H a xs → xs[i]? = some x,
    fun i H => ∃ xs : List V, SqT K H a xs ∧ (∃ u, H a = some u) ∧ xs.length = i⟩
theorem turn_enumT {P : Program} {w : World} {K : PySem.W.Frag} {elts : List Expr} {kk : Nat} {tpos : Pos} (a e it : Addr) :
    Turn P w K (.Tuple elts kk tpos) (IteT K a) [e, it] e (fun i h => (∃ old, IsEnum h e it ((i : Nat) : Int) old) ∧ h.IsTupleIter it a i ∧ e ≠ it) where
  mem := by simp
  obj := fun i h st b hb => by
    obtain ⟨⟨old, he⟩, ⟨o, ho, hc, hd⟩, _⟩ := st
    have hb' : b = e ∨ b = it := by simpa using hb
    rcases hb' with rfl | rfl
    · exact ⟨_, he, fun v q => nomatch q⟩
    · exact ⟨o, ho, fun v q => by rw [hd] at q; cases q⟩
  keep := fun i h h' st k => by
    obtain ⟨⟨old, he⟩, hi, hne⟩ := st
    exact ⟨⟨old, k e (by simp) _ he⟩, hi.at fun o q => k it (by simp) o q, hne⟩
  item := by
    intro X hP hw hK hc i pins s σ H E I hf st hg
    subst hP hw hK
    obtain ⟨⟨old, he⟩, hit, hne⟩ := st
    obtain ⟨xs, x, hq, ⟨ua, hua⟩, hx⟩ := hg
    obtain ⟨its, rv, p, hz⟩ := I.tuple hq
    obtain ⟨u, hu, ru⟩ := rv.get hx
    have hel : e < s.heap.objs.size := Heap.lt_size he
    have hil : it < s.heap.objs.size := by obtain ⟨_, q, _⟩ := hit; exact Heap.lt_size q
    have hea : e ≠ a := fun z => by
      have := (hf e (by simp)).1
      rw [z, hua] at this
      cases this
    have hia : a ≠ it := fun z => by
      have := (hf it (by simp)).1
      rw [← z, hua] at this
      cases this
    have hlt : i < its.toArray.size := by
      rw [List.size_toArray]
      exact (List.getElem?_eq_some_iff.mp hu).1
    refine wpAny_pyNext_enum_itemC (Draws.tuple (A := X.A.in1) (I.ok.hd hc) it a hia its.toArray) he ⟨hit, p⟩ hlt hne (by simp [hne, hea]) fun y h' tk hy ho hst hT hsz hk => ?_
    have ey : y = u := by
      have h1 : its.toArray[i]? = some y := hy
      rw [← Array.getElem?_toList] at h1
      have h2 : its[i]? = some y := h1
      rw [hu] at h2
      exact (Option.some.inj h2).symm
    subst ey
    refine ⟨_, rfl, wpAny_letOwnedTupleGo_enum (s := { s with heap := h', toks := tk + 1 }) ho fun h'' he' sb => ?_⟩
    have hT2 : h''.get? s.heap.objs.size = some { cls := .type "tuple", data := .seq #[.int i tk, y] } := (sb.2 _ (Nat.ne_of_gt hel)).trans hT
    have new : ObjOk X.prog X.w (upd H s.heap.objs.size (.tup [.int (i : Nat), x])) h'' s.heap.objs.size (.tup [.int (i : Nat), x]) :=
      ⟨by show 2 ≤ sizeLine; decide, [.int i tk, y], .cons ⟨_, rfl⟩ (.cons ru .nil), ⟨_, hT2, rfl, _, rfl⟩⟩
    have I1 : Inv X pins σ (upd H s.heap.objs.size (.tup [.int (i : Nat), x])) { s with heap := h'', toks := tk + 1 } :=
      I.turnedNew (ch := [e, it]) (fun b ob hb q => (sb.2 b (fun z => hb (by simp [z]))).trans (hk b ob (fun z => hb (by simp [z])) (fun z => hb (by simp [z])) q)) hf (Nat.le_refl _) new
    refine ⟨.ref s.heap.objs.size, _, I1, rfl, ⟨_, x, rfl, I.hok.fresh (Nat.le_refl _), rfl, fun ys hy => by rw [I.tuple_inj hy hq]; exact hx⟩, ⟨⟨y, ?_⟩, hst.1.at fun o q => (sb.2 it (Ne.symm hne)).trans q, hne⟩, fun b hb => ?_⟩
    · have e1 : ((i + 1 : Nat) : Int) = (i : Int) + 1 := by omega
      rw [e1]; exact he'
    · have hb' : b < s.heap.objs.size := by
        have e' : b = e ∨ b = it := by simpa using hb
        rcases e' with z | z
        · rw [z]; exact hel
        · rw [z]; exact hil
      rw [upd_ne (Nat.ne_of_lt hb')]
      exact (hf b hb).1
  done := by
    intro X hP hw hK hc i pins s σ H E I hf st hg
    subst hP hw hK
    obtain ⟨⟨old, he⟩, hit, hne⟩ := st
    obtain ⟨xs, hq, ⟨ua, hua⟩, hx⟩ := hg
    obtain ⟨its, rv, p, hz⟩ := I.tuple hq
    obtain ⟨f0, f1, f2, f3, f4, f5⟩ := hf it (by simp)
    have hia : a ≠ it := fun z => by rw [← z, hua] at f0; cases f0
    have hl : its.toArray.size = i := by rw [List.size_toArray, ← rv.length, hx]
    exact wpAny_pyNext_enum_endD (Draws.tuple (A := X.A.in1) (I.ok.hd hc) it a hia its.toArray) he ⟨by rw [hl]; exact hit, p⟩ fun h' eb => ⟨rfl, I.turned (t' := s.toks) (fun b o hb q => eb b o hb q) f0 f1 f3 f4 f5⟩
  self := fun A i s Q E st h => by
    obtain ⟨⟨_, he⟩, _⟩ := st
    exact wpAny_pyIter_enum he h
set_option maxHeartbeats 1000000 in
theorem meets_enum_tup (a : Addr) (items : Array Value) :
    Meets (Builtin.«enumerate.__new__» ⟨[.type "enumerate", .ref a], []⟩) (fun _ R s => s.heap.IsTuple a items ∧
      R (.ok (.ret (.ref (s.heap.push { cls := .type "tuple_iterator", data := .fields #[.ref a, .int 0 0] }).objs.size)))
        { s with heap := (s.heap.push { cls := .type "tuple_iterator", data := .fields #[.ref a, .int 0 0] }).push { cls := .type "enumerate", data := .fields #[.none, .bool false, .ref s.heap.objs.size, rawInt 0, .none, .none] } }) :=
  .of_wp fun prog w A R s h => by
    obtain ⟨hp, g, d, tk, os⟩ := s
    obtain ⟨h1, h⟩ := h
    have hsub := sub_enumerate
    have q1 : ∀ {A' : Around} {E : Value → Shared → Prop} {Q : Value → Shared → Prop}, Q (.ref hp.objs.size) ⟨hp.push { cls := .type "tuple_iterator", data := .fields #[.ref a, .int 0 0] }, g, d, tk, os⟩ → wpAny (model prog w) A' (pyIter (.ref a)) Q E ⟨hp, g, d, tk, os⟩ :=
      fun q => wpAny_pyIter_tuple h1 q
    wp_walk using q1
    refine wpAny_stack_any fun st => wpAny_pure ?_
    split
    · rename_i c _ _ _ _ _
      cases (c == Value.type "enumerate")
      · wp_walk using q1
        exact ⟨_, rfl, h⟩
      · wp_walk using q1
        exact ⟨_, rfl, h⟩
    · wp_walk using q1
      exact ⟨_, rfl, h⟩
theorem call_enum_tup {prog : Program} {w : World} {A : Around} {E : Value → Shared → Prop} {s : Shared} {a : Addr} {items : Array Value} {Q : Value → Shared → Prop} (h1 : s.heap.IsTuple a items)
    (h : ∀ h', IsEnum h' (s.heap.objs.size + 1) s.heap.objs.size 0 .none → h'.IsTupleIter s.heap.objs.size a 0 → (∀ b o, s.heap.get? b = some o → h'.get? b = some o) → Q (.ref (s.heap.objs.size + 1)) { s with heap := h' }) :
    wpAny (model prog w) A (call (.type "enumerate") [.ref a]) Q E s := by
  refine callType_new F.called_enumerate (by decide) (F.typeCall_enumerate_1 _) (F.newCall_enumerate_1 _) (fun obj => F.args_object_init_2 obj _) F.entry_enumerate_new
    (meets_enum_tup a items) ⟨h1, ?_⟩
  have hz : (s.heap.push { cls := .type "tuple_iterator", data := .fields #[.ref a, .int 0 0] }).objs.size = s.heap.objs.size + 1 := Heap.size_push ..
  show _ ∧ _
  rw [hz]
  have he : IsEnum ((s.heap.push { cls := .type "tuple_iterator", data := .fields #[.ref a, .int 0 0] }).push { cls := .type "enumerate", data := .fields #[.none, .bool false, .ref s.heap.objs.size, rawInt 0, .none, .none] }) (s.heap.objs.size + 1) s.heap.objs.size 0 .none := by
    have := Heap.get?_push_size (s.heap.push { cls := .type "tuple_iterator", data := .fields #[.ref a, .int 0 0] }) (o := { cls := .type "enumerate", data := .fields #[.none, .bool false, .ref s.heap.objs.size, rawInt 0, .none, .none] }) rfl
    rw [hz] at this
    exact this
  exact ⟨⟨_, he, rfl⟩, h _ he ⟨_, Heap.get?_push_of_some _ (Heap.get?_push_size _ rfl), rfl, rfl⟩ fun b o x => Heap.get?_push_of_some _ (Heap.get?_push_of_some _ x)⟩
section
variable {X : Cx} {sg : Sta} {W : WX} {tg e a b c : Expr} {es : List Expr} {d d1 d2 : DE} {ds : DA} {w w1 w2 p p1 p2 f f1 f2 : Bool} {pos p' tpos : Pos} {elts : List Expr} {kk : Nat}
/-- enumerate(v), v a list or a tuple -/
theorem pi_enumA {te : TE} (hg : Gl X "enumerate") (hm : X.mg "enumerate" = none) (he : PE X e te) (hs : starEach [e] X.env = (false, eval e X.env) :: starEach [] X.env := by rfl) :
    PI X (.Tuple elts kk tpos) (.Call (.Name "enumerate" p') [e] [] pos) (fun σ H R => te σ H fun x H1 => ∃ a, x = .ref a ∧ (((∃ xs, SqL X.K H1 a xs) ∧ R (Ite X.K a) H1) ∨ ((∃ xs, SqT X.K H1 a xs) ∧ R (IteT X.K a) H1))) := by
  refine ⟨fun pins s σ H R I h => ?_⟩
  refine Call_ (ld_blt I hg hm boot_enumerate (PyProof.Rows.callWith_type1 (args_cons (thn (he.run pins s σ H _ I h) fun u s1 ⟨v, H1, I1, r1, q1⟩ => args_nil ?_) hs) hs rfl))
  have fresh2 : ∀ b ∈ [s1.heap.objs.size + 1, s1.heap.objs.size], FpOk X pins H1 b := fun b hb => by
    have e' : b = s1.heap.objs.size + 1 ∨ b = s1.heap.objs.size := by simpa using hb
    have hle : s1.heap.objs.size ≤ b := by omega
    exact I1.fpOk hle (I1.hok.fresh hle)
  obtain ⟨a, rfl, ⟨⟨xs, hq⟩, q⟩ | ⟨⟨xs, hq⟩, q⟩⟩ := q1
  · cases r1
    obtain ⟨its, rv, p', hz⟩ := I1.list hq
    refine call_enumerate_list p'.isList fun h' he hit hsz hk => wpAny_pyIter_enum he ?_
    exact ⟨s1.heap.objs.size + 1, [s1.heap.objs.size + 1, s1.heap.objs.size], _, _, H1, rfl, I1.kept (t' := s1.toks) hk, turn_enum a (s1.heap.objs.size + 1) s1.heap.objs.size, ⟨⟨.none, he⟩, hit, Nat.succ_ne_self _⟩, fresh2, q⟩
  · cases r1
    obtain ⟨its, rv, p', hz⟩ := I1.tuple hq
    refine call_enum_tup p' fun h' he hit hk => wpAny_pyIter_enum he ?_
    exact ⟨s1.heap.objs.size + 1, [s1.heap.objs.size + 1, s1.heap.objs.size], _, _, H1, rfl, I1.kept (t' := s1.toks) hk, turn_enumT a (s1.heap.objs.size + 1) s1.heap.objs.size, ⟨⟨.none, he⟩, hit, Nat.succ_ne_self _⟩, fresh2, q⟩
/-- the pairs that enumerate makes -/
def enumL (vs : List PyData) : List PyData := vs.mapIdx fun i v => .tuple [.int i, v]
theorem enumL_get {vs : List PyData} {i : Nat} {d : PyData} (h : (enumL vs)[i]? = some d) : ∃ v, vs[i]? = some v ∧ d = .tuple [.int i, v] := by
  unfold enumL at h
  rw [List.getElem?_mapIdx] at h
  cases e : vs[i]? with
  | none => rw [e] at h; cases h
  | some v => rw [e] at h; cases h; exact ⟨v, rfl, rfl⟩
theorem enumL_length (vs : List PyData) : (enumL vs).length = vs.length := by unfold enumL; simp
theorem trip2 (d1 d2 : PyData) : trip [d1, d2] = false := by cases d1 <;> cases d2 <;> rfl
theorem Rp.pair {ok : Addr → Prop} {K : PySem.W.Frag} {H : Hp} {T : Addr} {d1 d2 : PyData} {x y : V} (n : H T = none) (r1 : Rp ok K H d1 x) (r2 : Rp ok K H d2 y) : Rp ok K (upd H T (.tup [x, y])) (.tuple [d1, d2]) (.ref T) :=
  .tup (.inr ⟨trip2 _ _, upd_same⟩) (.cons (r1.grow (.upd n)) (.cons (r2.grow (.upd n)) .nil))
theorem Wlk.enumList {q : Addr → Prop} {K : PySem.W.Frag} {H : Hp} {ok : Addr → Prop} {a : Addr} {xs : List V} {vs : List PyData} (hq : q a) (h : Rd H a (.lst xs)) (r : Rps ok K H vs xs) : Wlk q K (Ite K a) (enumL vs) ok H where
  item := fun ok' H' s st fr i d e => by
    obtain ⟨v, ev, rfl⟩ := enumL_get e
    have r1 := r.step0 s.mono s.stp
    have h1 : Rd H' a (.lst xs) := Rd.stp h hq st
    obtain ⟨x, ex, rx⟩ := r1.get ev
    refine ⟨⟨xs, x, .inl h1, ex⟩, fun y H2 ⟨T, z, ey, hT, e2, hz⟩ => ?_⟩
    subst ey e2
    have := hz xs (.inl h1)
    rw [ex] at this; cases this
    exact ⟨.upd hT, .pair hT (.int _) rx⟩
  stop := fun ok' H' s st => ⟨xs, .inl (Rd.stp h hq st), by rw [enumL_length, r.length]; exact Nat.le_refl _⟩
theorem TpD.there {H : Hp} {a : Addr} {ds : List PyData} {xs : List V} (h : TpD H a ds xs) : ∃ u, H a = some u := by
  rcases h with ⟨o, _, h⟩ | ⟨_, h⟩ <;> exact ⟨_, h⟩
theorem Wlk.enumTup {q : Addr → Prop} {K : PySem.W.Frag} {H : Hp} {ok : Addr → Prop} {a : Addr} {ds : List PyData} {xs : List V} {vs : List PyData} (h : TpD H a ds xs) (r : Rps ok K H vs xs) : Wlk q K (IteT K a) (enumL vs) ok H where
  item := fun ok' H' s st fr i d e => by
    obtain ⟨v, ev, rfl⟩ := enumL_get e
    have r1 := r.step0 s.mono s.stp
    have h1 := TpD.stp h s.stp
    obtain ⟨x, ex, rx⟩ := r1.get ev
    refine ⟨⟨xs, x, h1.sq, h1.there, ex⟩, fun y H2 ⟨T, z, ey, hT, e2, hz⟩ => ?_⟩
    subst ey e2
    have := hz xs h1.sq
    rw [ex] at this; cases this
    exact ⟨.upd hT, .pair hT (.int _) rx⟩
  stop := fun ok' H' s st => ⟨xs, (TpD.stp h s.stp).sq, (TpD.stp h s.stp).there, by rw [enumL_length, r.length]⟩
/-- the items of a list or tuple, by where they stand -/
theorem RpT.items2 {okT ok : Addr → Prop} {K : PySem.W.Frag} {H : Hp} {v : PyData} {x : V} {vs : List PyData} (r : RpT okT ok K H v x) (e : itemsD v = some vs) : ∃ a xs, x = .ref a ∧ Rps ok K H vs xs ∧ ((okT a ∧ Rd H a (.lst xs)) ∨ ∃ ds, TpD H a ds xs) := by
  cases v with
  | list ds =>
    cases e
    obtain ⟨a, xs, e, q, h, r⟩ := r
    exact ⟨a, xs, e, r, .inl ⟨q, h⟩⟩
  | tuple ds =>
    cases e
    obtain ⟨a, xs, e, h, r1⟩ := r.tup
    exact ⟨a, xs, e, r1, .inr ⟨_, h⟩⟩
  | none => cases e
  | bool b => cases e
  | int i => cases e
  | str x => cases e
  | dict ps => cases e
def dEnum (d : DE) : DA := fun ρ o => (d ρ o).bind fun v ρ1 o1 => .ofO ((itemsD v).map enumL) ρ1 o1
theorem i_enum (hg : Gl X "enumerate") (hm : X.mg "enumerate" = none) (h : PE X e (tE X.K X.mg sg W w p f d)) (hs : starEach [e] X.env = (false, eval e X.env) :: starEach [] X.env := by rfl) :
    PI X (.Tuple elts kk tpos) (.Call (.Name "enumerate" p') [e] [] pos) (tI X.K X.mg sg W w p (dEnum d)) := by
  refine PI.imp (pi_enumA hg hm h hs) fun σ H R ⟨g, ρ, o, S, ok, r, q⟩ => ?_
  unfold dEnum at q
  cases e1 : d ρ o with
  | bad => rw [e1] at q; exact q.elim
  | ex c ρ1 o1 => rw [e1] at q; exact tE.of_ex r e1 q
  | ok v ρ1 o1 =>
    rw [e1] at q
    refine tE.of_ok r e1 fun x H1 ok1 n1 r1 _ => ?_
    simp only [Res.bind] at q
    cases e2 : itemsD v with
    | none => rw [e2] at q; exact q.elim
    | some vs =>
      rw [e2] at q
      have r2 : RpT (if w = true then okw g S else ok1) ok1 X.K H1 v x := by
        cases w with
        | true => exact r1
        | false => exact Rp.toT (fun _ h => h) r1
      obtain ⟨a, xs, rfl, rs, ⟨hq, hr⟩ | ⟨_, ht⟩⟩ := r2.items2 e2
      · exact ⟨a, rfl, .inl ⟨⟨xs, .inl hr⟩, q _ _ _ n1 (Wlk.enumList hq hr rs)⟩⟩
      · exact ⟨a, rfl, .inr ⟨⟨xs, ht.sq⟩, q _ _ _ n1 (Wlk.enumTup ht rs)⟩⟩
end
end FL
namespace FL
open PySem PySem.Spec PyProof.Rows L2 PySem.W RZ RT

section
variable {X : Cx} {sg : Sta} {W : WX} {tg e a b c : Expr} {es : List Expr} {d d1 d2 : DE} {ds : DA} {w w1 w2 p p1 p2 f f1 f2 : Bool} {pos p' tpos : Pos} {elts : List Expr} {kk : Nat}
def rngB (i : Int) : Bool := absLt i 4611686018427387904
theorem rngB_bd {i : Int} (h : rngB i = true) : -(2 ^ 62) ≤ i ∧ i < 2 ^ 62 := by
  have := absLt_iff.mp h
  omega
def rngL (lo : Int) (n : Nat) : List PyData := (List.range n).map fun (i : Nat) => .int (lo + i)
def rng1 : List PyData → Option (List PyData)
  | [.int j] => if rngB j = true then some (rngL 0 j.toNat) else none
  | _ => none
def rng2 : List PyData → Option (List PyData)
  | [.int i, .int j] => if (rngB i && rngB j) = true then some (rngL i (j - i).toNat) else none
  | _ => none
def dRng (φ : List PyData → Option (List PyData)) (a : DA) : DA := fun ρ o => (a ρ o).bind fun vs ρ1 o1 => .ofO (φ vs) ρ1 o1
theorem rng1_some {vs xs : List PyData} (h : rng1 vs = some xs) : ∃ j, vs = [.int j] ∧ -(2 ^ 62) ≤ j ∧ j < 2 ^ 62 ∧ xs = rngL 0 j.toNat := by
  unfold rng1 at h
  split at h
  · rename_i j
    by_cases hb : rngB j = true
    · rw [if_pos hb] at h
      cases h
      exact ⟨j, rfl, (rngB_bd hb).1, (rngB_bd hb).2, rfl⟩
    · rw [if_neg hb] at h; cases h
  · cases h
theorem rng2_some {vs xs : List PyData} (h : rng2 vs = some xs) : ∃ i j, vs = [.int i, .int j] ∧ (-(2 ^ 62) ≤ i ∧ i < 2 ^ 62 ∧ -(2 ^ 62) ≤ j ∧ j < 2 ^ 62) ∧ xs = rngL i (j - i).toNat := by
  unfold rng2 at h
  split at h
  · rename_i i j
    by_cases hb : (rngB i && rngB j) = true
    · rw [if_pos hb] at h
      cases h
      rw [Bool.and_eq_true] at hb
      exact ⟨i, j, rfl, ⟨(rngB_bd hb.1).1, (rngB_bd hb.1).2, (rngB_bd hb.2).1, (rngB_bd hb.2).2⟩, rfl⟩
    · rw [if_neg hb] at h; cases h
  · cases h
theorem RpTs.ints1 {okT ok : Addr → Prop} {K : PySem.W.Frag} {H : Hp} {j : Int} {xs : List V} (r : RpTs okT ok K H [.int j] xs) : xs = [.int j] := by
  cases r with
  | cons r1 r =>
    cases r
    rw [r1.int]
theorem RpTs.ints2 {okT ok : Addr → Prop} {K : PySem.W.Frag} {H : Hp} {i j : Int} {xs : List V} (r : RpTs okT ok K H [.int i, .int j] xs) : xs = [.int i, .int j] := by
  cases r with
  | cons r1 r =>
    cases r with
    | cons r2 r =>
      cases r
      rw [r1.int, r2.int]
theorem i_rng1 (hg : Gl X "range") (hm : X.mg "range" = none) (ha : PA X [a] (tA X.K X.mg sg W true p ds)) (hs : starEach [a] X.env = [(false, eval a X.env)] := by rfl) : PI X tg (.Call (.Name "range" p') [a] [] pos) (tI X.K X.mg sg W w p (dRng rng1 ds)) := by
  refine PI.imp (pi_range1 hg hm ha hs) fun σ H R ⟨g, ρ, o, S, ok, r, q⟩ => ?_
  unfold dRng at q
  show tA X.K X.mg sg W true p ds σ H _
  cases e1 : ds ρ o with
  | bad => rw [e1] at q; exact q.elim
  | ex c ρ1 o1 => rw [e1] at q; exact tA.of_ex r e1 q
  | ok vs ρ1 o1 =>
    rw [e1] at q
    refine tA.of_ok r e1 fun xs H1 ok1 n1 r1 => ?_
    simp only [Res.bind] at q
    simp only [if_true] at r1
    cases e2 : rng1 vs with
    | none => rw [e2] at q; exact q.elim
    | some ys =>
      rw [e2] at q
      obtain ⟨j, rfl, h1, h2, rfl⟩ := rng1_some e2
      exact ⟨j, r1.ints1, h1, h2, q _ _ _ n1 Wlk.range⟩
theorem i_rng2 (hg : Gl X "range") (hm : X.mg "range" = none) (ha : PA X [a, b] (tA X.K X.mg sg W true p ds)) (hs : starEach [a, b] X.env = [(false, eval a X.env), (false, eval b X.env)] := by rfl) (hs2 : starEach [b] X.env = [(false, eval b X.env)] := by rfl) :
    PI X tg (.Call (.Name "range" p') [a, b] [] pos) (tI X.K X.mg sg W w p (dRng rng2 ds)) := by
  refine PI.imp (pi_range2 hg hm ha hs hs2) fun σ H R ⟨g, ρ, o, S, ok, r, q⟩ => ?_
  unfold dRng at q
  show tA X.K X.mg sg W true p ds σ H _
  cases e1 : ds ρ o with
  | bad => rw [e1] at q; exact q.elim
  | ex c ρ1 o1 => rw [e1] at q; exact tA.of_ex r e1 q
  | ok vs ρ1 o1 =>
    rw [e1] at q
    refine tA.of_ok r e1 fun xs H1 ok1 n1 r1 => ?_
    simp only [Res.bind] at q
    simp only [if_true] at r1
    cases e2 : rng2 vs with
    | none => rw [e2] at q; exact q.elim
    | some ys =>
      rw [e2] at q
      obtain ⟨i, j, rfl, h1, rfl⟩ := rng2_some e2
      exact ⟨i, j, r1.ints2, h1, q _ _ _ n1 Wlk.range⟩
/-- list(range(a)), list(range(a, b)) -/
def rngC (lo hi : Int) : Bool := rngB lo && rngB hi && Nat.ble (hi - lo).toNat 1000000
def dLRng1 (d : DE) : DE := fun ρ o => (d ρ o).bind fun v ρ1 o1 => (Res.ofO (asI v) ρ1 o1).bind fun i ρ2 o2 => if rngC 0 i = true then .ok (.list (rngL 0 i.toNat)) ρ2 o2 else .bad
def dLRng2 (d1 d2 : DE) : DE := fun ρ o => (d1 ρ o).bind fun v ρ1 o1 => (Res.ofO (asI v) ρ1 o1).bind fun i ρ2 o2 => (d2 ρ2 o2).bind fun u ρ3 o3 => (Res.ofO (asI u) ρ3 o3).bind fun j ρ4 o4 =>
  if rngC i j = true then .ok (.list (rngL i (j - i).toNat)) ρ4 o4 else .bad
theorem rgV_rp (ok : Addr → Prop) (K : PySem.W.Frag) (H : Hp) (lo hi : Int) : Rps ok K H (rngL lo (hi - lo).toNat) (rgV lo hi) := by
  unfold rngL rgV
  generalize (hi - lo).toNat = n
  generalize List.range n = l
  induction l with
  | nil => exact .nil
  | cons x xs ih => exact .cons (.int _) ih
theorem rngC_ok {lo hi : Int} (h : rngC lo hi = true) : RgOk lo hi := by
  simp only [rngC, Bool.and_eq_true, Nat.ble_eq] at h
  have hb1 := rngB_bd h.1.1
  have hb2 := rngB_bd h.1.2
  have h5 := h.2
  unfold RgOk
  refine ⟨?_, ?_, ?_, ?_, ?_⟩ <;> omega
theorem e_lrng1 (hc : X.calm = true) (hgl : Gl X "list") (hml : X.mg "list" = none) (hg : Gl X "range") (hm : X.mg "range" = none) (ha : PE X a (tE X.K X.mg sg W w1 p f1 d)) (na : starEach [a] X.env = (false, eval a X.env) :: starEach [] X.env := by rfl)
    (nc : starEach [.Call (.Name "range" p') [a] [] tpos] X.env = (false, eval (.Call (.Name "range" p') [a] [] tpos) X.env) :: starEach [] X.env := by rfl) {q' : Pos} : PE X (.Call (.Name "list" q') [.Call (.Name "range" p') [a] [] tpos] [] pos) (tE X.K X.mg sg W w p f (dLRng1 d)) := by
  refine PE.imp (pe_listRg hc hgl hml (prg_1 hg hm ha na) nc) fun σ H Q ⟨g, ρ, o, S, ok, r, q⟩ => ?_
  unfold dLRng1 at q
  show tE X.K X.mg sg W w1 p f1 d σ H _
  cases e1 : d ρ o with
  | bad => rw [e1] at q; exact q.elim
  | ex c ρ1 o1 => rw [e1] at q; exact tE.of_ex r e1 q
  | ok v ρ1 o1 =>
    rw [e1] at q
    refine tE.of_ok r e1 fun x H1 ok1 n1 r1 _ => ?_
    simp only [Res.bind] at q
    cases e2 : asI v with
    | none => rw [e2] at q; exact q.elim
    | some i =>
      rw [e2] at q
      obtain rfl := asI_some e2
      simp only [Res.ofO] at q
      by_cases hb : rngC 0 i = true
      · rw [if_pos hb] at q
        refine ⟨i, r1.int, rngC_ok hb, fun p hp => fin_op n1 (Nw.lst n1.st.fr hp (by simpa using rgV_rp ok1 X.K H1 0 i)) q⟩
      · rw [if_neg hb] at q; exact q.elim
theorem e_lrng2 (hc : X.calm = true) (hgl : Gl X "list") (hml : X.mg "list" = none) (hg : Gl X "range") (hm : X.mg "range" = none) (ha : PE X a (tE X.K X.mg sg W w1 p1 f1 d1)) (hb : PE X b (tE X.K X.mg sg W w2 p2 f2 d2)) (na : starEach [a, b] X.env = (false, eval a X.env) :: starEach [b] X.env := by rfl)
    (nb : starEach [b] X.env = (false, eval b X.env) :: starEach [] X.env := by rfl) (hp : (backTo tpos (starEach [b] X.env)).any (·.1) = false := by rfl)
    (nc : starEach [.Call (.Name "range" p') [a, b] [] tpos] X.env = (false, eval (.Call (.Name "range" p') [a, b] [] tpos) X.env) :: starEach [] X.env := by rfl) {q' : Pos} : PE X (.Call (.Name "list" q') [.Call (.Name "range" p') [a, b] [] tpos] [] pos) (tE X.K X.mg sg W w (p1 && p2) f (dLRng2 d1 d2)) := by
  refine PE.imp (pe_listRg hc hgl hml (prg_2 hg hm ha hb na nb hp) nc) fun σ H Q ⟨g, ρ, o, S, ok, r, q⟩ => ?_
  unfold dLRng2 at q
  show tE X.K X.mg sg W w1 p1 f1 d1 σ H _
  cases e1 : d1 ρ o with
  | bad => rw [e1] at q; exact q.elim
  | ex c ρ1 o1 => rw [e1] at q; exact tE.of_ex r e1 q
  | ok v ρ1 o1 =>
    rw [e1] at q
    refine tE.of_ok r e1 fun x H1 ok1 n1 r1 _ => ?_
    simp only [Res.bind] at q
    cases e2 : asI v with
    | none => rw [e2] at q; exact q.elim
    | some i =>
      rw [e2] at q
      obtain rfl := asI_some e2
      simp only [Res.ofO] at q
      show tE X.K X.mg sg W w2 p2 f2 d2 σ H1 _
      cases e3 : d2 ρ1 o1 with
      | bad => rw [e3] at q; exact q.elim
      | ex c ρ2 o2 => rw [e3] at q; exact tE.of_ex n1.st e3 fun cls dd H' ok' n2 x2 => q cls dd H' ok' (n1.weak.trans n2) x2
      | ok u ρ2 o2 =>
        rw [e3] at q
        refine tE.of_ok n1.st e3 fun y H2 ok2 n2 r2 _ => ?_
        simp only at q
        cases e4 : asI u with
        | none => rw [e4] at q; exact q.elim
        | some j =>
          rw [e4] at q
          obtain rfl := asI_some e4
          simp only at q
          by_cases hbb : rngC i j = true
          · rw [if_pos hbb] at q
            exact ⟨i, j, r1.int, r2.int, rngC_ok hbb, fun p hp => fin_op (n1.trans n2) (Nw.lst n2.st.fr hp (rgV_rp ok2 X.K H2 i j)) q⟩
          · rw [if_neg hbb] at q; exact q.elim

def zipL (vs us : List PyData) : List PyData := List.zipWith (fun v u => .tuple [v, u]) vs us
def zipD : List PyData → Option (List PyData)
  | [.list xs, .list ys] => some (zipL xs ys)
  | [.tuple xs, .tuple ys] => some (zipL xs ys)
  | _ => none
theorem zipL_get {vs us : List PyData} {i : Nat} {d : PyData} (h : (zipL vs us)[i]? = some d) : ∃ v u, vs[i]? = some v ∧ us[i]? = some u ∧ d = .tuple [v, u] := by
  unfold zipL at h
  rw [List.getElem?_zipWith] at h
  cases e1 : vs[i]? with
  | none => rw [e1] at h; cases h
  | some v =>
    cases e2 : us[i]? with
    | none => rw [e1, e2] at h; cases h
    | some u => rw [e1, e2] at h; cases h; exact ⟨v, u, rfl, rfl, rfl⟩
theorem zipL_length (vs us : List PyData) : (zipL vs us).length = min vs.length us.length := by unfold zipL; simp
theorem Wlk.zipL {q : Addr → Prop} {K : PySem.W.Frag} {H : Hp} {ok : Addr → Prop} {a b : Addr} {xs ys : List V} {vs us : List PyData} (hq : q a) (hq' : q b) (h : Rd H a (.lst xs)) (h' : Rd H b (.lst ys)) (r : Rps ok K H vs xs) (r' : Rps ok K H us ys) :
    Wlk q K (Itz K a b) (FL.zipL vs us) ok H where
  item := fun ok' H' s st fr i d e => by
    obtain ⟨v, u, ev, eu, rfl⟩ := zipL_get e
    have h1 : Rd H' a (.lst xs) := Rd.stp h hq st
    have h2 : Rd H' b (.lst ys) := Rd.stp h' hq' st
    obtain ⟨x, ex, rx⟩ := (r.step0 s.mono s.stp).get ev
    obtain ⟨y, ey, ry⟩ := (r'.step0 s.mono s.stp).get eu
    refine ⟨⟨xs, ys, x, y, .inl h1, .inl h2, ex, ey⟩, fun z H2 ⟨T, x', y', ez, hT, e2, h3, h4⟩ => ?_⟩
    subst ez e2
    have z1 := h3 xs (.inl h1)
    have z2 := h4 ys (.inl h2)
    rw [ex] at z1; cases z1
    rw [ey] at z2; cases z2
    exact ⟨.upd hT, .pair hT rx ry⟩
  stop := fun ok' H' s st => ⟨xs, ys, .inl (Rd.stp h hq st), .inl (Rd.stp h' hq' st), by rw [zipL_length, r.length, r'.length]; omega⟩
theorem Wlk.zipT {q : Addr → Prop} {K : PySem.W.Frag} {H : Hp} {ok : Addr → Prop} {a b : Addr} {xs ys : List V} {vs us : List PyData} (h : SqT K H a xs) (h' : SqT K H b ys) (r : Rps ok K H vs xs) (r' : Rps ok K H us ys) :
    Wlk q K (ItzT K a b) (FL.zipL vs us) ok H where
  item := fun ok' H' s st fr i d e => by
    obtain ⟨v, u, ev, eu, rfl⟩ := zipL_get e
    have h1 : SqT K H' a xs := SqT.stp h s.stp
    have h2 : SqT K H' b ys := SqT.stp h' s.stp
    obtain ⟨x, ex, rx⟩ := (r.step0 s.mono s.stp).get ev
    obtain ⟨y, ey, ry⟩ := (r'.step0 s.mono s.stp).get eu
    refine ⟨⟨xs, ys, x, y, h1, h2, ex, ey⟩, fun z H2 ⟨T, x', y', ez, hT, e2, h3, h4⟩ => ?_⟩
    subst ez e2
    have z1 := h3 xs h1
    have z2 := h4 ys h2
    rw [ex] at z1; cases z1
    rw [ey] at z2; cases z2
    exact ⟨.upd hT, .pair hT rx ry⟩
  stop := fun ok' H' s st => ⟨xs, ys, SqT.stp h s.stp, SqT.stp h' s.stp, by rw [zipL_length, r.length, r'.length]; omega⟩
theorem RpTs.pair {okT ok : Addr → Prop} {K : PySem.W.Frag} {H : Hp} {v u : PyData} {xs : List V} (r : RpTs okT ok K H [v, u] xs) : ∃ x y, xs = [x, y] ∧ RpT okT ok K H v x ∧ RpT okT ok K H u y := by
  cases r with
  | cons r1 r =>
    cases r with
    | cons r2 r => cases r; exact ⟨_, _, rfl, r1, r2⟩
theorem i_zip (hg : Gl X "zip") (hm : X.mg "zip" = none) (ha : PA X [a, b] (tA X.K X.mg sg W w p ds)) (hs : starEach [a, b] X.env = (false, eval a X.env) :: starEach [b] X.env := by rfl) (hpl : (backTo pos (starEach [b] X.env)).any (·.1) = false := by rfl) :
    PI X (.Tuple elts kk tpos) (.Call (.Name "zip" p') [a, b] [] pos) (tI X.K X.mg sg W w p (dRng zipD ds)) := by
  refine PI.imp (pi_zipA hg hm ha hs hpl) fun σ H R ⟨g, ρ, o, S, ok, r, q⟩ => ?_
  unfold dRng at q
  show tA X.K X.mg sg W w p ds σ H _
  cases e1 : ds ρ o with
  | bad => rw [e1] at q; exact q.elim
  | ex c ρ1 o1 => rw [e1] at q; exact tA.of_ex r e1 q
  | ok vs ρ1 o1 =>
    rw [e1] at q
    refine tA.of_ok r e1 fun xs H1 ok1 n1 r1 => ?_
    simp only [Res.bind] at q
    have r2 : RpTs (if w = true then okw g S else ok1) ok1 X.K H1 vs xs := by
      cases w with
      | true => exact r1
      | false => exact Rps.toT (fun _ h => h) r1
    cases e2 : zipD vs with
    | none => rw [e2] at q; exact q.elim
    | some ys =>
      rw [e2] at q
      unfold zipD at e2
      split at e2
      · cases e2
        obtain ⟨x, y, rfl, h1, h2⟩ := r2.pair
        obtain ⟨a1, ys1, rfl, q1, k1, s1⟩ := h1
        obtain ⟨a2, ys2, rfl, q2, k2, s2⟩ := h2
        exact ⟨a1, a2, ys1, ys2, rfl, .inl ⟨.inl k1, .inl k2, q _ _ _ n1 (Wlk.zipL q1 q2 k1 k2 s1 s2)⟩⟩
      · cases e2
        obtain ⟨x, y, rfl, h1, h2⟩ := r2.pair
        obtain ⟨a1, ys1, rfl, k1, s1⟩ := h1.tup
        obtain ⟨a2, ys2, rfl, k2, s2⟩ := h2.tup
        exact ⟨a1, a2, ys1, ys2, rfl, .inr ⟨k1.sq, k2.sq, q _ _ _ n1 (Wlk.zipT k1.sq k2.sq s1 s2)⟩⟩
      · cases e2

theorem Wlk.revL {q : Addr → Prop} {K : PySem.W.Frag} {H : Hp} {ok : Addr → Prop} {a : Addr} {xs : List V} {vs : List PyData} (hq : q a) (h : Rd H a (.lst xs)) (r : Rps ok K H vs xs) : Wlk q K (Itv K a xs.length) vs.reverse ok H where
  item := fun ok' H' s st fr i d e => by
    have r1 := r.step0 s.mono s.stp
    have h1 : Rd H' a (.lst xs) := Rd.stp h hq st
    have hi : i < vs.length := by simpa using (List.getElem?_eq_some_iff.mp e).1
    rw [List.getElem?_reverse hi] at e
    obtain ⟨x, ex, rx⟩ := r1.get e
    rw [r.length] at ex hi
    refine ⟨⟨hi, xs, x, .inl h1, ex⟩, fun y H2 ⟨e2, hy⟩ => ?_⟩
    subst e2
    have := hy xs (.inl h1)
    rw [ex] at this; cases this
    exact ⟨.refl, rx⟩
  stop := fun ok' H' s st => by show xs.length ≤ _; rw [List.length_reverse, r.length]; exact Nat.le_refl _
theorem Wlk.revT {q : Addr → Prop} {K : PySem.W.Frag} {H : Hp} {ok : Addr → Prop} {a : Addr} {xs : List V} {vs : List PyData} (h : SqT K H a xs) (r : Rps ok K H vs xs) : Wlk q K (ItvT K a xs.length) vs.reverse ok H where
  item := fun ok' H' s st fr i d e => by
    have r1 := r.step0 s.mono s.stp
    have h1 : SqT K H' a xs := SqT.stp h s.stp
    have hi : i < vs.length := by simpa using (List.getElem?_eq_some_iff.mp e).1
    rw [List.getElem?_reverse hi] at e
    obtain ⟨x, ex, rx⟩ := r1.get e
    rw [r.length] at ex hi
    refine ⟨⟨hi, xs, x, h1, ex⟩, fun y H2 ⟨e2, hy⟩ => ?_⟩
    subst e2
    have := hy xs h1
    rw [ex] at this; cases this
    exact ⟨.refl, rx⟩
  stop := fun ok' H' s st => by show xs.length ≤ _; rw [List.length_reverse, r.length]; exact Nat.le_refl _
def dRevI (d : DE) : DA := fun ρ o => (d ρ o).bind fun v ρ1 o1 => .ofO ((itemsD v).map List.reverse) ρ1 o1
theorem i_rev (hg : Gl X "reversed") (hm : X.mg "reversed" = none) (h : PE X e (tE X.K X.mg sg W w p f d)) (hs : starEach [e] X.env = (false, eval e X.env) :: starEach [] X.env := by rfl) :
    PI X tg (.Call (.Name "reversed" p') [e] [] pos) (tI X.K X.mg sg W w p (dRevI d)) := by
  refine PI.imp (pi_revA hg hm h hs) fun σ H R ⟨g, ρ, o, S, ok, r, q⟩ => ?_
  unfold dRevI at q
  show tE X.K X.mg sg W w p f d σ H _
  cases e1 : d ρ o with
  | bad => rw [e1] at q; exact q.elim
  | ex c ρ1 o1 => rw [e1] at q; exact tE.of_ex r e1 q
  | ok v ρ1 o1 =>
    rw [e1] at q
    refine tE.of_ok r e1 fun x H1 ok1 n1 r1 _ => ?_
    simp only [Res.bind] at q
    cases e2 : itemsD v with
    | none => rw [e2] at q; exact q.elim
    | some vs =>
      rw [e2] at q
      have r2 : RpT (if w = true then okw g S else ok1) ok1 X.K H1 v x := by
        cases w with
        | true => exact r1
        | false => exact Rp.toT (fun _ h => h) r1
      obtain ⟨a, xs, rfl, rs, ⟨hq, hr⟩ | ⟨_, ht⟩⟩ := r2.items2 e2
      · exact ⟨a, xs, rfl, .inl ⟨.inl hr, q _ _ _ n1 (Wlk.revL hq hr rs)⟩⟩
      · exact ⟨a, xs, rfl, .inr ⟨ht.sq, q _ _ _ n1 (Wlk.revT ht.sq rs)⟩⟩
end
end FL
namespace FL
open PySem PySem.Spec PyProof.Rows L2 PySem.W

section
variable {sg : Sta} {g : Gh} {ok ok' : Addr → Prop} {S : Sad} {K : PySem.W.Frag} {H H' H1 : Hp} {σ : Sl} {ρ ρ' : Env} {o o' : Orc}
theorem CtA.noExt {d : PyData} {a : Addr} (h : CtA ok K H d a) : (∀ q, H a ≠ some (LamX.CodeO a q)) ∧ (∀ ps, H a ≠ some (.tbl ps)) ∧ ∀ u, H a = some u → ¬ imm u := by
  cases d with
  | list ds =>
    obtain ⟨xs, h, _⟩ := h
    refine ⟨fun f z => ?_, fun f z => ?_, fun u z => ?_⟩
    · rw [h] at z; unfold LamX.CodeO at z; cases z
    · rw [h] at z; cases z
    · rw [h] at z; cases z; exact fun z => z
  | dict ps =>
    rcases h with ⟨kvs, h, _⟩ | ⟨kvs, h, _⟩
    · refine ⟨fun f z => ?_, fun f z => ?_, fun u z => ?_⟩
      · rw [h] at z; unfold LamX.CodeO at z; cases z
      · rw [h] at z; cases z
      · rw [h] at z; cases z; exact fun z => z
    · refine ⟨fun f z => ?_, fun f z => ?_, fun u z => ?_⟩
      · rw [h] at z; exact dti_ne f (Option.some.inj z)
      · rw [h] at z; cases z
      · rw [h] at z; cases z; exact fun z => z
  | none => exact h.elim
  | bool b => exact h.elim
  | int i => exact h.elim
  | str x => exact h.elim
  | tuple xs => exact h.elim
/-- what is not known beside may be written -/
theorem stp_put {a : Addr} (n : ¬ ok a) (hi : ∀ u, H a = some u → ¬ imm u) (u : HO) : Stp ok H (upd H a u) := fun b v e h => by
  rw [upd_ne]
  · exact e
  · rintro rfl
    rcases h with ⟨h, _⟩ | h
    · exact n h
    · exact hi v e h
/-- a container of the def's own is written -/
theorem Rst.mut (r : Rst sg g ok S K H σ ρ o) {i : Nat} {d d' : PyData} {a : Addr} (e : ρ[i]? = some (some d)) (hi : i ∈ sg.own) (ea : σ[i]? = some (some (.ref a))) (u : HO) (ct : CtA ok K (upd H a u) d' a) : Rst sg g ok S K (upd H a u) σ (ρ.set i (some d')) o := by
  obtain ⟨a', ea', w⟩ := r.ow i d e hi
  rw [ea] at ea'; cases ea'
  obtain ⟨x1, x2, x3⟩ := w.ct.noExt
  have st := stp_put (ok := ok) w.nok x3 u
  have hl : i < ρ.length := (List.getElem?_eq_some_iff.mp e).1
  have old : ∀ (j : Nat) q, (ρ.set i (some d'))[j]? = some (some q) → (j = i ∧ q = d') ∨ (j ≠ i ∧ ρ[j]? = some (some q)) := fun j q h => by
    by_cases hj : i = j
    · subst hj
      rw [List.getElem?_set_self hl] at h
      injection h with h; injection h with h
      exact .inl ⟨rfl, h.symm⟩
    · rw [List.getElem?_set_ne hj] at h
      exact .inr ⟨Ne.symm hj, h⟩
  have back : ∀ (j : Nat) q, (ρ.set i (some d'))[j]? = some (some q) → ∃ q', ρ[j]? = some (some q') := fun j q h => by
    rcases old j q h with ⟨rfl, _⟩ | ⟨_, h⟩
    · exact ⟨d, e⟩
    · exact ⟨q, h⟩
  exact {
    len := by simpa using r.len
    pl := fun j q h n => by
      rcases old j q h with ⟨rfl, _⟩ | ⟨_, h⟩
      · exact absurd hi n
      · obtain ⟨x, e1, e2⟩ := r.pl j q h n
        exact ⟨x, e1, e2.step (fun _ h => h) st⟩
    ow := fun j q h n => by
      rcases old j q h with ⟨rfl, rfl⟩ | ⟨hj, h⟩
      · exact ⟨a, ea, w.nok, w.nS, w.new, ct⟩
      · obtain ⟨b, e1, w1⟩ := r.ow j q h n
        have hb : b ≠ a := fun z => hj (r.inj j i a q d n hi h e (by rw [← z]; exact e1) ea)
        exact ⟨b, e1, w1.nok, w1.nS, w1.new, w1.ct.step (fun _ _ z _ _ => z) st fun v hv => by rw [upd_ne hb]; exact hv⟩
    inj := fun j k b d1 d2 hj hk h1 h2 h3 h4 => by
      obtain ⟨q1, h1⟩ := back j d1 h1
      obtain ⟨q2, h2⟩ := back k d2 h2
      exact r.inj j k b q1 q2 hj hk h1 h2 h3 h4
    fr := fun b h => r.fr b (by
      by_cases hb : b = a
      · subst hb; rw [upd_same] at h; cases h
      · rw [upd_ne hb] at h; exact h)
    sub := r.sub
    h0 := r.h0
    chg := fun b v h n t => by
      rw [upd_ne (fun z => by rw [z, w.new] at h; cases h)]
      exact r.chg b v h n t
    trk := fun b v h => by
      by_cases hb : b = a
      · subst hb; exact ⟨u, upd_same⟩
      · rw [upd_ne hb]; exact r.trk b v h
    orc := r.orc.put w.nS x1 u
    sS := r.sS
    ist := r.ist }
theorem Nx.mut (r : Rst sg g ok S K H σ ρ o) {i : Nat} {d d' : PyData} {a : Addr} (e : ρ[i]? = some (some d)) (hi : i ∈ sg.own) (ea : σ[i]? = some (some (.ref a))) (u : HO) (ct : CtA ok K (upd H a u) d' a) : Nx false sg g ok S K H σ ρ (ρ.set i (some d')) o (upd H a u) ok := by
  refine ⟨r.mut e hi ea u ct, fun _ h => h, fun _ h => .inl h, fun j q hj h => ?_, fun b v h => ?_, fun b v h n t nh => ?_⟩
  · by_cases hij : i = j
    · subst hij; exact ⟨d, e⟩
    · rw [List.getElem?_set_ne hij] at h; exact ⟨q, h⟩
  · by_cases hb : b = a
    · subst hb; exact ⟨u, upd_same⟩
    · rw [upd_ne hb]; exact ⟨v, h⟩
  · rw [upd_ne (fun z => nh rfl ⟨i, d, hi, e, by rw [z]; exact ea⟩)]; exact h
end

def lstAt (ρ : Env) (i : Nat) : Option (List PyData) := match ρ[i]? with
  | some (some (.list ds)) => some ds
  | _ => none
theorem lstAt_some {ρ : Env} {i : Nat} {ds : List PyData} (h : lstAt ρ i = some ds) : ρ[i]? = some (some (.list ds)) := by
  unfold lstAt at h
  split at h
  · rename_i xs e
    cases h; exact e
  · cases h
/-- x.append(e) -/
def dApp (i : Nat) (d : DE) : DE := fun ρ o => match lstAt ρ i with
  | none => .bad
  | some _ => (d ρ o).bind fun v ρ1 o1 => match lstAt ρ1 i with
    | some ds => if ds.length < sizeLine then .ok .none (ρ1.set i (some (.list (ds ++ [v])))) o1 else .bad
    | none => .bad
def popL (ds : List PyData) (v : PyData) : Option (PyData × List PyData) := match v with
  | .int k => if absLt k 9223372036854775808 = true then (seqIndex? k ds.length).bind fun j => ds[j]?.map fun y => (y, ds.eraseIdx j) else none
  | _ => none
theorem popL_some {ds ds' : List PyData} {v y : PyData} (h : popL ds v = some (y, ds')) : ∃ k j, v = .int k ∧ -(2 ^ 63) ≤ k ∧ k < 2 ^ 63 ∧ seqIndex? k ds.length = some j ∧ ds[j]? = some y ∧ ds' = ds.eraseIdx j := by
  unfold popL at h
  split at h
  · rename_i k
    by_cases hk : absLt k 9223372036854775808 = true
    · rw [if_pos hk] at h
      cases e1 : seqIndex? k ds.length with
      | none => rw [e1] at h; cases h
      | some j =>
        rw [e1] at h
        simp only [Option.bind] at h
        cases e2 : ds[j]? with
        | none => rw [e2] at h; cases h
        | some z => rw [e2] at h; cases h; exact ⟨k, j, rfl, by have := absLt_iff.mp hk; omega, by have := absLt_iff.mp hk; omega, e1, e2, rfl⟩
    · rw [if_neg hk] at h; cases h
  · cases h
/-- x.pop(e) -/
def dPop (i : Nat) (d : DE) : DE := fun ρ o => match lstAt ρ i with
  | none => .bad
  | some _ => (d ρ o).bind fun v ρ1 o1 => match (lstAt ρ1 i).bind fun ds => popL ds v with
    | some (y, ds) => .ok y (ρ1.set i (some (.list ds))) o1
    | none => .bad
section
variable {X : Cx} {sg : Sta} {W : WX} {e a b c : Expr} {d d1 d2 d3 : DE} {w w1 w2 w3 p p1 p2 p3 f f1 f2 f3 : Bool} {pos p' p'' : Pos}
/-- an own name is read first, the argument is worked out, then the name's list is written -/
theorem own_first {i : Nat} {x : Str} {g : Gh} {ρ ρ1 : Env} {o o1 : Orc} {S : Sad} {ok ok1 : Addr → Prop} {H H1 : Hp} {σ : Sl} {v : PyData} (hi : i ∈ sg.own) (r : Rst sg g ok S X.K H σ ρ o) (n1 : Nx p sg g ok S X.K H σ ρ ρ1 o1 H1 ok1) (h : ρ1[i]? = some (some v)) :
    ∃ a, σ[i]? = some (some (.ref a)) ∧ (∃ d, ρ[i]? = some (some d) ∧ Own g ok S X.K H d a) ∧ Own g ok1 S X.K H1 v a := by
  obtain ⟨d0, e0⟩ := n1.dom i v hi h
  obtain ⟨a, ea, w0⟩ := r.ow i d0 e0 hi
  obtain ⟨a', ea', w1⟩ := n1.st.ow i v h hi
  rw [ea] at ea'; cases ea'
  exact ⟨a, ea, ⟨d0, e0, w0⟩, w1⟩
theorem e_append {i : Nat} {x : Str} (hN : X.N[i]? = some x) (hv : Vis X.env.scope x) (ho : i ∈ sg.own) (ha : PE X e (tE X.K X.mg sg W false p1 f1 d)) (hd : (x == ("__debug__" : Str)) = false := by decide) (hcd : (x == ("__classdict__" : Str)) = false := by decide)
    (hbase : attributeBase (.Name x p') "append" X.env (eval (.Name x p') X.env) = eval (.Name x p') X.env := by rfl)
    (hfew : ((backTo pos (starEach [e] X.env)).all (fun x => !x.1) && (backToKw pos (keywordEach [] X.env)).all (fun x => x.1.isSome) && decide ([e].length + ([] : List Keyword).length + (if ([] : List Keyword).isEmpty then 0 else 1) < 30)) = true := by rfl)
    (hline : (p''.endLine == pos.line) = true := by rfl) (hs : starEach [e] X.env = (false, eval e X.env) :: starEach [] X.env := by rfl) :
    PE X (.Call (.Attribute (.Name x p') "append" p'') [e] [] pos) (tE X.K X.mg sg W w false f (dApp i d)) := by
  refine PE.imp (pe_bm PySem.F.plainAttrs_list PySem.F.slot_list_append PySem.F.type_list_append mt_append (pe_var hN hv hd hcd) (pa_cons ha pa_nil hs) hbase hfew hline hs rfl) fun σ H Q ⟨g, ρ, o, S, ok, r, q⟩ => ?_
  unfold dApp at q
  cases e0 : lstAt ρ i with
  | none => rw [e0] at q; exact q.elim
  | some ds0 =>
    rw [e0] at q
    simp only at q
    obtain ⟨a, ea, w0⟩ := r.ow i _ (lstAt_some e0) ho
    obtain ⟨ys0, hy0, _⟩ := w0.ct
    refine ⟨_, ea, .inl ⟨rfl, ys0, SqL.of hy0⟩, ?_⟩
    show tE X.K X.mg sg W false p1 f1 d σ H _
    cases e1 : d ρ o with
    | bad => rw [e1] at q; exact q.elim
    | ex c ρ1 o1 => rw [e1] at q; exact tE.of_ex r e1 q
    | ok v ρ1 o1 =>
      rw [e1] at q
      refine tE.of_ok r e1 fun y H1 ok1 n1 r1 _ => ?_
      simp only [Res.bind] at q
      cases e2 : lstAt ρ1 i with
      | none => rw [e2] at q; exact q.elim
      | some ds =>
        rw [e2] at q
        simp only at q
        obtain ⟨a', ea', _, w1⟩ := own_first (x := x) ho r n1 (lstAt_some e2)
        rw [ea] at ea'; cases ea'
        obtain ⟨ys, hy, rs⟩ := w1.ct
        by_cases hz : ds.length < sizeLine
        · rw [if_pos hz] at q
          have st := stp_put (ok := ok1) w1.nok w1.ct.noExt.2.2 (.lst (ys ++ [y]))
          have r1' : Rp ok1 X.K H1 v y := r1
          have ct : CtA ok1 X.K (upd H1 a (.lst (ys ++ [y]))) (.list (ds ++ [v])) a := ⟨ys ++ [y], upd_same, (rs.step (fun _ h => h) st).append (.cons (r1'.step (fun _ h => h) st) .nil)⟩
          refine ⟨a, ys, y, rfl, rfl, hy, by rw [← rs.length]; exact hz, ?_⟩
          exact q .non _ ok1 (n1.weak.trans (Nx.mut n1.st (lstAt_some e2) ho ea _ ct)) (RpM.ofRp n1.st.sub .non) fun _ z => by cases z
        · rw [if_neg hz] at q; exact q.elim
theorem e_pop {i : Nat} {x : Str} (hN : X.N[i]? = some x) (hv : Vis X.env.scope x) (ho : i ∈ sg.own) (ha : PE X e (tE X.K X.mg sg W w1 p1 f1 d)) (hd : (x == ("__debug__" : Str)) = false := by decide) (hcd : (x == ("__classdict__" : Str)) = false := by decide)
    (hbase : attributeBase (.Name x p') "pop" X.env (eval (.Name x p') X.env) = eval (.Name x p') X.env := by rfl)
    (hfew : ((backTo pos (starEach [e] X.env)).all (fun x => !x.1) && (backToKw pos (keywordEach [] X.env)).all (fun x => x.1.isSome) && decide ([e].length + ([] : List Keyword).length + (if ([] : List Keyword).isEmpty then 0 else 1) < 30)) = true := by rfl)
    (hline : (p''.endLine == pos.line) = true := by rfl) (hs : starEach [e] X.env = (false, eval e X.env) :: starEach [] X.env := by rfl) :
    PE X (.Call (.Attribute (.Name x p') "pop" p'') [e] [] pos) (tE X.K X.mg sg W w false false (dPop i d)) := by
  refine PE.imp (pe_bm PySem.F.plainAttrs_list PySem.F.slot_list_pop PySem.F.type_list_pop mt_popAt (pe_var hN hv hd hcd) (pa_cons ha pa_nil hs) hbase hfew hline hs rfl) fun σ H Q ⟨g, ρ, o, S, ok, r, q⟩ => ?_
  unfold dPop at q
  cases e0 : lstAt ρ i with
  | none => rw [e0] at q; exact q.elim
  | some ds0 =>
    rw [e0] at q
    simp only at q
    obtain ⟨a, ea, w0⟩ := r.ow i _ (lstAt_some e0) ho
    obtain ⟨ys0, hy0, _⟩ := w0.ct
    refine ⟨_, ea, .inl ⟨rfl, ys0, SqL.of hy0⟩, ?_⟩
    show tE X.K X.mg sg W w1 p1 f1 d σ H _
    cases e1 : d ρ o with
    | bad => rw [e1] at q; exact q.elim
    | ex c ρ1 o1 => rw [e1] at q; exact tE.of_ex r e1 q
    | ok v ρ1 o1 =>
      rw [e1] at q
      refine tE.of_ok r e1 fun y H1 ok1 n1 r1 _ => ?_
      simp only [Res.bind] at q
      cases e2 : lstAt ρ1 i with
      | none => rw [e2] at q; exact q.elim
      | some ds =>
        rw [e2] at q
        simp only [Option.bind] at q
        cases e3 : popL ds v with
        | none => rw [e3] at q; exact q.elim
        | some zz =>
          obtain ⟨z, ds'⟩ := zz
          rw [e3] at q
          simp only at q
          obtain ⟨k, j, rfl, h1, h2, h3, h4, rfl⟩ := popL_some e3
          obtain ⟨a', ea', _, w1⟩ := own_first (x := x) ho r n1 (lstAt_some e2)
          rw [ea] at ea'; cases ea'
          obtain ⟨ys, hy, rs⟩ := w1.ct
          obtain ⟨u, eu, ru⟩ := rs.get h4
          have st := stp_put (ok := ok1) w1.nok w1.ct.noExt.2.2 (.lst (ys.eraseIdx j))
          have ct : CtA ok1 X.K (upd H1 a (.lst (ys.eraseIdx j))) (.list (ds.eraseIdx j)) a := ⟨_, upd_same, (rs.step (fun _ h => h) st).erase j⟩
          refine ⟨a, ys, k, j, u, rfl, by rw [r1.int], hy, h1, h2, by rw [← rs.length]; exact h3, eu, ?_⟩
          exact q u _ ok1 (n1.weak.trans (Nx.mut n1.st (lstAt_some e2) ho ea _ ct)) (RpM.ofRp n1.st.sub (ru.step (fun _ h => h) st)) fun z => by cases z
end
end FL
namespace FL
open PySem PySem.Spec PyProof.Rows L2 PySem.W

/-- the heap behind a[y] = v: an empty dict may be taken for either kind -/
inductive DPt (K : PySem.W.Frag) (H : Hp) (a : Addr) (y v : V) : Hp → Prop
  | k {kvs : List (Key × V)} {k : Key} : H a = some (.dK kvs) → y = kV k → kvs.length < sizeLine → DPt K H a y v (upd H a (.dK (putK kvs k v)))
  | k0 {k : Key} : H a = some (DTi a []) → y = kV k → DPt K H a y v (upd H a (.dK (putK [] k v)))
  | t {kvs : List KTv} {k : NestedKey} {b : Addr} : H a = some (DTi a kvs) → KeysT K H kvs → y = .ref b → KeyAt K H k b → kvs.length < sizeLine → DPt K H a y v (upd H a (DTi a (putI kvs k b v)))
  | t0 {k : NestedKey} {b : Addr} : H a = some (.dK []) → y = .ref b → KeyAt K H k b → b ≠ a → DPt K H a y v (upd H a (DTi a (putI [] k b v)))
section
variable {X : Cx} {pins : List (Addr × Obj)} {σ : Sl} {H H' : Hp} {s : Shared} {a : Addr} {y v : V} {u r : Value} {A : Around} {E : Value → Shared → Prop}
theorem sqT_put {K : PySem.W.Frag} {b : Addr} {xs : List V} (ha : H a = some (.dK [])) (o : HO) (h : SqT K H b xs) : SqT K (upd H a o) b xs := by
  rcases h with (h | ⟨q, h⟩) | h
  · have n : b ≠ a := fun z => by rw [z, ha] at h; cases h
    exact .inl (.inl ((upd_ne n).trans h))
  · have n : b ≠ a := fun z => by rw [z, ha] at h; cases h
    exact .inl (.inr ⟨q, (upd_ne n).trans h⟩)
  · exact .inr h
theorem keyAt_put {K : PySem.W.Frag} {b : Addr} {k : NestedKey} (ha : H a = some (.dK [])) (o : HO) (h : KeyAt K H k b) : KeyAt K (upd H a o) k b := ⟨h.1.mv fun _ _ z => sqT_put ha o z, h.2⟩
theorem dpt_set {Q : Unit → Shared → Prop} (hu : A.units + 9 < cLine) (I : Inv X pins σ H s) (g : DPt X.K H a y v H') (ry : RelV y u) (rv : RelV v r) (h : ∀ s', Inv X pins σ H' s' → Q () s') :
    wpAny (model X.prog X.w) A (setItem (.ref a) u r) Q E s := by
  cases g with
  | k e ey hl => exact d_setItem (by omega) I (.inl ⟨_, _, e, ey, hl, rfl⟩) ry rv h
  | k0 e ey =>
    refine d_setItem (by omega) (empty_toK I e) (.inl ⟨[], _, upd_same, ey, by rw [sizeLine_eq]; decide, ?_⟩) ry rv h
    rw [upd_upd]
  | t e hk ey hb hl =>
    subst ey
    cases ry
    exact dti_setItem hu I e hk hb hl rv h
  | t0 e ey hb n =>
    subst ey
    cases ry
    refine dti_setItem hu (empty_toT I e) upd_same (fun p hp => by cases hp) (keyAt_put e _ hb) (by rw [sizeLine_eq]; decide) rv fun s' I' => h s' ?_
    rw [upd_upd] at I'
    exact I'
end
section
variable {X : Cx} {o i value : Expr} {pos pos' : Pos} {td ty tv : TE}
def sPut2 (K : PySem.W.Frag) (td ty tv : TE) : TS := fun D σ H => tv σ H fun v H1 => td σ H1 fun x H2 => ty σ H2 fun y H3 => ∃ a H4, x = .ref a ∧ DPt K H3 a y v H4 ∧ D.nx σ H4
theorem ps_put2 (hu : X.A.units + 9 < cLine) (ho : PE X o td) (hi : PE X i ty) (hv : PE X value tv) (hs : swapsWith value (some (.Subscript o i pos')) pos.line X.env = pure false) :
    PS X (.Assign [.Subscript o i pos'] value pos) (sPut2 X.K td ty tv) := by
  refine ⟨fun pins s σ H D I h => ?_⟩
  refine wpAny_Assign_Subscript (thn (hv.run pins s σ H _ I h) fun r s1 ⟨v, H1, I1, rv, q1⟩ => thn (ho.run pins s1 σ H1 _ I1 q1) fun u s2 ⟨x, H2, I2, rx, q2⟩ => thn (hi.run pins s2 σ H2 _ I2 q2) fun iv s3 ⟨y, H3, I3, ry, a, H4, ex, g, q3⟩ => ?_) hs
  subst ex
  cases rx
  exact dpt_set hu I3 g ry rv fun s4 I4 => ⟨σ, H4, I4, q3⟩
end

def putKd (ps : List (PyData × PyData)) (k : Key) (v : PyData) : List (PyData × PyData) :=
  if (ps.any fun p => decide (toK p.1 = some k)) = true then ps.map (fun p => if toK p.1 = some k then (p.1, v) else p) else ps ++ [(keyD k, v)]
def putTd (ps : List (PyData × PyData)) (k : List NestedKey) (v : PyData) : List (PyData × PyData) :=
  if (ps.any fun p => decide (toKT p.1 = some k)) = true then ps.map (fun p => if toKT p.1 = some k then (p.1, v) else p) else ps ++ [(keyTD k, v)]
def putD (ps : List (PyData × PyData)) (y v : PyData) : Option (List (PyData × PyData)) :=
  if ps.length < sizeLine then match toK y with
    | some k => if allK ps = true then some (putKd ps k v) else none
    | none => match toKT y with
      | some k => if allT ps = true then some (putTd ps k v) else none
      | none => none
  else none
section
variable {ok : Addr → Prop} {K : PySem.W.Frag} {H : Hp}
theorem Rkv.any {k : Key} : ∀ {ps : List (PyData × PyData)} {kvs : List (Key × V)}, Rkv ok K H ps kvs → (ps.any fun p => decide (toK p.1 = some k)) = kvs.any fun kv => decide (kv.1 = k)
  | _, _, .nil => rfl
  | _, _, .cons _ t => by simp [toK_keyD, Rkv.any t]
theorem Rtv.any {k : List NestedKey} : ∀ {ps : List (PyData × PyData)} {kvs : List KTv}, Rtv ok K H ps kvs → (ps.any fun p => decide (toKT p.1 = some k)) = kvs.any fun kv => decide (kv.1 = .tup k)
  | _, _, .nil => rfl
  | _, _, .cons q _ _ _ t => by simp [toKT_keyTD q, Rtv.any t]
theorem Rkv.repl {k : Key} {v : PyData} {x : V} (h : Rp ok K H v x) : ∀ {ps : List (PyData × PyData)} {kvs : List (Key × V)}, Rkv ok K H ps kvs → Rkv ok K H (ps.map fun p => if toK p.1 = some k then (p.1, v) else p) (kvs.map fun kv => if kv.1 = k then (kv.1, x) else kv)
  | _, _, .nil => .nil
  | _, _, .cons (k := k0) r t => by
    simp only [List.map_cons, toK_keyD, Option.some.injEq]
    by_cases e : k0 = k
    · rw [if_pos e, if_pos e]; exact .cons h (Rkv.repl h t)
    · rw [if_neg e, if_neg e]; exact .cons r (Rkv.repl h t)
theorem Rtv.repl {k : List NestedKey} {v : PyData} {x : V} (h : Rp ok K H v x) : ∀ {ps : List (PyData × PyData)} {kvs : List KTv}, Rtv ok K H ps kvs → Rtv ok K H (ps.map fun p => if toKT p.1 = some k then (p.1, v) else p) (kvs.map fun kv => if kv.1 = .tup k then (kv.1, kv.2.1, x) else kv)
  | _, _, .nil => .nil
  | _, _, .cons (k := k0) q tk rs r t => by
    simp only [List.map_cons, toKT_keyTD q, Option.some.injEq, NestedKey.tup.injEq]
    by_cases e : k0 = k
    · rw [if_pos e, if_pos e]; exact .cons q tk rs h (Rtv.repl h t)
    · rw [if_neg e, if_neg e]; exact .cons q tk rs r (Rtv.repl h t)
theorem Rkv.snoc {k : Key} {v : PyData} {x : V} (h : Rp ok K H v x) : ∀ {ps : List (PyData × PyData)} {kvs : List (Key × V)}, Rkv ok K H ps kvs → Rkv ok K H (ps ++ [(keyD k, v)]) (kvs ++ [(k, x)])
  | _, _, .nil => .cons h .nil
  | _, _, .cons r t => .cons r (Rkv.snoc h t)
theorem Rtv.snoc {k : List NestedKey} {b : Addr} {v : PyData} {x : V} {xs : List V} (q : okK k = true) (tk : TpD H b (NestedKey.datas k) xs) (rs : Rps ok K H (NestedKey.datas k) xs) (h : Rp ok K H v x) : ∀ {ps : List (PyData × PyData)} {kvs : List KTv}, Rtv ok K H ps kvs → Rtv ok K H (ps ++ [(keyTD k, v)]) (kvs ++ [(.tup k, b, x)])
  | _, _, .nil => .cons q tk rs h .nil
  | _, _, .cons q0 t0 r0 r t => .cons q0 t0 r0 r (Rtv.snoc q tk rs h t)
theorem Rkv.put {k : Key} {v : PyData} {x : V} (h : Rp ok K H v x) {ps : List (PyData × PyData)} {kvs : List (Key × V)} (r : Rkv ok K H ps kvs) : Rkv ok K H (putKd ps k v) (putK kvs k x) := by
  unfold putKd putK
  rw [r.any]
  split
  · exact r.repl h
  · exact r.snoc h
theorem Rtv.put {k : List NestedKey} {b : Addr} {v : PyData} {x : V} {xs : List V} (q : okK k = true) (tk : TpD H b (NestedKey.datas k) xs) (rs : Rps ok K H (NestedKey.datas k) xs) (h : Rp ok K H v x) {ps : List (PyData × PyData)} {kvs : List KTv} (r : Rtv ok K H ps kvs) : Rtv ok K H (putTd ps k v) (putI kvs (.tup k) b x) := by
  unfold putTd putI
  rw [r.any]
  split
  · exact r.repl h
  · exact r.snoc q tk rs h
theorem Rkv.step0' {ok' : Addr → Prop} {H' : Hp} {ps : List (PyData × PyData)} {kvs : List (Key × V)} (r : Rkv ok K H ps kvs) (st : Stp ok H H') : Rkv ok K H' ps kvs := r.step (fun _ h => h) st
end
def dctAt (ρ : Env) (i : Nat) : Option (List (PyData × PyData)) := match ρ[i]? with
  | some (some (.dict ds)) => some ds
  | _ => none
theorem dctAt_some {ρ : Env} {i : Nat} {ds : List (PyData × PyData)} (h : dctAt ρ i = some ds) : ρ[i]? = some (some (.dict ds)) := by
  unfold dctAt at h
  split at h
  · rename_i xs e
    cases h; exact e
  · cases h
/-- name[k] = v -/
def dPut (i : Nat) (dk dv : DE) : DS := fun ρ o => (dv ρ o).bind fun v ρ1 o1 => match dctAt ρ1 i with
  | none => .bad
  | some _ => (dk ρ1 o1).bind fun y ρ2 o2 => match (dctAt ρ2 i).bind fun ps => putD ps y v with
    | some ps => .ok .nx (ρ2.set i (some (.dict ps))) o2
    | none => .bad
section
variable {X : Cx} {sg : Sta} {W : WX} {e a b c ek ev : Expr} {d d1 d2 d3 dk dv : DE} {w w1 w2 w3 p p1 p2 p3 f f1 f2 f3 : Bool} {pos p' p'' : Pos}
/-- the written dict, its new heap -/
theorem put_core {ok1 : Addr → Prop} {H1 : Hp} {a : Addr} {ps ps' : List (PyData × PyData)} {y v : PyData} {z x : V} (nok : ¬ ok1 a) (ct : CtA ok1 X.K H1 (.dict ps) a) (e : putD ps y v = some ps') (ry : RpT okT ok1 X.K H1 y z) (rv : Rp ok1 X.K H1 v x) :
    ∃ u, DPt X.K H1 a z x (upd H1 a u) ∧ CtA ok1 X.K (upd H1 a u) (.dict ps') a := by
  unfold putD at e
  by_cases hl : ps.length < sizeLine
  · rw [if_pos hl] at e
    have st := fun u => stp_put (ok := ok1) nok ct.noExt.2.2 u
    cases e1 : toK y with
    | some k =>
      rw [e1] at e
      obtain rfl := toK_some e1
      simp only at e
      by_cases ha : allK ps = true
      · rw [if_pos ha] at e
        cases e
        obtain rfl := ry.key
        rcases ct with ⟨kvs, h, r⟩ | ⟨kvs, h, r⟩
        · exact ⟨_, .k h rfl (by rw [← r.length]; exact hl), .inl ⟨_, upd_same, Rkv.put (rv.step (fun _ h => h) (st _)) (r.step (fun _ h => h) (st _))⟩⟩
        · cases hn : ps.isEmpty with
          | false => exact (r.noK ha hn).elim
          | true =>
            have : ps = [] := by simpa using hn
            subst this
            cases r
            exact ⟨_, .k0 h rfl, .inl ⟨_, upd_same, Rkv.put (rv.step (fun _ h => h) (st _)) .nil⟩⟩
      · rw [if_neg ha] at e; cases e
    | none =>
      rw [e1] at e
      simp only at e
      cases e2 : toKT y with
      | none => rw [e2] at e; cases e
      | some k =>
        rw [e2] at e
        obtain ⟨rfl, hok⟩ := toKT_ok e2
        simp only at e
        by_cases ha : allT ps = true
        · rw [if_pos ha] at e
          cases e
          obtain ⟨b, xs, rfl, hb, rs⟩ := ry.keyT
          have nba : b ≠ a := fun z => by
            subst z
            rcases hb with ⟨o, _, hb⟩ | ⟨_, hb⟩ <;> exact ct.noExt.2.2 _ hb trivial
          rcases ct with ⟨kvs, h, r⟩ | ⟨kvs, h, r⟩
          · cases hn : ps.isEmpty with
            | false => exact (r.noT ha hn).elim
            | true =>
              have : ps = [] := by simpa using hn
              subst this
              cases r
              exact ⟨_, .t0 h rfl (keyAt_of hok hb rs) nba, .inr ⟨_, upd_same, Rtv.put hok (TpD.stp hb (st _)) (rs.step (fun _ h => h) (st _)) (rv.step (fun _ h => h) (st _)) .nil⟩⟩
          · exact ⟨_, .t h r.keysT rfl (keyAt_of hok hb rs) (by rw [← r.length]; exact hl), .inr ⟨_, upd_same, Rtv.put hok (TpD.stp hb (st _)) (rs.step (fun _ h => h) (st _)) (rv.step (fun _ h => h) (st _)) (r.step (fun _ h => h) (st _))⟩⟩
        · rw [if_neg ha] at e; cases e
  · rw [if_neg hl] at e; cases e
theorem s_put {i : Nat} {x : Str} (hu : X.A.units + 70 < cLine) (hN : X.N[i]? = some x) (hv : Vis X.env.scope x) (ho : i ∈ sg.own) (hk : PE X ek (tE X.K X.mg sg W w2 p2 f2 dk)) (hval : PE X ev (tE X.K X.mg sg W false p1 f1 dv)) (hd : (x == ("__debug__" : Str)) = false := by decide) (hcd : (x == ("__classdict__" : Str)) = false := by decide)
    (hs : swapsWith ev (some (.Subscript (.Name x p'') ek p')) pos.line X.env = pure false := by rfl) : PS X (.Assign [.Subscript (.Name x p'') ek p'] ev pos) (tS X.K X.mg sg W (dPut i dk dv)) := by
  refine PS.imp (ps_put2 (by omega) (pe_var hN hv hd hcd) hk hval hs) fun D σ H ⟨g, ρ, o, S, ok, r, q⟩ => ?_
  unfold dPut at q
  show tE X.K X.mg sg W false p1 f1 dv σ H _
  cases e1 : dv ρ o with
  | bad => rw [e1] at q; exact q.elim
  | ex c ρ1 o1 => rw [e1] at q; exact Out.ex1 r e1 q
  | ok v ρ1 o1 =>
    rw [e1] at q
    refine tE.of_ok r e1 fun x H1 ok1 n1 r1 _ => ?_
    simp only [Res.bind] at q
    cases e0 : dctAt ρ1 i with
    | none => rw [e0] at q; exact q.elim
    | some ps0 =>
      rw [e0] at q
      simp only at q
      obtain ⟨a, ea, w0⟩ := n1.st.ow i _ (dctAt_some e0) ho
      refine ⟨_, ea, ?_⟩
      show tE X.K X.mg sg W w2 p2 f2 dk σ H1 _
      cases e2 : dk ρ1 o1 with
      | bad => rw [e2] at q; exact q.elim
      | ex c ρ2 o2 =>
        rw [e2] at q
        exact tE.of_ex n1.st e2 fun cls dd H' ok' n2 x2 => q cls dd σ H' S ok' n2.st x2
      | ok y ρ2 o2 =>
        rw [e2] at q
        refine tE.of_ok n1.st e2 fun z H2 ok2 n2 r2 _ => ?_
        simp only at q
        cases e3 : dctAt ρ2 i with
        | none => rw [e3] at q; exact q.elim
        | some ps =>
          rw [e3] at q
          simp only [Option.bind] at q
          cases e4 : putD ps y v with
          | none => rw [e4] at q; exact q.elim
          | some ps' =>
            rw [e4] at q
            simp only at q
            obtain ⟨a', ea', _, w1⟩ := own_first (x := "x") ho n1.st n2 (dctAt_some e3)
            rw [ea] at ea'; cases ea'
            have r1' : Rp ok1 X.K H1 v x := r1
            obtain ⟨u, dp, ct⟩ := put_core (X := X) w1.nok w1.ct e4 (r2.T n2.st.sub) (r1'.step n2.mono (n2.stp n1.st))
            refine ⟨a, _, rfl, dp, ?_⟩
            have m := Nx.mut n2.st (dctAt_some e3) ho ea u ct
            exact q _ _ S ok2 m.st (((n1.sx r).trans (n2.sx n1.st)).trans (m.sx n2.st))
end
end FL
namespace FL
open PySem PySem.Spec PyProof.Rows L2 PySem.W

section
variable {X : Cx} {sg : Sta} {W : WX} {e a b c o : Expr} {d d1 d2 d3 : DE} {w w1 w2 w3 p p1 p2 p3 f f1 f2 f3 f2' : Bool} {pos p' p'' apos cpos : Pos}
def intsOf : List PyData → Option (List Int)
  | [] => some []
  | .int i :: r => (intsOf r).map fun l => i :: l
  | _ :: _ => none
theorem intsOf_some : ∀ {ds : List PyData} {ns : List Int}, intsOf ds = some ns → ds = ns.map .int
  | [], _, h => by cases h; rfl
  | d :: r, ns, h => by
    cases d <;> simp only [intsOf] at h <;> try cases h
    cases e : intsOf r with
    | none => rw [e] at h; cases h
    | some l => rw [e] at h; cases h; rw [intsOf_some e]; rfl
def phIndex (v u : PyData) : Option PyData := match v, u with
  | .tuple ds, .int k => if trip ds = true then (intsOf ds).bind fun ns => if k ∈ ns then some (.int (ns.idxOf k : Nat)) else none else none
  | _, _ => none
theorem pe_index {to : TE} {t : TA} (ho : PE X o to) (ha : PA X [e] t) (hbase : attributeBase o "index" X.env (eval o X.env) = eval o X.env := by rfl)
    (hfew : ((backTo cpos (starEach [e] X.env)).all (fun x => !x.1) && (backToKw cpos (keywordEach [] X.env)).all (fun x => x.1.isSome) && decide ([e].length + ([] : List Keyword).length + (if ([] : List Keyword).isEmpty then 0 else 1) < 30)) = true := by rfl)
    (hline : (apos.endLine == cpos.line) = true := by rfl) (hs : starEach [e] X.env = (false, eval e X.env) :: starEach [] X.env := by rfl) :
    PE X (.Call (.Attribute o "index" apos) [e] [] cpos) (fun σ H Q => to σ H fun x H1 => ∃ (a : Addr) (ob : Obj) (xs : List V), x = .ref a ∧ ob.dict = none ∧ H1 a = some (.frz ob (.tup xs)) ∧ t σ H1 fun ys H2 => ∃ y, ys = [y] ∧ r2D X.K true phIndex (.ref a) y H2 Q) := by
  refine ⟨fun pins s σ H Q I h => ?_⟩
  refine wpAny_Call_method_late hbase hfew hline rfl (thn (ho.run pins s σ H _ I h) fun v s1 ⟨x, H1, I1, r1, q1⟩ => ?_)
  obtain ⟨a, ob, xs, rfl, hob, hfr, q1⟩ := q1
  cases r1
  obtain ⟨g1, z, its, rv, o1, h1, h2, n, h3⟩ := (show ObjOk X.prog X.w H1 s1.heap a (.frz ob (.tup xs)) from I1.hok a _ hfr)
  refine ⟨"tuple", "tuple.index", PySem.F.plainAttrs_tuple, PySem.F.slot_tuple_index, PySem.F.type_tuple_index, ⟨o1, h1, h2⟩, fun b eb => ?_, ?_⟩
  · cases eb
    exact ⟨ob, g1, hob⟩
  · have hA := ha.run cpos pins s1 σ H1 _ I1 q1
    rw [hs] at hA ⊢
    refine Calls.callWith_builtin (by rfl) (Calls.evalArgs_plain (thn hA fun us s2 ⟨vs, H2, I2, r2, y, ey, q2⟩ => ?_))
    subst ey
    obtain ⟨u, rfl, ry⟩ := vals1 r2
    obtain ⟨ok, okT, dv, du, d, fr, rx, ryd, e1, q⟩ := q2
    unfold phIndex at e1
    split at e1
    · rename_i ds k
      by_cases ht : trip ds = true
      · rw [if_pos ht] at e1
        cases e2 : intsOf ds with
        | none => rw [e2] at e1; cases e1
        | some ns =>
          rw [e2] at e1
          simp only [Option.bind] at e1
          obtain rfl := intsOf_some e2
          by_cases hk : k ∈ ns
          · rw [if_pos hk] at e1
            cases e1
            obtain ⟨a', ys, ea, hy, rs⟩ := rx.tup
            cases ea
            obtain rfl := rs.ints_inv
            obtain ⟨jts, rv2, p2, hz⟩ := I2.tuple hy.sq
            obtain rfl := ryd.int
            obtain ⟨t, rfl⟩ := ry
            exact PySem.SeqAt.tuple_index_ints (vs := jts) p2 (intsAre_of rv2) hk ⟨.int _, H2, I2.tok _, ⟨_, rfl⟩, q _ _ (Nw.same (.int _) rfl)⟩
          · rw [if_neg hk] at e1; cases e1
      · rw [if_neg ht] at e1; cases e1
    · cases e1
/-- the receiver is three whole numbers -/
def tripD (v : PyData) : Bool := match v with
  | .tuple ds => trip ds
  | _ => false
def dIndex (d1 d2 : DE) : DE := fun ρ o => (d1 ρ o).bind fun v ρ1 o1 => if tripD v = true then (d2 ρ1 o1).bind fun u ρ2 o2 => .ofO (phIndex v u) ρ2 o2 else .bad
theorem e_index (ho : PE X o (tE X.K X.mg sg W false p1 f1 d1)) (he : PE X e (tE X.K X.mg sg W w2 p2 f2 d2)) (hbase : attributeBase o "index" X.env (eval o X.env) = eval o X.env := by rfl)
    (hfew : ((backTo cpos (starEach [e] X.env)).all (fun x => !x.1) && (backToKw cpos (keywordEach [] X.env)).all (fun x => x.1.isSome) && decide ([e].length + ([] : List Keyword).length + (if ([] : List Keyword).isEmpty then 0 else 1) < 30)) = true := by rfl)
    (hline : (apos.endLine == cpos.line) = true := by rfl) (hs : starEach [e] X.env = (false, eval e X.env) :: starEach [] X.env := by rfl) :
    PE X (.Call (.Attribute o "index" apos) [e] [] cpos) (tE X.K X.mg sg W w (p1 && p2) f (dIndex d1 d2)) := by
  refine PE.imp (pe_index ho (pa_cons he pa_nil hs) hbase hfew hline hs) fun σ H Q ⟨g, ρ, o, S, ok, r, q⟩ => ?_
  unfold dIndex at q
  show tE X.K X.mg sg W false p1 f1 d1 σ H _
  cases e1 : d1 ρ o with
  | bad => rw [e1] at q; exact q.elim
  | ex c ρ1 o1 => rw [e1] at q; exact tE.of_ex r e1 q
  | ok v ρ1 o1 =>
    rw [e1] at q
    refine tE.of_ok r e1 fun x H1 ok1 n1 r1 _ => ?_
    simp only [Res.bind] at q
    have r1 : Rp ok1 X.K H1 v x := r1
    by_cases ht : tripD v = true
    · rw [if_pos ht] at q
      cases r1 with
      | @tup a xs ds h rs =>
        have ht : trip ds = true := ht
        rcases h with ⟨ob, hob, h⟩ | ⟨h, _⟩
        · refine ⟨a, ob, xs, rfl, hob, h, ?_⟩
          show tE X.K X.mg sg W w2 p2 f2 d2 σ H1 _
          cases e2 : d2 ρ1 o1 with
          | bad => rw [e2] at q; exact q.elim
          | ex c ρ2 o2 => rw [e2] at q; exact tE.of_ex n1.st e2 fun cls dd H' ok' n2 x2 => q cls dd H' ok' (n1.weak.trans n2) x2
          | ok u ρ2 o2 =>
            rw [e2] at q
            refine tE.of_ok n1.st e2 fun y H2 ok2 n2 r2 _ => ⟨y, rfl, ?_⟩
            simp only at q
            cases e3 : phIndex (.tuple ds) u with
            | none => rw [e3] at q; exact q.elim
            | some z =>
              rw [e3] at q
              have r0 : Rp ok1 X.K H1 (.tuple ds) (.ref a) := .tup (.inl ⟨ob, hob, h⟩) rs
              exact ⟨ok2, okw g S, _, u, z, n2.st.fr, (r0.step n2.mono (n2.stp n1.st)).toT n2.st.sub, r2.T n2.st.sub, e3, fun zz H' nw => fin_op (n1.trans n2) nw.any q⟩
        · rw [ht] at h; cases h
      | _ => simp [tripD] at ht
    · rw [if_neg ht] at q; exact q.elim

def noneD (v : PyData) : Bool := match v with
  | .none => true
  | _ => false
def phIsN (v u : PyData) : Option PyData := if noneD u = true then some (.bool (noneD v)) else none
def phIsNotN (v u : PyData) : Option PyData := if noneD u = true then some (.bool (!noneD v)) else none
theorem RpT.isNon {okT ok : Addr → Prop} {K : PySem.W.Frag} {H : Hp} {v : PyData} {x : V} (r : RpT okT ok K H v x) : decide (x = .non) = noneD v := by
  cases v with
  | none => rw [r.non]; rfl
  | bool b => rw [r.bl]; rfl
  | int i => rw [r.int]; rfl
  | str s => rw [r.str]; rfl
  | tuple ds => obtain ⟨a, xs, rfl, _⟩ := r.tup; rfl
  | list ds => obtain ⟨a, xs, rfl, _⟩ := r.lst; rfl
  | dict ps => obtain ⟨a, rfl, _⟩ := r; rfl
theorem opIsN : OpR X (compareOp .Is) (r2D X.K true phIsN) := by
  refine OpR.imp op_isN fun x y H Q ⟨ok, okT, v, u, d, fr, r1, r2, e, q⟩ => ?_
  unfold phIsN at e
  by_cases h : noneD u = true
  · rw [if_pos h] at e
    cases e
    have hu := r2.isNon
    rw [h] at hu
    refine ⟨of_decide_eq_true hu, ?_⟩
    rw [r1.isNon]
    exact q _ _ (Nw.same (.bl _) rfl)
  · rw [if_neg h] at e; cases e
theorem opIsNotN : OpR X (compareOp .IsNot) (r2D X.K true phIsNotN) := by
  refine OpR.imp op_notN fun x y H Q ⟨ok, okT, v, u, d, fr, r1, r2, e, q⟩ => ?_
  unfold phIsNotN at e
  by_cases h : noneD u = true
  · rw [if_pos h] at e
    cases e
    have hu := r2.isNon
    rw [h] at hu
    refine ⟨of_decide_eq_true hu, ?_⟩
    rw [r1.isNon]
    exact q _ _ (Nw.same (.bl _) rfl)
  · rw [if_neg h] at e; cases e

def dChain (φ φ' : PyData → PyData → Option PyData) (d1 d2 d3 : DE) : DE := fun ρ o => (d1 ρ o).bind fun v ρ1 o1 => (d2 ρ1 o1).bind fun u ρ2 o2 =>
  match (φ v u).bind asB with
  | none => .bad
  | some false => .ok (.bool false) ρ2 o2
  | some true => (d3 ρ2 o2).bind fun z ρ3 o3 => .ofO (φ' u z) ρ3 o3
theorem chain_core {φ φ' : PyData → PyData → Option PyData} {σ : Sl} {H : Hp} {Q : VK} (q : tE X.K X.mg sg W w (p1 && (p2 && p3)) f (dChain φ φ' d1 d2 d3) σ H Q) :
    tChain (r2D X.K f1 φ) (r2D X.K f φ') (tE X.K X.mg sg W false p1 f2 d1) (tE X.K X.mg sg W false p2 f3 d2) (tE X.K X.mg sg W w3 p3 f2' d3) σ H Q := by
  obtain ⟨g, ρ, o, S, ok, r, q⟩ := q
  unfold dChain at q
  show tE X.K X.mg sg W false p1 f2 d1 σ H _
  cases e1 : d1 ρ o with
  | bad => rw [e1] at q; exact q.elim
  | ex c ρ1 o1 => rw [e1] at q; exact tE.of_ex r e1 q
  | ok v ρ1 o1 =>
    rw [e1] at q
    refine tE.of_ok r e1 fun x H1 ok1 n1 r1 _ => ?_
    simp only [Res.bind] at q
    show tE X.K X.mg sg W false p2 f3 d2 σ H1 _
    cases e2 : d2 ρ1 o1 with
    | bad => rw [e2] at q; exact q.elim
    | ex c ρ2 o2 => rw [e2] at q; exact tE.of_ex n1.st e2 fun cls dd H' ok' n2 x2 => q cls dd H' ok' (n1.weak.trans n2) x2
    | ok u ρ2 o2 =>
      rw [e2] at q
      refine tE.of_ok n1.st e2 fun y H2 ok2 n2 r2 _ => ?_
      simp only at q
      have n12 := n1.trans n2
      cases e3 : φ v u with
      | none => rw [e3] at q; exact q.elim
      | some z =>
        rw [e3] at q
        simp only [Option.bind] at q
        cases e4 : asB z with
        | none => rw [e4] at q; exact q.elim
        | some t =>
          rw [e4] at q
          obtain rfl := asB_some e4
          have r1' := (r1.later n1.st n2 (by intro z; cases z)).T n2.st.sub
          refine ⟨ok2, okw g S, v, u, _, n2.st.fr, r1', r2.T n2.st.sub, e3, fun zz H3 nw => ⟨t, ?_, ?_⟩⟩
          · have := nw.rp
            cases this
            rfl
          · cases t with
            | false =>
              simp only [Bool.false_eq_true, if_false] at q ⊢
              have := nw.rp
              exact q _ _ ok2 ((n12.grow nw.grow).le (by cases p1 <;> cases p2 <;> simp)) (.ofRp n2.st.sub (.bl false)) fun _ z => by cases z
            | true =>
              simp only [if_true] at q ⊢
              have n3 := n12.grow nw.grow
              have r2g : Rp ok2 X.K H3 u y := Rp.grow r2 nw.grow
              show tE X.K X.mg sg W w3 p3 f2' d3 σ H3 _
              cases e5 : d3 ρ2 o2 with
              | bad => rw [e5] at q; exact q.elim
              | ex c ρ3 o3 => rw [e5] at q; exact tE.of_ex n3.st e5 fun cls dd H' ok' n4 x4 => q cls dd H' ok' (n3.weak.trans n4) x4
              | ok z ρ3 o3 =>
                rw [e5] at q
                refine tE.of_ok n3.st e5 fun zz H4 ok4 n4 r4 _ => ?_
                simp only at q
                cases e6 : φ' u z with
                | none => rw [e6] at q; exact q.elim
                | some b =>
                  rw [e6] at q
                  refine ⟨ok4, okw g S, u, z, b, n4.st.fr, (r2g.step n4.mono (n4.stp n3.st)).toT n4.st.sub, r4.T n4.st.sub, e6, fun zz H' nw2 => fin_op ((n3.trans n4).le (by cases p1 <;> cases p2 <;> cases p3 <;> simp)) nw2 q⟩
theorem e_chain {op op' : CmpOp} {φ φ' : PyData → PyData → Option PyData} (h : OpR X (compareOp op) (r2D X.K f1 φ)) (h' : OpR X (compareOp op') (r2D X.K f φ')) (ha : PE X a (tE X.K X.mg sg W false p1 f2 d1)) (hb : PE X b (tE X.K X.mg sg W false p2 f3 d2)) (hc : PE X c (tE X.K X.mg sg W w3 p3 f2' d3))
    (hm : lastMarks [op, op'] [b, c] = false := by with_unfolding_all rfl) : PE X (.Compare a [op, op'] [b, c] pos) (tE X.K X.mg sg W w (p1 && (p2 && p3)) f (dChain φ φ' d1 d2 d3)) := PE.imp (pe_chain h h' ha hb hc hm) fun _ _ _ q => chain_core q
/-- .. as a test -/
theorem test_core {σ : Sl} {H : Hp} {Q : Bool → Hp → Prop} (q : tT X.K X.mg sg W p1 (dTest d1) σ H Q) : tTest (tE X.K X.mg sg W w p1 f d1) σ H Q := by
  obtain ⟨g, ρ, o, S, ok, r, q⟩ := q
  unfold dTest at q
  show tE X.K X.mg sg W w p1 f d1 σ H _
  cases e1 : d1 ρ o with
  | bad => rw [e1] at q; exact q.elim
  | ex c ρ1 o1 => rw [e1] at q; exact tE.of_ex r e1 q
  | ok v ρ1 o1 =>
    rw [e1] at q
    refine tE.of_ok r e1 fun x H1 ok1 n1 r1 _ => ?_
    simp only [Res.bind] at q
    cases e2 : asB v with
    | none => rw [e2] at q; exact q.elim
    | some b =>
      rw [e2] at q
      obtain rfl := asB_some e2
      exact ⟨b, r1.bool, q _ _ n1⟩
theorem t_chain {op op' : CmpOp} {φ φ' : PyData → PyData → Option PyData} (h : OpR X (compareOp op) (r2D X.K f1 φ)) (h' : OpR X (compareOp op') (r2D X.K f φ')) (ha : PE X a (tE X.K X.mg sg W false p1 f2 d1)) (hb : PE X b (tE X.K X.mg sg W false p2 f3 d2)) (hc : PE X c (tE X.K X.mg sg W w3 p3 f2' d3))
    (hm : lastMarks [op, op'] [b, c] = false := by with_unfolding_all rfl) : PT X (.Compare a [op, op'] [b, c] pos) (tT X.K X.mg sg W (p1 && (p2 && p3)) (dTest (dChain φ φ' d1 d2 d3))) := PT.imp (pt_chain h h' ha hb hc hm) fun _ _ _ q => chain_core (test_core (w := false) q)
end
end FL
namespace FL
open PySem PySem.Spec PyProof.Rows L2 PySem.W

/-- a step after which new containers stand apart -/
structure Mx (sg : Sta) (g : Gh) (ok : Addr → Prop) (S : Sad) (K : PySem.W.Frag) (H : Hp) (σ : Sl) (ρ ρ' : Env) (o' : Orc) (H' : Hp) (ok' : Addr → Prop) : Prop where
  st : Rst sg g ok' S K H' σ ρ' o'
  sx : Sx ok H ok' H'
  lim : ∀ a, ok' a → ok a ∨ Held sg σ ρ a
  dom : ∀ (i : Nat) d, i ∈ sg.own → ρ'[i]? = some (some d) → ∃ d', ρ[i]? = some (some d')
  trk : ∀ a u, H a = some u → ∃ u', H' a = some u'
  keep : ∀ a u, H a = some u → ¬ inS S a → (∀ ps, u ≠ .tbl ps) → ¬ Held sg σ ρ a → H' a = some u
/-- the values: known ones, and new containers that stand apart -/
inductive Mv (g : Gh) (ok' : Addr → Prop) (S : Sad) (K : PySem.W.Frag) (H H' : Hp) (sg : Sta) (σ : Sl) (ρ' : Env) : List Bool → List PyData → List V → Prop
  | nil : Mv g ok' S K H H' sg σ ρ' [] [] []
  | old {fl : List Bool} {d : PyData} {ds : List PyData} {v : V} {vs : List V} : Rp ok' K H' d v → Mv g ok' S K H H' sg σ ρ' fl ds vs → Mv g ok' S K H H' sg σ ρ' (false :: fl) (d :: ds) (v :: vs)
  | new {fl : List Bool} {d : PyData} {ds : List PyData} {a : Addr} {vs : List V} : H a = none → g.H0 a = none → ¬ inS S a → ¬ ok' a → ¬ Held sg σ ρ' a → CtA ok' K H' d a → V.ref a ∉ vs → Mv g ok' S K H H' sg σ ρ' fl ds vs → Mv g ok' S K H H' sg σ ρ' (true :: fl) (d :: ds) (.ref a :: vs)
def tM (K : PySem.W.Frag) (mg : Str → Option Value) (sg : Sta) (W : WX) (fl : List Bool) (d : DA) : TA := fun σ H Q => ∃ g ρ o S ok, Rst sg g ok S K H σ ρ o ∧
  match d ρ o with
  | .ok vs ρ' o' => ∀ xs H' ok', Mx sg g ok S K H σ ρ ρ' o' H' ok' → Mv g ok' S K H H' sg σ ρ' fl vs xs → Q xs H'
  | .ex c ρ' o' => ∀ cls dd H' ok', Rst sg g ok' S K H' σ ρ' o' → ExR mg ok' K H' c cls dd → W cls dd σ H'
  | .bad => False
section
variable {sg : Sta} {g : Gh} {ok ok1 ok2 : Addr → Prop} {S : Sad} {K : PySem.W.Frag} {H H1 H2 : Hp} {σ : Sl} {ρ ρ1 ρ2 : Env} {o o1 o2 : Orc}
theorem Nx.mx {p : Bool} (n : Nx p sg g ok S K H σ ρ ρ1 o1 H1 ok1) (r : Rst sg g ok S K H σ ρ o) : Mx sg g ok S K H σ ρ ρ1 o1 H1 ok1 :=
  ⟨n.st, ⟨n.stp r, fun a _ h _ _ => n.mono a h⟩, n.lim, n.dom, n.trk, fun a u e h t hh => n.stx a u e h t fun _ => hh⟩
theorem Held.domM (r : Mx sg g ok S K H σ ρ ρ1 o1 H1 ok1) {a : Addr} (h : Held sg σ ρ1 a) : Held sg σ ρ a := by
  obtain ⟨i, d, hi, hd, hs⟩ := h
  obtain ⟨d', e⟩ := r.dom i d hi hd
  exact ⟨i, d', hi, e, hs⟩
theorem Mx.trans (r : Mx sg g ok S K H σ ρ ρ1 o1 H1 ok1) (t : Mx sg g ok1 S K H1 σ ρ1 ρ2 o2 H2 ok2) : Mx sg g ok S K H σ ρ ρ2 o2 H2 ok2 where
  st := t.st
  sx := r.sx.trans t.sx
  lim := fun a h => (t.lim a h).elim (r.lim a) fun z => .inr (z.domM r)
  dom := fun i d hi e => let ⟨d1, e1⟩ := t.dom i d hi e; r.dom i d1 hi e1
  trk := fun a u e => let ⟨u', q⟩ := r.trk a u e; t.trk a u' q
  keep := fun a u e n tb hh => t.keep a u (r.keep a u e n tb hh) n tb fun z => hh (z.domM r)
theorem Mv.later {H' : Hp} {ok' : Addr → Prop} {ρ' : Env} : ∀ {fl : List Bool} {ds : List PyData} {vs : List V}, Mv g ok' S K H1 H' sg σ ρ' fl ds vs → (∀ a, H1 a = none → H a = none) → Mv g ok' S K H H' sg σ ρ' fl ds vs
  | _, _, _, .nil, _ => .nil
  | _, _, _, .old h t, k => .old h (Mv.later t k)
  | _, _, _, .new a b c d e f g t, k => .new (k _ a) b c d e f g (Mv.later t k)
theorem Mv.fresh {H' : Hp} {ok' : Addr → Prop} {ρ' : Env} {a : Addr} (hr : Rst sg g ok' S K H' σ ρ' o) (n : ¬ ok' a) (ht : ∃ u, H1 a = some u ∧ ¬ imm u) (kp : ∀ u, H1 a = some u → H' a = some u) : ∀ {fl : List Bool} {ds : List PyData} {vs : List V}, Mv g ok' S K H1 H' sg σ ρ' fl ds vs → V.ref a ∉ vs
  | _, _, _, .nil => by simp
  | _, _, _, .old (v := v) h t => by
    rw [List.mem_cons, not_or]
    refine ⟨fun e => ?_, Mv.fresh hr n ht kp t⟩
    obtain ⟨u, hu, hm⟩ := ht
    have hu' := kp u hu
    subst e
    cases h with
    | tup h _ =>
      rcases h with ⟨ob, _, h⟩ | ⟨_, h⟩
      · rw [h] at hu'; cases hu'; exact hm trivial
      · rw [h] at hu'; cases hu'; exact hm trivial
    | lst q _ _ => exact n q
    | dk q _ _ => exact n q
    | dt q _ _ => exact n q
  | _, _, _, .new (a := b) hb _ _ _ _ _ _ t => by
    rw [List.mem_cons, not_or]
    refine ⟨fun e => ?_, Mv.fresh hr n ht kp t⟩
    obtain ⟨u, hu, _⟩ := ht
    cases e
    rw [hb] at hu
    cases hu
end
section
variable {X : Cx} {sg : Sta} {W : WX} {e a b c : Expr} {es : List Expr} {d d1 d2 d3 : DE} {ds : DA} {w w1 w2 w3 p p1 p2 p3 f f1 f2 f3 : Bool} {fl : List Bool} {pos p' p'' : Pos}
theorem tM.of_ok {g : Gh} {σ : Sl} {H : Hp} {Q : List V → Hp → Prop} {ρ ρ' : Env} {o o' : Orc} {S : Sad} {ok : Addr → Prop} {v : List PyData} (r : Rst sg g ok S X.K H σ ρ o) (e : ds ρ o = .ok v ρ' o')
    (h : ∀ xs H' ok', Mx sg g ok S X.K H σ ρ ρ' o' H' ok' → Mv g ok' S X.K H H' sg σ ρ' fl v xs → Q xs H') : tM X.K X.mg sg W fl ds σ H Q := ⟨g, ρ, o, S, ok, r, by rw [e]; exact h⟩
theorem tM.of_ex {g : Gh} {σ : Sl} {H : Hp} {Q : List V → Hp → Prop} {ρ ρ' : Env} {o o' : Orc} {S : Sad} {ok : Addr → Prop} {c : Exn} (r : Rst sg g ok S X.K H σ ρ o) (e : ds ρ o = .ex c ρ' o')
    (h : ∀ cls dd H' ok', Rst sg g ok' S X.K H' σ ρ' o' → ExR X.mg ok' X.K H' c cls dd → W cls dd σ H') : tM X.K X.mg sg W fl ds σ H Q := ⟨g, ρ, o, S, ok, r, by rw [e]; exact h⟩
theorem m_nil : PA X [] (tM X.K X.mg sg W [] dNil) := PA.imp pa_nil fun σ H Q ⟨g, ρ, o, S, ok, r, q⟩ => q _ _ ok (Nx.mx (.refl r true) r) .nil
/-- a known value -/
theorem m_old (ha : PE X a (tE X.K X.mg sg W false p1 f1 d1)) (hb : PA X es (tM X.K X.mg sg W fl ds)) (hs : starEach (a :: es) X.env = (false, eval a X.env) :: starEach es X.env := by rfl) : PA X (a :: es) (tM X.K X.mg sg W (false :: fl) (dCons d1 ds)) := by
  refine PA.imp (pa_cons ha hb hs) fun σ H Q ⟨g, ρ, o, S, ok, r, q⟩ => ?_
  unfold dCons at q
  show tE X.K X.mg sg W false p1 f1 d1 σ H _
  cases e1 : d1 ρ o with
  | bad => rw [e1] at q; exact q.elim
  | ex c ρ1 o1 => rw [e1] at q; exact tE.of_ex r e1 fun cls dd H' ok' n x => q cls dd H' ok' n.st x
  | ok v ρ1 o1 =>
    rw [e1] at q
    refine tE.of_ok r e1 fun x H1 ok1 n1 r1 _ => ?_
    simp only [Res.bind] at q
    show tM X.K X.mg sg W fl ds σ H1 _
    cases e2 : ds ρ1 o1 with
    | bad => rw [e2] at q; exact q.elim
    | ex c ρ2 o2 => rw [e2] at q; exact tM.of_ex n1.st e2 q
    | ok us ρ2 o2 =>
      rw [e2] at q
      refine tM.of_ok n1.st e2 fun xs H2 ok2 n2 r2 => q _ _ _ ((Nx.mx n1 r).trans n2) (.old ?_ (r2.later fun a h => n1.back h))
      have r1 : Rp ok1 X.K H1 v x := r1
      exact r1.sx n2.sx
/-- a new container -/
def dConsC (d : DE) (ds : DA) : DA := fun ρ o => (d ρ o).bind fun v ρ1 o1 => if isC v = true then (ds ρ1 o1).bind fun vs ρ2 o2 => .ok (v :: vs) ρ2 o2 else .bad
theorem m_new (ha : PE X a (tE X.K X.mg sg W w p1 true d1)) (hb : PA X es (tM X.K X.mg sg W fl ds)) (hs : starEach (a :: es) X.env = (false, eval a X.env) :: starEach es X.env := by rfl) : PA X (a :: es) (tM X.K X.mg sg W (true :: fl) (dConsC d1 ds)) := by
  refine PA.imp (pa_cons ha hb hs) fun σ H Q ⟨g, ρ, o, S, ok, r, q⟩ => ?_
  unfold dConsC at q
  show tE X.K X.mg sg W w p1 true d1 σ H _
  cases e1 : d1 ρ o with
  | bad => rw [e1] at q; exact q.elim
  | ex c ρ1 o1 => rw [e1] at q; exact tE.of_ex r e1 fun cls dd H' ok' n x => q cls dd H' ok' n.st x
  | ok v ρ1 o1 =>
    rw [e1] at q
    refine tE.of_ok r e1 fun x H1 ok1 n1 r1 fr => ?_
    simp only [Res.bind] at q
    by_cases hc : isC v = true
    · rw [if_pos hc] at q
      obtain ⟨ad, rfl, hn, h0, hS, rst, ct, ne⟩ := fr rfl hc
      have m1 : Mx sg g ok S X.K H σ ρ ρ1 o1 H1 (mns ok1 ad) := by
        have m := Nx.mx n1 r
        exact ⟨rst, m.sx.minus hn, fun a h => m.lim a h.1, m.dom, m.trk, m.keep⟩
      have nh : ¬ Held sg σ ρ1 ad := fun ⟨i, d, hi, hd, hs⟩ => ne i d hi hd hs
      show tM X.K X.mg sg W fl ds σ H1 _
      cases e2 : ds ρ1 o1 with
      | bad => rw [e2] at q; exact q.elim
      | ex c ρ2 o2 => rw [e2] at q; exact tM.of_ex rst e2 q
      | ok us ρ2 o2 =>
        rw [e2] at q
        refine tM.of_ok rst e2 fun xs H2 ok2 n2 r2 => ?_
        have nok : ¬ ok2 ad := fun h => (n2.lim ad h).elim (fun z => z.2 rfl) nh
        have nh2 : ¬ Held sg σ ρ2 ad := fun z => nh (z.domM n2)
        have tb := ct.noExt.2.1
        have kp : ∀ u, H1 ad = some u → H2 ad = some u := fun u hu => n2.keep ad u hu hS (fun ps z => tb ps (by rw [hu, z])) nh
        refine q _ _ _ (m1.trans n2) (.new hn h0 hS nok nh2 (ct.step n2.sx.mono n2.sx.stp kp) ?_ (r2.later fun a h => ?_))
        · exact Mv.fresh n2.st nok ct.there kp r2
        · exact n1.back h
    · rw [if_neg hc] at q; exact q.elim
end

def setsS (σ : Sl) : List Nat → List V → Sl
  | i :: is, v :: vs => setsS (σ.set i (some v)) is vs
  | _, _ => σ
def setsE (ρ : Env) : List Nat → List PyData → Env
  | i :: is, v :: vs => setsE (ρ.set i (some v)) is vs
  | _, _ => ρ
/-- the names fit their flags -/
def parOk (sg : Sta) : List Nat → List Bool → Bool
  | [], [] => true
  | i :: is, b :: bs => (b == decide (i ∈ sg.own)) && decide (sg.ist ≠ some i) && parOk sg is bs
  | _, _ => false
section
variable {sg : Sta} {g : Gh} {ok : Addr → Prop} {S : Sad} {K : PySem.W.Frag} {H H' : Hp} {σ : Sl} {ρ : Env} {o : Orc}
/-- a slot of the def's own is given a container that stands apart -/
theorem Rst.setF {v : PyData} {a : Addr} (r : Rst sg g ok S K H' σ ρ o) (h0 : g.H0 a = none) (hS : ¬ inS S a) (nok : ¬ ok a) (nh : ¬ Held sg σ ρ a) (ct : CtA ok K H' v a) {i : Nat} (hi : i ∈ sg.own) (hs : sg.ist ≠ some i) : Rst sg g ok S K H' (σ.set i (some (.ref a))) (ρ.set i (some v)) o := by
  have e : (mns ok a) = ok := funext fun b => propext ⟨fun h => h.1, fun h => ⟨h, fun z => nok (z ▸ h)⟩⟩
  have f : Fresh sg g ok S K (fun _ => none) H' σ ρ o v (.ref a) := ⟨a, rfl, rfl, h0, hS, by rw [e]; exact r, by rw [e]; exact ct, fun j d hj hd hz => nh ⟨j, d, hj, hd, hz⟩⟩
  obtain ⟨a', ea, _, r2⟩ := f.set hi hs
  cases ea
  rw [e] at r2
  exact r2
theorem Held.setO {a : Addr} {i : Nat} {x : V} {d : PyData} (hi : i ∉ sg.own) (h : Held sg (σ.set i (some x)) (ρ.set i (some d)) a) : Held sg σ ρ a := by
  obtain ⟨j, d', hj, hd, hs⟩ := h
  have n : i ≠ j := fun z => hi (z ▸ hj)
  rw [List.getElem?_set_ne n] at hd hs
  exact ⟨j, d', hj, hd, hs⟩
theorem Held.setN {a b : Addr} {i : Nat} {d : PyData} (n : a ≠ b) (h : Held sg (σ.set i (some (.ref b))) (ρ.set i (some d)) a) : Held sg σ ρ a := by
  obtain ⟨j, d', hj, hd, hs⟩ := h
  by_cases e : i = j
  · subst e
    have hl : i < σ.length := by
      have := (List.getElem?_eq_some_iff.mp hs).1
      simpa using this
    rw [List.getElem?_set_self hl] at hs
    cases hs
    exact absurd rfl n
  · rw [List.getElem?_set_ne e] at hd hs
    exact ⟨j, d', hj, hd, hs⟩
theorem Mv.setO {i : Nat} {x : V} {d : PyData} (hi : i ∉ sg.own) : ∀ {fl : List Bool} {ds : List PyData} {vs : List V}, Mv g ok S K H H' sg σ ρ fl ds vs → Mv g ok S K H H' sg (σ.set i (some x)) (ρ.set i (some d)) fl ds vs
  | _, _, _, .nil => .nil
  | _, _, _, .old h t => .old h (Mv.setO hi t)
  | _, _, _, .new e1 e2 e3 e4 nh e5 e6 t => .new e1 e2 e3 e4 (fun z => nh (z.setO hi)) e5 e6 (Mv.setO hi t)
theorem Mv.setN {i : Nat} {b : Addr} {d : PyData} : ∀ {fl : List Bool} {ds : List PyData} {vs : List V}, V.ref b ∉ vs → Mv g ok S K H H' sg σ ρ fl ds vs → Mv g ok S K H H' sg (σ.set i (some (.ref b))) (ρ.set i (some d)) fl ds vs
  | _, _, _, _, .nil => .nil
  | _, _, _, n, .old h t => .old h (Mv.setN (fun z => n (List.mem_cons_of_mem _ z)) t)
  | _, _, _, n, .new e1 e2 e3 e4 nh e5 e6 t => .new e1 e2 e3 e4 (fun z => nh (z.setN fun z => n (by rw [z]; exact List.mem_cons_self))) e5 e6 (Mv.setN (fun z => n (List.mem_cons_of_mem _ z)) t)
theorem par_set : ∀ {is : List Nat} {σ : Sl} {ρ : Env} {fl : List Bool} {ds : List PyData} {vs : List V}, parOk sg is fl = true → Mv g ok S K H H' sg σ ρ fl ds vs → Rst sg g ok S K H' σ ρ o → Rst sg g ok S K H' (setsS σ is vs) (setsE ρ is ds) o
  | [], _, _, _, _, _, _, _, r => r
  | i :: is, _, _, _, _, _, h, .nil, r => r
  | i :: is, _, _, _, _, _, h, .old h1 t, r => by
    simp only [parOk, Bool.and_eq_true, beq_iff_eq, decide_eq_true_eq] at h
    have hi : i ∉ sg.own := of_decide_eq_false h.1.1.symm
    have q := par_set (is := is) h.2 (t.setO hi) (Rst.set r h1 hi h.1.2)
    exact q
  | i :: is, _, _, _, _, _, h, .new a b c n nh ct e t, r => by
    simp only [parOk, Bool.and_eq_true, beq_iff_eq, decide_eq_true_eq] at h
    have hi : i ∈ sg.own := of_decide_eq_true h.1.1.symm
    have q := par_set (is := is) h.2 (Mv.setN e t) (r.setF b c n nh ct hi h.1.2)
    exact q
end
def dPar (is : List Nat) (ds : DA) : DS := fun ρ o => (ds ρ o).bind fun vs ρ1 o1 => if vs.length = is.length then .ok .nx (setsE ρ1 is vs) o1 else .bad
section
variable {X : Cx} {sg : Sta} {W : WX} {e a b c : Expr} {ds : DA} {fl : List Bool} {pos : Pos}
theorem Mv.length {g : Gh} {ok' : Addr → Prop} {S : Sad} {K : PySem.W.Frag} {H H' : Hp} {sg : Sta} {σ : Sl} {ρ' : Env} : ∀ {fl : List Bool} {ds : List PyData} {vs : List V}, Mv g ok' S K H H' sg σ ρ' fl ds vs → ds.length = vs.length
  | _, _, _, .nil => rfl
  | _, _, _, .old _ t => by simp [Mv.length t]
  | _, _, _, .new _ _ _ _ _ _ _ t => by simp [Mv.length t]
theorem s_par2 {i j : Nat} {x y : Str} {px py pt : Pos} {kt k2 : Nat} {pt2 : Pos} (hc : X.calm = true) (hN : X.N.Nodup) (hi : X.N[i]? = some x) (hj : X.N[j]? = some y) (hij : i ≠ j) (hx : X.env.scope.names.lookup x = some .local) (hy : X.env.scope.names.lookup y = some .local)
    (hf : parOk sg [i, j] fl = true) (ha : PA X [a, b] (tM X.K X.mg sg W fl ds)) (hw : swappedStores [.Tuple [.Name x px, .Name y py] kt pt] (.Tuple [a, b] k2 pt2) X.env = pure (some [x, y]))
    (hs : swapsWithSole [.Tuple [.Name x px, .Name y py] kt pt] (.Tuple [a, b] k2 pt2) pos.line X.env = pure false := by rfl) : PS X (.Assign [.Tuple [.Name x px, .Name y py] kt pt] (.Tuple [a, b] k2 pt2) pos) (tS X.K X.mg sg W (dPar [i, j] ds)) := by
  refine PS.imp (ps_par hc hN hi hj hij hx hy ha hw hs) fun D σ H ⟨g, ρ, o, S, ok, r, q⟩ => ?_
  unfold dPar at q
  show tM X.K X.mg sg W fl ds σ H _
  cases e1 : ds ρ o with
  | bad => rw [e1] at q; exact q.elim
  | ex c ρ1 o1 => rw [e1] at q; exact tM.of_ex r e1 fun cls dd H' ok' st x => q cls dd σ H' S ok' st x
  | ok vs ρ1 o1 =>
    rw [e1] at q
    simp only [Res.bind] at q
    by_cases hl : vs.length = [i, j].length
    · rw [if_pos hl] at q
      refine tM.of_ok r e1 fun xs H1 ok1 m1 mv => ?_
      have l2 := mv.length
      match xs, mv, l2 with
      | [v, w], mv, _ => exact ⟨v, w, rfl, q _ _ S ok1 (par_set hf mv m1.st) m1.sx⟩
      | [], _, l2 => simp at l2; rw [l2] at hl; simp at hl
      | [_], _, l2 => rw [l2] at hl; simp at hl
      | _ :: _ :: _ :: _, _, l2 => rw [l2] at hl; simp at hl
    · rw [if_neg hl] at q; exact q.elim
theorem s_par3 {i j l : Nat} {x y z : Str} {px py pz pt : Pos} {kt k2 : Nat} {pt2 : Pos} (hc : X.calm = true) (hN : X.N.Nodup) (hi : X.N[i]? = some x) (hj : X.N[j]? = some y) (hl : X.N[l]? = some z) (hij : i ≠ j) (hil : i ≠ l) (hjl : j ≠ l)
    (hx : X.env.scope.names.lookup x = some .local) (hy : X.env.scope.names.lookup y = some .local) (hz : X.env.scope.names.lookup z = some .local)
    (hf : parOk sg [i, j, l] fl = true) (ha : PA X [a, b, c] (tM X.K X.mg sg W fl ds)) (hw : swappedStores [.Tuple [.Name x px, .Name y py, .Name z pz] kt pt] (.Tuple [a, b, c] k2 pt2) X.env = pure (some [x, y, z]))
    (hs : swapsWithSole [.Tuple [.Name x px, .Name y py, .Name z pz] kt pt] (.Tuple [a, b, c] k2 pt2) pos.line X.env = pure false := by rfl) : PS X (.Assign [.Tuple [.Name x px, .Name y py, .Name z pz] kt pt] (.Tuple [a, b, c] k2 pt2) pos) (tS X.K X.mg sg W (dPar [i, j, l] ds)) := by
  refine PS.imp (ps_par3 hc hN hi hj hl hij hil hjl hx hy hz ha hw hs) fun D σ H ⟨g, ρ, o, S, ok, r, q⟩ => ?_
  unfold dPar at q
  show tM X.K X.mg sg W fl ds σ H _
  cases e1 : ds ρ o with
  | bad => rw [e1] at q; exact q.elim
  | ex c ρ1 o1 => rw [e1] at q; exact tM.of_ex r e1 fun cls dd H' ok' st x => q cls dd σ H' S ok' st x
  | ok vs ρ1 o1 =>
    rw [e1] at q
    simp only [Res.bind] at q
    by_cases hl : vs.length = [i, j, l].length
    · rw [if_pos hl] at q
      refine tM.of_ok r e1 fun xs H1 ok1 m1 mv => ?_
      have l2 := mv.length
      match xs, mv, l2 with
      | [u, v, w], mv, _ => exact ⟨u, v, w, rfl, q _ _ S ok1 (par_set hf mv m1.st) m1.sx⟩
      | [], _, l2 => rw [l2] at hl; simp at hl
      | [_], _, l2 => rw [l2] at hl; simp at hl
      | [_, _], _, l2 => rw [l2] at hl; simp at hl
      | _ :: _ :: _ :: _ :: _, _, l2 => rw [l2] at hl; simp at hl
    · rw [if_neg hl] at q; exact q.elim
/-- {} -/
def dDict : DE := fun ρ o => .ok (.dict []) ρ o
theorem e_dict {w f : Bool} : PE X (.Dict [] [] pos) (tE X.K X.mg sg W w true f dDict) := PE.imp pe_dnewK fun σ H Q ⟨g, ρ, o, S, ok, r, q⟩ p hp => fin_op (.refl r true) (Nw.dk (kvs := []) r.fr hp .nil) q
end
end FL
namespace FL
open PySem PySem.Spec PyProof.Rows L2 PySem.W

section
variable {prog : Program} {w : World} {A : Around} {E : Value → Shared → Prop} {h : Heap} {g : Array GenState} {d : Drawn} {t : Nat} {os : OsState}
/-- the bound ValueError.__init__ called -/
theorem call_mwVE {nm q : Str} {C N u e t0 : Addr} {bs bm : List Value} {hdct : Bool} {sn : List Str} {sub : List Value} {ab : Bool} {col : Option Bool} {dd : Option Addr} {k0 k1 k2 k3 k5 : Option Value} {rest : List Value} {Q : Value → Shared → Prop}
    (hC : h.get? C = some (excClassObj nm q C N bs bm hdct sn sub ab col dd k0 k1 k2 k3 k5 "ValueError.__new__")) (he : h.get? e = some (PySem.HandSPX.excO C t0)) (hu : h.get? u = some (kxs_mw "ValueError.__init__" e)) (hz : rest.length ≤ sizeLine)
    (hq : ∀ h' t1, (∀ b o, b ≠ e → h.get? b = some o → h'.get? b = some o) → h'.get? e = some (PySem.HandSPX.excO C t1) → Q .none ⟨h', g, d, t, os⟩) :
    wpAny (model prog w) A (call (.ref u) rest) Q E ⟨h, g, d, t, os⟩ := by
  refine wpAny_call (codeAny_of_tree ?_)
  show wpAny _ A.in1 (callAny (.ref u) ⟨rest, []⟩) _ _ _
  simp only [callAny]
  refine wpAny_bind (wpAny_load hu ?_)
  simp only [kxs_mw, show (Value.type "method-wrapper" == Value.type "method" || Value.type "method-wrapper" == Value.type "builtin_function_or_method" || Value.type "method-wrapper" == Value.type "method-wrapper") = true by decide, if_true]
  refine KFB.if_so (by decide) ?_
  refine wpAny_bind (check_bound_init F.excBase_ValueError.toExcCallFacts hC he rfl ?_)
  refine wpAny_bind (wpAny_pure (wpAny_pure ?_))
  refine ⟨plainId_quiet F.excBase_ValueError.init.plain _, codeAny_builtin F.excBase_ValueError.initEntry ?_⟩
  exact exc_init_tree (cls := .ref C) (t0 := t0) (dv := none) (c2 := .none) (c3 := .none) (b4 := .bool false) he hz fun h' k e1 e2 => hq h' _ k e1
end
/-- the module's facts over a later heap -/
theorem mod_mv {K : Frag} {mg : Str → Option Value} {b h : Heap} (m : Mod K mg b) (k : ∀ c o, b.get? c = some o → h.get? c = some o) : Mod K mg h :=
  ⟨m.kin.keeps k, m.glob.keeps k, let ⟨mb, h1, h2⟩ := m.blt; ⟨mb, h1.keeps k, h2⟩, m.nolimit.keeps k⟩
/-- what the written part says of such a class C, its __init__ f, the cell of __class__, the code object -/
structure InC (prog : Program) (K : Frag) (mg : Str → Option Value) (C f cc cda : Addr) (fld : Str) : Prop where
  oex : OexC K C
  ini : findIn K (.ref C) "__init__" = some (some (.ref f))
  tyf : typeIn K (.ref f) = some (.type "function")
  code : ∃ ccl cdd vs ccs file tf, K.lookup cda = some ⟨ccl, cdd, .fields vs, ccs⟩ ∧ vs[2]? = some (.str file tf) ∧ ((prog.main.file : Str) == file) = true
  cell : ∃ cl cld csl, K.lookup cc = some ⟨cl, cld, .cell (some (.ref C)), csl⟩
  cls : ∃ cd, clsIn K C = some cd
  sub : mroIn K C (.ref C) = some true
  opq : nsIn K cStatics "thirdparty.any" = some none
  sup : ks_superIn K C C "__init__" = some (some (.builtin "ValueError.__init__"))
  isV : subIn K (.ref C) (.type "ValueError") = some true
  nof : findIn K (.ref C) fld = some none
  top : (prog.main.scope.names.lookup ("super" : Str)).isSome = false
  noS : mg "super" = none
section
variable {prog : Program} {w : World} {A : Around} {K : Frag} {mg : Str → Option Value} {base : Heap} {C f cc cda a t0 : Addr} {fld sf pr msg : Str} {hp : Heap} {g : Array GenState} {d : Drawn} {t : Nat} {os : OsState} {R : Result → Shared → Prop} {v : Value} {j : Nat}
  {name qual : Str} {params : Arguments} {scope : Scope} {dV kV doc pm ct oc : Value} {an od : Option Addr} {osl : Array (Option Value)} {p0 p1 p2 p3 p4 p5 p6 p7 p8 p9 p10 : Pos}
theorem init_code (IC : InC prog K mg C f cc cda fld) (KX : K.In hp) (md : Mod K mg hp) (hroom : A.depth < recursionLimit)
    (lk : K.lookup f = some ⟨oc, od, .func (ksFn name qual params [.Expr (.Call (.Attribute (.Call (.Name "super" p0) [] [] p1) "__init__" p2) [.Constant (.str msg) j p3, .Name pr p4] [] p5) p6, .Assign [.Attribute (.Name sf p7) fld p8] (.Name pr p9) p10] scope dV kV doc pm an (.ref cda) ct cc), osl⟩)
    (hcd : codeIn K (.ref cda) qual = true) (hpar : ∃ ar, (params.posonlyargs ++ params.args).head? = some ar ∧ ar.arg = sf)
    (hbind : ∀ s : Shared, s.heap = hp → BindsTo s (ksFn name qual params [.Expr (.Call (.Attribute (.Call (.Name "super" p0) [] [] p1) "__init__" p2) [.Constant (.str msg) j p3, .Name pr p4] [] p5) p6, .Assign [.Attribute (.Name sf p7) fld p8] (.Name pr p9) p10] scope dV kV doc pm an (.ref cda) ct cc) ⟨[.ref a, v], []⟩ [(sf, .ref a), (pr, v)])
    (hne : sf ≠ pr) (hs1 : scope.names.lookup sf = some .local) (hs2 : scope.names.lookup pr = some .local) (hs3 : scope.names.lookup ("super" : Str) = some .globalImplicit) (hs4 : scope.names.lookup ("__class__" : Str) = some .free)
    (hcell : ∀ x ∈ scope.names, x.2 ≠ .cell) (hco : scope.isCoroutine = false) (hgen : scope.isGenerator = false) (hk : scope.kind = .function) (hd1 : (sf == ("__debug__" : Str)) = false) (hd2 : (pr == ("__debug__" : Str)) = false)
    {pl : Sem Bool} (hev : ∀ env : PySem.Env, eval (.Call (.Attribute (.Call (.Name "super" p0) [] [] p1) "__init__" p2) [.Constant (.str msg) j p3, .Name pr p4] [] p5) env = (do
      let ov ← attributeBase (.Call (.Name "super" p0) [] [] p1) "__init__" env (eval (.Call (.Name "super" p0) [] [] p1) env)
      standAt p2.atName
      let (f, first) ← holding [ov] (getMethod ov "__init__" pl)
      callWith p5 f first (backTo p5 (starEach [.Constant (.str msg) j p3, .Name pr p4] env)) []))
    (hsw1 : ∀ env : PySem.Env, swapsWith (.Call (.Attribute (.Call (.Name "super" p0) [] [] p1) "__init__" p2) [.Constant (.str msg) j p3, .Name pr p4] [] p5) none p6.line env = pure false)
    (hsw2 : ∀ env : PySem.Env, swapsWith (.Name pr p9) (some (.Attribute (.Name sf p7) fld p8)) p10.line env = pure false)
    (ha : hp.get? a = some (PySem.HandSPX.excO C t0)) (hKa : K.lookup a = none)
    (hq : ∀ h' t' dx t1, (∀ b o, b ≠ a → hp.get? b = some o → h'.get? b = some o) → hp.objs.size ≤ dx → dx ≠ a → h'.get? a = some ({ cls := .ref C, dict := some dx, data := .fields #[.ref t1, .none, .none, .none, .bool false, .none] } : Obj) → h'.Ns1 dx (fun y => if y = fld then some v else none) → R (.ok (.ret .none)) ⟨h', g, d, t', os⟩) :
    codeAny (model prog w) A (.call (.ref f) ⟨[.ref a, v], []⟩) R ⟨hp, g, d, t, os⟩ := by
  refine ks_codeAny_call_defAt (s := ⟨hp, g, d, t, os⟩) (fd := ksFn name qual params _ scope dV kV doc pm an (.ref cda) ct cc) hroom (KX _ _ lk) rfl md.nolimit (codeRec_of KX hcd) rfl (hbind _ rfl) hcell (fun x hx => ?_) (fun h1 hns hk1 => ?_) hco hgen hk
  · have : x = (sf, .ref a) ∨ x = (pr, v) := by simpa using hx
    rcases this with rfl | rfl
    · exact hs1
    · exact hs2
  · have KX1 : K.In h1 := KX.keeps hk1
    obtain ⟨ccl, cdd, vs, ccs, file, tf, lc, hvs, hfile⟩ := IC.code
    obtain ⟨cl, cld, csl, lcc⟩ := IC.cell
    obtain ⟨cdD, hcls⟩ := IC.cls
    obtain ⟨ar, har, har2⟩ := hpar
    obtain ⟨mb, hb1, hb2⟩ := md.blt
    have ha1 := hk1 _ _ ha
    have hax : a ≠ hp.objs.size := Nat.ne_of_lt (Heap.lt_size ha)
    have lks : (fun x => ([(sf, Value.ref a), (pr, v)] : List (Str × Value)).reverse.lookup x) sf = some (.ref a) := by
      have : (sf == pr) = false := by simpa using hne
      simp [List.lookup, this]
    have lkp : (fun x => ([(sf, Value.ref a), (pr, v)] : List (Str × Value)).reverse.lookup x) pr = some v := by simp [List.lookup]
    obtain ⟨oD, hD1, hD2⟩ : ∃ oD, h1.get? C = some oD ∧ oD.data = .cls cdD := by
      unfold clsIn at hcls
      split at hcls
      · rename_i c0 d0 cd0 sl0 ho
        cases hcls
        exact ⟨_, KX1 _ _ ho, rfl⟩
      · cases hcls
    refine ks_wpAt_execs_cons (ks_wpAt_Expr_any (ks_wpAt_MethodCall (pl := pl) ?_ (hev _)) (show interactive (ksEnv qual scope hp.objs.size f (.ref cda) cc) = false by unfold interactive; simp [hk]) (hsw1 _))
    refine ks_wpAt_super_base (env := ksEnv qual scope hp.objs.size f (.ref cda) cc) hs3 hs4 (by decide) rfl (KX1 _ _ lk) rfl har rfl (KX1 _ _ lc) rfl hvs hfile IC.top ?_
    refine ks_loadName_global hk hs3 (Calls.loadGlobal_builtin (env := ksEnv qual scope hp.objs.size f (.ref cda) cc) (md.glob.keeps hk1) IC.noS (hb1.keeps hk1) ((hb2 _ (by decide)).trans (show bootBuiltins "super" = some (.type "super") by decide +kernel)) ⟨rfl, ?_⟩)
    refine wpAny_loadName_free hk hs4 rfl ⟨_, KX1 _ _ lcc, rfl⟩ ?_
    rw [har2]
    refine wpAny_loadName_local hk hs1 hns lks ?_
    refine ks_wpAny_isType_cls hD1 hD2 ⟨rfl, ?_⟩
    refine ks_wpAny_call_super hD1 hD2 ha1 rfl (fun c e => by cases e) (looks_mroIn KX1 IC.sub) (fun h2 e2 k2 => ?_)
    have KX2 : K.In h2 := KX1.keeps k2
    have ha2 := k2 _ _ ha1
    have I2 : InstAt h2 a (PySem.HandSPX.excO C t0) C none := ⟨ha2, rfl, rfl, trivial⟩
    have hI : Looks (model prog w) h2 (isInstance (.ref a) (.type "ValueError")) true := I2.type.andThen (looks_subIn KX2 IC.isV)
    have sup := IC.sup
    unfold ks_superIn at sup
    rw [hcls] at sup
    refine kxs_getMethod kxs_ValueError e2 (looks_opaque KX2 IC.opq) (l₀ := cdD.mro) (fun A Q E s k q => wpAny_bind ((looks_clsIn KX2 hcls) A _ E s k (wpAny_pure q))) rfl KX2 sup hI (fun z => ?_) (by decide) ?_
    · rw [← z] at hcls
      unfold clsIn at hcls
      split at hcls
      · rename_i c0 d0 cd0 sl0 ho
        have := KX2 _ _ ho
        rw [ha2] at this
        cases this
      · cases hcls
    · have ha3 : (h2.push (kxs_mw "ValueError.__init__" a)).get? a = some (PySem.HandSPX.excO C t0) := Heap.get?_push_of_some _ ha2
      have hu3 : (h2.push (kxs_mw "ValueError.__init__" a)).get? h2.objs.size = some (kxs_mw "ValueError.__init__" a) := Heap.get?_push_size _ rfl
      obtain ⟨nm, q, N, bs, bm, sn, sub, ab, col, dd, k0, k1, k2', k3, k5, hC, hbm⟩ := IC.oex.cls
      have kp3 : ∀ b o, h1.get? b = some o → (h2.push (kxs_mw "ValueError.__init__" a)).get? b = some o := fun b o e => Heap.get?_push_of_some _ (k2 b o e)
      refine kxs_callWith (i := "ValueError.__init__") (x := a) (by rfl) (Calls.evalArgs_plain ?_)
      refine args_cons (Calls.Constant_str (args_cons (wpAny_Name (wpAny_loadName_local (env := ksEnv qual scope hp.objs.size f (.ref cda) cc) hk hs2 (hns.keeps kp3) lkp (args_nil ⟨hu3, ?_⟩)) hd2) (by rfl))) (by rfl)
      show wpAny _ _ (call (.ref h2.objs.size) [.str msg _, v]) _ _ _
      refine call_mwVE (KX2.keeps (fun b o e => Heap.get?_push_of_some _ e) _ _ hC) ha3 hu3 (by rw [sizeLine_eq]; simp) fun h4 t1 k4 e4 => ?_
      have kp4 : ∀ b o, b ≠ a → h1.get? b = some o → h4.get? b = some o := fun b o hb e => k4 b o hb (kp3 b o e)
      have KX4 : K.In h4 := fun b o e => kp4 b o (fun z => by rw [z, hKa] at e; cases e) (KX1 b o e)
      have hns4 : h4.Ns hp.objs.size fun x => ([(sf, Value.ref a), (pr, v)] : List (Str × Value)).reverse.lookup x := by
        obtain ⟨oL, es, ep, hL, r⟩ := hns
        exact ⟨oL, es, ep, kp4 _ _ (Ne.symm hax) hL, r⟩
      refine ks_wpAt_execs_cons (ks_wpAt_Assign_Attr (wpAt_of_wpAny ?_) (hsw2 _))
      refine wpAny_Name (wpAny_loadName_local (env := ksEnv qual scope hp.objs.size f (.ref cda) cc) hk hs2 hns4 lkp ?_) hd2
      refine wpAny_Name (wpAny_loadName_local (env := ksEnv qual scope hp.objs.size f (.ref cda) cc) hk hs1 hns4 lks ?_) hd1
      refine PySem.W.set_plain KX4 (ox := PySem.HandSPX.excO C t1) (od := none) ⟨e4, rfl, rfl, trivial⟩ IC.oex.sa ?_
      have hcl : PySem.W.clsIn K C = some { name := nm, bases := bs, mro := .ref C :: bm, ns := N, qualname := q, hasDict := true, slotNames := sn, subclasses := sub, abstract := ab, collection := col, hasDel := false } := by unfold PySem.W.clsIn; rw [hC] <;> rfl
      refine PySem.HandSPX.exc_osa KX4 e4 hcl (show PySem.HandSPX.refsVE (.ref C :: bm) = true from hbm) rfl IC.nof (fun h' tk' dx k dn dne hx hn => ?_)
      refine wpAt_of_wpAny (wpAny_pure ?_)
      have sz : hp.objs.size ≤ h4.objs.size := by
        have e5 : (hp.objs.size : Nat) < h4.objs.size := by
          obtain ⟨oL, es, ep, hL, r⟩ := hns4
          exact Heap.lt_size hL
        exact Nat.le_of_lt e5
      exact hq h' tk' dx t1 (fun b o hb e => k b o hb (kp4 b o hb (hk1 b o e))) (Nat.le_trans sz dn) dne hx hn
end

section
variable {X : Cx} {pins : List (Addr × Obj)} {σ : Sl} {H : Hp} {s : Shared}
/-- the heap behind the first field of an exception -/
theorem first_field {a C dx t1 : Addr} {f : Str} {y : V} {u : Value} {h' : Heap} (I : Inv X pins σ H s) (e : H a = some (exo a C none)) (dn : s.heap.objs.size ≤ dx) (dne : dx ≠ a) (k : ∀ b o, b ≠ a → s.heap.get? b = some o → h'.get? b = some o)
    (hx : h'.get? a = some ({ cls := .ref C, dict := some dx, data := .fields #[.ref t1, .none, .none, .none, .bool false, .none] } : Obj)) (hn : h'.Ns1 dx (fun z => if z = f then some u else none)) (ry : RelV y u) :
    (∀ fs, Un fs [] H (upd (upd H dx (exd dx [(f, y)])) a (exo a C (some dx))) s.heap h') ∧ HOk X.prog X.w (upd (upd H dx (exd dx [(f, y)])) a (exo a C (some dx))) h' := by
  have hnd : H dx = none := I.hok.fresh dn
  have nd : ∀ {b : Addr} {o : Obj}, s.heap.get? b = some o → b ≠ dx := fun q => Nat.ne_of_lt (Nat.lt_of_lt_of_le (Heap.lt_size q) dn)
  have na : ∀ {b : Addr}, H b = none → b ≠ a := fun n z => by
    rw [z, e] at n
    cases n
  refine ⟨fun fs => { keep := fun b o q n _ _ => k b o (na n) q, slot := fun b o q n _ _ => ⟨o.slots, k b o (na n) q⟩, free := fun b o q n _ => ?_, there := fun b o q _ => ?_, tups := fun b xs q => ?_, frzs := fun b o v q => ?_, tbls := fun b ps q => ⟨#[], ?_⟩ }, fun b o q => ?_⟩
  · rw [upd_ne (na n), upd_ne (nd q)]
    exact n
  · by_cases hb : b = a
    · exact ⟨_, by rw [hb]; exact hx⟩
    · exact ⟨o, k b o hb q⟩
  · rw [upd_ne (at_ne e q exo_tup), upd_ne (ne_of_none q hnd)]
    exact q
  · rw [upd_ne (at_ne e q exo_frz), upd_ne (ne_of_none q hnd)]
    exact q
  · rw [upd_ne (at_ne e q exo_tbl), upd_ne (ne_of_none q hnd), q]
    simp
  · by_cases hb : b = a
    · subst hb
      rw [upd_same] at q
      cases q
      exact exo_ok hx
    · rw [upd_ne hb] at q
      by_cases hd : b = dx
      · subst hd
        rw [upd_same] at q
        cases q
        exact exd_ok hn (relO_put (fs := []) ry fun g => True.intro)
      · rw [upd_ne hd] at q
        refine (I.hok b o q).stay (fun c v hc z => k c v ?_ z) (fun c hc => ?_) fun c xs hc => ?_
        · rcases hc with hc | hc
          · rw [hc]
            exact hb
          · exact at_ne e hc exo_own
        · rw [upd_ne (at_ne e hc exo_own), upd_ne (ne_of_none hc hnd)]
          exact hc
        · rw [upd_ne (at_ne e hc exo_tup), upd_ne (ne_of_none hc hnd)]
          exact hc
theorem pmk_in {C f cc cda : Addr} {fld sf pr msg x : Str} {j : Nat} {k : Nat} {e : Expr} {ta : TA} {name qual : Str} {params : Arguments} {scope : Scope} {dV kV doc pm ct oc : Value} {an od : Option Addr} {osl : Array (Option Value)} {p0 p1 p2 p3 p4 p5 p6 p7 p8 p9 p10 p pos : Pos} {pl : Sem Bool}
    (IC : InC X.prog X.K X.mg C f cc cda fld) (hr : Room (k + 1) X.A)
    (lk : X.K.lookup f = some ⟨oc, od, .func (ksFn name qual params [.Expr (.Call (.Attribute (.Call (.Name "super" p0) [] [] p1) "__init__" p2) [.Constant (.str msg) j p3, .Name pr p4] [] p5) p6, .Assign [.Attribute (.Name sf p7) fld p8] (.Name pr p9) p10] scope dV kV doc pm an (.ref cda) ct cc), osl⟩)
    (hcd : codeIn X.K (.ref cda) qual = true) (hpar : ∃ ar, (params.posonlyargs ++ params.args).head? = some ar ∧ ar.arg = sf)
    (hbind : ∀ (s : Shared) (u v : Value), BindsTo s (ksFn name qual params [.Expr (.Call (.Attribute (.Call (.Name "super" p0) [] [] p1) "__init__" p2) [.Constant (.str msg) j p3, .Name pr p4] [] p5) p6, .Assign [.Attribute (.Name sf p7) fld p8] (.Name pr p9) p10] scope dV kV doc pm an (.ref cda) ct cc) ⟨[u, v], []⟩ [(sf, u), (pr, v)])
    (hne : sf ≠ pr) (hs1 : scope.names.lookup sf = some .local) (hs2 : scope.names.lookup pr = some .local) (hs3 : scope.names.lookup ("super" : Str) = some .globalImplicit) (hs4 : scope.names.lookup ("__class__" : Str) = some .free)
    (hcell : ∀ x ∈ scope.names, x.2 ≠ .cell) (hco : scope.isCoroutine = false) (hgen : scope.isGenerator = false) (hk : scope.kind = .function) (hd1 : (sf == ("__debug__" : Str)) = false) (hd2 : (pr == ("__debug__" : Str)) = false)
    (hev : ∀ env : PySem.Env, eval (.Call (.Attribute (.Call (.Name "super" p0) [] [] p1) "__init__" p2) [.Constant (.str msg) j p3, .Name pr p4] [] p5) env = (do
      let ov ← attributeBase (.Call (.Name "super" p0) [] [] p1) "__init__" env (eval (.Call (.Name "super" p0) [] [] p1) env)
      standAt p2.atName
      let (f, first) ← holding [ov] (getMethod ov "__init__" pl)
      callWith p5 f first (backTo p5 (starEach [.Constant (.str msg) j p3, .Name pr p4] env)) []))
    (hsw1 : ∀ env : PySem.Env, swapsWith (.Call (.Attribute (.Call (.Name "super" p0) [] [] p1) "__init__" p2) [.Constant (.str msg) j p3, .Name pr p4] [] p5) none p6.line env = pure false)
    (hsw2 : ∀ env : PySem.Env, swapsWith (.Name pr p9) (some (.Attribute (.Name sf p7) fld p8)) p10.line env = pure false)
    (hg : Gl X x) (hm : X.mg x = some (.ref C)) (ha : PA X [e] ta) (hdb : (x == ("__debug__" : Str)) = false := by decide) (he : starEach [e] X.env = (false, eval e X.env) :: starEach [] X.env := by rfl) :
    PMk X (.Call (.Name x p) [e] [] pos) (fun σ H Q => ta σ H fun vs H1 => ∃ y, vs = [y] ∧ ∀ d, H1 d = none → Q (.ref C) (some d) (upd H1 d (.xd [(fld, y)]))) := by
  intro pins s σ H Q I h
  obtain ⟨nm, q, N, bs, bm, sn, sub, ab, col, dd, k0, k1, k2, k3, k5, hC, hbm⟩ := IC.oex.cls
  refine wpAny_Call_Name_kw (ld_glob I hg hm ?_ hdb)
  refine PySem.W.callWith_K (h₀ := X.base) I.ok.mod.kin IC.oex.kC (thn (ha.run pos pins s σ H _ I h) fun us s1 ⟨vs, H1, I1, r1, y, ey, q1⟩ => ⟨I1.kIn, ?_⟩) he rfl
  subst ey
  obtain ⟨u, rfl, ry⟩ := vals1 r1
  obtain ⟨hp, g, dr, tk, os⟩ := s1
  have hsz : hp.objs.size ≤ hp.objs.size + 1 := Nat.le_succ _
  have hn : H1 (hp.objs.size + 1) = none := I1.hok.fresh hsz
  have kk : ∀ b o, hp.get? b = some o → ((hp.push (PySem.W.kdv_tup [u])).push (PySem.HandSPX.excO C hp.objs.size)).get? b = some o := fun b o e => Heap.get?_push_of_some _ (Heap.get?_push_of_some _ e)
  have hget : ((hp.push (PySem.W.kdv_tup [u])).push (PySem.HandSPX.excO C hp.objs.size)).get? (hp.objs.size + 1) = some (PySem.HandSPX.excO C hp.objs.size) := by heap_get
  have I2 : Inv X pins σ (upd H1 (hp.objs.size + 1) (exo (hp.objs.size + 1) C none)) ⟨(hp.push (PySem.W.kdv_tup [u])).push (PySem.HandSPX.excO C hp.objs.size), g, dr, tk, os⟩ :=
    I1.laid (t' := tk) (a := hp.objs.size + 1) (o := exo (hp.objs.size + 1) C none) (h' := (hp.push (PySem.W.kdv_tup [u])).push (PySem.HandSPX.excO C hp.objs.size)) kk hsz (exo_ok hget)
  have hKa : X.K.lookup (hp.objs.size + 1) = none := by
    cases hl : X.K.lookup (hp.objs.size + 1) with
    | none => rfl
    | some o => exact absurd (Heap.lt_size (I1.kIn _ o hl)) (by show ¬ hp.objs.size + 1 < hp.objs.size; omega)
  refine wpAny_call (PySem.HandSPX.call_own F.excBase_ValueError (fun Y => PySem.HandSPX.refsVE_contains Y bm hbm) (I1.kIn _ _ hC) (PySem.W.looks_findIn I1.kIn IC.ini) (fun self => PySem.W.bind_fn I1.kIn self IC.tyf) (by rw [sizeLine_eq]; simp) ?_)
  refine init_code IC I2.kIn (mod_mv I1.ok.mod fun b o e => kk b o (I1.bk b o e)) (hr.make C [u] []).depth lk hcd hpar (fun s' _ => hbind s' _ _) hne hs1 hs2 hs3 hs4 hcell hco hgen hk hd1 hd2 hev hsw1 hsw2 hget hKa fun h' t' dx t1 k dn dne hx hns => ?_
  have hdx : H1 dx = none := I1.hok.fresh (Nat.le_trans (by simp only [Heap.push, Array.size_push]; omega) dn)
  obtain ⟨un, hk2⟩ := first_field (s := ⟨(hp.push (PySem.W.kdv_tup [u])).push (PySem.HandSPX.excO C hp.objs.size), g, dr, tk, os⟩) I2 (upd_same) dn dne k hx hns ry
  refine ⟨rfl, mk_end (raises_own IC.oex.exC IC.oex.tyC) I1 hsz kk (un _) hk2 rfl I1.bare (upd_same) ((upd_ne dne).trans upd_same) hdx ?_⟩
  have e : upd (del (upd (upd (upd H1 (hp.objs.size + 1) (exo (hp.objs.size + 1) C none)) dx (exd dx [(fld, y)])) (hp.objs.size + 1) (exo (hp.objs.size + 1) C (some dx))) (hp.objs.size + 1)) dx (.xd [(fld, y)]) = upd H1 dx (.xd [(fld, y)]) := by
    funext b
    by_cases h1 : b = dx
    · rw [h1, upd_same, upd_same]
    · rw [upd_ne h1, upd_ne h1]
      by_cases h2 : b = hp.objs.size + 1
      · rw [h2, del_same, hn]
      · rw [del_ne h2, upd_ne h2, upd_ne h1, upd_ne h2]
  rw [e]
  exact q1 dx hdx
end
end FL
namespace FL
open PySem PySem.Spec PyProof.Rows L2

def dRaise (c f : Str) (d : DE) : DS := fun ρ o => (d ρ o).bind fun v ρ1 o1 => .ex ⟨c, [(f, v)]⟩ ρ1 o1
section
variable {X : Cx} {sg : Sta} {W : WX} {e : Expr} {d : DE} {p f1 : Bool} {pos : Pos} {x fld : Str} {C : Addr} {p' pos' : Pos}
theorem s_raise (hc : X.calm = true) (tk : Takes X W) (hm : X.mg x = some (.ref C))
    (hk : ∀ {ta : TA}, PA X [e] ta → PMk X (.Call (.Name x p') [e] [] pos') (fun σ H Q => ta σ H fun vs H1 => ∃ y, vs = [y] ∧ ∀ d, H1 d = none → Q (.ref C) (some d) (upd H1 d (.xd [(fld, y)]))))
    (ha : PE X e (tE X.K X.mg sg W false p f1 d)) (he : starEach [e] X.env = (false, eval e X.env) :: starEach [] X.env := by rfl) : PS X (.Raise (some (.Call (.Name x p') [e] [] pos')) none pos) (tS X.K X.mg sg W (dRaise x fld d)) := by
  refine PS.imp (ps_raise hc tk (hk (pa_cons ha pa_nil he))) fun D σ H ⟨g, ρ, o, S, ok, r, q⟩ => ?_
  unfold dRaise at q
  show tE X.K X.mg sg W false p f1 d σ H _
  cases e1 : d ρ o with
  | bad => rw [e1] at q; exact q.elim
  | ex c ρ1 o1 =>
    rw [e1] at q
    exact tE.of_ex r e1 fun cls dd H' ok' n1 x1 => q cls dd σ H' S ok' n1.st x1
  | ok v ρ1 o1 =>
    rw [e1] at q
    refine tE.of_ok r e1 fun y H1 ok1 n1 r1 _ => ⟨y, rfl, fun dx hd => ?_⟩
    exact q (.ref C) (some dx) σ _ S ok1 (n1.st.grow (.upd hd)) ⟨C, dx, [(fld, y)], hm, rfl, rfl, upd_same, .cons (Rp.grow r1 (.upd hd)) .nil⟩
end

abbrev Clause := Value × (Addr → Value → Option Addr → TS)
/-- the ends of a suite, behind which the error's name goes -/
def Ends.gone (D : Ends) (i : Nat) : Ends := { nx := fun σ' H' => D.nx (σ'.set i none) H', rt := D.rt, bk := fun σ' H' => D.bk (σ'.set i none) H', ct := fun σ' H' => D.ct (σ'.set i none) H' }
def wAll (K : PySem.W.Frag) (i : Nat) (Wout : WX) (D : Ends) : List Clause → WX
  | [] => Wout
  | c :: r => fun cls d σ H => ∃ b, PySem.W.exmOne K cls c.1 = some b ∧ (b = true → ∀ a, H a = none → c.2 a cls d (Ends.gone D i) (σ.set i (some (.ref a))) H) ∧ (b = false → wAll K i Wout D r cls d σ H)
inductive HdsAs (X : Cx) (n : Str) : List ExceptHandler → List Clause → Prop
  | nil : HdsAs X n [] []
  | cons {x : Str} {c : Value} {ts : Addr → Value → Option Addr → TS} {b0 : Stmt} {suite : List Stmt} {np pos' : Pos} {hds : List ExceptHandler} {l : List Clause} (hc : Names X x c)
      (hsu : ∀ (a : Addr) (oe : Obj) (cls : Value) (d : Option Addr) (pn : List (Addr × Obj)), Zc cls d oe → (∃ vs, oe.data = .fields vs) → PSs (X.suite a ((a, oe) :: pn)) (b0 :: suite) (ts a cls d)) (r : HdsAs X n hds l) :
      HdsAs X n (.ExceptHandler (some (.Name x np)) (some n) (b0 :: suite) pos' :: hds) ((c, ts) :: l)
/-- an error on the ground of X: what the clauses find -/
structure Landed (X : Cx) (pins : List (Addr × Obj)) (sI : Shared) (B : Heap) (σ : Sl) (H : Hp) (a : Addr) (cls : Value) (d : Option Addr) (s : Shared) : Prop where
  inv : Inv X pins σ H sI
  nb : ∀ b o, sI.heap.get? b = some o → b ∉ frs X.stack → B.get? b = some o
  up : sI.heap.UpToSlots s.heap
  fly : HandSPX.FlyingZ B (X.env :: X.outer) a (Zc cls d) s.heap
  na : H a = none
  os : s.os = sI.os
  ag : AllBare s.gens
section
variable {X : Cx} {n : Str} {i : Nat} {Wout : WX} {pins : List (Addr × Obj)} {sI s : Shared} {B : Heap} {σ : Sl} {H : Hp} {a : Addr} {cls : Value} {d : Option Addr}
theorem Landed.back (L : Landed X pins sI B σ H a cls d s) : Inv X pins σ H s := L.inv.landed L.nb L.fly.1 L.up L.os L.ag
theorem Landed.again {h : Heap} (L : Landed X pins sI B σ H a cls d s) (f : HandSPX.FlyingZ B (X.env :: X.outer) a (Zc cls d) h) (u : s.heap.UpToSlots h) : Landed X pins sI B σ H a cls d { s with heap := h } :=
  ⟨L.inv, L.nb, L.up.trans u, f, L.na, L.os, L.ag⟩
theorem Landed.in_ (L : Landed X pins sI B σ H a cls d s) (hf : X.env.frame = some X.env.locals) : ∃ oe vs, s.heap.get? a = some oe ∧ Zc cls d oe ∧ oe.data = .fields vs ∧ Inv (X.suite a ((a, oe) :: (X.pn ++ pins))) [] σ H s := by
  obtain ⟨oe, vs, h1, h2, h3⟩ := L.fly.there
  have away : a ∉ frs (X.env :: X.outer) := fun hm => by
    obtain ⟨_, o2, e2, nf⟩ := L.fly.2.2.1.mem hm
    rw [h1] at e2
    injection e2 with e2
    exact nf vs (e2 ▸ h3)
  refine ⟨oe, vs, h1, h2, h3, L.back.suite h1 h3 L.na (fun z => away ?_) fun hm => away ?_⟩
  · exact List.mem_filterMap.mpr ⟨X.env, List.mem_cons_self, by rw [hf, z]⟩
  · obtain ⟨en, hen, q⟩ := List.mem_filterMap.mp hm
    exact List.mem_filterMap.mpr ⟨en, List.mem_cons_of_mem _ hen, q⟩
/-- no clause is left: on it flies -/
theorem Landed.on {D : Ends} (L : Landed X pins sI B σ H a cls d s) (hs : X.stack = X.env :: X.outer) (hf : X.env.frame = some X.env.locals) (tk : Takes X Wout) (w : Wout cls d σ H) :
    wpAny (model X.prog X.w) X.A (handleBy (.ref a) X.env []) (SP X pins D) X.xe s := by
  refine wpAny_handleBy_nil ?_
  obtain ⟨_, _, _, oe, vs, T, oT, tv, he, hz, hd, h1, _⟩ := id L.fly
  have go : wpAny (model X.prog X.w) X.A (setFlight (.ref a) X.env.frame) (fun _ s4 => wpAny (model X.prog X.w) X.A (throw (.ref a) : Sem Flow) (SP X pins D) X.xe s4) X.xe s := by
    rw [hf]
    refine HandSPX.setFlight_upZ L.fly fun h4 hh u4 => wpAny_throw (tk _ _ ⟨a, B, sI, pins, σ, H, cls, d, rfl, L.inv, L.nb, L.up.trans u4, .inr (.inr ?_), L.na, L.os, L.ag, w⟩)
    rw [hs]
    exact hh
  unfold PySem.passOn
  refine wpAny_bind (wpAny_field he hd h1 ?_)
  rw [if_neg (by simp)]
  first
    | exact wpAny_bind (wpAny_pure (wpAny_bind go))
    | exact wpAny_bind go
/-- the clauses, one after the other -/
theorem Landed.clauses {D : Ends} (hs : X.stack = X.env :: X.outer) (hf : X.env.frame = some X.env.locals) (hN : X.N.Nodup) (hi : X.N[i]? = some n) (hln : X.env.kindOf n = some .local) (tk : Takes X Wout) :
    ∀ {hds : List ExceptHandler} {l : List Clause} {s : Shared}, HdsAs X n hds l → Landed X pins sI B σ H a cls d s → wAll X.K i Wout D l cls d σ H → wpAny (model X.prog X.w) X.A (handleBy (.ref a) X.env hds) (SP X pins D) X.xe s
  | _, _, _, .nil, L, w => L.on hs hf tk w
  | _, _, s, .cons (x := x) (c := c) (ts := ts) (b0 := b0) (suite := suite) (np := np) (pos' := pos') hc hsu r, L, ⟨b, hb, yes, no⟩ => by
    obtain ⟨oe, vs, h1, h2, h3, S3⟩ := L.in_ hf
    have ok := L.inv.ok
    refine wpAny_handleBy_cons (codeAny_handlers_test ?_) (by intro q; cases q)
    have ofA : PySem.W.Looks (model X.prog X.w) s.heap (typeOf (.ref a)) cls := fun _ _ _ _ k q => wpAny_typeOf_ref (k _ _ h1) (by rw [h2.1]; exact q)
    have LM := PySem.W.exm_one (M := model X.prog X.w) L.back.kIn ofA hb
    have test : ∀ {Q : Value → Shared → Prop} {E : Value → Shared → Prop}, Q c s → wpAny (model X.prog X.w) (X.A.mark (some (.ref a))) (eval (.Name x np) X.env) Q E s := fun {Q E} q => by
      obtain ⟨hg, hdb, hm | ⟨hm, hv, hnn⟩⟩ := hc
      · exact ld_glob S3 hg hm q hdb
      · exact ld_blt S3 hg hm hv q hnn hdb
    refine test (LM.here ?_)
    cases b with
    | false => exact Landed.clauses hs hf hN hi hln tk r L (no rfl)
    | true =>
      refine codeAny_handlers_suite_as (HandSPX.lands_againZ L.fly fun h4 f4 u4 => ?_)
      obtain ⟨o4, v4, g1, g2, g3, S4⟩ := (L.again f4 u4).in_ hf
      refine store_ok (X := X.suite a ((a, o4) :: (X.pn ++ pins))) (v := .ref a) S4 hN hi (.inl hln) rfl (fun s5 S5 => ?_) (.inr hln)
      refine wpAny_mono ((hsu a o4 cls d (X.pn ++ pins) g2 ⟨_, g3⟩).run [] s5 _ H _ S5 (yes rfl a L.na)) (fun fl s6 ends => ?_) (fun _ _ z => z.elim)
      have away : ∀ {σ6 : Sl} {H6 : Hp} {Q : Shared → Prop}, Inv (X.suite a ((a, o4) :: (X.pn ++ pins))) [] σ6 H6 s6 → (∀ s7, Inv X pins (σ6.set i none) H6 s7 → Q s7) →
          wpAny (model X.prog X.w) X.A (do bindName X.env n .none; unbindBehindTheSuite X.env n pos') (fun _ s7 => Q s7) X.xe s6 := fun {σ6 H6 Q} S6 q => gone_ok (S6.unsuite ok) hN hi hln q
      cases fl with
      | ret u =>
        obtain ⟨v6, σ6, H6, S6, r6, q6⟩ := ends
        exact away S6 fun _ J => ⟨_, _, _, J, r6, q6⟩
      | next =>
        obtain ⟨σ6, H6, S6, q6⟩ := ends
        exact away S6 fun _ J => ⟨_, _, J, q6⟩
      | brk =>
        obtain ⟨σ6, H6, S6, q6⟩ := ends
        exact away S6 fun _ J => ⟨_, _, J, q6⟩
      | cont =>
        obtain ⟨σ6, H6, S6, q6⟩ := ends
        exact away S6 fun _ J => ⟨_, _, J, q6⟩
end
section
variable {X : Cx} {n : Str} {i : Nat} {body : List Stmt} {h0 : ExceptHandler} {hds : List ExceptHandler} {l : List Clause} {pos : Pos} {tb : WX → TS} {Wout : WX}
theorem ps_try_all (hs : X.stack = X.env :: X.outer) (hf : X.env.frame = some X.env.locals) (hN : X.N.Nodup) (hi : X.N[i]? = some n) (hln : X.env.kindOf n = some .local) (tk : Takes X Wout)
    (hb : ∀ (W : WX) (pn : List (Addr × Obj)) (xe : Value → Shared → Prop), Takes (X.tr pn xe) W → PassesOwn (model X.prog X.w) X.A X.env xe → PSs (X.tr pn xe) body (tb W))
    (hh : HdsAs X n (h0 :: hds) l) : PS X (.Try body (h0 :: hds) [] [] pos) (fun D σ H => tb (wAll X.K i Wout D l) D σ H) := by
  refine ⟨fun pins s σ H D I q => wpAny_Try_except ?_⟩
  have ok := I.ok
  have B1 := hb (wAll X.K i Wout D l) (X.pn ++ pins) (fun e s1 => wpAny (model X.prog X.w) X.A (noteFrame e X.env) (fun _ s2 => wpAny (model X.prog X.w) X.A (setFlight e none) (fun _ s3 =>
    wpAny (model X.prog X.w) X.A (handleBy e X.env (h0 :: hds)) (SP X pins D) X.xe s3) X.xe s2) X.xe s1) (fun u s' xx => ?_) PassesOwn.looking
  · refine wpAny_mono (B1.run [] s σ H D (I.toTry _) q) (fun fl s1 ends => ?_) (fun _ _ z => z)
    cases fl with
    | ret u =>
      obtain ⟨v, σ1, H1, J, r, z⟩ := ends
      exact ⟨v, σ1, H1, J.ofTry ok, r, z⟩
    | next =>
      obtain ⟨σ1, H1, J, z⟩ := ends
      exact wpAny_execs_nil ⟨σ1, H1, J.ofTry ok, z⟩
    | brk =>
      obtain ⟨σ1, H1, J, z⟩ := ends
      exact ⟨σ1, H1, J.ofTry ok, z⟩
    | cont =>
      obtain ⟨σ1, H1, J, z⟩ := ends
      exact ⟨σ1, H1, J.ofTry ok, z⟩
  · obtain ⟨a, B, sI, pins1, σ1, H1, cls, d, rfl, J, nb, up, sky, na, os, ag, w⟩ := xx
    have fr : X.A.frames = some (X.env :: X.outer) := by rw [ok.frames, hs]
    have sky1 : Sky B (X.env :: X.outer) a (Zc cls d) X.env.locals s'.heap := by rw [← hs]; exact sky
    refine Sky.land Zc.steady fr hf sky1 fun h3 f3 u3 => ?_
    exact Landed.clauses hs hf hN hi hln tk hh ⟨J.ofTry ok, nb, up.trans u3, f3, na, os, ag⟩ w
end
end FL
namespace FL
open PySem PySem.Spec PyProof.Rows L2

/-- of a clause: the class, the field, the word, the other class -/
structure CL where
  C : Addr
  O : Addr
  fld : Str
  tag : Str
/-- what is asked of an error of the clause's class: the tuple that is told -/
def tupCl (K : PySem.W.Frag) (Fl : Addr) (c : CL) (cls : Value) (d : Option Addr) (H : Hp) (Q : VK) : Prop :=
  cls = .ref c.C ∧ ∃ (dd : Addr) (fs : List (Str × V)) (v : V) (b1 b2 : Bool), d = some dd ∧ H dd = some (.xd fs) ∧ fs.lookup c.fld = some v ∧ PySem.W.kitOne K (.ref c.C) (.ref Fl) = some b1 ∧ PySem.W.kitOne K (.ref c.C) (.ref c.O) = some b2 ∧ HardQ H [.str c.tag, v, .bl b1, .bl b2] Q
def wCl (K : PySem.W.Frag) (Fl : Addr) (Q : VK) : List CL → XK
  | [] => fun _ _ _ => False
  | c :: r => fun cls d H => ∃ b, PySem.W.exmOne K cls (.ref c.C) = some b ∧ (b = true → tupCl K Fl c cls d H Q) ∧ (b = false → wCl K Fl Q r cls d H)

section
variable {X : Cx} {a D : Addr} {oe : Obj} {cls : Value} {d : Option Addr} {pn : List (Addr × Obj)}
/-- isinstance(e, C) of a caught error with a dict -/
theorem call_isX (C : ExcC X.K D) (hz : Zc cls d oe) (hf : ∃ vs, oe.data = .fields vs) : CallR (X.suite a ((a, oe) :: pn)) (.builtin "isinstance")
    (fun xs H Q => ∃ c b dd fs, xs = [.ref a, .ref c] ∧ cls = .ref D ∧ d = some dd ∧ H dd = some (.xd fs) ∧ PySem.W.kitOne X.K (.ref D) (.ref c) = some b ∧ Q (.bl b) H) := by
  intro pins s σ H xs us Q I r ⟨c, b, dd, fs, ex, ec, ed, hd, e, q⟩
  subst ex
  obtain ⟨u1, u2, rfl, r1, r2⟩ := vals2 r
  obtain rfl : u1 = Value.ref a := r1
  obtain rfl : u2 = Value.ref c := r2
  obtain ⟨ha, _⟩ := I.pin (a, oe) (List.mem_append_left _ List.mem_cons_self)
  obtain ⟨vs, hv⟩ := hf
  obtain ⟨mA, hns, hr⟩ : ObjOk X.prog X.w H s.heap dd (.xd fs) := I.hok dd _ hd
  obtain ⟨od, ho, hl⟩ := lookIn_ns hns
  have J : PySem.W.InstAt s.heap a oe D (some od) := ⟨ha, hz.1.trans ec, by unfold PySem.W.notCls; rw [hv] <;> rfl, by rw [hz.2, ed]; exact ho⟩
  have hcl : (PySem.W.clsIn X.K D).isSome = true := by
    obtain ⟨cd, h, _⟩ := PySem.W.any_some C.hd
    rw [h] <;> rfl
  exact PySem.W.kia_one (PySem.W.kitx_exc hcl C.hg C.hk C.hs C.ha C.hn C.ht C.hm) I.kIn J e (fun z => nomatch z) fun tk => ⟨.bl b, H, I.kept (t' := tk) fun _ _ z => z, rfl, q⟩
end

section
variable {X : Cx} {a Fl : Addr} {oe : Obj} {cls : Value} {d : Option Addr} {pn : List (Addr × Obj)} {c : CL} {it ie j k : Nat} {told e xF xO : Str} {p1 p2 p3 p4 p5 p6 p7 p8 p9 p10 p11 p12 p13 p14 : Pos}
/-- told = ('..', e.f, isinstance(e, F), isinstance(e, O)) -/
theorem cl_suite (hz : Zc cls d oe) (hf : ∃ vs, oe.data = .fields vs) (T : XfC X.K c.C) (T2 : ExcC X.K c.C) (hno : PySem.W.findIn X.K (.ref c.C) c.fld = some none)
    (hN : X.N.Nodup) (hit : X.N[it]? = some told) (hlt : Loc X.env.scope told) (hft : X.fn told = true ∨ X.env.scope.names.lookup told = some .local) (hie : X.N[ie]? = some e) (hve : Vis X.env.scope e) (hgF : Gl X xF) (hmF : X.mg xF = some (.ref Fl)) (hgO : Gl X xO) (hmO : X.mg xO = some (.ref c.O))
    (hgi : Gl X "isinstance") (hmi : X.mg "isinstance" = none) (de : (e == ("__debug__" : Str)) = false) (de2 : (e == ("__classdict__" : Str)) = false) (dF : (xF == ("__debug__" : Str)) = false) (dO : (xO == ("__debug__" : Str)) = false) :
    PSs (X.suite a ((a, oe) :: pn)) [.Assign [.Name told p1] (.Tuple [.Constant (.str c.tag) j p2, .Attribute (.Name e p3) c.fld p4, .Call (.Name "isinstance" p5) [.Name e p6, .Name xF p7] [] p8, .Call (.Name "isinstance" p9) [.Name e p10, .Name xO p11] [] p12] k p13) p14]
      (fun D σ H => σ[ie]? = some (some (.ref a)) ∧ tupCl X.K Fl c cls d H fun x H' => D.nx (σ.set it (some x)) H') := by
  have vE : ∀ {p : Pos}, PE (X.suite a ((a, oe) :: pn)) (.Name e p) (tVar ie) := pe_var (X := X.suite a ((a, oe) :: pn)) hie hve de de2
  have isF := pe_callB (X := X.suite a ((a, oe) :: pn)) (p := p5) (pos := p8) (call_isX T2 hz hf) hgi hmi (by decide +kernel) (pa_cons (vE (p := p6)) (pa_cons (pe_glob (X := X.suite a ((a, oe) :: pn)) (pos := p7) hgF hmF (show RelV (V.ref Fl) (Value.ref Fl) from rfl) dF) pa_nil))
  have isO := pe_callB (X := X.suite a ((a, oe) :: pn)) (p := p9) (pos := p12) (call_isX T2 hz hf) hgi hmi (by decide +kernel) (pa_cons (vE (p := p10)) (pa_cons (pe_glob (X := X.suite a ((a, oe) :: pn)) (pos := p11) hgO hmO (show RelV (V.ref c.O) (Value.ref c.O) from rfl) dO) pa_nil))
  have fl := pe_xf (X := X) (pos := p4) (pn := pn) T hno hz hf (vE (p := p3))
  have tp := pe_tupH (k := k) (pos := p13) (pa_cons (pe_str (X := X.suite a ((a, oe) :: pn)) (x := c.tag) (j := j) (pos := p2)) (pa_cons fl (pa_cons isF (pa_cons isO pa_nil))))
  refine PSs.imp (pss_one (ps_set (pos := p14) (pos' := p1) (X := X.suite a ((a, oe) :: pn)) hN hit hlt tp (by rfl) hft)) fun D σ H ⟨h0, hc, dd, fs, v, b1, b2, ed, hd, hl, k1, k2, q⟩ => ?_
  subst hc
  show ∃ x, _ ∧ _ = _ ∧ _
  refine ⟨.ref a, h0, rfl, rfl, dd, fs, v, ed, hd, hl, ?_⟩
  refine ⟨.ref a, h0, Fl, b1, dd, fs, rfl, rfl, ed, hd, k1, ?_⟩
  exact ⟨.ref a, h0, c.O, b2, dd, fs, rfl, rfl, ed, hd, k2, by rw [sizeLine_eq]; simp, q⟩
end

def clS (K : PySem.W.Frag) (Fl : Addr) (it ie : Nat) (c : CL) : Clause := (.ref c.C, fun a cls d D σ H => σ[ie]? = some (some (.ref a)) ∧ tupCl K Fl c cls d H fun x H' => D.nx (σ.set it (some x)) H')
/-- the reading: told = ('told', call()), or what a clause tells -/
def TTheard (K : PySem.W.Frag) (Fl : Addr) (tag : Str) (l : List CL) : (XK → Hp → VK → Prop) → Hp → VK → Prop := fun tl H Q => tl (wCl K Fl Q l) H fun x H1 => HardQ H1 [.str tag, x] Q
theorem takes_len {X : Cx} {W : WX} (t : Takes X W) : Takes X (fun cls d σ H => σ.length = X.N.length → W cls d σ H) := fun u s' ⟨a, B, sI, pins, σ, H, cls, d, e, I, nb, up, sky, na, os, ag, w⟩ =>
  t u s' ⟨a, B, sI, pins, σ, H, cls, d, e, I, nb, up, sky, na, os, ag, w I.len⟩
theorem tupCl_imp {K : PySem.W.Frag} {Fl : Addr} {c : CL} {cls : Value} {d : Option Addr} {H : Hp} {Q Q' : VK} (h : tupCl K Fl c cls d H Q) (i : ∀ x H, Q x H → Q' x H) : tupCl K Fl c cls d H Q' := by
  obtain ⟨h1, dd, fs, v, b1, b2, h2, h3, h4, h5, h6, h7⟩ := h
  exact ⟨h1, dd, fs, v, b1, b2, h2, h3, h4, h5, h6, fun p o e1 e2 => i _ _ (h7 p o e1 e2)⟩
theorem set_at {σ : Sl} {i : Nat} {x : V} (h : i < σ.length) : (σ.set i (some x))[i]? = some (some x) := List.getElem?_set_self h
theorem wCl_all {K : PySem.W.Frag} {Fl : Addr} {it ie : Nat} {Q : VK} {D : Ends} (hD : D.nx = fun σ H => ∃ v, σ[it]? = some (some v) ∧ Q v H) (hne : it ≠ ie) {σ : Sl} (h1 : it < σ.length) (h2 : ie < σ.length) {cls : Value} {d : Option Addr} {H : Hp} :
    ∀ {l : List CL}, wCl K Fl Q l cls d H → wAll K ie (fun _ _ _ _ => False) D (l.map (clS K Fl it ie)) cls d σ H
  | [], h => h
  | c :: l, ⟨b, hb, yes, no⟩ => by
    refine ⟨b, hb, fun e a na => ⟨set_at h2, tupCl_imp (yes e) fun x H' q => ?_⟩, fun e => wCl_all hD hne h1 h2 (no e)⟩
    show D.nx _ H'
    rw [hD]
    refine ⟨x, ?_, q⟩
    rw [List.getElem?_set_ne (Ne.symm hne)]
    exact set_at (by simpa using h1)
section
variable {X : Cx} {Ng : List Str} {x a e told q tag : Str} {sg : Scope} {g Fl : Addr} {cdg : Value} {j k it ie : Nat} {h0 : ExceptHandler} {hds : List ExceptHandler} {l : List CL} {p1 p2 p3 p4 p5 p6 p7 p8 p9 : Pos}
theorem heard_gives (hN : Ng.Nodup) (hit : Ng[it]? = some told) (hlt : sg.names.lookup told = some .local) (hie : Ng[ie]? = some e) (hle : sg.names.lookup e = some .local) (hne : it ≠ ie) (dt : (told == ("__debug__" : Str)) = false) (dt2 : (told == ("__classdict__" : Str)) = false)
    (hst : ∀ f : Addr, (L2.start Ng [V.ref f])[0]? = some (some (V.ref f)))
    (hh : ∀ (s : Shared) (H : Hp), HdsAs (cxOf C8.CX0 X.prog X.w X.K X.mg X.base Ng x sg g cdg X.A X.stack s H C8.E0).nox e (h0 :: hds) (l.map (clS X.K Fl it ie))) :
    LamX.GivesTo X Ng x sg g cdg [.Try [.Assign [.Name told p1] (.Tuple [.Constant (.str tag) j p2, .Call (.Name a p3) [] [] p4] k p5) p6] (h0 :: hds) [] [] p7, .Return (some (.Name told p8)) p9] a q (TTheard X.K Fl tag l) := by
  intro f c' s H Q tl act hc h
  have l1 : it < Ng.length := (List.getElem?_eq_some_iff.mp hit).1
  have l2 : ie < Ng.length := (List.getElem?_eq_some_iff.mp hie).1
  have ls : ∀ f : Addr, (L2.start Ng [V.ref f]).length = Ng.length := fun f => by
    unfold L2.start
    simp
    omega
  refine ⟨_, pss_cons (ps_try_all (X := (cxOf C8.CX0 X.prog X.w X.K X.mg X.base Ng x sg g cdg X.A X.stack s H C8.E0).nox) (n := e) (i := ie)
      (tb := fun W D σ H => ∃ Ech : XK, (∀ cls d σ' H', Ech cls d H' → σ'.length = Ng.length → W cls d σ' H') ∧ σ[0]? = some (some (.ref f)) ∧ H c' = some (LamX.CodeO c' q) ∧ tl Ech H fun x H1 => HardQ H1 [.str tag, x] fun z H2 => D.nx (σ.set it (some z)) H2)
      rfl rfl hN hie hle LamX.takes0 (fun W pn xe tk _ => ?_) (hh s H)) (pss_one (ps_ret (pe_var hit (.inl hlt) dt dt2))), ?_⟩
  · refine ⟨fun pins s' σ H D I ⟨Ech, hW, h1, h2, h3⟩ => ?_⟩
    have hp := act _ pn xe Ech p3 p4 (takes_len tk) fun cls d σ' H' he hl => hW cls d σ' H' he hl
    have tp := pe_tupH (k := k) (pos := p5) (pa_cons (pe_str (x := tag) (j := j) (pos := p2)) (pa_cons hp pa_nil))
    exact (pss_one (ps_set (pos := p6) (pos' := p1) hN hit (.inl hlt) tp (by rfl) (.inr hlt))).run pins s' σ H D I ⟨h1, h2, by
      have z : ∀ x : V, (List.length [V.str tag, x] ≤ sizeLine) = True := fun x => eq_true (by rw [sizeLine_eq]; simp)
      show tl _ _ fun x H1 => List.length [V.str tag, x] ≤ sizeLine ∧ HardQ H1 [V.str tag, x] _
      simp only [z, true_and]
      exact h3⟩
  · refine ⟨wCl X.K Fl Q l, fun cls d σ' H' w hl => wCl_all rfl hne (by rw [hl]; exact l1) (by rw [hl]; exact l2) w, hst f, hc, ?_⟩
    have e1 : (fun (z : V) (H2 : Hp) => ∃ v, ((L2.start Ng [V.ref f]).set it (some z))[it]? = some (some v) ∧ Q v H2) = Q := funext fun z => funext fun H2 => propext ⟨fun ⟨v, e1, q⟩ => by
      rw [set_at (by rw [ls]; exact l1)] at e1
      cases e1
      exact q, fun q => ⟨z, set_at (by rw [ls]; exact l1), q⟩⟩
    show tl _ H fun x H1 => HardQ H1 [.str tag, x] fun z H2 => ∃ v, _ ∧ _
    rw [e1]
    exact h
end
end FL
namespace FL
open PySem PySem.Spec PyProof.Rows L2

/-- what is tracked stays tracked -/
def Kept (H H1 : Hp) : Prop := ∀ b u, H b = some u → ∃ u', H1 b = some u'
section
variable {X : Cx} {pins : List (Addr × Obj)} {σ : Sl} {H : Hp} {s : Shared}
theorem new_off (J : Inv X pins σ H s) {f : Addr} (hf : s.heap.objs.size ≤ f) : f ∉ frs X.stack := fun z => by
  rcases List.mem_cons.mp (J.stkSub _ z) with e | e
  · exact absurd (Nat.lt_of_lt_of_le (e ▸ J.lt) hf) (Nat.lt_irrefl _)
  · exact J.nofs hf e
/-- the table behind a new code object -/
theorem tabs_more {T : List (Addr × Str)} {P c1 : Addr} {q : Str} {ps : Array Value} {pos : Pos} (hT : LamX.Tabs T H) (hP : H P = some (.tbl ps)) (ht : TriplesOk ps.toList) (hu : ∀ p ∈ T, p.1 = P → p.2 = q) (hq : ∃ n, (P, n) ∈ T) (nC : H c1 = none) :
    LamX.ExtN H (upd (upd H P (.tbl (ps ++ #[rawInt pos.line, rawInt pos.col, .ref c1]))) c1 (LamX.CodeO c1 q)) ∧ LamX.Tabs T (upd (upd H P (.tbl (ps ++ #[rawInt pos.line, rawInt pos.col, .ref c1]))) c1 (LamX.CodeO c1 q)) := by
  have ext : LamX.ExtN H (upd (upd H P (.tbl (ps ++ #[rawInt pos.line, rawInt pos.col, .ref c1]))) c1 (LamX.CodeO c1 q)) := fun b o e n => by
    have hbP : b ≠ P := fun z => n ps (by rw [z, hP] at e; exact (Option.some.inj e).symm)
    rw [upd_ne (ne_of_none e nC), upd_ne hbP, e]
  refine ⟨ext, fun p hp => ?_⟩
  obtain ⟨qs, a1, a2, a3⟩ := hT p hp
  by_cases hb : p.1 = P
  · rw [hb, hP] at a1
    cases a1
    have tl : (ps ++ #[rawInt pos.line, rawInt pos.col, .ref c1]).toList = ps.toList ++ [rawInt pos.line, rawInt pos.col, .ref c1] := by simp
    rw [hu p hp hb] at a3 ⊢
    refine ⟨_, by rw [hb, upd_ne (ne_of_none hP nC), upd_same], tl ▸ PySem.TriplesOk_snoc _ _ _ _ ht, fun p1 cv hcv => ?_⟩
    rw [tl] at hcv
    rcases LamX.among_app _ ht hcv with z | z
    · obtain ⟨c0, e1, e2⟩ := a3 p1 cv z
      exact ⟨c0, e1, ext _ _ e2 LamX.codeO_ne⟩
    · exact ⟨c1, z, upd_same⟩
  · refine ⟨qs, by rw [upd_ne (ne_of_none a1 nC), upd_ne hb, a1], a2, fun p1 cv hcv => ?_⟩
    obtain ⟨c0, e1, e2⟩ := a3 p1 cv hcv
    exact ⟨c0, e1, ext _ _ e2 LamX.codeO_ne⟩
/-- the lambda is made -/
theorem lam_mk {T : List (Addr × Str)} {c P : Addr} {params : Arguments} {body : Expr} {scope : Scope} {pos : Pos} {E Q : Value → Shared → Prop} (J : Inv X pins σ H s) (TB : LamX.TabB X.base X.mg c P) (hcode : X.env.code = .ref c)
    (hm : (P, X.env.qual ++ "<lambda>") ∈ T) (hu : ∀ p ∈ T, p.1 = P → p.2 = X.env.qual ++ "<lambda>") (hT : LamX.Tabs T H) (hdef : defaultsOf params X.env = ([], [])) (hfree : ∀ y ∈ scope.names, y.2 = .free → ∃ c, X.env.cells.lookup y.1 = some c)
    (h : ∀ (f c1 : Addr) (pm ctv : Value) (H1 : Hp) (s1 : Shared), Inv X pins σ H1 s1 → LamX.ExtN H H1 → Kept H H1 → LamX.Tabs T H1 →
      s1.heap.get? f = some (PySem.W.kla_obj "<lambda>" (X.env.qual ++ "<lambda>") params body scope (cloFrom X.env.cells scope.names []) pm c1 ctv) → H1 f = none → f ∉ frs X.stack → H1 c1 = some (LamX.CodeO c1 (X.env.qual ++ "<lambda>")) → Q (.ref f) s1) :
    wpAny (model X.prog X.w) X.A (eval (.Lambda params body scope pos) X.env) Q E s := by
  obtain ⟨ps, hP, ht, ha⟩ := hT _ hm
  have blt : s.heap.BuiltinsAt X.mg P := TB.bm.keeps J.bk
  have rawP : s.heap.get? P = some { cls := .none, data := .fields ps } := J.hok P _ hP
  refine PySem.W.kla_eval hdef ?_
  cases hc : codeAmong pos ps.toList with
  | some cv =>
    obtain ⟨c1, rfl, hco⟩ := ha pos cv hc
    refine PySem.W.kla_makeFunctionHit (mg := X.mg) (c := c) (P := P) (ps := ps) (closure_ok hfree) J.ok.glob (J.mod.glob.keeps J.bk) hcode (TB.code.keeps J.bk) rawP ht hc blt fun ctv h1 tk hx hsz => ?_
    have J1 : Inv X pins σ H { s with heap := h1.push (PySem.W.kla_obj "<lambda>" (X.env.qual ++ "<lambda>") params body scope (cloFrom X.env.cells scope.names []) ((X.mg "__name__").getD .none) c1 ctv), toks := tk } :=
      J.kept fun b o e => Heap.get?_push_of_some _ (hx b o e)
    exact h h1.objs.size c1 _ ctv H _ J1 (.refl H) (fun b u e => ⟨u, e⟩) hT (Heap.get?_push_size _ rfl) (J.hok.fresh hsz) (new_off J hsz) hco
  | none =>
    refine PySem.W.kla_makeFunction (mg := X.mg) (c := c) (P := P) (ps := ps) (closure_ok hfree) J.ok.glob (J.mod.glob.keeps J.bk) hcode (TB.code.keeps J.bk) rawP ht hc TB.gP blt fun c1 ctv h1 tk hx hge hlt hrec htb => ?_
    obtain ⟨c2, oc, vs, t, e2, hoc, hd, hv⟩ := hrec
    cases e2
    have grows : s.heap.objs.size ≤ h1.objs.size := Nat.le_trans hge (Nat.le_of_lt hlt)
    have nC : H c1 = none := J.hok.fresh hge
    obtain ⟨ext, tabs⟩ := tabs_more (pos := pos) hT hP ht hu ⟨_, hm⟩ nC
    have J1 := LamX.inv_table (t' := tk) (more := #[rawInt pos.line, rawInt pos.col, .ref c1]) (h' := h1.push (PySem.W.kla_obj "<lambda>" (X.env.qual ++ "<lambda>") params body scope (cloFrom X.env.cells scope.names []) ((X.mg "__name__").getD .none) c1 ctv)) J hP
      (fun b o hb e => Heap.get?_push_of_some _ (hx b o hb e)) (Heap.get?_push_of_some _ htb) hge ⟨oc, vs, t, Heap.get?_push_of_some _ hoc, hd, hv⟩
    refine h h1.objs.size c1 _ ctv _ _ J1 ext (fun b u e => ?_) tabs (Heap.get?_push_size _ rfl) ?_ (new_off J grows) upd_same
    · by_cases hb : b = P
      · rw [hb, upd_ne (ne_of_none hP nC)]
        exact ⟨_, upd_same⟩
      · exact ⟨u, by rw [upd_ne (ne_of_none e nC), upd_ne hb, e]⟩
    · rw [upd_ne (Nat.ne_of_gt hlt), upd_ne (Nat.ne_of_gt (Nat.lt_of_lt_of_le (Heap.lt_size rawP) grows))]
      exact J.hok.fresh grows
end
def tLamK (T : List (Addr × Str)) (TT : (XK → Hp → VK → Prop) → Hp → VK → Prop) (t : XK → TE) : TE := fun σ H Q => LamX.Tabs T H ∧ ∀ H1, LamX.ExtN H H1 → Kept H H1 → LamX.Tabs T H1 → TT (fun E H' Q' => t E σ H' Q') H1 Q
section
variable {X : Cx}
/-- x(lambda: body) -/
theorem pe_lamK {T : List (Addr × Str)} {TT : (XK → Hp → VK → Prop) → Hp → VK → Prop} {x a : Str} {g c P : Addr} {k : Nat} {pg : Arguments} {bg : List Stmt} {sg : Scope} {dV kV doc pm cdv ct oc : Value} {an od : Option Addr} {osl : Array (Option Value)} {Ng : List Str}
    {params : Arguments} {body : Expr} {scope : Scope} {t : XK → TE} {p lpos pos : Pos} (hg : Gl X x) (hm : X.mg x = some (.ref g)) (hk : PySem.W.keepIn X.K (.ref g) = true)
    (lk : X.K.lookup g = some ⟨oc, od, .func (PySem.W.fnOf x x pg bg sg dV kV doc pm an cdv ct), osl⟩) (hcg : PySem.W.codeIn X.K cdv x = true) (hb : L2.Binds X.K (PySem.W.fnOf x x pg bg sg dV kV doc pm an cdv ct) [a] []) (Sg : FnScope Ng [a] sg) (hNg : Ng[0]? = some a) (hva : Vis sg a)
    (hG : LamX.GivesTo X Ng x sg g cdv bg a (X.env.qual ++ "<lambda>") TT) (TB : LamX.TabB X.base X.mg c P) (hcode : X.env.code = .ref c) (hmT : (P, X.env.qual ++ "<lambda>") ∈ T) (hu : ∀ p ∈ T, p.1 = P → p.2 = X.env.qual ++ "<lambda>") (hr : Room (k + 2) X.A)
    (L : LamX.LamS X.env.scope scope) (hdef : defaultsOf params X.env = ([], [])) (hbind : ∀ (q : Str) (cl : List (Str × Addr)) (pm cv ctv : Value), bindArgs (PySem.W.kla_fn "<lambda>" q params body scope cl pm cv ctv) ⟨[], []⟩ = pure [])
    (hbody : ∀ (A : Around) (outer : List PySem.Env) (s : Shared) (H : Hp) (E : XK) (f c1 : Addr), Room k (A.deeper (LamX.lamEnv X scope s.heap.objs.size f c1)) → PE (LamX.lamCx X A outer s H E scope f c1) body (t E))
    (hdb : (x == ("__debug__" : Str)) = false := by decide) (hd : (a == ("__debug__" : Str)) = false := by decide) (hcd : (a == ("__classdict__" : Str)) = false := by decide) :
    PE X (.Call (.Name x p) [.Lambda params body scope lpos] [] pos) (tLamK T TT t) := by
  refine ⟨fun pins s σ H Q J ⟨hT, h⟩ => wpAny_Call_Name_kw (ld_glob J hg hm ?_ hdb)⟩
  refine PySem.W.callWith_K (h₀ := X.base) J.ok.mod.kin hk ?_ (by rfl) (by rfl)
  show wpAny _ _ (spliced ((false, eval (.Lambda params body scope lpos) X.env) :: backTo pos (starEach [] X.env))) _ _ s
  refine Calls.spliced_cons (lam_mk J TB hcode hmT hu hT hdef (L.has J.ok) fun f c1 pm1 ctv H1 s1 J1 eN kp T1 hf hfn hfr hco => Calls.spliced_nil ⟨J1.kIn, ?_⟩)
  have run := LamX.run_ofS (CX := C8.CX0) (P := X.prog) (w := X.w) (mg := X.mg) (base := X.base) (N := Ng) (ps := [a]) (us := [.ref f]) (vs := [.ref f]) (Q := Q) (E := C8.E0) lk hcg Sg hr J1.env0 (hb s1 [.ref f] J1.kIn rfl) (.cons rfl .nil) rfl fun hr1 => by
    obtain ⟨u, pu, qu⟩ := hG f c1 s1 H1 Q (fun E H2 Q2 => t E σ H2 Q2) (fun W pn xe E p1 p2 tk hW => LamX.pe_act (i := 0) J1 L hf hfn hfr (hbind _ _ _ _ _) tk hW hr1 (fun A outer s H hr2 => hbody A outer s H E f c1 hr2) hNg hva hd hcd) hco (h H1 eN kp T1)
    exact ⟨u, pu.nox, qu⟩
  refine wpAny_call (codeAny_mono run fun r s2 hq => ?_)
  cases r with
  | error e => exact (show False from hq).elim
  | ok fl =>
    cases fl with
    | ret u => exact J1.after hq
    | next => exact hq.elim
    | brk => exact hq.elim
    | cont => exact hq.elim
end
end FL
namespace FL
open PySem PySem.Spec PyProof.Rows L2

section
variable {sg : Sta} {g : Gh} {ok : Addr → Prop} {S : Sad} {K : PySem.W.Frag} {H H1 : Hp} {σ : Sl} {ρ : Env} {o : Orc}
theorem CtA.ntbl {d : PyData} {a : Addr} (h : CtA ok K H d a) {u : HO} (e : H a = some u) : ∀ ps, u ≠ .tbl ps := by
  intro ps z
  subst z
  cases d with
  | list ds => obtain ⟨xs, h, _⟩ := h; rw [e] at h; cases h
  | dict ps =>
    rcases h with ⟨kvs, h, _⟩ | ⟨kvs, h, _⟩
    · rw [e] at h; cases h
    · rw [e] at h; cases h
  | none => exact h.elim
  | bool b => exact h.elim
  | int i => exact h.elim
  | str x => exact h.elim
  | tuple xs => exact h.elim
theorem ext_stp (eN : LamX.ExtN H H1) : Stp ok H H1 := fun a u e q => eN a u e fun ps z => by
  subst z
  rcases q with ⟨_, t⟩ | q
  · exact t ps rfl
  · exact q
/-- tables of code objects are written -/
theorem Rst.ext (r : Rst sg g ok S K H σ ρ o) (eN : LamX.ExtN H H1) (kp : Kept H H1) (tb : LamX.Tabs S.tb H1) : Rst sg g ok S K H1 σ ρ o where
  len := r.len
  pl := fun i d e n => let ⟨x, e1, e2⟩ := r.pl i d e n; ⟨x, e1, e2.step (fun _ z => z) (ext_stp eN)⟩
  ow := fun i d e n => by
    obtain ⟨a, e1, w⟩ := r.ow i d e n
    exact ⟨a, e1, w.nok, w.nS, w.new, w.ct.step (fun _ _ z _ _ => z) (ext_stp eN) fun u hu => eN a u hu (w.ct.ntbl hu)⟩
  inj := r.inj
  fr := fun a e => r.fr a (by
    cases q : H a with
    | none => rfl
    | some u =>
      obtain ⟨u1, h1⟩ := kp a u q
      rw [e] at h1; cases h1)
  sub := r.sub
  h0 := r.h0
  chg := fun a u e n t => eN a u (r.chg a u e n t) t
  trk := fun a u e => let ⟨u1, q⟩ := r.trk a u e; kp a u1 q
  orc := by
    refine ⟨?_, tb, r.orc.2.2⟩
    have r1 := r.orc.1
    unfold RStat at r1 ⊢
    split at r1
    · trivial
    · exact ⟨eN _ _ r1.1 fun ps z => (by cases z), eN _ _ r1.2.1 fun ps z => (by cases z), eN _ _ r1.2.2.1 fun ps z => (by cases z), r1.2.2.2⟩
    · exact r1.elim
  sS := r.sS
  ist := r.ist
theorem Nx.ext (r : Rst sg g ok S K H σ ρ o) (eN : LamX.ExtN H H1) (kp : Kept H H1) (tb : LamX.Tabs S.tb H1) : Nx true sg g ok S K H σ ρ ρ o H1 ok :=
  ⟨r.ext eN kp tb, fun _ h => h, fun _ h => .inl h, fun i d _ e => ⟨d, e⟩, kp, fun a u e _ t _ => eN a u e t⟩
end

/-- a clause by data: the class's name, the field, the word, the answers of isinstance -/
structure CLd where
  cls : Str
  fld : Str
  tag : Str
  b1 : Bool
  b2 : Bool
def hearD : List CLd → Exn → Option PyData
  | [], _ => none
  | k :: r, c => if c.cls = k.cls then match c.fs with
    | [(f, v)] => if f = k.fld then some (.tuple [.str k.tag, v, .bool k.b1, .bool k.b2]) else none
    | _ => none
    else hearD r c
def dHeard (T : List (Addr × Str)) (tag : Str) (cl : List CLd) (d : DE) : DE := fun ρ o => if o.tb = T then match d ρ o with
  | .ok v ρ1 o1 => .ok (.tuple [.str tag, v]) ρ1 o1
  | .ex c ρ1 o1 => .ofO (hearD cl c) ρ1 o1
  | .bad => .bad
  else .bad
/-- the data's clause is the text's -/
structure HCl (K : PySem.W.Frag) (mg : Str → Option Value) (Fl : Addr) (k : CLd) (c : CL) : Prop where
  cls : mg k.cls = some (.ref c.C)
  fld : c.fld = k.fld
  tag : c.tag = k.tag
  b1 : PySem.W.kitOne K (.ref c.C) (.ref Fl) = some k.b1
  b2 : PySem.W.kitOne K (.ref c.C) (.ref c.O) = some k.b2
theorem hear_mem {c : Exn} {v : PyData} : ∀ {l : List (CLd × CL)}, hearD (l.map (·.1)) c = some v → ∃ p ∈ l, p.1.cls = c.cls
  | [], h => by cases h
  | p :: r, h => by
    by_cases e : c.cls = p.1.cls
    · exact ⟨p, List.mem_cons_self, e.symm⟩
    · simp only [List.map_cons, hearD, if_neg e] at h
      obtain ⟨q, hq, e⟩ := hear_mem h
      exact ⟨q, List.mem_cons_of_mem _ hq, e⟩
theorem hear_ok {K : PySem.W.Frag} {mg : Str → Option Value} {Fl : Addr} {ok : Addr → Prop} {H : Hp} {c : Exn} {cls : Value} {d : Option Addr} {v : PyData} {Q : VK} {L : List (CLd × CL)} (hL : ∀ p ∈ L, HCl K mg Fl p.1 p.2)
    (hx : ∀ p ∈ L, ∀ q ∈ L, PySem.W.exmOne K (.ref q.2.C) (.ref p.2.C) = some (decide (q.1.cls = p.1.cls))) (x : ExR mg ok K H c cls d) (hq : ∀ z H2, Nw true ok K H H2 v z → Q z H2) :
    ∀ {l : List (CLd × CL)}, (∀ p ∈ l, p ∈ L) → hearD (l.map (·.1)) c = some v → wCl K Fl Q (l.map (·.2)) cls d H
  | [], _, h => by cases h
  | p :: r, hl, h => by
    obtain ⟨C, dd, vs, h1, h2, h3, h4, h5⟩ := x
    obtain ⟨q, hqm, eq⟩ := hear_mem h
    have hC : C = q.2.C := by
      have z := (hL q (hl q hqm)).cls
      rw [eq, h1] at z
      injection z with z; injection z with z
    refine ⟨decide (q.1.cls = p.1.cls), by rw [h2, hC]; exact hx p (hl p List.mem_cons_self) q (hl q hqm), fun e => ?_, fun e => ?_⟩
    · have e : q.1.cls = p.1.cls := of_decide_eq_true e
      have ec : c.cls = p.1.cls := eq.symm.trans e
      have P := hL p (hl p List.mem_cons_self)
      have hC2 : C = p.2.C := by
        have z := P.cls
        rw [← ec, h1] at z
        injection z with z; injection z with z
      simp only [List.map_cons, hearD, if_pos ec] at h
      cases hf : c.fs with
      | nil => rw [hf] at h; cases h
      | cons y ys =>
        obtain ⟨f, u⟩ := y
        cases ys with
        | cons y2 ys => rw [hf] at h; cases h
        | nil =>
          rw [hf] at h h5
          simp only at h
          by_cases hfl : f = p.1.fld
          · rw [if_pos hfl] at h
            injection h with h
            cases h5 with
            | cons hr ht =>
              rename_i xv vs'
              cases ht
              refine ⟨by rw [h2, hC2], dd, _, xv, p.1.b1, p.1.b2, h3, h4, ?_, P.b1, P.b2, fun a o e1 e2 => hq _ _ ?_⟩
              · rw [P.fld, ← hfl]
                simp [List.lookup]
              · rw [← h, P.tag]
                exact Nw.hard e1 e2 (.cons (.str _) (.cons hr (.cons (.bl _) (.cons (.bl _) .nil))))
          · rw [if_neg hfl] at h; cases h
    · have e : q.1.cls ≠ p.1.cls := of_decide_eq_false e
      have ec : c.cls ≠ p.1.cls := fun z => e (eq.trans z)
      simp only [List.map_cons, hearD, if_neg ec] at h
      exact hear_ok hL hx ⟨C, dd, vs, h1, h2, h3, h4, h5⟩ hq (fun z hz => hl z (List.mem_cons_of_mem _ hz)) h
section
variable {X : Cx} {sg : Sta} {W : WX} {e : Expr} {d : DE} {w p f1 f : Bool} {T : List (Addr × Str)} {Fl : Addr} {tag : Str} {L : List (CLd × CL)}
theorem e_heard (hL : ∀ p ∈ L, HCl X.K X.mg Fl p.1 p.2) (hx : ∀ p ∈ L, ∀ q ∈ L, PySem.W.exmOne X.K (.ref q.2.C) (.ref p.2.C) = some (decide (q.1.cls = p.1.cls)))
    (h : PE X e (tLamK T (TTheard X.K Fl tag (L.map (·.2))) fun E => tE X.K X.mg sg (wE E) false p f1 d)) : PE X e (tE X.K X.mg sg W w false f (dHeard T tag (L.map (·.1)) d)) := by
  refine PE.imp h fun σ H Q ⟨g, ρ, o, S, ok, r, q⟩ => ?_
  unfold dHeard at q
  by_cases hT : o.tb = T
  · rw [if_pos hT] at q
    have hS : S.tb = T := r.orc.2.2.symm.trans hT
    refine ⟨hS ▸ r.orc.2.1, fun H1 eN kp T1 => ?_⟩
    have n0 := Nx.ext r eN kp (hS ▸ T1)
    show tE X.K X.mg sg (wE (wCl X.K Fl Q (L.map (·.2)))) false p f1 d σ H1 fun x H2 => HardQ H2 [.str tag, x] Q
    cases e1 : d ρ o with
    | bad => rw [e1] at q; exact q.elim
    | ok v ρ1 o1 =>
      rw [e1] at q
      refine tE.of_ok n0.st e1 fun x H2 ok2 n1 rx _ a oo h1 h2 => ?_
      exact fin_op (n0.trans n1).weak (Nw.hard h1 h2 (.cons (.str _) (.cons rx .nil))) q
    | ex c ρ1 o1 =>
      rw [e1] at q
      simp only [Res.ofO] at q
      refine tE.of_ex n0.st e1 fun cls dd H2 ok2 n1 x1 => ?_
      cases e2 : hearD (L.map (·.1)) c with
      | none => rw [e2] at q; exact q.elim
      | some v =>
        rw [e2] at q
        exact hear_ok hL hx x1 (fun z H3 nw => fin_op (n0.trans n1).weak nw.any q) (fun _ h => h) e2
  · rw [if_neg hT] at q; exact q.elim
end
end FL
namespace FL
open PySem PySem.Spec PyProof.Rows L2

section
variable {sg : Sta} {g : Gh} {ok : Addr → Prop} {S : Sad} {K : PySem.W.Frag} {H : Hp} {σ : Sl} {ρ : Env} {o : Orc}
/-- where the state's parts are -/
theorem Rst.parts (r : Rst sg g ok S K H σ ρ o) {i : Nat} (hi : sg.ist = some i) {q : OrcS} (hq : o.st = some q) :
    ∃ s c l, S.st = some (s, c, l) ∧ σ[i]? = some (some (.ref s)) ∧ H s = some (.dK (orcFields c l q)) ∧ H c = some (.lst (q.cells.map V.int)) ∧ H l = some (.lst (q.lefts.map V.int)) ∧ c ≠ l := by
  have ro := r.orc.1
  rw [hq] at ro
  cases hS : S.st with
  | none => rw [hS] at ro; exact ro.elim
  | some t =>
    obtain ⟨s, c, l⟩ := t
    rw [hS] at ro
    exact ⟨s, c, l, rfl, r.ist i hi s c l hS, ro.1, ro.2.1, ro.2.2.1, ro.2.2.2⟩
theorem tabs_upd {T : List (Addr × Str)} {a : Addr} {u v : HO} (t : LamX.Tabs T H) (e : H a = some u) (h1 : ∀ ps, u ≠ .tbl ps) (h2 : ∀ f, u ≠ .ext f) : LamX.Tabs T (upd H a v) := fun p hp => by
  obtain ⟨ps, e1, e2, e3⟩ := t p hp
  refine ⟨ps, (upd_ne fun z => ?_).trans e1, e2, fun pos cv hc => ?_⟩
  · rw [z, e] at e1
    exact h1 ps (Option.some.inj e1)
  · obtain ⟨c, f1, f2⟩ := e3 pos cv hc
    refine ⟨c, f1, (upd_ne fun z => ?_).trans f2⟩
    rw [z, e] at f2
    exact h2 _ (Option.some.inj f2)
theorem chg_upd {a : Addr} (h : inS S a) (u : HO) : Chg S H (upd H a u) :=
  ⟨fun b v e n _ => by rw [upd_ne (show b ≠ a from fun z => n (by rw [z]; exact h)), e], fun b v e => by
    by_cases hb : b = a
    · exact ⟨u, by rw [hb, upd_same]⟩
    · exact ⟨v, by rw [upd_ne hb, e]⟩⟩
end

def dStAt : DE := fun ρ o => match o.st with
  | some q => .ok (.int q.at_) ρ o
  | none => .bad
def dStLen : DE := fun ρ o => match o.st with
  | some q => .ok (.int q.cells.length) ρ o
  | none => .bad
def atD (s : Option OrcS) (v : PyData) : Option (OrcS × Int) := match s, v with
  | some q, .int i => some (q, i)
  | _, _ => none
theorem atD_some {s : Option OrcS} {v : PyData} {q : OrcS} {i : Int} (h : atD s v = some (q, i)) : s = some q ∧ v = .int i := by
  unfold atD at h
  split at h
  · cases h; exact ⟨rfl, rfl⟩
  · cases h
def dStIx (φ : OrcS → List Int) (e : DE) : DE := fun ρ o => match o.st with
  | some _ => (e ρ o).bind fun v ρ1 o1 => match atD o1.st v with
    | some y => .ofO ((L2.atI (φ y.1) y.2).map .int) ρ1 o1
    | none => .bad
  | none => .bad
def dStAtS (e : DE) : DS := fun ρ o => (e ρ o).bind fun v ρ1 o1 => match atD o1.st v with
  | some y => .ok .nx ρ1 { o1 with st := some { y.1 with at_ := y.2 } }
  | none => .bad

section
variable {X : Cx} {sg : Sta} {W : WX} {e : Expr} {d : DE} {w p f1 f : Bool} {i j : Nat} {x : Str} {pos p1 p2 p3 : Pos}
theorem dget_at {K : PySem.W.Frag} {H : Hp} {s c l : Addr} {q : OrcS} (h : H s = some (.dK (orcFields c l q))) : DGt K H s (.str "at") (some (.int q.at_)) := .inl ⟨_, .inr "at", .inl h, rfl, rfl⟩
theorem dget_cells {K : PySem.W.Frag} {H : Hp} {s c l : Addr} {q : OrcS} (h : H s = some (.dK (orcFields c l q))) : DGt K H s (.str "cells") (some (.ref c)) := .inl ⟨_, .inr "cells", .inl h, rfl, rfl⟩
theorem dget_lefts {K : PySem.W.Frag} {H : Hp} {s c l : Addr} {q : OrcS} (h : H s = some (.dK (orcFields c l q))) : DGt K H s (.str "lefts") (some (.ref l)) := .inl ⟨_, .inr "lefts", .inl h, rfl, rfl⟩
/-- st['at'] -/
theorem e_stAt (hu : X.A.units + 66 < cLine) (hN : X.N[i]? = some x) (hv : Vis X.env.scope x) (hi : sg.ist = some i) (hd : (x == ("__debug__" : Str)) = false := by decide) (hcd : (x == ("__classdict__" : Str)) = false := by decide)
    (hs : PlainIx (.Constant (.str "at") j p2) := by intro _ _; rfl) : PE X (.Subscript (.Name x p1) (.Constant (.str "at") j p2) pos) (tE X.K X.mg sg W w true f dStAt) := by
  refine PE.imp (pe_ix (op_ixD hu) (pe_var hN hv hd hcd) pe_str hs) fun σ H Q ⟨g, ρ, o, S, ok, r, q⟩ => ?_
  unfold dStAt at q
  cases ho : o.st with
  | none => rw [ho] at q; exact q.elim
  | some st =>
    rw [ho] at q
    obtain ⟨s, c, l, hS, es, hs1, hc1, hl1, hcl⟩ := r.parts hi ho
    exact ⟨.ref s, es, s, _, rfl, dget_at hs1, q _ _ ok (.refl r _) (RpM.ofRp r.sub (.int _)) fun _ z => by cases z⟩
/-- len(st['cells']) -/
theorem e_stLen {p9 : Pos} (hu : X.A.units + 66 < cLine) (hN : X.N[i]? = some x) (hv : Vis X.env.scope x) (hi : sg.ist = some i) (hg : Gl X "len") (hm : X.mg "len" = none) (hd : (x == ("__debug__" : Str)) = false := by decide) (hcd : (x == ("__classdict__" : Str)) = false := by decide)
    (hs : PlainIx (.Constant (.str "cells") j p2) := by intro _ _; rfl)
    (he : starEach [.Subscript (.Name x p1) (.Constant (.str "cells") j p2) p3] X.env = (false, eval (.Subscript (.Name x p1) (.Constant (.str "cells") j p2) p3) X.env) :: starEach [] X.env := by rfl) :
    PE X (.Call (.Name "len" p9) [.Subscript (.Name x p1) (.Constant (.str "cells") j p2) p3] [] pos) (tE X.K X.mg sg W w true f dStLen) := by
  refine PE.imp (pe_callB callLen hg hm (by decide +kernel) (pa_cons (pe_ix (op_ixD hu) (pe_var hN hv hd hcd) pe_str hs) pa_nil he) (he := he)) fun σ H Q ⟨g, ρ, o, S, ok, r, q⟩ => ?_
  unfold dStLen at q
  cases ho : o.st with
  | none => rw [ho] at q; exact q.elim
  | some st =>
    rw [ho] at q
    obtain ⟨s, c, l, hS, es, hs1, hc1, hl1, hcl⟩ := r.parts hi ho
    refine ⟨.ref s, es, s, _, rfl, dget_cells hs1, ok, fun _ => True, [.list (st.cells.map .int)], .int st.cells.length, r.fr, .cons ⟨c, _, rfl, trivial, .inl hc1, .ints _ _ _ _⟩ .nil, by simp [phLen], fun z H' nw => ?_⟩
    exact q z H' ok (Nx.grow (.refl r _) nw.grow) (RpM.ofRp r.sub nw.rp) fun _ z => by cases z
/-- st[k][e], k 'cells' or 'lefts' -/
theorem st_ix {y : Str} {φ : OrcS → List Int} {ψ : Addr → Addr → Addr} (hy : ∀ {H : Hp} {s c l : Addr} {q : OrcS}, H s = some (.dK (orcFields c l q)) → DGt X.K H s (.str y) (some (.ref (ψ c l))))
    (hl : ∀ {H : Hp} {c l : Addr} {q : OrcS}, H c = some (.lst (q.cells.map V.int)) → H l = some (.lst (q.lefts.map V.int)) → H (ψ c l) = some (.lst ((φ q).map V.int)))
    (hu : X.A.units + 66 < cLine) (hN : X.N[i]? = some x) (hv : Vis X.env.scope x) (hi : sg.ist = some i) (he : PE X e (tE X.K X.mg sg W false p f1 d)) (hs1 : PlainIx e) (hd : (x == ("__debug__" : Str)) = false := by decide) (hcd : (x == ("__classdict__" : Str)) = false := by decide)
    (hs : PlainIx (.Constant (.str y) j p2) := by intro _ _; rfl) : PE X (.Subscript (.Subscript (.Name x p1) (.Constant (.str y) j p2) p3) e pos) (tE X.K X.mg sg W w p f (dStIx φ d)) := by
  refine PE.imp (pe_ix ix_list (pe_ix (op_ixD hu) (pe_var hN hv hd hcd) pe_str hs) he hs1) fun σ H Q ⟨g, ρ, o, S, ok, r, q⟩ => ?_
  unfold dStIx at q
  cases ho : o.st with
  | none => rw [ho] at q; exact q.elim
  | some st =>
    rw [ho] at q
    obtain ⟨s, c, l, hS, es, h1, h2, h3, hcl⟩ := r.parts hi ho
    refine ⟨.ref s, es, s, _, rfl, hy h1, ?_⟩
    show tE X.K X.mg sg W false p f1 d σ H _
    simp only at q
    cases e1 : d ρ o with
    | bad => rw [e1] at q; exact q.elim
    | ex c ρ1 o1 => rw [e1] at q; exact tE.of_ex r e1 q
    | ok v ρ1 o1 =>
      rw [e1] at q
      refine tE.of_ok r e1 fun z H1 ok1 n1 r1 _ => ?_
      simp only [Res.bind] at q
      cases e9 : atD o1.st v with
      | none => rw [e9] at q; exact q.elim
      | some y1 =>
        obtain ⟨q1, i1⟩ := y1
        rw [e9] at q
        obtain ⟨ho1, rfl⟩ := atD_some e9
        simp only at q
        obtain ⟨s', c', l', hS', es', g1, g2, g3, hcl'⟩ := n1.st.parts hi ho1
        rw [hS] at hS'
        cases hS'
        cases r1
        cases ea : L2.atI (φ q1) i1 with
        | none => rw [ea] at q; exact q.elim
        | some m =>
          rw [ea] at q
          refine ⟨_, (φ q1).map V.int, i1, .int m, rfl, rfl, .inl (.inl (hl g2 g3)), ?_, q _ _ _ n1 (RpM.ofRp n1.st.sub (.int m)) fun _ z => by cases z⟩
          unfold L2.atI at ea ⊢
          rw [List.length_map]
          cases ej : ixN (φ q1).length i1 with
          | none => rw [ej] at ea; cases ea
          | some jj =>
            rw [ej] at ea
            show ((φ q1).map V.int)[jj]? = some (V.int m)
            rw [List.getElem?_map, show (φ q1)[jj]? = some m from ea]
            rfl
/-- st['at'] = e -/
theorem s_stAt (hu : X.A.units + 66 < cLine) (hN : X.N[i]? = some x) (hv : Vis X.env.scope x) (hi : sg.ist = some i) (he : PE X e (tE X.K X.mg sg W false p f1 d)) (hd : (x == ("__debug__" : Str)) = false := by decide) (hcd : (x == ("__classdict__" : Str)) = false := by decide)
    (hs : swapsWith e (some (.Subscript (.Name x p1) (.Constant (.str "at") j p2) p3)) pos.line X.env = pure false := by rfl) : PS X (.Assign [.Subscript (.Name x p1) (.Constant (.str "at") j p2) p3] e pos) (tS X.K X.mg sg W (dStAtS d)) := by
  refine PS.imp (ps_put2 (by omega) (pe_var hN hv hd hcd) pe_str he hs) fun D σ H ⟨g, ρ, o, S, ok, r, q⟩ => ?_
  unfold dStAtS at q
  show tE X.K X.mg sg W false p f1 d σ H _
  cases e1 : d ρ o with
  | bad => rw [e1] at q; exact q.elim
  | ex c ρ1 o1 => rw [e1] at q; exact Out.ex1 r e1 q
  | ok v ρ1 o1 =>
    rw [e1] at q
    refine tE.of_ok r e1 fun z H1 ok1 n1 r1 _ => ?_
    simp only [Res.bind] at q
    cases e9 : atD o1.st v with
    | none => rw [e9] at q; exact q.elim
    | some y1 =>
      obtain ⟨q1, n⟩ := y1
      rw [e9] at q
      obtain ⟨ho1, rfl⟩ := atD_some e9
      simp only at q
      obtain ⟨s, c, l, hS, es, h1, h2, h3, hcl⟩ := n1.st.parts hi ho1
      cases r1
      have iS : inS S s := .inl (by rw [hS]; exact .inl rfl)
      have pt : putK (orcFields c l q1) (.inr "at") (V.int n) = orcFields c l { q1 with at_ := n } := rfl
      refine ⟨.ref s, es, s, _, rfl, .k (k := .inr "at") h1 rfl (by rw [sizeLine_eq]; simp [orcFields]), ?_⟩
      rw [pt]
      have ch : Chg S H1 (upd H1 s (.dK (orcFields c l { q1 with at_ := n }))) := chg_upd iS _
      have ro : ROrc (upd H1 s (.dK (orcFields c l { q1 with at_ := n }))) { o1 with st := some { q1 with at_ := n } } S := by
        refine ⟨?_, ?_, n1.st.orc.2.2⟩
        · rw [hS]
          exact ⟨upd_same, (upd_ne fun z => by rw [z, h1] at h2; cases h2).trans h2, (upd_ne fun z => by rw [z, h1] at h3; cases h3).trans h3, hcl⟩
        · exact tabs_upd n1.st.orc.2.1 h1 (fun ps z => by cases z) fun f z => by cases z
      exact q σ _ S ok1 (n1.st.through ch ro) ((n1.sx r).trans ⟨ch.stp n1.st.orc fun a h => (n1.st.sub a h).2, fun a _ h _ _ => h⟩)
end
end FL
namespace FL
open PySem PySem.Spec PyProof.Rows L2

def setD (s : Option OrcS) (k v : PyData) : Option OrcS := match atD s k, v with
  | some (q, i), .int n => (ixN q.lefts.length i).map fun j => { q with lefts := q.lefts.set j n }
  | _, _ => none
theorem setD_some {s : Option OrcS} {k v : PyData} {q' : OrcS} (h : setD s k v = some q') : ∃ q i n j, s = some q ∧ k = .int i ∧ v = .int n ∧ ixN q.lefts.length i = some j ∧ q' = { q with lefts := q.lefts.set j n } := by
  unfold setD at h
  split at h
  · rename_i q i n e
    obtain ⟨rfl, rfl⟩ := atD_some e
    cases ej : ixN q.lefts.length i with
    | none => rw [ej] at h; cases h
    | some j =>
      rw [ej] at h
      cases h
      exact ⟨q, i, n, j, rfl, rfl, rfl, ej, rfl⟩
  · cases h
def dStLeftS (e1 e2 : DE) : DS := fun ρ o => (e2 ρ o).bind fun v ρ1 o1 => match o1.st with
  | some _ => (e1 ρ1 o1).bind fun k ρ2 o2 => match setD o2.st k v with
    | some q => .ok .nx ρ2 { o2 with st := some q }
    | none => .bad
  | none => .bad
section
variable {X : Cx} {sg : Sta} {W : WX} {e e2 : Expr} {d d2 : DE} {p p' f1 f2 : Bool} {i j : Nat} {x : Str} {pos p1 p2 p3 p4 : Pos}
/-- st['lefts'][e] = e2 -/
theorem s_stLeft (hu : X.A.units + 66 < cLine) (hN : X.N[i]? = some x) (hv : Vis X.env.scope x) (hi : sg.ist = some i) (he : PE X e (tE X.K X.mg sg W false p f1 d)) (he2 : PE X e2 (tE X.K X.mg sg W false p' f2 d2)) (hd : (x == ("__debug__" : Str)) = false := by decide) (hcd : (x == ("__classdict__" : Str)) = false := by decide)
    (hsx : PlainIx (.Constant (.str "lefts") j p2) := by intro _ _; rfl)
    (ha : ∀ v, assign (.Subscript (.Subscript (.Name x p1) (.Constant (.str "lefts") j p2) p3) e p4) X.env v = (do
      let ov ← holding [v] (eval (.Subscript (.Name x p1) (.Constant (.str "lefts") j p2) p3) X.env)
      let iv ← holding [v, ov] (eval e X.env)
      standAt p4
      holding [v, ov, iv] (setItem ov iv v)
      release [v, ov, iv] []) := by intro _; rfl)
    (hs : swapsWithSole [.Subscript (.Subscript (.Name x p1) (.Constant (.str "lefts") j p2) p3) e p4] e2 pos.line X.env = pure false := by rfl) (hw : swappedStores [.Subscript (.Subscript (.Name x p1) (.Constant (.str "lefts") j p2) p3) e p4] e2 X.env = pure none := by rfl)
    (h1 : (assignEach [.Subscript (.Subscript (.Name x p1) (.Constant (.str "lefts") j p2) p3) e p4] X.env).map (·.2) = [assign (.Subscript (.Subscript (.Name x p1) (.Constant (.str "lefts") j p2) p3) e p4) X.env] := by rfl) :
    PS X (.Assign [.Subscript (.Subscript (.Name x p1) (.Constant (.str "lefts") j p2) p3) e p4] e2 pos) (tS X.K X.mg sg W (dStLeftS d d2)) := by
  refine PS.imp (ps_asg he2 (pg_sub (pe_ix (op_ixD hu) (pe_var hN hv hd hcd) pe_str hsx) he set_list ha) hs hw h1) fun D σ H ⟨g, ρ, o, S, ok, r, q⟩ => ?_
  unfold dStLeftS at q
  show tE X.K X.mg sg W false p' f2 d2 σ H _
  cases c1 : d2 ρ o with
  | bad => rw [c1] at q; exact q.elim
  | ex c ρ1 o1 => rw [c1] at q; exact Out.ex1 r c1 q
  | ok v ρ1 o1 =>
    rw [c1] at q
    refine tE.of_ok r c1 fun z H1 ok1 n1 r1 _ => ?_
    simp only [Res.bind] at q
    cases h0 : o1.st with
    | none => rw [h0] at q; exact q.elim
    | some q0 =>
      rw [h0] at q
      simp only at q
      obtain ⟨s, c, l, hS, es, g1, g2, g3, hcl⟩ := n1.st.parts hi h0
      refine ⟨.ref s, es, s, _, rfl, dget_lefts g1, ?_⟩
      show tE X.K X.mg sg W false p f1 d σ H1 _
      cases c2 : d ρ1 o1 with
      | bad => rw [c2] at q; exact q.elim
      | ex c ρ2 o2 =>
        rw [c2] at q
        exact tE.of_ex n1.st c2 fun cls dd H' ok' n2 x2 => q cls dd σ H' S ok' n2.st x2
      | ok k ρ2 o2 =>
        rw [c2] at q
        refine tE.of_ok n1.st c2 fun y H2 ok2 n2 r2 _ => ?_
        simp only at q
        cases c3 : setD o2.st k v with
        | none => rw [c3] at q; exact q.elim
        | some q' =>
          rw [c3] at q
          obtain ⟨q1, k1, m, jj, ho, rfl, rfl, hj, rfl⟩ := setD_some c3
          simp only at q
          obtain ⟨s', c', l', hS', es', k1', k2', k3', _⟩ := n2.st.parts hi ho
          rw [hS] at hS'
          cases hS'
          cases r1
          cases r2
          have iS : inS S l := .inl (by rw [hS]; exact .inr (.inr rfl))
          refine ⟨l, q1.lefts.map V.int, k1, jj, rfl, rfl, k3', by rw [List.length_map]; exact hj, ?_⟩
          have ch : Chg S H2 (upd H2 l (.lst ((q1.lefts.map V.int).set jj (.int m)))) := chg_upd iS _
          have ro : ROrc (upd H2 l (.lst ((q1.lefts.map V.int).set jj (.int m)))) { o2 with st := some { q1 with lefts := q1.lefts.set jj m } } S := by
            refine ⟨?_, tabs_upd n2.st.orc.2.1 k3' (fun ps z => by cases z) (fun f z => by cases z), n2.st.orc.2.2⟩
            rw [hS]
            exact ⟨(upd_ne fun z => by rw [z, k3'] at k1'; cases k1').trans k1', (upd_ne hcl).trans k2', by rw [upd_same, List.map_set], hcl⟩
          exact q σ _ S ok2 (n2.st.through ch ro) (((n1.sx r).trans (n2.sx n1.st)).trans ⟨ch.stp n2.st.orc fun a h => (n2.st.sub a h).2, fun a _ h _ _ => h⟩)
end
end FL
namespace FL
open PySem PySem.Spec PyProof.Rows L2

section
variable {X : Cx} {sg : Sta} {W : WX} {el : Expr} {d2 : DE} {i j1 j2 j3 j4 : Nat} {x : Str} {p1 p2 p3 p4 p5 pos : Pos}
/-- {'cells': x, 'lefts': [..], 'at': 0} -/
theorem e_begin (hi : i ∈ sg.own) (hN : X.N[i]? = some x) (hv : Vis X.env.scope x) (hl : PE X el (tE X.K X.mg sg W false true true d2)) (hd : (x == ("__debug__" : Str)) = false := by decide) (hcd : (x == ("__classdict__" : Str)) = false := by decide) :
    PE X (.Dict [some (.Constant (.str "cells") j1 p1), some (.Constant (.str "lefts") j2 p2), some (.Constant (.str "at") j3 p3)] [.Name x p4, el, .Constant (.int 0) j4 p5] pos)
      (fun σ H Q => ∃ g ρ o S ok cs ls ρ1, Rst sg g ok S X.K H σ ρ o ∧ ρ[i]? = some (some (.list (cs.map PyData.int))) ∧ d2 ρ o = .ok (.list (ls.map PyData.int)) ρ1 o ∧ ρ1[i]? = ρ[i]? ∧
        ∀ s c l H', H s = none → g.H0 c = none → H l = none → Chg S H H' → LamX.Tabs S.tb H' → RStat H' (some ⟨cs, ls, 0⟩) (some (s, c, l)) → Q (.ref s) H') := by
  have D := pe_disp (X := X) (pos := pos) (pps_cons (pe_str (x := "cells") (j := j1) (pos := p1)) (pe_var (pos := p4) hN hv hd hcd) (pps_cons (pe_str (x := "lefts") (j := j2) (pos := p2)) hl (pps_cons (pe_str (x := "at") (j := j3) (pos := p3)) (pe_int (i := 0) (j := j4) (pos := p5)) pps_nil))) rfl rfl (by simp) (by simp)
  refine PE.imp D fun σ H Q ⟨g, ρ, o, S, ok, cs, ls, ρ1, r, e1, e2, e3, q⟩ => ?_
  intro p hp
  have r0 := r.grow (.upd hp (o := .dK []))
  obtain ⟨c, ec, w⟩ := r.ow i _ e1 hi
  show ∃ v, σ[i]? = some (some v) ∧ _
  refine ⟨.ref c, ec, ?_⟩
  show tE X.K X.mg sg W false true true d2 σ (upd H p (.dK [])) _
  refine tE.of_ok r0 e2 fun y H1 ok1 n1 ry fr => ?_
  obtain ⟨l, rfl, hl0, hl1, hl2, r1, ct, ne⟩ := fr rfl rfl
  obtain ⟨xs, hx, rxs⟩ := ct
  obtain rfl := rxs.ints_inv
  have hlp : l ≠ p := fun z => by rw [z, upd_same] at hl0; cases hl0
  have hl3 : H l = none := by rw [upd_ne hlp] at hl0; exact hl0
  have hcl : c ≠ l := fun z => ne i _ hi (e3.trans e1) (by rw [ec, z])
  have nSp : ¬ inS S p := r.orcS hp
  have kp : H1 p = some (.dK []) := n1.stx p _ upd_same nSp (fun ps z => by cases z) fun z => by cases z
  obtain ⟨c2, ec2, w2⟩ := n1.st.ow i _ (e3.trans e1) hi
  rw [ec] at ec2
  cases ec2
  obtain ⟨ys, hy, rys⟩ := w2.ct
  obtain rfl := rys.ints_inv
  show H1 p = some (.dK []) ∧ _
  refine ⟨kp, [(.inr "cells", .ref c), (.inr "lefts", .ref l), (.inr "at", .int 0)], rfl, by simp, ?_⟩
  have hcp : c ≠ p := fun z => by rw [z, kp] at hy; cases hy
  refine q p c l _ hp w.new hl3 ⟨fun a u e n t => ?_, fun a u e => ?_⟩ (tabs_upd n1.st.orc.2.1 kp (fun ps z => by cases z) fun f z => by cases z) ⟨upd_same, (upd_ne hcp).trans hy, (upd_ne hlp).trans hx, hcl⟩
  · have hap : a ≠ p := ne_of_none e hp
    rw [upd_ne hap]
    exact n1.stx a u (by rw [upd_ne hap]; exact e) n t fun z => by cases z
  · have hap : a ≠ p := ne_of_none e hp
    obtain ⟨u1, h1⟩ := n1.trk a u (by rw [upd_ne hap]; exact e)
    exact ⟨u1, by rw [upd_ne hap]; exact h1⟩
end

def spB (T : List (Addr × Str)) (ok : List Int → Bool) (f : List Int → OrcS) : Sp := fun vs H Q E => ∃ a ns, vs = [.ref a] ∧ Rd H a (.lst (ns.map V.int)) ∧ ok ns = true ∧ LamX.Tabs T H ∧
  ∀ s c l H', H s = none → H c = none → H l = none → Chg ⟨none, T⟩ H H' → LamX.Tabs T H' → RStat H' (some (f ns)) (some (s, c, l)) → Q (.ref s) H'
theorem spB_len {T : List (Addr × Str)} {ok : List Int → Bool} {f : List Int → OrcS} : ∀ vs H Q E, spB T ok f vs H Q E → vs.length = 1 := fun vs H Q E ⟨a, ns, e, _⟩ => by rw [e]; rfl
/-- what the body's denotations must say -/
structure BegD (N : Nat) (ok : List Int → Bool) (f : List Int → OrcS) (dA : DS) (d2 : DE) : Prop where
  run : ∀ (ns : List Int) (tb : List (Addr × Str)), ok ns = true → ∃ ρA ρ1, dA (some (.list (ns.map PyData.int)) :: List.replicate (N - 1) none) ⟨none, tb⟩ = .ok .nx ρA ⟨none, tb⟩ ∧ ρA[1]? = some (some (.list ((f ns).cells.map PyData.int))) ∧
    d2 ρA ⟨none, tb⟩ = .ok (.list ((f ns).lefts.map PyData.int)) ρ1 ⟨none, tb⟩ ∧ ρ1[1]? = ρA[1]?
  at0 : ∀ ns, (f ns).at_ = 0
def tBeg (K : PySem.W.Frag) (sg : Sta) (i : Nat) (d2 : DE) : TE := fun σ H Q => ∃ g ρ o S ok cs ls ρ1, Rst sg g ok S K H σ ρ o ∧ ρ[i]? = some (some (.list (cs.map PyData.int))) ∧ d2 ρ o = .ok (.list (ls.map PyData.int)) ρ1 o ∧ ρ1[i]? = ρ[i]? ∧
  ∀ s c l H', H s = none → g.H0 c = none → H l = none → Chg S H H' → LamX.Tabs S.tb H' → RStat H' (some ⟨cs, ls, 0⟩) (some (s, c, l)) → Q (.ref s) H'
section
variable {P : Program} {w : World} {K : PySem.W.Frag} {mg : Str → Option Value} {base : Heap}
theorem begin_core {N : List Str} {T : List (Addr × Str)} {ok : List Int → Bool} {f : List Int → OrcS} {dA : DS} {d2 : DE} {vs : List V} {H : Hp} {Q : VK} {E : XK} (B : BegD N.length ok f dA d2) (hN : Nat.ble 1 N.length = true) (h : spB T ok f vs H Q E) :
    tSeq (tS K mg ⟨[1], none⟩ (wE E) dA) (tRet (tBeg K ⟨[1], none⟩ 1 d2)) { nx := fun _ H' => Q .non H', rt := Q } (L2.start N vs) H := by
  obtain ⟨a, ns, rfl, ha, hok, ht, q⟩ := h
  obtain ⟨ρA, ρ1, e1, e2, e3, e4⟩ := B.run ns T hok
  have off : ∀ b u, H b = some u → (∀ ps, u ≠ .tbl ps) → ¬ ∃ q, (b, q) ∈ T := fun b u e n ⟨q, hq⟩ => by
    obtain ⟨ps, e1, _⟩ := ht _ hq
    rw [e] at e1
    exact n ps (Option.some.inj e1)
  have r0 : Rst ⟨[1], none⟩ ⟨H, fun b => ¬ ∃ q, (b, q) ∈ T, ⟨none, T⟩⟩ (fun b => ¬ ∃ q, (b, q) ∈ T) ⟨none, T⟩ K H (L2.start N [.ref a]) ([some (.list (ns.map PyData.int))] ++ List.replicate (N.length - 1) none) ⟨none, T⟩ :=
    Rst.begin (n := 1) (fun b hb ⟨q, hq⟩ => by
      obtain ⟨ps, e1, _⟩ := ht _ hq
      rw [hb] at e1
      cases e1) (fun b n z => z.elim (fun z => z) n) ⟨trivial, ht, rfl⟩ (.cons (show RpT _ _ K H (.list (ns.map PyData.int)) (.ref a) from ⟨a, _, rfl, (let ⟨u, e, t⟩ := Rd.trk ha; off a u e t), ha, .ints _ _ _ _⟩) .nil) rfl (Nat.le_of_ble_eq_true hN) rfl (fun i hi => by cases hi) rfl
  refine ⟨_, _, _, _, _, r0, ?_⟩
  show Out K mg _ _ _ _ H _ (dA (some (.list (ns.map PyData.int)) :: List.replicate (N.length - 1) none) ⟨none, T⟩)
  rw [e1]
  intro σ1 H1 S1 ok1 r1 sx
  have hst : S1.st = none := by
    have z := r1.orc.1
    unfold RStat at z
    split at z
    · assumption
    · rename_i h1 h2; cases h1
    · exact z.elim
  have htb : T = S1.tb := r1.orc.2.2
  obtain ⟨st1, tb1⟩ := S1
  cases hst
  cases htb
  refine ⟨⟨H, _, _⟩, ρA, ⟨none, tb1⟩, ⟨none, tb1⟩, ok1, (f ns).cells, (f ns).lefts, ρ1, r1, e2, e3, e4, fun s c l H2 hs hc hl ch tb rs => q s c l H2 ?_ hc ?_ ⟨fun a u e n t => ?_, fun a u e => ?_⟩ tb ?_⟩
  · cases z : H s with
    | none => rfl
    | some u => obtain ⟨u1, h1⟩ := r1.trk s u z; rw [hs] at h1; cases h1
  · cases z : H l with
    | none => rfl
    | some u => obtain ⟨u1, h1⟩ := r1.trk l u z; rw [hl] at h1; cases h1
  · exact ch.keep a u (r1.chg a u e n t) n t
  · obtain ⟨u1, h1⟩ := r1.trk a u e
    exact ch.trk a u1 h1
  · have z : (⟨(f ns).cells, (f ns).lefts, 0⟩ : OrcS) = f ns := by rw [← B.at0 ns]
    rw [← z]; exact rs
theorem fn_begin {x qual p : Str} {st : Stmt} {fa : Addr} {fd : FuncData} {N : List Str} {k : Nat} {T : List (Addr × Str)} {ok : List Int → Bool} {f : List Int → OrcS} {dA : DS} {d2 : DE} (F : Fun K x qual st fa fd) (Sc : FnScope N [p] (defScope st)) (B : BegD N.length ok f dA d2) (hN : Nat.ble 1 N.length = true)
    (hbody : ∀ (cdv : Value) (A : Around) (outer : List PySem.Env) (s : Shared) (H : Hp) (E : XK), Room k (A.deeper (envOfC qual (defScope st) s.heap.objs.size fa cdv)) →
      PSs (cxOf (L2.CX P w) P w K mg base N qual (defScope st) fa cdv A outer s H E) (defBody st) (tSeq (tS K mg ⟨[1], none⟩ (wE E) dA) (tRet (tBeg K ⟨[1], none⟩ 1 d2)))) : FnOk P w K mg base (L2.CX P w) (k + 1) fa fd [p] (spB T ok f) :=
  F.okX Sc spB_len fun cdv A outer s H vs Q E hr h => ⟨_, hbody cdv A outer s H E hr, begin_core B hN h⟩
end
end FL
namespace FL
open PySem PySem.Spec PyProof.Rows L2

def intsD : List PyData → Option (List Int)
  | [] => some []
  | .int i :: r => (intsD r).map (i :: ·)
  | _ :: _ => none
theorem intsD_some : ∀ {ds : List PyData} {ns : List Int}, intsD ds = some ns → ds = ns.map PyData.int
  | [], _, h => by cases h; rfl
  | .int i :: r, ns, h => by
    simp only [intsD] at h
    cases e : intsD r with
    | none => rw [e] at h; cases h
    | some ms =>
      rw [e] at h
      cases h
      rw [intsD_some e]; rfl
  | .none :: _, _, h => by cases h
  | .bool _ :: _, _, h => by cases h
  | .str _ :: _, _, h => by cases h
  | .tuple _ :: _, _, h => by cases h
  | .list _ :: _, _, h => by cases h
  | .dict _ :: _, _, h => by cases h
def scriptD (ρ : Env) (j : Nat) : Option (List Int) := match ρ[j]? with
  | some (some (.list ds)) => intsD ds
  | _ => none
theorem scriptD_some {ρ : Env} {j : Nat} {ns : List Int} (h : scriptD ρ j = some ns) : ρ[j]? = some (some (.list (ns.map PyData.int))) := by
  unfold scriptD at h
  split at h
  · rename_i e
    rw [e, intsD_some h]
  · cases h
def dBegin (T : List (Addr × Str)) (ok : List Int → Bool) (f : List Int → OrcS) (i j : Nat) : DS := fun ρ o => match scriptD ρ j with
  | some ns => if o.st.isNone = true ∧ o.tb = T ∧ ok ns = true ∧ i < ρ.length then .ok .nx (ρ.set i none) { o with st := some (f ns) } else .bad
  | none => .bad
section
variable {sg : Sta} {g : Gh} {ok : Addr → Prop} {S : Sad} {K : PySem.W.Frag} {H H' : Hp} {σ : Sl} {ρ : Env} {o : Orc}
/-- the state's slot is set -/
theorem Rst.state (r : Rst sg g ok S K H σ ρ o) {i : Nat} {s c l : Addr} {q : OrcS} (hi : sg.ist = some i) (ho : i ∉ sg.own) (hlen : i < ρ.length) (hS : S.st = none) (hs : H s = none) (hc : H c = none) (hl : H l = none) (ch : Chg S H H') (tb : LamX.Tabs S.tb H') (rs : RStat H' (some q) (some (s, c, l))) :
    Rst sg g (fun a => ok a ∧ ¬ stIn (some (s, c, l)) a) ⟨some (s, c, l), S.tb⟩ K H' (σ.set i (some (.ref s))) (ρ.set i none) { o with st := some q } := by
  have old : ∀ {j : Nat} {d : PyData}, (ρ.set i none)[j]? = some (some d) → j ≠ i ∧ ρ[j]? = some (some d) := fun {j d} e => by
    by_cases hj : i = j
    · subst hj
      rw [List.getElem?_set_self hlen] at e
      cases e
    · rw [List.getElem?_set_ne hj] at e
      exact ⟨Ne.symm hj, e⟩
  have at_ : ∀ {j : Nat}, j ≠ i → (σ.set i (some (V.ref s)))[j]? = σ[j]? := fun hj => List.getElem?_set_ne (Ne.symm hj)
  have off : ∀ {b : Addr} {u : HO}, H b = some u → ¬ stIn (some (s, c, l)) b := fun {b u} e z => by
    rcases z with z | z | z
    · rw [z, hs] at e; cases e
    · rw [z, hc] at e; cases e
    · rw [z, hl] at e; cases e
  have st : Stp ok H H' := ch.stp r.orc fun a h => (r.sub a h).2
  have nS : ∀ {b : Addr}, stIn (some (s, c, l)) b → H b = none := fun z => by
    rcases z with z | z | z <;> rw [z] <;> assumption
  have sb : S.tb = g.S0.tb ∧ g.S0.st = none := by
    rcases r.sS with e | ⟨e1, e2, _⟩
    · exact ⟨by rw [e], by rw [← e]; exact hS⟩
    · exact ⟨e2, e1⟩
  have hSS : ∀ {a : Addr}, inS S a ↔ inS g.S0 a := fun {a} => by
    unfold inS stIn
    rw [hS, sb.1, sb.2]
  exact {
    len := by simpa using r.len
    pl := fun j d e n => by
      obtain ⟨hj, e⟩ := old e
      obtain ⟨x, e1, e2⟩ := r.pl j d e n
      exact ⟨x, (at_ hj).trans e1, e2.step0 (fun b u q e _ => ⟨q, off e⟩) st⟩
    ow := fun j d e n => by
      obtain ⟨hj, e⟩ := old e
      obtain ⟨a, e1, w⟩ := r.ow j d e n
      obtain ⟨u, hu, _⟩ := w.ct.there
      refine ⟨a, (at_ hj).trans e1, fun z => w.nok z.1, fun z => ?_, w.new, w.ct.step (fun b u q e _ => ⟨q, off e⟩) st fun v hv => ch.keep a v hv w.nS (w.ct.ntbl hv)⟩
      rcases z with z | z
      · exact off hu z
      · exact w.nS (.inr z)
    inj := fun j k a d e hj hk h1 h2 h3 h4 => by
      obtain ⟨n1, h1⟩ := old h1
      obtain ⟨n2, h2⟩ := old h2
      rw [at_ n1] at h3
      rw [at_ n2] at h4
      exact r.inj j k a d e hj hk h1 h2 h3 h4
    fr := fun a e => by
      have hn : H a = none := by
        cases z : H a with
        | none => rfl
        | some u => obtain ⟨u1, h1⟩ := ch.trk a u z; rw [e] at h1; cases h1
      refine ⟨r.fr a hn, fun z => ?_⟩
      obtain ⟨u, h1, _⟩ := RStat.there rs z
      rw [e] at h1; cases h1
    sub := fun a h => ⟨(r.sub a h.1).1, fun z => by
      rcases z with z | z
      · exact h.2 z
      · exact (r.sub a h.1).2 (.inr z)⟩
    h0 := r.h0
    chg := fun a u e n t => ch.keep a u (r.chg a u e n t) (fun z => n (hSS.mp z)) t
    trk := fun a u e => let ⟨u1, h1⟩ := r.trk a u e; ch.trk a u1 h1
    orc := ⟨rs, tb, r.orc.2.2⟩
    sS := .inr ⟨sb.2, sb.1, fun a z => r.newH0 (nS z)⟩
    ist := fun j hj s' c' l' e => by
      rw [hi] at hj
      cases hj
      cases e
      exact List.getElem?_set_self (by rw [r.len]; exact hlen) }
end
section
variable {X : Cx} {sg : Sta} {W : WX} {T : List (Addr × Str)} {okF : List Int → Bool} {fS : List Int → OrcS} {k i j : Nat} {f : Addr} {fd : FuncData} {y z x prm : Str} {p1 p2 p3 pos pos' : Pos}
/-- z = begin(y) -/
theorem s_begin (Fo : FnOk X.prog X.w X.K X.mg X.base (L2.CX X.prog X.w) k f fd [prm] (spB T okF fS)) (hr : Room k X.A) (hg : Gl X x) (hm : X.mg x = some (.ref f)) (hk : PySem.W.keepIn X.K (.ref f) = true) (hb : Binds X.K fd [prm] []) (tk : Takes X W)
    (hN : X.N.Nodup) (hNy : X.N[j]? = some y) (hvy : Vis X.env.scope y) (hjo : j ∉ sg.own) (hNz : X.N[i]? = some z) (hlz : Loc X.env.scope z) (hi : sg.ist = some i) (ho : i ∉ sg.own) (hd : (x == ("__debug__" : Str)) = false := by decide) (hd2 : (y == ("__debug__" : Str)) = false := by decide) (hd3 : (y == ("__classdict__" : Str)) = false := by decide)
    (he : starEach [.Name y p2] X.env = (false, eval (.Name y p2) X.env) :: starEach [] X.env := by rfl) (hs : swapsWith (.Call (.Name x p1) [.Name y p2] [] p3) (some (.Name z pos')) pos.line X.env = pure false := by rfl)
    (hf : X.fn z = true ∨ X.env.scope.names.lookup z = some .local := by first | exact .inl rfl | exact .inr rfl | assumption) : PS X (.Assign [.Name z pos'] (.Call (.Name x p1) [.Name y p2] [] p3) pos) (tS X.K X.mg sg W (dBegin T okF fS i j)) := by
  refine PS.imp (ps_set hN hNz hlz (pe_callSD (E := fun σ cls d H => W cls d σ H) Fo hr hg hm hk hb .nil (fun σ => passAt tk σ) (pa_cons (pe_var hNy hvy hd2 hd3) pa_nil he) hd he) hs hf) fun D σ H ⟨g, ρ, o, S, ok, r, q⟩ => ?_
  unfold dBegin at q
  cases e1 : scriptD ρ j with
  | none => rw [e1] at q; exact q.elim
  | some ns =>
    rw [e1] at q
    simp only at q
    by_cases hc : o.st.isNone = true ∧ o.tb = T ∧ okF ns = true ∧ i < ρ.length
    · rw [if_pos hc] at q
      obtain ⟨h1, h2, h3, hlen⟩ := hc
      obtain ⟨v, ev, rv⟩ := r.pl j _ (scriptD_some e1) hjo
      have hS : S.st = none := by
        have ro := r.orc.1
        unfold RStat at ro
        split at ro
        · assumption
        · rename_i z1 z2; rw [z1] at h1; cases h1
        · exact ro.elim
      have hT : S.tb = T := r.orc.2.2.symm.trans h2
      have eS : S = ⟨none, T⟩ := by
        obtain ⟨a, b⟩ := S
        cases hS
        cases hT
        rfl
      refine ⟨v, ev, ?_⟩
      cases rv with
      | lst hok hrd rs =>
        rename_i a xs
        obtain rfl := rs.ints_inv
        refine ⟨a, ns, rfl, hrd, h3, hT ▸ r.orc.2.1, fun s c l H1 hs1 hc1 hl1 ch tb rst => ?_⟩
        have ch : Chg S H H1 := by rw [eS]; exact ch
        have tb : LamX.Tabs S.tb H1 := by rw [hT]; exact tb
        refine q _ _ _ _ (r.state hi ho hlen hS hs1 hc1 hl1 ch tb rst) ⟨ch.stp r.orc fun a h => (r.sub a h).2, fun a u h e t => ⟨h, fun zz => ?_⟩⟩
        rcases zz with zz | zz | zz
        · rw [zz, hs1] at e; cases e
        · rw [zz, hc1] at e; cases e
        · rw [zz, hl1] at e; cases e
    · rw [if_neg hc] at q; exact q.elim
end
end FL
namespace FL
open PySem PySem.Spec PyProof.Rows L2

theorem Room.u66 {k : Nat} {A : Around} (r : Room k A) : A.units + 66 < cLine := by have := r.un; omega
theorem Room.u70 {k : Nat} {A : Around} (r : Room k A) : A.units + 70 < cLine := by have := r.un; omega
theorem takes_blk {X : Cx} {s : Shared} {H : Hp} {scope : Scope} {C : Addr} {cl : List (Str × Addr)} {fp : List Addr} : Takes (bX X s H scope C cl fp) WF := fun u s' ⟨a, B, sI, pins, σ, H, cls, d, e, I, nb, up, sky, na, os, ag, w⟩ => w

section
variable {X : Cx} {sg : Sta} {W : WX} {a b c e : Expr} {es : List Expr} {d d1 d2 d3 : DE} {ds : DA} {c1 : DT} {w w1 w2 w3 p p1 p2 p3 f f1 f2 f3 f2' : Bool} {i : Nat} {x y : Str} {pos p' : Pos}
theorem x_var (hN : X.N[i]? = some x := by rfl) (hv : Vis X.env.scope x := by first | exact .inl rfl | exact .inr (.inl rfl) | exact .inr (.inr rfl)) (ho : i ∉ sg.own := by decide) (hd : (x == ("__debug__" : Str)) = false := by decide) (hcd : (x == ("__classdict__" : Str)) = false := by decide) :
    PE X (.Name x pos) (tE X.K X.mg sg W false true false (dVar i)) := e_var hN hv ho hd hcd
theorem x_own (hN : X.N[i]? = some x := by rfl) (hv : Vis X.env.scope x := by first | exact .inl rfl | exact .inr (.inl rfl) | exact .inr (.inr rfl)) (ho : i ∈ sg.own := by decide) (hd : (x == ("__debug__" : Str)) = false := by decide) (hcd : (x == ("__classdict__" : Str)) = false := by decide) :
    PE X (.Name x pos) (tE X.K X.mg sg W true true false (dVar i)) := e_varT hN hv ho hd hcd
theorem x_mv (hN : X.N[i]? = some x := by rfl) (hv : Vis X.env.scope x := by first | exact .inl rfl | exact .inr (.inl rfl) | exact .inr (.inr rfl)) (ho : i ∈ sg.own := by decide) (hd : (x == ("__debug__" : Str)) = false := by decide) (hcd : (x == ("__classdict__" : Str)) = false := by decide) :
    PE X (.Name x pos) (tE X.K X.mg sg W false true false (dMove i)) := e_move hN hv ho hd hcd
theorem x_glob {j : Int} {t : Tok} (hm : X.mg x = some (.int j t)) (hg : Gl X x := by rfl) (hd : (x == ("__debug__" : Str)) = false := by decide) : PE X (.Name x pos) (tE X.K X.mg sg W false true true (dC (.int j))) := e_glob hg hm hd
theorem x_bin {op : Operator} {φ : PyData → PyData → Option PyData} (h : OpR X (binaryOp op) (r2D X.K f φ)) (ha : PE X a (tE X.K X.mg sg W w1 p1 f1 d1)) (hb : PE X b (tE X.K X.mg sg W w2 p2 f2 d2)) (hw : (!w1 || p2) = true := by rfl) :
    PE X (.BinOp a op b pos) (tE X.K X.mg sg W false (p1 && p2) f (dOp2 φ d1 d2)) := e_bin h ha hb hw
theorem x_un {op : UnaryOp} {φ : PyData → Option PyData} (h : UnR X (unaryOp op) (r1D X.K f φ)) (ha : PE X a (tE X.K X.mg sg W w1 p1 f1 d1)) : PE X (.UnaryOp op a pos) (tE X.K X.mg sg W false p1 f (dOp1 φ d1)) := e_un h ha
theorem x_cmp {op : CmpOp} {φ : PyData → PyData → Option PyData} (h : OpR X (compareOp op) (r2D X.K f φ)) (ha : PE X a (tE X.K X.mg sg W w1 p1 f1 d1)) (hb : PE X b (tE X.K X.mg sg W w2 p2 f2 d2)) (hm : behindInMarks op b = false := by rfl) (hw : (!w1 || p2) = true := by rfl) :
    PE X (.Compare a [op] [b] pos) (tE X.K X.mg sg W false (p1 && p2) f (dOp2 φ d1 d2)) := e_cmp h ha hb hm hw
theorem x_not (ha : PE X a (tE X.K X.mg sg W w1 p1 f1 d1)) : PE X (.UnaryOp .Not a pos) (tE X.K X.mg sg W false p1 true (dNotV d1)) := e_not ha
theorem x_ix (hu : X.A.units + 66 < cLine) (ha : PE X a (tE X.K X.mg sg W w1 p1 f1 d1)) (hb : PE X b (tE X.K X.mg sg W w2 p2 f2 d2)) (hs : PlainIx b := by intro _ _; rfl) (hw : (!w1 || p2) = true := by rfl) :
    PE X (.Subscript a b pos) (tE X.K X.mg sg W false (p1 && p2) false (dOp2 phIx d1 d2)) := e_ix (ixD hu) ha hb hs hw
theorem x_tup {k : Nat} (h : PA X es (tA X.K X.mg sg W false p ds)) : PE X (.Tuple es k pos) (tE X.K X.mg sg W false p true (dTup ds)) := e_tup h
theorem x_lst (h : PA X es (tA X.K X.mg sg W false p ds)) : PE X (.List es pos) (tE X.K X.mg sg W false p true (dLst ds)) := e_lst h
theorem x_dict : PE X (.Dict [] [] pos) (tE X.K X.mg sg W false true true dDict) := e_dict
theorem x_chain {op op' : CmpOp} {φ φ' : PyData → PyData → Option PyData} (h : OpR X (compareOp op) (r2D X.K f1 φ)) (h' : OpR X (compareOp op') (r2D X.K f φ')) (ha : PE X a (tE X.K X.mg sg W false p1 f2 d1)) (hb : PE X b (tE X.K X.mg sg W false p2 f3 d2)) (hc : PE X c (tE X.K X.mg sg W w3 p3 f2' d3))
    (hm : lastMarks [op, op'] [b, c] = false := by with_unfolding_all rfl) : PE X (.Compare a [op, op'] [b, c] pos) (tE X.K X.mg sg W false (p1 && (p2 && p3)) f (dChain φ φ' d1 d2 d3)) := e_chain h h' ha hb hc hm
theorem x_callB {id : String} {φ : List PyData → Option PyData} (hc : CallR X (.builtin id) (rnD X.K f φ)) (hm : X.mg x = none) (ha : PA X (a :: es) (tA X.K X.mg sg W true p ds)) (hg : Gl X x := by rfl) (hv : bootBuiltins x = some (.builtin id) := by decide +kernel)
    (hn : x ≠ "__name__" := by decide) (hdb : (x == ("__debug__" : Str)) = false := by decide) (he : starEach (a :: es) X.env = (false, eval a X.env) :: starEach es X.env := by rfl) (hpl : (backTo pos (starEach es X.env)).any (·.1) = false := by rfl) :
    PE X (.Call (.Name x p') (a :: es) [] pos) (tE X.K X.mg sg W false p f (dOpN φ ds)) := e_callB hc hg hm hv ha hn hdb he hpl
theorem x_callTy {T : String} {φ : List PyData → Option PyData} (hc : CallR X (.type T) (rnD X.K f φ)) (hm : X.mg x = none) (ha : PA X (a :: es) (tA X.K X.mg sg W true p ds)) (hg : Gl X x := by rfl) (hv : bootBuiltins x = some (.type T) := by decide +kernel)
    (hn : x ≠ "__name__" := by decide) (hdb : (x == ("__debug__" : Str)) = false := by decide) (he : starEach (a :: es) X.env = (false, eval a X.env) :: starEach es X.env := by rfl) (hpl : (backTo pos (starEach es X.env)).any (·.1) = false := by rfl) :
    PE X (.Call (.Name x p') (a :: es) [] pos) (tE X.K X.mg sg W false p f (dOpN φ ds)) := e_callTy hc hg hm hv ha hn hdb he hpl
theorem x_isa {T : String} {p'' : Pos} (hm : X.mg "isinstance" = none) (hmT : X.mg x = none) (hvT : bootBuiltins x = some (.type T)) (ha : PE X e (tE X.K X.mg sg W w1 p f1 d)) (hg : Gl X "isinstance" := by rfl) (hgT : Gl X x := by rfl)
    (hn : x ≠ "__name__" := by decide) (hd : (x == ("__debug__" : Str)) = false := by decide) (he : starEach [e, .Name x p''] X.env = (false, eval e X.env) :: starEach [.Name x p''] X.env := by rfl) (he2 : starEach [.Name x p''] X.env = (false, eval (.Name x p'') X.env) :: starEach [] X.env := by rfl)
    (hpl : (backTo pos (starEach [.Name x p''] X.env)).any (·.1) = false := by rfl) : PE X (.Call (.Name "isinstance" p') [e, .Name x p''] [] pos) (tE X.K X.mg sg W false p true (dOp1 (phIsa T) d)) := e_isa hg hm hgT hmT hvT ha hn hd he he2 hpl
theorem x_call {k : Nat} {fa : Addr} {fd : FuncData} {ps : List Str} {F : DF} {as : DAo} {j : Nat} (w : Bool) (Fo : FnOk X.prog X.w X.K X.mg X.base (L2.CX X.prog X.w) k fa fd ps (spF X.K X.mg F)) (hr : Room j X.A) (hm : X.mg x = some (.ref fa)) (hk : PySem.W.keepIn X.K (.ref fa) = true) (hb : Binds X.K fd ps []) (tk : Takes X W)
    (ha : PA X (a :: es) (tAo X.K X.mg sg W w p as)) (hj : k ≤ j := by decide) (hg : Gl X x := by rfl) (hdb : (x == ("__debug__" : Str)) = false := by decide) (he : starEach (a :: es) X.env = (false, eval a X.env) :: starEach es X.env := by rfl) (hpl : (backTo pos (starEach es X.env)).any (·.1) = false := by rfl) :
    PE X (.Call (.Name x p') (a :: es) [] pos) (tE X.K X.mg sg W false p false (dCall w F as)) := e_call Fo (hr.mono hj) hg hm hk hb tk ha hdb he hpl
theorem x_callG {k : Nat} {fa : Addr} {fd : FuncData} {ps : List Str} {F : DF} {as : DAo} {j : Nat} (w : Bool) (Fo : FnG X.prog X.w X.K X.mg X.base k fa fd ps (spF X.K X.mg F)) (hr : Room j X.A) (hgd : X.A.guards = some []) (hm : X.mg x = some (.ref fa)) (hk : PySem.W.keepIn X.K (.ref fa) = true) (hb : Binds X.K fd ps []) (tk : Takes X W)
    (ha : PA X (a :: es) (tAo X.K X.mg sg W w p as)) (hj : k ≤ j := by decide) (hg : Gl X x := by rfl) (hdb : (x == ("__debug__" : Str)) = false := by decide) (he : starEach (a :: es) X.env = (false, eval a X.env) :: starEach es X.env := by rfl) (hpl : (backTo pos (starEach es X.env)).any (·.1) = false := by rfl) :
    PE X (.Call (.Name x p') (a :: es) [] pos) (tE X.K X.mg sg W false p false (dCall w F as)) := e_callG Fo (hr.mono hj) hgd hg hm hk hb tk ha hdb he hpl
theorem x_st {as : DAo} (hb : PA X es (tAo X.K X.mg sg W w p2 as)) (hi : sg.ist = some i := by rfl) (hN : X.N[i]? = some x := by rfl) (hv : Vis X.env.scope x := by first | exact .inl rfl | exact .inr (.inl rfl) | exact .inr (.inr rfl)) (hd : (x == ("__debug__" : Str)) = false := by decide) (hcd : (x == ("__classdict__" : Str)) = false := by decide)
    (hs : starEach (.Name x pos :: es) X.env = (false, eval (.Name x pos) X.env) :: starEach es X.env := by rfl) : PA X (.Name x pos :: es) (tAo X.K X.mg sg W w p2 (aSt as)) := ao_st hN hv hi hb hd hcd hs
theorem x_chainT {op op' : CmpOp} {φ φ' : PyData → PyData → Option PyData} (h : OpR X (compareOp op) (r2D X.K f1 φ)) (h' : OpR X (compareOp op') (r2D X.K f φ')) (ha : PE X a (tE X.K X.mg sg W false p1 f2 d1)) (hb : PE X b (tE X.K X.mg sg W false p2 f3 d2)) (hc : PE X c (tE X.K X.mg sg W w3 p3 f2' d3))
    (hm : lastMarks [op, op'] [b, c] = false := by with_unfolding_all rfl) : PT X (.Compare a [op, op'] [b, c] pos) (tT X.K X.mg sg W (p1 && (p2 && p3)) (dTest (dChain φ φ' d1 d2 d3))) := t_chain h h' ha hb hc hm
theorem x_val (h : PE X e (tE X.K X.mg sg W w p f d)) (he : ∀ whole, isTrue e X.env whole = (do let v ← whole; standAt e.pos; holding [v] (truthy v)) := by intro _; rfl) : PT X e (tT X.K X.mg sg W p (dTest d)) := t_val h he
theorem x_app {p'' : Pos} (ha : PE X e (tE X.K X.mg sg W false p1 f1 d)) (hN : X.N[i]? = some x := by rfl) (hv : Vis X.env.scope x := by first | exact .inl rfl | exact .inr (.inl rfl) | exact .inr (.inr rfl)) (ho : i ∈ sg.own := by decide) (hd : (x == ("__debug__" : Str)) = false := by decide) (hcd : (x == ("__classdict__" : Str)) = false := by decide)
    (hbase : attributeBase (.Name x p') "append" X.env (eval (.Name x p') X.env) = eval (.Name x p') X.env := by rfl)
    (hfew : ((backTo pos (starEach [e] X.env)).all (fun x => !x.1) && (backToKw pos (keywordEach [] X.env)).all (fun x => x.1.isSome) && decide ([e].length + ([] : List Keyword).length + (if ([] : List Keyword).isEmpty then 0 else 1) < 30)) = true := by rfl)
    (hline : (p''.endLine == pos.line) = true := by rfl) (hs : starEach [e] X.env = (false, eval e X.env) :: starEach [] X.env := by rfl) :
    PE X (.Call (.Attribute (.Name x p') "append" p'') [e] [] pos) (tE X.K X.mg sg W false false true (dApp i d)) := e_append hN hv ho ha hd hcd hbase hfew hline hs
theorem x_pop {p'' : Pos} (ha : PE X e (tE X.K X.mg sg W w1 p1 f1 d)) (hN : X.N[i]? = some x := by rfl) (hv : Vis X.env.scope x := by first | exact .inl rfl | exact .inr (.inl rfl) | exact .inr (.inr rfl)) (ho : i ∈ sg.own := by decide) (hd : (x == ("__debug__" : Str)) = false := by decide) (hcd : (x == ("__classdict__" : Str)) = false := by decide)
    (hbase : attributeBase (.Name x p') "pop" X.env (eval (.Name x p') X.env) = eval (.Name x p') X.env := by rfl)
    (hfew : ((backTo pos (starEach [e] X.env)).all (fun x => !x.1) && (backToKw pos (keywordEach [] X.env)).all (fun x => x.1.isSome) && decide ([e].length + ([] : List Keyword).length + (if ([] : List Keyword).isEmpty then 0 else 1) < 30)) = true := by rfl)
    (hline : (p''.endLine == pos.line) = true := by rfl) (hs : starEach [e] X.env = (false, eval e X.env) :: starEach [] X.env := by rfl) :
    PE X (.Call (.Attribute (.Name x p') "pop" p'') [e] [] pos) (tE X.K X.mg sg W false false false (dPop i d)) := e_pop hN hv ho ha hd hcd hbase hfew hline hs
theorem x_gn (hN : X.N.Nodup) (hi : X.N[i]? = some x := by rfl) (hx : Loc X.env.scope x := by first | exact .inl rfl | exact .inr rfl) (ho : i ∉ sg.own := by decide) (hst : sg.ist ≠ some i := by decide) (hf : X.fn x = true ∨ X.env.scope.names.lookup x = some .local := by first | exact .inl rfl | exact .inr rfl) :
    PG X (.Name x pos) (tG X.K sg [i] (gName i)) := g_name hN hi hx ho hst hf
theorem x_asg (hN : X.N.Nodup) (he : PE X e (tE X.K X.mg sg W false p f d1)) (hi : X.N[i]? = some x := by rfl) (hx : Loc X.env.scope x := by first | exact .inl rfl | exact .inr rfl) (ho : i ∉ sg.own := by decide) (hst : sg.ist ≠ some i := by decide) (hs : swapsWith e (some (.Name x p')) pos.line X.env = pure false := by rfl)
    (hf : X.fn x = true ∨ X.env.scope.names.lookup x = some .local := by first | exact .inl rfl | exact .inr rfl) : PS X (.Assign [.Name x p'] e pos) (tS X.K X.mg sg W (dAsg i d1)) := s_asg hN hi hx ho hst he hs hf
theorem x_aso (hN : X.N.Nodup) (he : PE X e (tE X.K X.mg sg W w p true d1)) (hi : X.N[i]? = some x := by rfl) (hx : Loc X.env.scope x := by first | exact .inl rfl | exact .inr rfl) (ho : i ∈ sg.own := by decide) (hst : sg.ist ≠ some i := by decide) (hs : swapsWith e (some (.Name x p')) pos.line X.env = pure false := by rfl)
    (hf : X.fn x = true ∨ X.env.scope.names.lookup x = some .local := by first | exact .inl rfl | exact .inr rfl) : PS X (.Assign [.Name x p'] e pos) (tS X.K X.mg sg W (dAsgC i d1)) := s_own hN hi hx ho hst he hs hf
theorem x_put {p'' : Pos} {ek ev : Expr} {dk dv : DE} (hu : X.A.units + 70 < cLine) (hk : PE X ek (tE X.K X.mg sg W w2 p2 f2 dk)) (hval : PE X ev (tE X.K X.mg sg W false p1 f1 dv)) (hN : X.N[i]? = some x := by rfl) (hv : Vis X.env.scope x := by first | exact .inl rfl | exact .inr (.inl rfl) | exact .inr (.inr rfl)) (ho : i ∈ sg.own := by decide) (hd : (x == ("__debug__" : Str)) = false := by decide) (hcd : (x == ("__classdict__" : Str)) = false := by decide)
    (hs : swapsWith ev (some (.Subscript (.Name x p'') ek p')) pos.line X.env = pure false := by rfl) : PS X (.Assign [.Subscript (.Name x p'') ek p'] ev pos) (tS X.K X.mg sg W (dPut i dk dv)) := s_put hu hN hv ho hk hval hd hcd hs
theorem x_comp {tg elt iter : Expr} {ifs : List Expr} {scope : Scope} {ts : List Nat} {τ : DG} (own : List (Str × Nat)) (hN : X.N.Nodup) (hi : PI X tg iter (tI X.K X.mg sg W w p ds))
    (hg : ∀ s H C cl fp, PG (bX X s H scope C cl fp) tg (tG X.K sg.blk ts τ)) (ht : ∀ s H C cl fp, PTs (bX X s H scope C cl fp) ifs (tT X.K X.mg sg.blk WF p1 c1)) (he : ∀ s H C cl fp, PE (bX X s H scope C cl fp) elt (tE X.K X.mg sg.blk WF w1 p2 f1 d1)) (ok : blkC X.N X.env.scope scope own = true := by rfl)
    (hc : X.calm = true := by rfl) (hv : ts.all (fun i => decide (i ∈ own.map (·.2))) = true := by rfl) (hst : (match sg.ist with | some i => decide (i ∉ own.map (·.2)) | none => true) = true := by rfl) (hs : ∀ x, foldedSetIterable iter X.env x = pure x := by intro _; rfl) :
    PE X (.ListComp elt [⟨tg, iter, ifs, 0⟩] scope pos) (tE X.K X.mg sg W false p true (dComp ds (own.map (·.2)) τ c1 d1)) := e_comp hc hN hi (blkOk_by ok) hg ht he hv hst hs
end
end FL
namespace FL
open PySem PySem.Spec PyProof.Rows L2

def oexB (K : PySem.W.Frag) (C : Addr) : Bool := (match K.lookup C with
    | some ⟨.type "type", _, .cls cd, sl⟩ => (match cd.mro, sl.toList with
      | .ref C' :: bm, [_, _, _, _, some (.builtin n), _] => C' == C && n == "ValueError.__new__" && !cd.hasDel && cd.hasDict && PySem.HandSPX.refsVE bm
      | _, _ => false)
    | _ => false) && decide (PySem.W.findIn K (.ref C) "__setattr__" = some (some (.builtin "object.__setattr__"))) && decide (PySem.W.subIn K (.ref C) (.type "BaseException") = some true) && decide (PySem.W.typeIn K (.ref C) = some (.type "type")) && PySem.W.keepIn K (.ref C)
theorem oexB_ok {K : PySem.W.Frag} {C : Addr} (h : oexB K C = true) : OexC K C := by
  unfold oexB at h
  simp only [Bool.and_eq_true, decide_eq_true_eq] at h
  obtain ⟨⟨⟨⟨h1, h2⟩, h3⟩, h4⟩, h5⟩ := h
  refine ⟨?_, h2, h3, h4, h5⟩
  split at h1
  · rename_i dd cd sl ho
    split at h1
    · rename_i C' bm k0 k1 k2 k3 n k5 hm hs
      simp only [Bool.and_eq_true, beq_iff_eq, Bool.not_eq_true'] at h1
      obtain ⟨⟨⟨⟨rfl, rfl⟩, hdel⟩, hdc⟩, ht⟩ := h1
      obtain ⟨nm, bs, mro, ns, qn, hd, sn, sub, ab, col, del⟩ := cd
      dsimp only at hm hdel hdc
      subst hm hdel hdc
      obtain ⟨l⟩ := sl
      simp only at hs
      subst hs
      exact ⟨nm, qn, ns, bs, bm, sn, sub, ab, col, dd, k0, k1, k2, k3, k5, ho, ht⟩
    · cases h1
  · cases h1
def excCB (K : PySem.W.Frag) (D : Addr) : Bool := decide (PySem.W.findIn K (.ref D) "__getattribute__" = some (some (.builtin "BaseException.__getattribute__"))) && decide (PySem.W.findIn K (.ref D) "__getattr__" = some none) && decide (PySem.W.subIn K (.ref D) (.type "BaseException") = some true) && PySem.W.hasDictIn K D &&
  decide (PySem.W.findIn K (.ref D) "__class__" = some (some (.builtin "object.__class__"))) && decide (PySem.W.specialIn K (.builtin "object.__class__") "__get__" = some (some (.builtin "getset_descriptor.__get__"))) && decide (PySem.W.takesIn K (.builtin "object.__class__") = some true) && decide (PySem.W.mroIn K D (.type "object") = some true)
theorem excCB_ok {K : PySem.W.Frag} {D : Addr} (h : excCB K D = true) : ExcC K D := by
  unfold excCB at h
  simp only [Bool.and_eq_true, decide_eq_true_eq] at h
  obtain ⟨⟨⟨⟨⟨⟨⟨h1, h2⟩, h3⟩, h4⟩, h5⟩, h6⟩, h7⟩, h8⟩ := h
  exact ⟨h1, h2, h3, h4, h5, h6, h7, h8⟩
/-- the class's name, its field, the text of its __init__ -/
structure ClI where
  cls : Str
  fld : Str
  st : Stmt
abbrev FnC : Type := Option (Str × Str × Arguments × FuncBody × Scope × Addr × List Str × Addr)
namespace ClI
def ca (c : ClI) (K : PySem.W.Frag) : Addr := He.ga K c.cls
def fa (c : ClI) (K : PySem.W.Frag) : Addr := He.ma K (He.ga K c.cls) "__init__"
def qual (c : ClI) : Str := c.cls ++ ".__init__"
def cca (c : ClI) (K : PySem.W.Frag) : Addr := match K.lookup (c.fa K) with
  | some ⟨_, _, .func fd, _⟩ => (match fd.closure with
    | [(_, a)] => a
    | _ => 0)
  | _ => 0
def cda (c : ClI) (K : PySem.W.Frag) : Addr := match K.lookup (c.fa K) with
  | some ⟨_, _, .func fd, _⟩ => (match fd.code with
    | .ref a => a
    | _ => 0)
  | _ => 0
def ob (c : ClI) (K : PySem.W.Frag) : FnC := match K.lookup (c.fa K) with
  | some ⟨_, _, .func fd, _⟩ => some (fd.name, fd.qualname, fd.params, fd.body, fd.scope, fd.globals, fd.closure.map (·.1), fd.builtins)
  | _ => none
def val (c : ClI) : FnC := some ("__init__", c.qual, defArgs c.st, .stmts (defBody c.st), defScope c.st, mainGlobals, ["__class__"], builtinsNs)
def codeB (file : Str) (c : ClI) (K : PySem.W.Frag) : Bool := match K.lookup (c.cda K) with
  | some ⟨_, _, .fields vs, _⟩ => (match (vs[2]? : Option Value) with
    | some (.str f _) => file == f
    | _ => false)
  | _ => false
def cellB (c : ClI) (K : PySem.W.Frag) : Bool := match K.lookup (c.cca K) with
  | some ⟨_, _, .cell (some (.ref C)), _⟩ => decide (C = c.ca K)
  | _ => false
def refB (c : ClI) (K : PySem.W.Frag) : Bool := match K.lookup (c.fa K) with
  | some ⟨_, _, .func fd, _⟩ => (match fd.code, fd.defaults with
    | .ref a, .none => PySem.W.codeIn K (.ref a) c.qual
    | _, _ => false)
  | _ => false
def okB (file : Str) (c : ClI) (K : PySem.W.Frag) : Bool := oexB K (c.ca K) && decide (PySem.W.findIn K (.ref (c.ca K)) "__init__" = some (some (.ref (c.fa K)))) && decide (PySem.W.typeIn K (.ref (c.fa K)) = some (.type "function")) && c.codeB file K && c.cellB K && (PySem.W.clsIn K (c.ca K)).isSome &&
  decide (PySem.W.mroIn K (c.ca K) (.ref (c.ca K)) = some true) && decide (PySem.W.nsIn K PySem.cStatics "thirdparty.any" = some none) && decide (PySem.W.ks_superIn K (c.ca K) (c.ca K) "__init__" = some (some (.builtin "ValueError.__init__"))) && decide (PySem.W.subIn K (.ref (c.ca K)) (.type "ValueError") = some true) &&
  decide (PySem.W.findIn K (.ref (c.ca K)) c.fld = some none) && c.refB K && xfB K (c.ca K) && excCB K (c.ca K)
end ClI
/-- what is known of such a class -/
structure ClOk (prog : Program) (K : PySem.W.Frag) (mg : Str → Option Value) (c : ClI) : Prop where
  inc : InC prog K mg (c.ca K) (c.fa K) (c.cca K) (c.cda K) c.fld
  lk : ∃ oc od kV doc pm an ct osl, K.lookup (c.fa K) = some ⟨oc, od, .func (PySem.W.ksFn "__init__" c.qual (defArgs c.st) (defBody c.st) (defScope c.st) .none kV doc pm an (.ref (c.cda K)) ct (c.cca K)), osl⟩
  code : PySem.W.codeIn K (.ref (c.cda K)) c.qual = true
  xf : XfC K (c.ca K)
  ex : ExcC K (c.ca K)
theorem ClI.ok {prog : Program} {K : PySem.W.Frag} {mg : Str → Option Value} {c : ClI} (h : c.okB prog.main.file K = true) (e : c.ob K = c.val) (top : (prog.main.scope.names.lookup ("super" : Str)).isSome = false) (noS : mg "super" = none) : ClOk prog K mg c := by
  unfold ClI.okB at h
  simp only [Bool.and_eq_true, decide_eq_true_eq] at h
  obtain ⟨⟨⟨⟨⟨⟨⟨⟨⟨⟨⟨⟨⟨h1, h2⟩, h3⟩, h4⟩, h5⟩, h6⟩, h7⟩, h8⟩, h9⟩, h10⟩, h11⟩, h12⟩, h13⟩, h14⟩ := h
  have hcode : ∃ oc od kV doc pm an ct osl, K.lookup (c.fa K) = some ⟨oc, od, .func (PySem.W.ksFn "__init__" c.qual (defArgs c.st) (defBody c.st) (defScope c.st) .none kV doc pm an (.ref (c.cda K)) ct (c.cca K)), osl⟩ ∧ PySem.W.codeIn K (.ref (c.cda K)) c.qual = true := by
    unfold ClI.refB at h12
    unfold ClI.ob ClI.val at e
    have hcda : c.cda K = match K.lookup (c.fa K) with
      | some ⟨_, _, .func fd, _⟩ => (match fd.code with
        | .ref a => a
        | _ => 0)
      | _ => 0 := rfl
    have hcca : c.cca K = match K.lookup (c.fa K) with
      | some ⟨_, _, .func fd, _⟩ => (match fd.closure with
        | [(_, a)] => a
        | _ => 0)
      | _ => 0 := rfl
    cases q : K.lookup (c.fa K) with
    | none => rw [q] at h12; cases h12
    | some o =>
      obtain ⟨oc, od, dt, osl⟩ := o
      rw [q] at h12 e hcda hcca
      cases dt with
      | func fd =>
        obtain ⟨n1, n2, n3, n4, n5, n6, n7, n8, n9, n10, n11, n12, n13, n14, n15⟩ := fd
        simp only [Option.some.injEq, Prod.mk.injEq] at e
        obtain ⟨e1, e2, e3, e4, e5, e6, e7, e8⟩ := e
        subst e1 e2 e3 e4 e5 e6 e8
        dsimp only at h12 hcda hcca
        cases n7 with
        | nil => cases e7
        | cons y ys =>
          obtain ⟨y1, y2⟩ := y
          cases ys with
          | cons z zs => simp at e7
          | nil =>
            simp only [List.map_cons, List.map_nil, List.cons.injEq, and_true] at e7
            subst e7
            dsimp only at hcca
            rw [hcca]
            cases n13 with
            | ref a =>
              cases n8 with
              | none =>
                dsimp only at h12 hcda
                rw [hcda]
                exact ⟨oc, od, n9, n10, n11, n12, n14, osl, rfl, h12⟩
              | _ => cases h12
            | _ => cases h12
      | _ => cases h12
  obtain ⟨oc, od, kV, doc, pm, an, ct, osl, lk, hc⟩ := hcode
  refine ⟨⟨oexB_ok h1, h2, h3, ?_, ?_, Option.isSome_iff_exists.mp h6, h7, h8, h9, h10, h11, top, noS⟩, ⟨oc, od, kV, doc, pm, an, ct, osl, lk⟩, hc, xfB_ok h13, excCB_ok h14⟩
  · unfold ClI.codeB at h4
    split at h4
    · rename_i a b vs d hl
      split at h4
      · rename_i f t hv
        exact ⟨_, _, vs, _, f, t, hl, hv, h4⟩
      · cases h4
    · cases h4
  · unfold ClI.cellB at h5
    split at h5
    · rename_i a b C d hl
      obtain rfl := of_decide_eq_true h5
      exact ⟨_, _, _, hl⟩
    · cases h5

structure Hk where
  fa : List He.Fa
  fn : List He.DefD
  cl : List ClI
  tf : List He.Defn
  file : Str
  ex : PySem.W.Frag → Bool
abbrev AlF : Type := He.AlD × List FnC × Bool
def Hk.frag (g : Addr → Option Obj) (n : Nat) : PySem.W.Frag := He.frT g (He.asD g n ++ [PySem.cStatics])
def Hk.obs (k : Hk) (n : Nat) (g : Addr → Option Obj) : AlF := (He.obsD k.fa k.fn (Hk.frag g n), k.cl.map fun c => c.ob (Hk.frag g n), (k.cl.all fun c => c.okB k.file (Hk.frag g n)) && (k.ex (Hk.frag g n) && He.tabsB g k.tf (Hk.frag g n)))
def Hk.val (k : Hk) : AlF := (He.valD k.fn, k.cl.map ClI.val, true)
structure Hk.Says (k : Hk) (h : Heap) (K : PySem.W.Frag) : Prop where
  d : He.SaysD k.fa k.fn K
  c : k.cl.map (fun c => c.ob K) = k.cl.map ClI.val
  ok : (k.cl.all fun c => c.okB k.file K) = true
  more : k.ex K = true
  hd : ∀ p ∈ k.tf, PySem.W.codeHdIn K (He.cT K p).1 (He.cT K p).2 = true
  out : ∀ p ∈ k.tf, K.lookup (He.cT K p).2 = none
  empty : ∀ p ∈ k.tf, h.get? (He.cT K p).2 = some { cls := .none, data := .fields #[] }
theorem Hk.says {k : Hk} {n : Nat} {h : Heap} (e : k.obs n h.get? = k.val) : k.Says h (Hk.frag h.get? n) := by
  have e1 : He.obsD k.fa k.fn (Hk.frag h.get? n) = He.valD k.fn := congrArg (fun z : AlF => z.1) e
  have e2 : (k.cl.map fun c => c.ob (Hk.frag h.get? n)) = k.cl.map ClI.val := congrArg (fun z : AlF => z.2.1) e
  have e3 : ((k.cl.all fun c => c.okB k.file (Hk.frag h.get? n)) && (k.ex (Hk.frag h.get? n) && He.tabsB h.get? k.tf (Hk.frag h.get? n))) = true := congrArg (fun z : AlF => z.2.2) e
  obtain ⟨h1, h2⟩ := He.ba e3
  obtain ⟨h2, h3⟩ := He.ba h2
  have key : ∀ p ∈ k.tf, PySem.W.codeHdIn (Hk.frag h.get? n) (He.cT (Hk.frag h.get? n) p).1 (He.cT (Hk.frag h.get? n) p).2 = true ∧ ∃ o, h.get? (He.cT (Hk.frag h.get? n) p).2 = some o ∧ He.emptyTab o = true := fun p hp => by
    obtain ⟨h4, h5⟩ := He.ba (List.all_eq_true.mp h3 p hp)
    refine ⟨h4, ?_⟩
    cases q : h.get? (He.cT (Hk.frag h.get? n) p).2 with
    | none => rw [q] at h5; cases h5
    | some o => rw [q] at h5; exact ⟨o, rfl, h5⟩
  refine ⟨e1, e2, h1, h2, fun p hp => (key p hp).1, fun p hp => ?_, fun p hp => ?_⟩
  · obtain ⟨_, o, q, z⟩ := key p hp
    exact He.frT_none q z
  · obtain ⟨_, o, q, z⟩ := key p hp
    rw [q, He.emptyTab_eq z]
def Hk.hook (k : Hk) (n : Nat) : PySem.W.Hook where
  α := AlF
  obs := fun s => k.obs n s.heap.get?
  val := fun _ => k.val
  says := fun _ h => ∃ K : PySem.W.Frag, K.In h ∧ k.Says h K
  of := fun _ _ e => ⟨_, He.frT_in, Hk.says e⟩
  keeps := fun _ _ _ ⟨K, hK, c⟩ kp => ⟨K, PySem.W.Frag.In.keeps hK kp, ⟨c.d, c.c, c.ok, c.more, c.hd, c.out, fun p hp => kp _ _ (c.empty p hp)⟩⟩
theorem Hk.obs_eq {k : Hk} {n : Nat} {g : Addr → Option Obj} {s : Shared} (h : ∀ a, g a = s.heap.get? a) : k.obs n g = (k.hook n).obs s := by
  have e : g = s.heap.get? := funext h
  rw [e] <;> rfl

/-- the function data at a -/
def fdO (K : PySem.W.Frag) (a : Addr) : FuncData := match K.lookup a with
  | some ⟨_, _, .func fd, _⟩ => fd
  | _ => default
/-- what holds of the names, at a heap -/
structure Zn (k : Hk) (prog : Program) (K : PySem.W.Frag) (mg : Str → Option Value) : Prop where
  at_ : ∃ h : Heap, K.In h ∧ h.Ns mainGlobals mg ∧ k.Says h K
  top : (prog.main.scope.names.lookup ("super" : Str)).isSome = false
  file : k.file = prog.main.file
section
variable {k : Hk} {prog : Program} {K : PySem.W.Frag} {mg : Str → Option Value}
theorem Zn.glo (z : Zn k prog K mg) (i : Nat) {x : Str} (e : k.fa[i]? = some (.glo x) := by rfl) : mg x = some (.ref (He.ga K x)) := by
  obtain ⟨h, X, G, c⟩ := z.at_
  exact He.glo_ok X G (c.d.fact i e)
theorem Zn.free (z : Zn k prog K mg) (i : Nat) {x : Str} (e : k.fa[i]? = some (.free x) := by rfl) : mg x = none := by
  obtain ⟨h, X, G, c⟩ := z.at_
  exact He.free_ok X G (c.d.fact i e)
theorem Zn.int (z : Zn k prog K mg) (i : Nat) {x : Str} {j : Int} (e : k.fa[i]? = some (.int x j) := by rfl) : ∃ t, mg x = some (.int j t) := by
  obtain ⟨h, X, G, c⟩ := z.at_
  exact He.int_ok X G (c.d.fact i e)
theorem Zn.exm (z : Zn k prog K mg) (i : Nat) {x y : Str} {b : Bool} (e : k.fa[i]? = some (.exm x y b) := by rfl) : PySem.W.exmOne K (.ref (He.ga K x)) (.ref (He.ga K y)) = some b := by
  obtain ⟨h, X, G, c⟩ := z.at_
  exact He.exm_ok (c.d.fact i e)
theorem Zn.def_ (z : Zn k prog K mg) (i : Nat) {x : Str} {st : Stmt} (e : k.fn[i]? = some ⟨(x, none), x, x, defArgs st, defBody st, defScope st, [], []⟩ := by rfl) : Fun K x x st (He.ga K x) (fdO K (He.ga K x)) ∧
    ∀ ps : List Str, (∀ kV doc pm an cdv, ∀ ct, ∀ us : List Value, us.length = ps.length → bindArgs (PySem.W.fnOf x x (defArgs st) (defBody st) (defScope st) .none kV doc pm an cdv ct) ⟨us, []⟩ = pure (ps.zip us)) → Binds K (fdO K (He.ga K x)) ps [] := by
  obtain ⟨h, X, G, c⟩ := z.at_
  obtain ⟨fd, F⟩ := c.d.def_ i e
  have F1 : Fun K x x st (He.ga K x) fd := He5.fun_of F
  have e2 : fdO K (He.ga K x) = fd := by
    obtain ⟨oc, od, kV, doc, pm, an, cdv, ct, osl, e1, e3, e4⟩ := F1.ex
    unfold fdO
    rw [e3]
  rw [e2]
  refine ⟨F1, fun ps hb => Binds.all fun us hl => ?_⟩
  obtain ⟨oc, od, kV, doc, pm, an, cdv, ct, osl, e1, e3, e4⟩ := F1.ex
  rw [e1]
  exact hb _ _ _ _ _ _ us hl
theorem Zn.cls (z : Zn k prog K mg) (i j : Nat) {c : ClI} (e : k.cl[i]? = some c := by rfl) (e2 : k.fa[j]? = some (.free "super") := by rfl) : ClOk prog K mg c := by
  have nS := z.free j e2
  obtain ⟨h, X, G, s⟩ := z.at_
  have m := List.mem_of_getElem? e
  refine ClI.ok (z.file ▸ List.all_eq_true.mp s.ok c m) ?_ z.top nS
  have e3 : (k.cl.map fun c => c.ob K)[i]? = (k.cl.map ClI.val)[i]? := by rw [s.c]
  rw [List.getElem?_map, List.getElem?_map, e] at e3
  exact Option.some.inj e3
theorem Zn.more (z : Zn k prog K mg) : k.ex K = true := by
  obtain ⟨h, X, G, s⟩ := z.at_
  exact s.more
end
end FL
namespace FL
open PySem PySem.Spec PyProof.Rows L2

section
variable {X : Cx} {sg : Sta} {W : WX} {elt tg iter : Expr} {ifs : List Expr} {scope : Scope} {own : List (Str × Nat)} {d : DA} {d1 : DE} {c1 : DT} {τ : DG} {ts vs : List Nat} {w w1 p p1 p2 f f1 : Bool} {pos : Pos}
theorem loopC_noex {τ : DG} {t : DT} {e : DE} {ρ : Env} : ∀ {xs : List PyData} {o : Orc} {acc : List PyData} {c : Exn} {ρ' : Env} {o' : Orc}, loopC τ t e ρ xs o acc ≠ .ex c ρ' o' := by
  intro xs
  induction xs with
  | nil => intro o acc c ρ' o' h; cases h
  | cons v vs' ih =>
    intro o acc c ρ' o' h
    simp only [loopC] at h
    split at h
    · cases h
    · split at h
      · split at h
        · split at h
          · split at h
            · exact ih h
            · cases h
          · cases h
        · exact ih h
      · cases h
/-- the loop of a comprehension, from the block's own state -/
theorem comp_loop {σ : Sl} {H1 : Hp} {okX : Addr → Prop} {S : Sad} {ρ1 ρ2 : Env} {o1 o2 : Orc} {xs acc0 : List PyData} {J : It} {q : Addr → Prop} {D : Addr} {Q : VK} (hvs : ∀ i, i ∈ ts → i ∈ vs)
    (rB : Rst sg.blk ⟨H1, okX, S⟩ okX S X.K H1 (wipe σ vs) (wipeE ρ1 vs) o1) (hD : H1 D = none) (wk : Wlk q X.K J xs okX H1) (hq : ∀ H', Chg S H1 H' → Stp q H1 H')
    (e2 : loopC τ c1 d1 (wipeE ρ1 vs) xs o1 [] = .ok acc0 ρ2 o2)
    (fin : ∀ ys H', Chg S H1 H' → ROrc H' o2 S → H' D = some (.lst ys) → Rps (mns okX D) X.K H' acc0 ys → flats acc0 = true → Q (.ref D) H') :
    ∃ Wv : Nat → Nat → Hp → Prop, (∃ m, Wv 0 m (upd H1 D (.lst []))) ∧ ∀ i m H, Wv i m H →
      (J.stop i H ∧ Q (.ref D) H) ∨ (J.go i H ∧ ∃ Nv : Hp → Prop, (∀ H', Nv H' → ∃ m', m' < m ∧ Wv (i + 1) m' H') ∧ ∀ x H', J.yld i H x H' → tG X.K sg.blk ts τ x (wipe σ vs) H' fun σ2 H2 => wipe σ2 vs = wipe σ vs ∧ tT X.K X.mg sg.blk WF p1 c1 σ2 H2 fun b H3 =>
        if b = true then tE X.K X.mg sg.blk WF w1 p2 f1 d1 σ2 H3 fun y H4 => ∃ acc, H4 D = some (.lst acc) ∧ acc.length < sizeLine ∧ Nv (upd H4 D (.lst (acc ++ [y]))) else Nv H3) := by
  let gB : Gh := ⟨H1, okX, S⟩
  let okD : Addr → Prop := mns okX D
  have nSD : ¬ inS S D := rB.orcS hD
  have okS : ∀ a, okX a → ¬ inS S a := fun a h => (rB.sub a h).2
  have hok : ∀ {H'}, Chg S H1 H' → Sx okX H1 (mns okX D) H' := fun c => ⟨c.stp rB.orc okS, fun a u h e _ => ⟨h, ne_of_none e hD⟩⟩
  refine ⟨fun i m H' => m = xs.length - i ∧ i ≤ xs.length ∧ ∃ o' acc ys, Rst sg.blk gB okD S X.K H' (wipe σ vs) (wipeE ρ1 vs) o' ∧ Chg S H1 H' ∧ H' D = some (.lst ys) ∧ Rps okD X.K H' acc ys ∧ flats acc = true ∧
      loopC τ c1 d1 (wipeE ρ1 vs) (xs.drop i) o' acc = .ok acc0 ρ2 o2, ⟨xs.length, (by simp), Nat.zero_le _, o1, [], [], rB.growBut (.upd hD) hD ⟨_, upd_same⟩, (Grow.upd hD).chg, upd_same, .nil, rfl, (by rw [List.drop_zero]; exact e2)⟩, ?_⟩
  rintro i m H' ⟨rfl, hi, o', acc, ys, r', ch, hD', ra, fa, el⟩
  by_cases hlt : i < xs.length
  · have hx : xs[i]? = some xs[i] := List.getElem?_eq_getElem hlt
    obtain ⟨go, yl⟩ := wk.item (mns okX D) H' (hok ch) (hq H' ch) (fun a h => ⟨rB.fr a (ch.back h), fun z => by rw [z, hD'] at h; cases h⟩) i _ hx
    rw [List.drop_eq_getElem_cons hlt] at el
    simp only [loopC] at el
    refine .inr ⟨go, fun H'' => i + 1 ≤ xs.length ∧ ∃ o' acc ys, Rst sg.blk gB okD S X.K H'' (wipe σ vs) (wipeE ρ1 vs) o' ∧ Chg S H1 H'' ∧ H'' D = some (.lst ys) ∧ Rps okD X.K H'' acc ys ∧ flats acc = true ∧
      loopC τ c1 d1 (wipeE ρ1 vs) (xs.drop (i + 1)) o' acc = .ok acc0 ρ2 o2, fun H'' h => ⟨xs.length - (i + 1), by omega, rfl, h⟩, fun x H2 y => ?_⟩
    obtain ⟨gr, rx⟩ := yl x H2 y
    have lst_of : ∀ {H3 : Hp}, Chg S H2 H3 → H3 D = some (.lst ys) := fun c => c.keep D _ (gr D _ hD') nSD fun ps z => by cases z
    have back : ∀ {σ3 : Sl} {ρ4 : Env} {H3 : Hp} {ok3 : Addr → Prop} {o3 : Orc}, Rst sg.blk gB ok3 S X.K H3 σ3 ρ4 o3 → Chg S H2 H3 → Rst sg.blk gB okD S X.K H3 (wipe σ vs) (wipeE ρ1 vs) o3 := fun r3 c3 => (r'.grow gr).through c3 r3.orc
    split at el
    · cases el
    · rename_i ρ3 e3
      refine ⟨gB, xs[i], wipeE ρ1 vs, o', S, okD, r'.grow gr, rx, ρ3, e3, fun σ3 r3 l3 k3 => ⟨?_, ?_⟩⟩
      · exact wipe_eq (by rw [l3, wipe_length]) fun i hi => by rw [k3 i fun h => hi (hvs i h), wipe_out hi]
      · show tT X.K X.mg sg.blk WF p1 c1 σ3 H2 _
        split at el
        · rename_i b ρ4 o4 e4
          refine tT.of_ok r3 e4 fun H3 ok3 n3 => ?_
          have c3 : Chg S H2 H3 := n3.chg
          cases b with
          | false =>
            simp only [Bool.false_eq_true, if_false] at el ⊢
            exact ⟨hlt, o4, acc, ys, back n3.st c3, (ch.trans gr.chg).trans c3, lst_of c3, ra.step (fun _ h => h) ((gr.chg.trans c3).stp r'.orc fun a h => (r'.sub a h).2), fa, el⟩
          | true =>
            simp only [if_true] at el ⊢
            split at el
            · rename_i dv ρ5 o5 e5
              by_cases hf : FL.flat dv = true ∧ acc.length < sizeLine
              · rw [if_pos hf] at el
                refine tE.of_ok n3.st e5 fun y H4 ok4 n4 ry _ => ?_
                have c4 : Chg S H2 H4 := c3.trans n4.chg
                have ry' : Rp okD X.K H4 dv y := ry.flat hf.1
                have r4 := back n4.st c4
                have D4 := lst_of c4
                have st4 : Stp okD H' H4 := (gr.chg.trans c4).stp r'.orc fun a h => (r'.sub a h).2
                have stD : Stp okD H4 (upd H4 D (.lst (ys ++ [y]))) := fun b v e h => by
                  by_cases hb : b = D
                  · subst hb
                    rcases h with ⟨h, _⟩ | h
                    · exact absurd rfl h.2
                    · rw [D4] at e; cases e; exact h.elim
                  · rw [upd_ne hb]; exact e
                refine ⟨ys, D4, by rw [← ra.length]; exact hf.2, hlt, o5, acc ++ [dv], ys ++ [y], ?_, ?_, upd_same, ?_, flats_append fa (by simp [flats, hf.1]), el⟩
                · exact r4.side (fun h => h.2 rfl) (fun ⟨_, _, h, _⟩ => by cases h) nSD hD ⟨_, D4, fun z => z⟩ (fun f z => by rw [D4] at z; unfold LamX.CodeO at z; cases z) _
                · have c5 := (ch.trans gr.chg).trans c4
                  refine ⟨fun a u e n t => ?_, fun a u e => ?_⟩
                  · rw [upd_ne (ne_of_none e hD)]; exact c5.keep a u e n t
                  · rw [upd_ne (ne_of_none e hD)]; exact c5.trk a u e
                · exact (ra.step (fun _ h => h) (st4.trans (fun _ h => h) stD)).append (.cons (ry'.step (fun _ h => h) stD) .nil)
              · rw [if_neg hf] at el; cases el
            · cases el
        · cases el
  · obtain rfl : i = xs.length := by omega
    rw [List.drop_length] at el
    cases el
    exact .inl ⟨wk.stop (mns okX D) H' (hok ch) (hq H' ch), fin ys H' ch r'.orc hD' ra fa⟩

def keysD : PyData → Option (List PyData)
  | .dict ps => if (!ps.isEmpty && ps.all fun p => (toK p.1).isSome) = true then some (ps.map (·.1)) else none
  | _ => none
theorem keysD_dt {ok : Addr → Prop} {K : PySem.W.Frag} {H : Hp} {ps : List (PyData × PyData)} {kvs : List KTv} (r : Rtv ok K H ps kvs) {xs : List PyData} : keysD (.dict ps) ≠ some xs := by
  cases r with
  | nil => simp [keysD]
  | cons q t rs h r => simp [keysD, toK, keyTD]
theorem keysD_some {ps : List (PyData × PyData)} {xs : List PyData} (h : keysD (.dict ps) = some xs) : xs = ps.map (·.1) := by
  simp only [keysD] at h
  split at h
  · cases h; rfl
  · cases h
def dKeys (i : Nat) : DA := fun ρ o => match ρ[i]? with
  | some (some v) => .ofO (keysD v) ρ o
  | _ => .bad
theorem PE.or {e : Expr} {t1 t2 : TE} (h1 : PE X e t1) (h2 : PE X e t2) : PE X e (fun σ H Q => t1 σ H Q ∨ t2 σ H Q) := ⟨fun pins s σ H Q I q => q.elim (h1.run pins s σ H Q I) (h2.run pins s σ H Q I)⟩
theorem Wlk.keys {q ok : Addr → Prop} {K : PySem.W.Frag} {H : Hp} {a : Addr} {ob : Obj} {kvs : List (Key × V)} {ps : List (PyData × PyData)} (h : H a = some (.frz ob (.dK kvs))) (r : Rkv ok K H ps kvs) : Wlk q K (Itk a ob kvs) (ps.map (·.1)) ok H where
  item := fun ok' H' s st fr i d e => by
    have h1 : H' a = some (.frz ob (.dK kvs)) := s.stp a _ h (.inr trivial)
    have rk := Rkv.keysOf (r.step0 s.mono s.stp)
    obtain ⟨x, ex, rx⟩ := rk.get e
    rw [List.getElem?_map] at ex
    cases ek : kvs[i]? with
    | none => rw [ek] at ex; cases ex
    | some kv =>
      rw [ek] at ex
      cases ex
      refine ⟨⟨h1, (List.getElem?_eq_some_iff.mp ek).1⟩, fun y H2 ⟨e2, k, v, hk, hy⟩ => ?_⟩
      subst e2
      rw [ek] at hk
      cases hk
      subst hy
      exact ⟨.refl, rx⟩
  stop := fun ok' H' s st => ⟨s.stp a _ h (.inr trivial), by rw [List.length_map, r.length]; exact Nat.le_refl _⟩
theorem frz_stp {ok : Addr → Prop} {H : Hp} {a : Addr} {ob : Obj} {kvs : List (Key × V)} (h : H a = some (.dK kvs)) : ∀ b u, H b = some u → b ≠ a → upd H a (.frz ob (.dK kvs)) b = some u := fun b u e n => by rw [upd_ne n]; exact e
section
variable {ok : Addr → Prop} {K : PySem.W.Frag} {H : Hp} {a : Addr} {ob : Obj} {kvs : List (Key × V)}
theorem lock_rd (h : H a = some (.dK kvs)) {b : Addr} {u : HO} (e : Rd H b u) : Rd (upd H a (.frz ob (.dK kvs))) b u := by
  by_cases hb : b = a
  · subst hb
    rcases e with e | ⟨o, e⟩
    · rw [h] at e; cases e; exact .inr ⟨ob, upd_same⟩
    · rw [h] at e; cases e
  · rcases e with e | ⟨o, e⟩
    · exact .inl (by rw [upd_ne hb]; exact e)
    · exact .inr ⟨o, by rw [upd_ne hb]; exact e⟩
theorem lock_tp (h : H a = some (.dK kvs)) {b : Addr} {ds : List PyData} {xs : List V} (e : TpD H b ds xs) : TpD (upd H a (.frz ob (.dK kvs))) b ds xs := by
  rcases e with ⟨o, eo, e⟩ | ⟨eo, e⟩
  · exact .inl ⟨o, eo, by rw [upd_ne (fun z => by rw [z, h] at e; cases e)]; exact e⟩
  · exact .inr ⟨eo, by rw [upd_ne (fun z => by rw [z, h] at e; cases e)]; exact e⟩
mutual
theorem lock_rp (h : H a = some (.dK kvs)) : ∀ {d : PyData} {v : V}, Rp ok K H d v → Rp ok K (upd H a (.frz ob (.dK kvs))) d v
  | _, _, .non => .non
  | _, _, .bl b => .bl b
  | _, _, .int i => .int i
  | _, _, .str x => .str x
  | _, _, .tup t r => .tup (lock_tp h t) (lock_rps h r)
  | _, _, .lst q e r => .lst q (lock_rd h e) (lock_rps h r)
  | _, _, .dk q e r => .dk q (lock_rd h e) (lock_rkv h r)
  | _, _, .dt (a := b) q e r => .dt q (by rw [upd_ne (fun z => by rw [z, h] at e; unfold DTi at e; cases e)]; exact e) (lock_rtv h r)
theorem lock_rps (h : H a = some (.dK kvs)) : ∀ {d : List PyData} {v : List V}, Rps ok K H d v → Rps ok K (upd H a (.frz ob (.dK kvs))) d v
  | _, _, .nil => .nil
  | _, _, .cons e r => .cons (lock_rp h e) (lock_rps h r)
theorem lock_rkv (h : H a = some (.dK kvs)) : ∀ {d : List (PyData × PyData)} {v : List (Key × V)}, Rkv ok K H d v → Rkv ok K (upd H a (.frz ob (.dK kvs))) d v
  | _, _, .nil => .nil
  | _, _, .cons e r => .cons (lock_rp h e) (lock_rkv h r)
theorem lock_rtv (h : H a = some (.dK kvs)) : ∀ {d : List (PyData × PyData)} {v : List KTv}, Rtv ok K H d v → Rtv ok K (upd H a (.frz ob (.dK kvs))) d v
  | _, _, .nil => .nil
  | _, _, .cons q t rs e r => .cons q (lock_tp h t) (lock_rps h rs) (lock_rp h e) (lock_rtv h r)
end
end
mutual
/-- flat data leans on tuples alone -/
theorem flat_mv {ok ok' : Addr → Prop} {K : PySem.W.Frag} {H H' : Hp} (h : ∀ b ds xs, TpD H b ds xs → TpD H' b ds xs) : ∀ {d : PyData} {v : V}, flat d = true → Rp ok K H d v → Rp ok' K H' d v
  | _, _, _, .non => .non
  | _, _, _, .bl b => .bl b
  | _, _, _, .int i => .int i
  | _, _, _, .str x => .str x
  | _, _, e, .tup t r => .tup (h _ _ _ t) (flats_mv h (by simpa [FL.flat] using e) r)
  | _, _, e, .lst _ _ _ => by simp [FL.flat] at e
  | _, _, e, .dk _ _ _ => by simp [FL.flat] at e
  | _, _, e, .dt _ _ _ => by simp [FL.flat] at e
theorem flats_mv {ok ok' : Addr → Prop} {K : PySem.W.Frag} {H H' : Hp} (h : ∀ b ds xs, TpD H b ds xs → TpD H' b ds xs) : ∀ {d : List PyData} {v : List V}, flats d = true → Rps ok K H d v → Rps ok' K H' d v
  | _, _, _, .nil => .nil
  | _, _, e, .cons t r => by
    simp only [FL.flats, Bool.and_eq_true] at e
    exact .cons (flat_mv h e.1 t) (flats_mv h e.2 r)
end
theorem lock_off {H : Hp} {a : Addr} {ob : Obj} {kvs : List (Key × V)} {u : HO} (h : H a = some (.frz ob (.dK kvs))) {b : Addr} {ds : List PyData} {xs : List V} (t : TpD H b ds xs) : TpD (upd H a u) b ds xs := by
  rcases t with ⟨o, eo, e⟩ | ⟨eo, e⟩
  · exact .inl ⟨o, eo, by rw [upd_ne (fun z => by rw [z, h] at e; cases e)]; exact e⟩
  · exact .inr ⟨eo, by rw [upd_ne (fun z => by rw [z, h] at e; cases e)]; exact e⟩
/-- the block's state, over another heap -/
theorem Rst.blkAt {g : Gh} {ok okX : Addr → Prop} {S : Sad} {K : PySem.W.Frag} {H H' : Hp} {σ : Sl} {ρ : Env} {o : Orc} (r : Rst sg.blk ⟨H, ok, S⟩ ok S K H σ ρ o) (hf : ∀ a, H' a = none → H a = none) (hr : ∀ d v, Rp ok K H d v → Rp ok K H' d v) (ro : ROrc H' o S) : Rst sg.blk ⟨H', ok, S⟩ ok S K H' σ ρ o where
  len := r.len
  pl := fun i d e n => let ⟨x, e1, e2⟩ := r.pl i d e n; ⟨x, e1, hr _ _ e2⟩
  ow := fun i d _ h => by cases h
  inj := fun i j a d e h => by cases h
  fr := fun a e => r.fr a (hf a e)
  sub := r.sub
  h0 := fun a e => r.fr a (hf a e)
  chg := fun a u e _ _ => e
  trk := fun a u e => ⟨u, e⟩
  orc := ro
  sS := .inl rfl
  ist := r.ist
theorem comp_keys {σ : Sl} {H : Hp} {Q : VK} {i : Nat} (ho : i ∉ sg.own) (hv : ts.all (fun i => decide (i ∈ vs)) = true) (hst : (match sg.ist with | some i => decide (i ∉ vs) | none => true) = true)
    (q : tE X.K X.mg sg W false true true (dComp (dKeys i) vs τ c1 d1) σ H Q) :
    tLc (iKeys (tVar i)) (tG X.K sg.blk ts τ) (tT X.K X.mg sg.blk WF p1 c1) (tE X.K X.mg sg.blk WF w1 p2 f1 d1) vs σ H Q ∨ tLockE (tLc (iKeys (tVar i)) (tG X.K sg.blk ts τ) (tT X.K X.mg sg.blk WF p1 c1) (tE X.K X.mg sg.blk WF w1 p2 f1 d1) vs) σ H Q := by
  obtain ⟨g, ρ, o, S, ok, r, q⟩ := q
  have hvs : ∀ i, i ∈ ts → i ∈ vs := fun i hi => by
    have := List.all_eq_true.mp hv i hi
    simpa using this
  have hist : ∀ i, sg.ist = some i → i ∉ vs := fun i e => by
    rw [e] at hst
    simpa using hst
  unfold dComp dKeys at q
  cases ed : ρ[i]? with
  | none => rw [ed] at q; exact q.elim
  | some od =>
    cases od with
    | none => rw [ed] at q; exact q.elim
    | some v =>
      rw [ed] at q
      simp only at q
      cases ek : keysD v with
      | none => rw [ek] at q; exact q.elim
      | some xs =>
        rw [ek] at q
        simp only [Res.ofO, Res.bind] at q
        cases v with
        | dict ps =>
          have ekk := ek
          obtain rfl := keysD_some ek
          obtain ⟨x, ex, rx⟩ := r.pl i _ ed ho
          cases e2 : loopC τ c1 d1 (wipeE ρ vs) (ps.map (·.1)) o [] with
          | bad => rw [e2] at q; exact q.elim
          | ex c ρ2 o2 => exact absurd e2 loopC_noex
          | ok acc0 ρ2 o2 =>
            rw [e2] at q
            simp only at q
            have rB := r.blk (vs := vs) hist
            -- what is left to be shown behind the loop, over the heap H
            have fin : ∀ (D : Addr) (ys : List V) (H' : Hp), H D = none → Chg S H H' → ROrc H' o2 S → H' D = some (.lst ys) → Rps (mns (okB sg ok σ ρ) D) X.K H' acc0 ys → flats acc0 = true → Q (.ref D) H' := fun D ys H' hD ch ro hD' ra fa => by
              have nt : Nx true sg g ok S X.K H σ ρ ρ o2 H' ok := Nx.through r ch ro
              have nSD : ¬ inS S D := r.orcS hD
              refine q (.ref D) H' ok nt (Rp.lst (r.fr D hD) (.inl hD') (ra.flat fa)) fun _ _ => ⟨D, rfl, hD, r.newH0 hD, nSD, ?_, ⟨ys, hD', ra.flat fa⟩, fun i d hi hd z => ?_⟩
              · have c' : Chg S (upd H D (.lst ys)) H' := by
                  refine ⟨fun a u e n t => ?_, fun a u e => ?_⟩
                  · by_cases ha : a = D
                    · subst ha; rw [upd_same] at e; cases e; exact hD'
                    · rw [upd_ne ha] at e; exact ch.keep a u e n t
                  · by_cases ha : a = D
                    · subst ha; exact ⟨_, hD'⟩
                    · rw [upd_ne ha] at e; exact ch.trk a u e
                exact (r.growBut (.upd hD) hD ⟨_, upd_same⟩).through c' ro
              · obtain ⟨b, e1, w1⟩ := r.ow i d hd hi
                obtain ⟨u1, hu1, _⟩ := w1.ct.there
                rw [e1] at z
                injection z with z; injection z with z; injection z with z
                rw [z, hD] at hu1; cases hu1
            cases rx with
            | dt hok e rr => exact absurd ekk (keysD_dt rr)
            | dk hok hrd rr =>
              rename_i a kvs
              rcases hrd with hd | ⟨ob, hd⟩
              · refine .inr ⟨a, .dK kvs, hd, trivial, fun ob => ?_⟩
                have nSa : ¬ inS S a := (r.sub a hok).2
                have roL : ROrc (upd H a (.frz ob (.dK kvs))) o S := rB.orc.put nSa (fun c z => by rw [hd] at z; unfold LamX.CodeO at z; cases z) _
                have rL := Rst.blkAt (g := g) (okX := ok) rB (fun b e => by
                  by_cases hb : b = a
                  · subst hb; rw [upd_same] at e; cases e
                  · rw [upd_ne hb] at e; exact e) (fun d v z => lock_rp (ob := ob) hd z) roL
                refine ⟨.ref a, ex, a, ob, rfl, .inl ⟨kvs, upd_same, fun D hD => ?_⟩⟩
                have hDa : D ≠ a := fun z => by rw [z, upd_same] at hD; cases hD
                refine comp_loop (q := fun _ => False) (Q := fun v H' => H' a = some (.frz ob (.dK kvs)) ∧ Q v (upd H' a (.dK kvs))) hvs rL hD (Wlk.keys upd_same (lock_rkv hd (rr.step (fun _ z => .inl z) .refl))) (fun H' ch => ch.stp roL fun _ z => z.elim) e2 fun ys H' ch ro hD' ra fa => ?_
                have hl : H' a = some (.frz ob (.dK kvs)) := ch.keep a _ upd_same nSa fun ps z => by cases z
                refine ⟨hl, fin D ys _ (by rw [upd_ne hDa] at hD; exact hD) ⟨fun b u e n t => ?_, fun b u e => ?_⟩ (ro.put nSa (fun c z => by rw [hl] at z; unfold LamX.CodeO at z; cases z) _) (by rw [upd_ne hDa]; exact hD') ?_ fa⟩
                · by_cases hb : b = a
                  · subst hb; rw [hd] at e; cases e; exact upd_same
                  · rw [upd_ne hb]; exact ch.keep b u (by rw [upd_ne hb]; exact e) n t
                · by_cases hb : b = a
                  · subst hb; exact ⟨_, upd_same⟩
                  · rw [upd_ne hb]; exact ch.trk b u (by rw [upd_ne hb]; exact e)
                · exact flats_mv (fun b ds xs t => lock_off hl t) fa ra
              · refine .inl ⟨.ref a, ex, a, ob, rfl, .inl ⟨kvs, hd, fun D hD => ?_⟩⟩
                exact comp_loop (q := fun _ => False) hvs rB hD (Wlk.keys hd (rr.step (fun _ z => .inl z) .refl)) (fun H' ch => ch.stp rB.orc fun _ z => z.elim) e2 fun ys H' ch ro hD' ra fa => fin D ys H' hD ch ro hD' ra fa
        | _ => cases ek
theorem x_compK {x : Str} {p' : Pos} {i : Nat} (own : List (Str × Nat)) (hN : X.N.Nodup) (hg : ∀ s H C cl fp, PG (bX X s H scope C cl fp) tg (tG X.K sg.blk ts τ)) (ht : ∀ s H C cl fp, PTs (bX X s H scope C cl fp) ifs (tT X.K X.mg sg.blk WF p1 c1)) (he : ∀ s H C cl fp, PE (bX X s H scope C cl fp) elt (tE X.K X.mg sg.blk WF w1 p2 f1 d1))
    (hx : X.N[i]? = some x := by rfl) (hvx : Vis X.env.scope x := by first | exact .inl rfl | exact .inr (.inl rfl) | exact .inr (.inr rfl)) (ho : i ∉ sg.own := by decide) (hd : (x == ("__debug__" : Str)) = false := by decide) (hcd : (x == ("__classdict__" : Str)) = false := by decide)
    (ok : blkC X.N X.env.scope scope own = true := by rfl) (hc : X.calm = true := by rfl) (hv : ts.all (fun i => decide (i ∈ own.map (·.2))) = true := by rfl) (hst : (match sg.ist with | some i => decide (i ∉ own.map (·.2)) | none => true) = true := by rfl) (hs : ∀ y, foldedSetIterable (.Name x p') X.env y = pure y := by intro _; rfl) :
    PE X (.ListComp elt [⟨tg, .Name x p', ifs, 0⟩] scope pos) (tE X.K X.mg sg W false true true (dComp (dKeys i) (own.map (·.2)) τ c1 d1)) := by
  have l := pe_lc (elt := elt) (pos := pos) hc hN (pi_keys (tg := tg) (pe_var (pos := p') hx hvx hd hcd)) (blkOk_by ok) hg ht he hs
  exact PE.imp (PE.or l (pe_lock l)) fun _ _ _ q => comp_keys ho hv hst q
end

section
variable {X : Cx} {sg : Sta} {W : WX} {elt tg iter : Expr} {ifs : List Expr} {scope : Scope} {d : DA} {d1 : DE} {c1 : DT} {τ : DG} {ts : List Nat} {w w1 p p1 p2 f1 : Bool} {pos : Pos} {i : Nat} {y : Str} {py spos : Pos}
theorem x_asgLc (own : List (Str × Nat)) (hN : X.N.Nodup) (hi : PI X tg iter (tI X.K X.mg sg W w p d))
    (hg : ∀ s H C cl fp, PG (bX X s H scope C cl fp) tg (tG X.K sg.blk ts τ)) (ht : ∀ s H C cl fp, PTs (bX X s H scope C cl fp) ifs (tT X.K X.mg sg.blk WF p1 c1)) (he : ∀ s H C cl fp, PE (bX X s H scope C cl fp) elt (tE X.K X.mg sg.blk WF w1 p2 f1 d1)) (hy : X.N[i]? = some y := by rfl) (hyl : X.env.scope.names.lookup y = some .local := by rfl)
    (hsw : swapsWith (.ListComp elt [⟨tg, iter, ifs, 0⟩] scope pos) (some (.Name y py)) spos.line X.env = pure true := by rfl) (ok : blkC X.N X.env.scope scope own = true := by rfl) (ho : i ∉ sg.own := by decide) (hst' : sg.ist ≠ some i := by decide)
    (hc : X.calm = true := by rfl) (hv : ts.all (fun i => decide (i ∈ own.map (·.2))) = true := by rfl) (hst : (match sg.ist with | some i => decide (i ∉ own.map (·.2)) | none => true) = true := by rfl) (hs : ∀ x, foldedSetIterable iter X.env x = pure x := by intro _; rfl) :
    PS X (.Assign [.Name y py] (.ListComp elt [⟨tg, iter, ifs, 0⟩] scope pos) spos) (tS X.K X.mg sg W (dAsg i (dComp d (own.map (·.2)) τ c1 d1))) := s_asgLc hc hN hy hyl hsw hi (blkOk_by ok) hg ht he ho hst' hv hst hs
theorem x_asoLc (own : List (Str × Nat)) (hN : X.N.Nodup) (hi : PI X tg iter (tI X.K X.mg sg W w p d))
    (hg : ∀ s H C cl fp, PG (bX X s H scope C cl fp) tg (tG X.K sg.blk ts τ)) (ht : ∀ s H C cl fp, PTs (bX X s H scope C cl fp) ifs (tT X.K X.mg sg.blk WF p1 c1)) (he : ∀ s H C cl fp, PE (bX X s H scope C cl fp) elt (tE X.K X.mg sg.blk WF w1 p2 f1 d1)) (hy : X.N[i]? = some y := by rfl) (hyl : X.env.scope.names.lookup y = some .local := by rfl)
    (hsw : swapsWith (.ListComp elt [⟨tg, iter, ifs, 0⟩] scope pos) (some (.Name y py)) spos.line X.env = pure true := by rfl) (ok : blkC X.N X.env.scope scope own = true := by rfl) (ho : i ∈ sg.own := by decide) (hst' : sg.ist ≠ some i := by decide)
    (hc : X.calm = true := by rfl) (hv : ts.all (fun i => decide (i ∈ own.map (·.2))) = true := by rfl) (hst : (match sg.ist with | some i => decide (i ∉ own.map (·.2)) | none => true) = true := by rfl) (hs : ∀ x, foldedSetIterable iter X.env x = pure x := by intro _; rfl) :
    PS X (.Assign [.Name y py] (.ListComp elt [⟨tg, iter, ifs, 0⟩] scope pos) spos) (tS X.K X.mg sg W (dAsgC i (dComp d (own.map (·.2)) τ c1 d1))) := s_ownLc hc hN hy hyl hsw hi (blkOk_by ok) hg ht he ho hst' hv hst hs
end

section
variable {P : Program} {w : World} {K : PySem.W.Frag} {mg : Str → Option Value} {base : Heap} {N : List Str} {qual : Str} {scope : Scope} {f : Addr} {cdv : Value} {A : Around} {outer : List PySem.Env} {s : Shared} {H : Hp} {E : XK}
theorem tkD : Takes (cxOf (L2.CX P w) P w K mg base N qual scope f cdv A outer s H E) (wE E) := takes_of rfl rfl rfl rfl
theorem psD : PassesOwn (model P w) (cxOf (L2.CX P w) P w K mg base N qual scope f cdv A outer s H E).A (cxOf (L2.CX P w) P w K mg base N qual scope f cdv A outer s H E).env (cxOf (L2.CX P w) P w K mg base N qual scope f cdv A outer s H E).xe := passes_of rfl
theorem tkL {X : Cx} {c1 : Addr} : Takes (LamX.lamCx X A outer s H E scope f c1) (wE E) := takes_of rfl rfl rfl rfl
end
section
variable {X : Cx} {sg : Sta} {W : WX} {a b c e e2 : Expr} {es : List Expr} {d d1 d2 d3 : DE} {ds : DA} {c1 : DT} {w w1 w2 w3 p p1 p2 p3 f f1 f2 f3 : Bool} {i j l : Nat} {x y z : Str} {pos p' q1 q2 q3 q4 : Pos}
theorem x_con {k : Int} (hm : ∃ t, X.mg x = some (.int k t)) (hg : Gl X x := by rfl) (hd : (x == ("__debug__" : Str)) = false := by decide) : PE X (.Name x pos) (tE X.K X.mg sg W false true true (dC (.int k))) := hm.elim fun _ h => e_glob hg h hd
theorem x_if (hc : PT X c (tT X.K X.mg sg W p3 c1)) (ha : PE X a (tE X.K X.mg sg W w1 p1 f1 d1)) (hb : PE X b (tE X.K X.mg sg W w2 p2 f2 d2)) : PE X (.IfExp c a b pos) (tE X.K X.mg sg W (w1 || w2) (p3 && (p1 && p2)) (f1 && f2) (dIf c1 d1 d2)) := e_if hc ha hb
theorem x_cut {lo hi : Option Expr} {da db : DO} (he : PE X e (tE X.K X.mg sg W w1 p1 f1 d)) (ha : PO X lo (tPt X.K X.mg sg W p2 da)) (hb : PO X hi (tPt X.K X.mg sg W p3 db)) (hw : (!w1 || (p2 && p3)) = true := by rfl) :
    PE X (.Subscript e (.Slice lo hi none q1) pos) (tE X.K X.mg sg W false (p1 && (p2 && p3)) true (dCut d da db)) := e_cut he ha hb hw
theorem x_index {o : Expr} {apos cpos : Pos} (ho : PE X o (tE X.K X.mg sg W false p1 f1 d1)) (he : PE X e (tE X.K X.mg sg W w2 p2 f2 d2)) (hbase : attributeBase o "index" X.env (eval o X.env) = eval o X.env := by rfl)
    (hfew : ((backTo cpos (starEach [e] X.env)).all (fun x => !x.1) && (backToKw cpos (keywordEach [] X.env)).all (fun x => x.1.isSome) && decide ([e].length + ([] : List Keyword).length + (if ([] : List Keyword).isEmpty then 0 else 1) < 30)) = true := by rfl)
    (hline : (apos.endLine == cpos.line) = true := by rfl) (hs : starEach [e] X.env = (false, eval e X.env) :: starEach [] X.env := by rfl) :
    PE X (.Call (.Attribute o "index" apos) [e] [] cpos) (tE X.K X.mg sg W false (p1 && p2) true (dIndex d1 d2)) := e_index ho he hbase hfew hline hs
theorem x_rev {k : Nat} (he : PE X e (tE X.K X.mg sg W w1 p f1 d)) : PE X (.Subscript e (.Slice none none (some (.UnaryOp .USub (.Constant (.int 1) k q1) q2)) q3) pos) (tE X.K X.mg sg W false p true (dOp1 phRev d)) := e_rev he
theorem x_enum {elts : List Expr} {kk : Nat} {tpos : Pos} (hm : X.mg "enumerate" = none) (h : PE X e (tE X.K X.mg sg W w p f d)) (hg : Gl X "enumerate" := by rfl) (hs : starEach [e] X.env = (false, eval e X.env) :: starEach [] X.env := by rfl) :
    PI X (.Tuple elts kk tpos) (.Call (.Name "enumerate" p') [e] [] pos) (tI X.K X.mg sg W w p (dEnum d)) := i_enum hg hm h hs
theorem x_revI {tg : Expr} (hm : X.mg "reversed" = none) (h : PE X e (tE X.K X.mg sg W w p f d)) (hg : Gl X "reversed" := by rfl) (hs : starEach [e] X.env = (false, eval e X.env) :: starEach [] X.env := by rfl) :
    PI X tg (.Call (.Name "reversed" p') [e] [] pos) (tI X.K X.mg sg W w p (dRevI d)) := i_rev hg hm h hs
theorem x_rng1 {tg : Expr} (hm : X.mg "range" = none) (ha : PA X [a] (tA X.K X.mg sg W true p ds)) (hg : Gl X "range" := by rfl) (hs : starEach [a] X.env = [(false, eval a X.env)] := by rfl) : PI X tg (.Call (.Name "range" p') [a] [] pos) (tI X.K X.mg sg W false p (dRng rng1 ds)) := i_rng1 hg hm ha hs
theorem x_rng2 {tg : Expr} (hm : X.mg "range" = none) (ha : PA X [a, b] (tA X.K X.mg sg W true p ds)) (hg : Gl X "range" := by rfl) (hs : starEach [a, b] X.env = [(false, eval a X.env), (false, eval b X.env)] := by rfl) (hs2 : starEach [b] X.env = [(false, eval b X.env)] := by rfl) :
    PI X tg (.Call (.Name "range" p') [a, b] [] pos) (tI X.K X.mg sg W false p (dRng rng2 ds)) := i_rng2 hg hm ha hs hs2
theorem x_zip {elts : List Expr} {kk : Nat} {tpos : Pos} (hm : X.mg "zip" = none) (ha : PA X [a, b] (tA X.K X.mg sg W w p ds)) (hg : Gl X "zip" := by rfl) (hs : starEach [a, b] X.env = (false, eval a X.env) :: starEach [b] X.env := by rfl) (hpl : (backTo pos (starEach [b] X.env)).any (·.1) = false := by rfl) :
    PI X (.Tuple elts kk tpos) (.Call (.Name "zip" p') [a, b] [] pos) (tI X.K X.mg sg W w p (dRng zipD ds)) := i_zip hg hm ha hs hpl
theorem x_lrng1 {tpos q' : Pos} (hml : X.mg "list" = none) (hm : X.mg "range" = none) (ha : PE X a (tE X.K X.mg sg W w1 p f1 d)) (hc : X.calm = true := by rfl) (hgl : Gl X "list" := by rfl) (hg : Gl X "range" := by rfl) (na : starEach [a] X.env = (false, eval a X.env) :: starEach [] X.env := by rfl)
    (nc : starEach [.Call (.Name "range" p') [a] [] tpos] X.env = (false, eval (.Call (.Name "range" p') [a] [] tpos) X.env) :: starEach [] X.env := by rfl) : PE X (.Call (.Name "list" q') [.Call (.Name "range" p') [a] [] tpos] [] pos) (tE X.K X.mg sg W false p true (dLRng1 d)) := e_lrng1 hc hgl hml hg hm ha na nc
theorem x_lrng2 {tpos q' : Pos} (hml : X.mg "list" = none) (hm : X.mg "range" = none) (ha : PE X a (tE X.K X.mg sg W w1 p1 f1 d1)) (hb : PE X b (tE X.K X.mg sg W w2 p2 f2 d2)) (hc : X.calm = true := by rfl) (hgl : Gl X "list" := by rfl) (hg : Gl X "range" := by rfl) (na : starEach [a, b] X.env = (false, eval a X.env) :: starEach [b] X.env := by rfl)
    (nb : starEach [b] X.env = (false, eval b X.env) :: starEach [] X.env := by rfl) (hp : (backTo tpos (starEach [b] X.env)).any (·.1) = false := by rfl)
    (nc : starEach [.Call (.Name "range" p') [a, b] [] tpos] X.env = (false, eval (.Call (.Name "range" p') [a, b] [] tpos) X.env) :: starEach [] X.env := by rfl) : PE X (.Call (.Name "list" q') [.Call (.Name "range" p') [a, b] [] tpos] [] pos) (tE X.K X.mg sg W false (p1 && p2) true (dLRng2 d1 d2)) := e_lrng2 hc hgl hml hg hm ha hb na nb hp nc
theorem x_stAt (hu : X.A.units + 66 < cLine) (hi : sg.ist = some i := by rfl) (hN : X.N[i]? = some x := by rfl) (hv : Vis X.env.scope x := by first | exact .inl rfl | exact .inr (.inl rfl) | exact .inr (.inr rfl)) (hd : (x == ("__debug__" : Str)) = false := by decide) (hcd : (x == ("__classdict__" : Str)) = false := by decide)
    (hs : PlainIx (.Constant (.str "at") j q2) := by intro _ _; rfl) : PE X (.Subscript (.Name x q1) (.Constant (.str "at") j q2) pos) (tE X.K X.mg sg W false true true dStAt) := e_stAt hu hN hv hi hd hcd hs
theorem x_stLen (hu : X.A.units + 66 < cLine) (hm : X.mg "len" = none) (hi : sg.ist = some i := by rfl) (hN : X.N[i]? = some x := by rfl) (hv : Vis X.env.scope x := by first | exact .inl rfl | exact .inr (.inl rfl) | exact .inr (.inr rfl)) (hg : Gl X "len" := by rfl) (hd : (x == ("__debug__" : Str)) = false := by decide) (hcd : (x == ("__classdict__" : Str)) = false := by decide)
    (hs : PlainIx (.Constant (.str "cells") j q2) := by intro _ _; rfl)
    (he : starEach [.Subscript (.Name x q1) (.Constant (.str "cells") j q2) q3] X.env = (false, eval (.Subscript (.Name x q1) (.Constant (.str "cells") j q2) q3) X.env) :: starEach [] X.env := by rfl) :
    PE X (.Call (.Name "len" pos) [.Subscript (.Name x q1) (.Constant (.str "cells") j q2) q3] [] p') (tE X.K X.mg sg W false true true dStLen) := e_stLen hu hN hv hi hg hm hd hcd hs he
theorem x_st_cells (hu : X.A.units + 66 < cLine) (he : PE X e (tE X.K X.mg sg W false p f1 d)) (hi : sg.ist = some i := by rfl) (hN : X.N[i]? = some x := by rfl) (hv : Vis X.env.scope x := by first | exact .inl rfl | exact .inr (.inl rfl) | exact .inr (.inr rfl)) (hs1 : PlainIx e := by intro _ _; rfl) (hd : (x == ("__debug__" : Str)) = false := by decide) (hcd : (x == ("__classdict__" : Str)) = false := by decide)
    (hs : PlainIx (.Constant (.str "cells") j q2) := by intro _ _; rfl) : PE X (.Subscript (.Subscript (.Name x q1) (.Constant (.str "cells") j q2) q3) e pos) (tE X.K X.mg sg W false p true (dStIx OrcS.cells d)) := st_ix (φ := OrcS.cells) (ψ := fun c _ => c) dget_cells (fun h _ => h) hu hN hv hi he hs1 hd hcd hs
theorem x_st_lefts (hu : X.A.units + 66 < cLine) (he : PE X e (tE X.K X.mg sg W false p f1 d)) (hi : sg.ist = some i := by rfl) (hN : X.N[i]? = some x := by rfl) (hv : Vis X.env.scope x := by first | exact .inl rfl | exact .inr (.inl rfl) | exact .inr (.inr rfl)) (hs1 : PlainIx e := by intro _ _; rfl) (hd : (x == ("__debug__" : Str)) = false := by decide) (hcd : (x == ("__classdict__" : Str)) = false := by decide)
    (hs : PlainIx (.Constant (.str "lefts") j q2) := by intro _ _; rfl) : PE X (.Subscript (.Subscript (.Name x q1) (.Constant (.str "lefts") j q2) q3) e pos) (tE X.K X.mg sg W false p true (dStIx OrcS.lefts d)) := st_ix (φ := OrcS.lefts) (ψ := fun _ l => l) dget_lefts (fun _ h => h) hu hN hv hi he hs1 hd hcd hs
theorem x_stAtS (hu : X.A.units + 66 < cLine) (he : PE X e (tE X.K X.mg sg W false p f1 d)) (hi : sg.ist = some i := by rfl) (hN : X.N[i]? = some x := by rfl) (hv : Vis X.env.scope x := by first | exact .inl rfl | exact .inr (.inl rfl) | exact .inr (.inr rfl)) (hd : (x == ("__debug__" : Str)) = false := by decide) (hcd : (x == ("__classdict__" : Str)) = false := by decide)
    (hs : swapsWith e (some (.Subscript (.Name x q1) (.Constant (.str "at") j q2) q3)) pos.line X.env = pure false := by rfl) : PS X (.Assign [.Subscript (.Name x q1) (.Constant (.str "at") j q2) q3] e pos) (tS X.K X.mg sg W (dStAtS d)) := s_stAt hu hN hv hi he hd hcd hs
theorem x_stLeft (hu : X.A.units + 66 < cLine) (he : PE X e (tE X.K X.mg sg W false p f1 d)) (he2 : PE X e2 (tE X.K X.mg sg W false p1 f2 d2)) (hi : sg.ist = some i := by rfl) (hN : X.N[i]? = some x := by rfl) (hv : Vis X.env.scope x := by first | exact .inl rfl | exact .inr (.inl rfl) | exact .inr (.inr rfl)) (hd : (x == ("__debug__" : Str)) = false := by decide) (hcd : (x == ("__classdict__" : Str)) = false := by decide)
    (hsx : PlainIx (.Constant (.str "lefts") j q2) := by intro _ _; rfl)
    (ha : ∀ v, assign (.Subscript (.Subscript (.Name x q1) (.Constant (.str "lefts") j q2) q3) e q4) X.env v = (do
      let ov ← holding [v] (eval (.Subscript (.Name x q1) (.Constant (.str "lefts") j q2) q3) X.env)
      let iv ← holding [v, ov] (eval e X.env)
      standAt q4
      holding [v, ov, iv] (setItem ov iv v)
      release [v, ov, iv] []) := by intro _; rfl)
    (hs : swapsWithSole [.Subscript (.Subscript (.Name x q1) (.Constant (.str "lefts") j q2) q3) e q4] e2 pos.line X.env = pure false := by rfl) (hw : swappedStores [.Subscript (.Subscript (.Name x q1) (.Constant (.str "lefts") j q2) q3) e q4] e2 X.env = pure none := by rfl)
    (h1 : (assignEach [.Subscript (.Subscript (.Name x q1) (.Constant (.str "lefts") j q2) q3) e q4] X.env).map (·.2) = [assign (.Subscript (.Subscript (.Name x q1) (.Constant (.str "lefts") j q2) q3) e q4) X.env] := by rfl) :
    PS X (.Assign [.Subscript (.Subscript (.Name x q1) (.Constant (.str "lefts") j q2) q3) e q4] e2 pos) (tS X.K X.mg sg W (dStLeftS d d2)) := s_stLeft hu hN hv hi he he2 hd hcd hsx ha hs hw h1
theorem x_par2 {px py pt : Pos} {kt k2 : Nat} {pt2 : Pos} {fl : List Bool} (hN : X.N.Nodup) (ha : PA X [a, b] (tM X.K X.mg sg W fl ds)) (hc : X.calm = true := by rfl) (hi : X.N[i]? = some x := by rfl) (hj : X.N[j]? = some y := by rfl) (hij : i ≠ j := by decide) (hx : X.env.scope.names.lookup x = some .local := by rfl) (hy : X.env.scope.names.lookup y = some .local := by rfl)
    (hf : parOk sg [i, j] fl = true := by rfl) (hw : swappedStores [.Tuple [.Name x px, .Name y py] kt pt] (.Tuple [a, b] k2 pt2) X.env = pure (some [x, y]) := by rfl)
    (hs : swapsWithSole [.Tuple [.Name x px, .Name y py] kt pt] (.Tuple [a, b] k2 pt2) pos.line X.env = pure false := by rfl) : PS X (.Assign [.Tuple [.Name x px, .Name y py] kt pt] (.Tuple [a, b] k2 pt2) pos) (tS X.K X.mg sg W (dPar [i, j] ds)) := s_par2 hc hN hi hj hij hx hy hf ha hw hs
theorem x_par3 {px py pz pt : Pos} {kt k2 : Nat} {pt2 : Pos} {fl : List Bool} (hN : X.N.Nodup) (ha : PA X [a, b, c] (tM X.K X.mg sg W fl ds)) (hc : X.calm = true := by rfl) (hi : X.N[i]? = some x := by rfl) (hj : X.N[j]? = some y := by rfl) (hl : X.N[l]? = some z := by rfl) (hij : i ≠ j := by decide) (hil : i ≠ l := by decide) (hjl : j ≠ l := by decide)
    (hx : X.env.scope.names.lookup x = some .local := by rfl) (hy : X.env.scope.names.lookup y = some .local := by rfl) (hz : X.env.scope.names.lookup z = some .local := by rfl)
    (hf : parOk sg [i, j, l] fl = true := by rfl) (hw : swappedStores [.Tuple [.Name x px, .Name y py, .Name z pz] kt pt] (.Tuple [a, b, c] k2 pt2) X.env = pure (some [x, y, z]) := by rfl)
    (hs : swapsWithSole [.Tuple [.Name x px, .Name y py, .Name z pz] kt pt] (.Tuple [a, b, c] k2 pt2) pos.line X.env = pure false := by rfl) : PS X (.Assign [.Tuple [.Name x px, .Name y py, .Name z pz] kt pt] (.Tuple [a, b, c] k2 pt2) pos) (tS X.K X.mg sg W (dPar [i, j, l] ds)) := s_par3 hc hN hi hj hl hij hil hjl hx hy hz hf ha hw hs
end

/-- a, b = e -/
def dAsgG (d : DE) (τ : DG) : DS := fun ρ o => (d ρ o).bind fun v ρ1 o1 => match τ v ρ1 with
  | some ρ2 => .ok .nx ρ2 o1
  | none => .bad
section
variable {X : Cx} {sg : Sta} {W : WX} {tg e : Expr} {d : DE} {τ : DG} {ts : List Nat} {p f : Bool} {pos : Pos}
theorem x_asgG (he : PE X e (tE X.K X.mg sg W false p f d)) (hg : PG X tg (tG X.K sg ts τ)) (hs : swapsWithSole [tg] e pos.line X.env = pure false := by rfl) (hw : swappedStores [tg] e X.env = pure none := by rfl)
    (h1 : (assignEach [tg] X.env).map (·.2) = [assign tg X.env] := by rfl) : PS X (.Assign [tg] e pos) (tS X.K X.mg sg W (dAsgG d τ)) := by
  refine PS.imp (ps_asg he hg hs hw h1) fun D σ H ⟨g, ρ, o, S, ok, r, q⟩ => ?_
  unfold dAsgG at q
  show tE X.K X.mg sg W false p f d σ H _
  cases e1 : d ρ o with
  | bad => rw [e1] at q; exact q.elim
  | ex c ρ1 o1 => rw [e1] at q; exact Out.ex1 r e1 q
  | ok v ρ1 o1 =>
    rw [e1] at q
    refine tE.of_ok r e1 fun x H1 ok1 n1 r1 _ => ?_
    simp only [Res.bind] at q
    cases e2 : τ v ρ1 with
    | none => rw [e2] at q; exact q.elim
    | some ρ2 =>
      rw [e2] at q
      exact ⟨g, v, ρ1, o1, S, ok1, n1.st, r1, ρ2, e2, fun σ' r2 _ _ => q _ _ S ok1 r2 (n1.Sx r)⟩
end

def namesG : List Nat → TGs
  | [] => L2.gNil
  | i :: is => L2.gCons (L2.gName i) (namesG is)
theorem namesG_run : ∀ {is : List Nat} {xs : List V} {σ : Sl} {H : Hp} {Q : Sl → Hp → Prop}, xs.length = is.length → Q (setsS σ is xs) H → namesG is xs σ H Q
  | [], [], _, _, _, _, q => ⟨rfl, q⟩
  | [], _ :: _, _, _, _, h, _ => by cases h
  | _ :: _, [], _, _, _, h, _ => by cases h
  | _ :: is, x :: xs, _, _, _, h, q => ⟨x, xs, rfl, namesG_run (is := is) (by simpa using h) q⟩
theorem Mv.up {g : Gh} {ok : Addr → Prop} {S : Sad} {K : PySem.W.Frag} {H H' : Hp} {sg : Sta} {σ : Sl} {ρ : Env} {p : Addr} {u : HO} (hp : H' p = none) : ∀ {fl : List Bool} {ds : List PyData} {vs : List V}, Mv g ok S K H H' sg σ ρ fl ds vs → Mv g ok S K H (upd H' p u) sg σ ρ fl ds vs
  | _, _, _, .nil => .nil
  | _, _, _, .old h t => .old (h.grow (.upd hp)) (Mv.up hp t)
  | _, _, _, .new e1 e2 e3 e4 nh e5 e6 t => .new e1 e2 e3 e4 nh (e5.step (fun _ _ z _ _ => z) (Grow.upd hp).stp fun o e => Grow.upd hp _ o e) e6 (Mv.up hp t)
section
variable {X : Cx} {sg : Sta} {W : WX} {vs gs es : List Expr} {e : Expr} {ds : DA} {fl : List Bool} {is : List Nat} {kt k2 i : Nat} {pt pt2 pos : Pos} {x : Str}
theorem n_nil : PGs X [] (namesG []) := pgs_nil
theorem n_cons (hN : X.N.Nodup) (h : PGs X es (namesG is)) (hi : X.N[i]? = some x := by rfl) (hx : Loc X.env.scope x := by first | exact .inl rfl | exact .inr rfl) (hf : X.fn x = true ∨ X.env.scope.names.lookup x = some .local := by first | exact .inl rfl | exact .inr rfl)
    (hs : (assignEach (.Name x pos :: es) X.env).map (·.2) = assign (.Name x pos) X.env :: (assignEach es X.env).map (·.2) := by rfl) : PGs X (.Name x pos :: es) (namesG (i :: is)) := pgs_cons (pg_name hN hi hx hf) h hs
theorem x_parT (ha : PA X vs (tM X.K X.mg sg W fl ds)) (hg : PGs X gs (namesG is)) (hc : X.calm = true := by rfl) (hf : parOk sg is fl = true := by rfl) (hl : Nat.ble is.length 1000 = true := by rfl) (hn : (assignEach gs X.env).length = is.length := by rfl) (hst : (assignEach gs X.env).findIdx? (·.1) = none := by rfl)
    (hs : swapsWithSole [.Tuple gs kt pt] (.Tuple vs k2 pt2) pos.line X.env = pure false := by rfl) (hw : swappedStores [.Tuple gs kt pt] (.Tuple vs k2 pt2) X.env = pure none := by rfl) (h1 : (assignEach [.Tuple gs kt pt] X.env).map (·.2) = [assign (.Tuple gs kt pt) X.env] := by rfl) :
    PS X (.Assign [.Tuple gs kt pt] (.Tuple vs k2 pt2) pos) (tS X.K X.mg sg W (dPar is ds)) := by
  refine PS.imp (ps_asg (pe_tupH ha) (pg_tup hc hg hn hst) hs hw h1) fun D σ H ⟨g, ρ, o, S, ok, r, q⟩ => ?_
  unfold dPar at q
  show tM X.K X.mg sg W fl ds σ H _
  cases e1 : ds ρ o with
  | bad => rw [e1] at q; exact q.elim
  | ex c ρ1 o1 => rw [e1] at q; exact tM.of_ex r e1 fun cls dd H' ok' st x => q cls dd σ H' S ok' st x
  | ok us ρ1 o1 =>
    rw [e1] at q
    simp only [Res.bind] at q
    by_cases hlen : us.length = is.length
    · rw [if_pos hlen] at q
      refine tM.of_ok r e1 fun xs H1 ok1 m1 mv => ?_
      have l2 : xs.length = is.length := mv.length.symm.trans hlen
      refine ⟨by rw [l2, sizeLine_eq]; exact Nat.le_trans (Nat.le_of_ble_eq_true hl) (by decide), fun p ob ho hp => ⟨p, xs, rfl, .inl (.inr ⟨ob, upd_same⟩), l2, namesG_run l2 ?_⟩⟩
      exact q _ _ S ok1 (par_set hf (Mv.up hp mv) (m1.st.grow (.upd hp))) (m1.sx.trans ⟨(Grow.upd hp).stp, fun _ _ h _ _ => h⟩)
    · rw [if_neg hlen] at q; exact q.elim
end

def kisB (K : PySem.W.Frag) (c b : Str) (r : Bool) : Bool := decide (PySem.W.kitOne K (.ref (He.ga K c)) (.ref (He.ga K b)) = some r)
theorem kisB_ok {K : PySem.W.Frag} {c b : Str} {r : Bool} (h : kisB K c b r = true) : PySem.W.kitOne K (.ref (He.ga K c)) (.ref (He.ga K b)) = some r := of_decide_eq_true h
end FL
namespace FL
open PySem PySem.Spec PyProof.Rows L2

theorem plain_ints : ∀ ns : List Int, PyData.plainAll (ns.map .int) = true
  | [] => rfl
  | _ :: ns => by simp only [List.map_cons, PyData.plainAll, PyData.plain, Bool.true_and]; exact plain_ints ns
theorem depth_ints : ∀ ns : List Int, PyData.depthAll (ns.map .int) = 0
  | [] => rfl
  | _ :: ns => by simp only [List.map_cons, PyData.depthAll, PyData.depth, depth_ints ns, Nat.max_self]
theorem okD_ints (ns : List Int) : okD (.list (ns.map .int)) = true := by
  simp [okD, PyData.plain, PyData.depth, plain_ints, depth_ints]
def begCells (ns : List Int) : List Int := if ns = [] then [0] else ns
def begLeft (n : Int) : Int := if 10 ^ 18 ≤ n then n else 0
def begF (ns : List Int) : OrcS := ⟨begCells ns, (begCells ns).map begLeft, 0⟩
def begOk (ns : List Int) : Bool := decide (ns.length ≤ 1000)
def d_begA : DS := dAsgC 1 (dIf (dTop2 phNe (dVar 0) (dLst dNil)) (dOpN phList (dCons (dVar 0) dNil)) (dLst (dCons (dC (.int 0)) dNil)))
def d_beg2 : DE := dComp (dItems (dVar 1)) [2] (gName 2) dYes (dIf (dTop2 (phC fun i j => decide (j ≤ i)) (dVar 2) (dOp2 phPow (dC (.int 10)) (dC (.int 18)))) (dVar 2) (dC (.int 0)))
theorem beg_elem (x y : Option PyData) (o : Orc) (n : Int) : dIf (dTop2 (phC fun i j => decide (j ≤ i)) (dVar 2) (dOp2 phPow (dC (.int 10)) (dC (.int 18)))) (dVar 2) (dC (.int 0)) [x, y, some (.int n)] o = .ok (.int (begLeft n)) [x, y, some (.int n)] o := by
  have e18 : phPow (.int 10) (.int 18) = some (.int (10 ^ 18)) := by rfl
  have e1 : dTop2 (phC fun i j => decide (j ≤ i)) (dVar 2) (dOp2 phPow (dC (.int 10)) (dC (.int 18))) [x, y, some (.int n)] o = .ok (decide ((10 : Int) ^ 18 ≤ n)) [x, y, some (.int n)] o := by
    simp only [dTop2, dTest, dOp2, dVar, dC, List.getElem?_cons_succ, List.getElem?_cons_zero, Res.bind, e18, Res.ofO]
    rfl
  unfold dIf
  rw [e1]
  simp only [Res.bind]
  by_cases hn : (10 : Int) ^ 18 ≤ n
  · rw [if_pos (decide_eq_true hn)]
    simp only [dVar, List.getElem?_cons_succ, List.getElem?_cons_zero, begLeft, if_pos hn]
  · rw [if_neg (by rw [decide_eq_false hn]; decide)]
    simp only [dC, begLeft, if_neg hn]
theorem beg_loop (x y : Option PyData) (o : Orc) : ∀ (ns acc : List Int), ns.length + acc.length ≤ 2000 →
    loopC (gName 2) dYes (dIf (dTop2 (phC fun i j => decide (j ≤ i)) (dVar 2) (dOp2 phPow (dC (.int 10)) (dC (.int 18)))) (dVar 2) (dC (.int 0))) [x, y, none] (ns.map .int) o (acc.map .int) = .ok ((acc ++ ns.map begLeft).map .int) [x, y, none] o
  | [], acc, _ => by simp [loopC]
  | n :: ns, acc, h => by
    have hl : (acc.map PyData.int).length < sizeLine := by rw [sizeLine_eq, List.length_map]; simp at h; omega
    have ih := beg_loop x y o ns (acc ++ [begLeft n]) (by simp at h ⊢; omega)
    rw [List.map_cons]
    unfold loopC
    simp only [gName, dYes, List.set, beg_elem, if_true]
    rw [if_pos ⟨rfl, hl⟩]
    rw [List.map_append] at ih
    rw [show (acc.map PyData.int ++ [PyData.int (begLeft n)]) = acc.map PyData.int ++ [begLeft n].map PyData.int from rfl, ih]
    simp
theorem begD : BegD 3 begOk begF d_begA d_beg2 where
  at0 := fun ns => rfl
  run := fun ns tb hok => by
    have hlen : ns.length ≤ 1000 := of_decide_eq_true hok
    have hA : d_begA [some (.list (ns.map .int)), none, none] ⟨none, tb⟩ = .ok .nx [some (.list (ns.map .int)), some (.list ((begCells ns).map .int)), none] ⟨none, tb⟩ := by
      have h0 : (0 : Nat) ≤ sizeLine := Nat.zero_le _
      have h1 : (1 : Nat) ≤ sizeLine := by rw [sizeLine_eq]; decide
      have ok0 : okD (.list []) = true := by rfl
      cases ns with
      | nil => simp [d_begA, dAsgC, dIf, dTop2, dTest, dOp2, dVar, dLst, dNil, dCons, dC, phNe, okD, PyData.plain, PyData.depth, PyData.plainAll, PyData.depthAll, PyData.eqv, PyData.eqvAll, asB, isC, begCells, h0, h1]
      | cons n ns =>
        have h2 := okD_ints (n :: ns)
        simp only [List.map_cons] at h2
        simp [d_begA, dAsgC, dIf, dTop2, dTest, dOp2, dVar, dLst, dNil, dCons, dC, phNe, h2, ok0, PyData.eqv, PyData.eqvAll, asB, isC, begCells, h0, h1, dOpN, phList]
    refine ⟨_, [some (.list (ns.map .int)), some (.list ((begCells ns).map .int)), none], hA, rfl, ?_, rfl⟩
    have hl2 : (begCells ns).length + ([] : List Int).length ≤ 2000 := by
      unfold begCells; split <;> simp <;> omega
    have L := beg_loop (some (.list (ns.map .int))) (some (.list ((begCells ns).map .int))) ⟨none, tb⟩ (begCells ns) [] hl2
    simp only [List.map_nil, List.nil_append] at L
    simp only [d_beg2, dComp, dItems, dVar, List.getElem?_cons_succ, List.getElem?_cons_zero, Res.bind, Res.ofO, itemsD, wipeE, List.set, L]
    rfl

section
variable {P : Program} {w : World} {K : PySem.W.Frag} {mg : Str → Option Value} {base : Heap}
theorem fn_okL {x : Str} {st : Stmt} {N ps : List Str} {k : Nat} {sg : Sta} {d : DS} (F : Fun K x x st (He.ga K x) (fdO K (He.ga K x))) (Sc : FnScope N ps (defScope st)) (hN : Nat.ble ps.length N.length = true) (hown : sg.own.all (fun i => decide (ps.length ≤ i)) = true)
    (hist : (match sg.ist with | some i => decide (i < ps.length) | none => true) = true)
    (hbody : ∀ (A : Around) (outer : List PySem.Env) (s : Shared) (H : Hp) (E : XK), Room k (A.deeper (envOfC x (defScope st) s.heap.objs.size (He.ga K x) (.ref (He.codeOf K (x, none))))) → A.guards = some [] →
      PSs (cxOf (L2.CX P w) P w K mg base N x (defScope st) (He.ga K x) (.ref (He.codeOf K (x, none))) A outer s H E) (defBody st) (tS K mg sg (wE E) d)) : FnG P w K mg base (k + 1) (He.ga K x) (fdO K (He.ga K x)) ps (spF K mg (dFn N.length ps.length sg.ist d)) := by
  obtain ⟨oc, od, kV, doc, pm, an, cdv, ct, osl, e, lk, hcd⟩ := F.ex
  obtain ⟨c, ec⟩ := He.codeIn_ref hcd
  rw [e] at lk
  have ecv : cdv = .ref (He.codeOf K (x, none)) := by
    rw [ec]
    exact congrArg Value.ref (He.codeOf_eq (p := (x, none)) (show K.lookup (He.ga K x) = _ from lk) (show cdv = .ref c from ec)).symm
  subst ecv
  refine ⟨spF_len dFn_len, fun A outer s H args us vs Q E hr hg e0 hb r hsp => ?_⟩
  rw [e] at hb
  exact LamX.run_ofS lk hcd Sc hr e0 hb r (spF_len dFn_len _ _ _ _ hsp) fun hr' => ⟨_, hbody A outer s H E hr' hg, fn_core hN hown hist hsp⟩
end
end FL
namespace FL
open PySem PySem.Spec PyProof.Rows L2

section
variable {P : Program} {w : World} {K : PySem.W.Frag} {mg mb : Str → Option Value} {k : Nat} {fa a : Addr} {T : List (Addr × Addr)} {fd : FuncData} {x : Str} {sp : Sp} {s : Shared} {H : Hp}
/-- the abstract heap at a law's entry: its tables, and the script where the written part does not hold it -/
structure Ent (P : Program) (w : World) (K : PySem.W.Frag) (T : List (Addr × Addr)) (a : Addr) (s : Shared) (H : Hp) : Prop where
  tab : ∀ p ∈ T, H p.2 = some (.tbl #[])
  only : ∀ b, H b ≠ none → (∃ p ∈ T, b = p.2) ∨ (K.lookup b = none ∧ ∃ o xs n its, H b = some (.frz o (.lst xs)) ∧ o.data = .seq its n)
  hok : HOk P w H s.heap
/-- what the heap holds is neither: not tracked -/
theorem Ent.free (E : Ent P w K T a s H) (eT : ∀ p ∈ T, s.heap.get? p.2 = some { cls := .none, data := .fields #[] }) {b : Addr} {o : Obj} (h : s.heap.get? b = some o) (n1 : o.data ≠ .fields #[]) (n2 : ∀ its n, o.data ≠ .seq its n) : H b = none := by
  cases q : H b with
  | none => rfl
  | some u =>
    exfalso
    rcases E.only b (by rw [q]; simp) with ⟨p, hp, rfl⟩ | ⟨_, ob, xs, n, its, e, d⟩
    · rw [eT p hp] at h
      cases h
      exact n1 rfl
    · obtain ⟨e2, _⟩ := E.hok b _ e
      rw [h] at e2
      cases e2
      exact n2 _ _ d
theorem Ent.seen (E : Ent P w K T a s H) (eT : ∀ p ∈ T, s.heap.get? p.2 = some { cls := .none, data := .fields #[] }) {b : Addr} {o : Obj} (h : s.heap.get? b = some o) (n1 : o.data ≠ .fields #[]) (n2 : ∀ its n, o.data ≠ .seq its n) : (hidT s.heap H).get? b = some o := hidT_get h (E.free eT h n1 n2)
theorem Ent.ns (E : Ent P w K T a s H) (eT : ∀ p ∈ T, s.heap.get? p.2 = some { cls := .none, data := .fields #[] }) {b : Addr} {m : Str → Option Value} (h : s.heap.Ns b m) : (hidT s.heap H).Ns b m := by
  obtain ⟨o, es, ep, e, d, r⟩ := h
  exact ⟨o, es, ep, E.seen eT e (by rw [d]; intro z; cases z) (by intro _ _; rw [d]; intro z; cases z), d, r⟩
theorem Ent.kin (E : Ent P w K T a s H) (oT : ∀ p ∈ T, K.lookup p.2 = none) (X : K.In s.heap) : K.In (hidT s.heap H) := fun b o e => by
  refine hidT_get (X b o e) ?_
  cases q : H b with
  | none => rfl
  | some u =>
    rcases E.only b (by rw [q]; simp) with ⟨p, hp, rfl⟩ | ⟨n, _⟩
    · rw [oT p hp] at e; cases e
    · rw [n] at e; cases e
theorem Ent.tabs (E : Ent P w K T a s H) (eT : ∀ p ∈ T, s.heap.get? p.2 = some { cls := .none, data := .fields #[] }) (C : ∀ p ∈ T, PySem.W.CodeHd s.heap p.1 p.2) (G : s.heap.Ns mainGlobals mg)
    (B : ∃ (bm : Addr) (ob : Obj), mg "__builtins__" = some (.ref bm) ∧ bm ≠ builtinsNs ∧ s.heap.get? bm = some ob ∧ ob.cls = .type "module" ∧ ob.dict = some builtinsNs ∧ ob.data = .plain) : ∀ p ∈ T, LamX.TabB (hidT s.heap H) mg p.1 p.2 := fun p hp => by
  have ep := eT p hp
  obtain ⟨og, es, eg, gq, gd, _⟩ := G
  obtain ⟨bm, ob, b1, b2, b3, b4, b5, b6⟩ := B
  refine ⟨?_, ⟨bm, ob, b1, b2, fun z => ?_, fun z => ?_, E.seen eT b3 (by rw [b6]; intro z; cases z) (by intro _ _; rw [b6]; intro z; cases z), b4, b5, b6⟩, fun z => ?_⟩
  · obtain ⟨o, vs, fl, tf, n, tn, t, m, tm, c1, c2, c3, c4, rest⟩ := C p hp
    refine ⟨o, vs, fl, tf, n, tn, t, m, tm, E.seen eT c1 (fun z => ?_) (by intro _ _; rw [c3]; intro z; cases z), c2, c3, c4, rest⟩
    rw [c3] at z
    cases z
    simp at c4
  · rw [z, gq] at b3; cases b3; rw [gd] at b6; cases b6
  · rw [z, ep] at b3; cases b3; cases b6
  · rw [z, ep] at gq; cases gq; cases gd
theorem Ent.run (E : Ent P w K T a s H) (X : K.In s.heap) (G : s.heap.Ns mainGlobals mg) (hb : s.heap.Ns builtinsNs mb) (hbb : ∀ y : Str, y ≠ "__name__" → mb y = bootBuiltins y) (lim : s.heap.NoLimit) (ng : s.gens = #[])
    (eT : ∀ p ∈ T, s.heap.get? p.2 = some { cls := .none, data := .fields #[] }) (oT : ∀ p ∈ T, K.lookup p.2 = none) (C : ∀ p ∈ T, PySem.W.CodeHd s.heap p.1 p.2)
    (B : ∃ (bm : Addr) (ob : Obj), mg "__builtins__" = some (.ref bm) ∧ bm ≠ builtinsNs ∧ s.heap.get? bm = some ob ∧ ob.cls = .type "module" ∧ ob.dict = some builtinsNs ∧ ob.data = .plain) (hr : Room k callerA)
    (F : ∀ base : Heap, K.In base → base.Ns mainGlobals mg → (∀ p ∈ T, LamX.TabB base mg p.1 p.2) → FnG P w K mg base k fa fd [x] sp) (hbind : ∀ (s : Shared) (u : Value), BindsTo s fd ⟨[u], []⟩ [(x, u)])
    (hsp : sp [.ref a] H (fun v _ => v = .bl true) fun _ _ _ => False) (no : ∀ e s', ¬ L2.CX P w [] H s (fun _ _ _ => False) e s') :
    codeAny (model P w) callerA (.call (.ref fa) ⟨[.ref a], []⟩) (fun r s' => r = .ok (.ret (.bool true)) ∧ OldK s.heap s'.heap ∧ s'.os = s.os ∧ AllBare s'.gens) s := by
  have kI := E.kin oT X
  have gI := E.ns eT G
  have lI : (hidT s.heap H).NoLimit := let ⟨m, h1, h2⟩ := lim; ⟨m, E.ns eT h1, h2⟩
  have M : L2.Mod K mg (hidT s.heap H) := ⟨kI, gI, ⟨mb, E.ns eT hb, hbb⟩, lI⟩
  have e0 : Env0 P w K mg (hidT s.heap H) callerA [] s H := {
    frames := rfl
    mod := M
    bs := fun _ _ h => of_hidT h
    bsz := Nat.le_of_eq (hidT_size _ _)
    funs := trivial
    frf := fun b h => by cases h
    hok := E.hok
    bare := .of_eq ng }
  have R := (F (hidT s.heap H) kI gI (E.tabs eT C G B)).run callerA [] s H ⟨[.ref a], []⟩ [.ref a] [.ref a] (fun v _ => v = .bl true) (fun _ _ _ => False) hr rfl e0 (hbind s (.ref a)) (.cons rfl .nil) hsp
  refine codeAny_mono R fun r s' h => ?_
  match r, h with
  | .error e, h => exact (no e s' h).elim
  | .ok .next, h => exact h.elim
  | .ok .brk, h => exact h.elim
  | .ok .cont, h => exact h.elim
  | .ok (.ret u), ⟨v, H', os, bare, un, hok', rv, q⟩ =>
    have q : v = .bl true := q
    subst q
    have eu : u = .bool true := rv
    subst eu
    have same : ∀ b o, s.heap.get? b = some o → (¬ ∃ p ∈ T, b = p.2) → s'.heap.get? b = some o := fun b o e n => by
      cases hq : H b with
      | none => exact un.keep b o e hq (by intro z; cases z) (by intro z; cases z)
      | some u =>
        rcases E.only b (by rw [hq]; simp) with z | ⟨_, ob, xs, m, its, z, _⟩
        · exact (n z).elim
        · have e1 := (E.hok b _ z).1
          rw [e] at e1
          cases e1
          exact (hok' b _ (un.frzs b _ _ z)).1
    have grown : ∀ p ∈ T, ∃ more : Array Value, s'.heap.get? p.2 = some { cls := .none, data := .fields (#[] ++ more) } := fun p hp => by
      obtain ⟨more, z⟩ := un.tbls p.2 #[] (E.tab p hp)
      exact ⟨more, hok' p.2 _ z⟩
    refine ⟨rfl, ⟨fun b o e => ?_, fun b o e => ?_⟩, os, bare⟩
    · by_cases hT : ∃ p ∈ T, b = p.2
      · obtain ⟨p, hp, rfl⟩ := hT
        rw [eT p hp] at e
        cases e
        obtain ⟨more, hm⟩ := grown p hp
        exact .inr (.inl ⟨((C p hp).tab (eT p hp)).isCodeTable, rfl, #[], #[] ++ more, rfl, by simpa using hm⟩)
      · exact .inl (same b o e hT)
    · by_cases hT : ∃ p ∈ T, b = p.2
      · obtain ⟨p, hp, rfl⟩ := hT
        obtain ⟨more, hm⟩ := grown p hp
        exact ⟨_, hm⟩
      · exact ⟨o, same b o e hT⟩
end
/-- the entry's heap -/
def entH (T : List (Addr × Addr)) (S : Option (Addr × Obj × List V)) : Hp := fun b => match S with
  | some (a, o, xs) => if b = a then some (.frz o (.lst xs)) else if b ∈ T.map (·.2) then some (.tbl #[]) else none
  | none => if b ∈ T.map (·.2) then some (.tbl #[]) else none
/-- what is known of the law's promise at the heap h -/
def LawG (l : PySem.W.OpenLaw) (w : World) (K : PySem.W.Frag) (k n : Nat) (x : Str) (mg : Str → Option Value) (fa : Addr) (h : Heap) : Prop :=
  ∃ (fd : FuncData) (T : List (Addr × Addr)) (sp : Sp), (∀ p ∈ T, h.get? p.2 = some { cls := .none, data := .fields #[] }) ∧ (∀ p ∈ T, K.lookup p.2 = none) ∧ (∀ p ∈ T, PySem.W.CodeHd h p.1 p.2) ∧ (∀ (s : Shared) (u : Value), BindsTo s fd ⟨[u], []⟩ [(x, u)]) ∧
    (∀ (H : Hp) (a : Addr) (ns : List Int), ns.length ≤ n → (∀ p ∈ T, H p.2 = some (.tbl #[])) → SqL K H a (ns.map V.int) → (∀ b, b ∈ T.map (·.2) → b ≠ a) → sp [.ref a] H (fun v _ => v = .bl true) fun _ _ _ => False) ∧
    ∀ base : Heap, K.In base → base.Ns mainGlobals mg → (∀ p ∈ T, LamX.TabB base mg p.1 p.2) → FnG l.prog w K mg base k fa fd [x] sp
theorem walk_ofG {l : PySem.W.OpenLaw} {n k : Nat} {q : Program} {loose : List Str} {XP : (Str → Option Value) → Heap → Prop} {YP : World → Heap → Prop} {d : DefRec} {x : Str}
    (hn : l.most = some n) (hn2 : n ≤ sizeLine) (hdf : d.params.defaults = []) (hr : Room k callerA)
    (F : ∀ (w : World) (mg : Str → Option Value) (fa : Addr) (h : Heap), YP w h → h.Ns mainGlobals mg → mg d.name = some (.ref fa) → ∃ K : PySem.W.Frag, K.In h ∧ LawG l w K k n x mg fa h)
    (no : ∀ (w : World) (H : Hp) (s : Shared) (e : Value) (s' : Shared), ¬ L2.CX l.prog w [] H s (fun _ _ _ => False) e s') :
    PySem.W.WalkO q loose XP YP l.row.toRowW d [] (fun f vs => PySem.call f vs) := by
  refine Att.attach_callB hn hdf fun w s₀ s mg mb fa o pm cd doc a us ns G Y _ _ _ hmg hobj hints hlen _ hg => ?_
  obtain ⟨K, X, fd, T, sp, eT, oT, C, hbd, hsp, hF⟩ := F w mg fa s.heap Y G.T.g hmg
  have vi := vals_ints hints
  have hl : (ns.map V.int).length ≤ sizeLine := by rw [List.length_map]; exact Nat.le_trans hlen hn2
  have aT : ∀ b, b ∈ T.map (·.2) → b ≠ a := fun b hb z => by
    obtain ⟨p, hp, rfl⟩ := List.mem_map.mp hb
    have e := eT p hp
    rw [z, hobj] at e
    cases e
  have tabOk : ∀ b, b ∈ T.map (·.2) → s.heap.get? b = some { cls := .none, data := .fields #[] } := fun b hb => by
    obtain ⟨p, hp, rfl⟩ := List.mem_map.mp hb
    exact eT p hp
  have mem : ∀ p ∈ T, p.2 ∈ T.map (·.2) := fun p hp => List.mem_map.mpr ⟨p, hp, rfl⟩
  cases hk : K.lookup a with
  | some o' =>
    have ea := X a o' hk
    rw [hobj] at ea
    cases ea
    have E : Ent l.prog w K T a s (entH T none) := {
      tab := fun p hp => if_pos (mem p hp)
      only := fun b hb => by
        by_cases h : b ∈ T.map (·.2)
        · obtain ⟨p, hp, e⟩ := List.mem_map.mp h
          exact .inl ⟨p, hp, e.symm⟩
        · exact absurd (if_neg h) hb
      hok := fun b u e => by
        by_cases h : b ∈ T.map (·.2)
        · have z := (if_pos h).symm.trans e
          cases z
          exact tabOk b h
        · have z := (if_neg h).symm.trans e
          cases z }
    refine E.run X G.T.g G.T.b G.T.builtins G.T.nolimit hg eT oT C G.T.bmain hr hF hbd (hsp _ a ns hlen E.tab (.inr ⟨_, us.toArray, _, hk, rfl, rfl, rfl, ?_, by simpa using vi⟩) aT) (no w _ s)
    rw [List.size_toArray, hints.length]
    exact Nat.le_trans hlen hn2
  | none =>
    have E : Ent l.prog w K T a s (entH T (some (a, { cls := .type "list", data := .seq us.toArray }, ns.map V.int))) := {
      tab := fun p hp => (if_neg (aT _ (mem p hp))).trans (if_pos (mem p hp))
      only := fun b hb => by
        by_cases hba : b = a
        · subst hba
          exact .inr ⟨hk, _, _, _, _, if_pos rfl, rfl⟩
        · by_cases h : b ∈ T.map (·.2)
          · obtain ⟨p, hp, e⟩ := List.mem_map.mp h
            exact .inl ⟨p, hp, e.symm⟩
          · exact absurd ((if_neg hba).trans (if_neg h)) hb
      hok := fun b u e => by
        by_cases hba : b = a
        · have z := (if_pos hba).symm.trans e
          cases z
          rw [hba]
          exact ⟨hobj, hl, us, _, vi, hobj⟩
        · have e := (if_neg hba).symm.trans e
          by_cases h : b ∈ T.map (·.2)
          · have z := (if_pos h).symm.trans e
            cases z
            exact tabOk b h
          · have z := (if_neg h).symm.trans e
            cases z }
    exact E.run X G.T.g G.T.b G.T.builtins G.T.nolimit hg eT oT C G.T.bmain hr hF hbd (hsp _ a ns hlen E.tab (.inl (.inr ⟨_, if_pos rfl⟩)) aT) (no w _ s)
/-- no list in the written part -/
def noLst (K : PySem.W.Frag) : Bool := K.all fun q => match q.2.cls with
  | .type "list" => false
  | _ => true
theorem lookup_mem' {α β : Type} [BEq α] [LawfulBEq α] {a : α} {b : β} : ∀ {l : List (α × β)}, l.lookup a = some b → (a, b) ∈ l
  | [], h => by cases h
  | (c, d) :: l, h => by
    by_cases e : a == c
    · rw [List.lookup_cons, e] at h
      cases h
      rw [eq_of_beq e]
      exact List.mem_cons_self
    · have e' : (a == c) = false := by simpa using e
      rw [List.lookup_cons, e'] at h
      exact List.mem_cons_of_mem _ (lookup_mem' h)
/-- the promise of the law's def: it begins the drawn state itself -/
def spLaw (K : PySem.W.Frag) (T : List (Addr × Str)) (n : Nat) (d : DS) : Sp := fun vs H Q _ => ∃ (a : Addr) (ns : List Int), vs = [.ref a] ∧ SqL K H a (ns.map V.int) ∧ noLst K = true ∧ (∀ p ∈ T, H p.1 = some (.tbl #[]) ∧ p.1 ≠ a) ∧
  (∃ ρ' o', d (some (.list (ns.map .int)) :: List.replicate (n - 1) none) ⟨none, T⟩ = .ok (.ret (.bool true)) ρ' o') ∧ ∀ H', Q (.bl true) H'
theorem law_core {K : PySem.W.Frag} {mg : Str → Option Value} {T : List (Addr × Str)} {N : List Str} {sg : Sta} {d : DS} {vs : List V} {H : Hp} {Q : VK} {E : XK} (hN : Nat.ble 1 N.length = true) (hown : sg.own.all (fun i => decide (1 ≤ i)) = true) (hist : (match sg.ist with | some i => decide (1 ≤ i) | none => true) = true)
    (h : spLaw K T N.length d vs H Q E) : tS K mg sg (wE E) d { nx := fun _ H' => Q .non H', rt := Q } (L2.start N vs) H := by
  obtain ⟨a, ns, rfl, S, hK, hT, ⟨ρ', o', hd⟩, q⟩ := h
  have hS : Rd H a (.lst (ns.map V.int)) := by
    rcases S with h | ⟨o, its, n, h, hc, _⟩
    · exact h
    · have z := List.all_eq_true.mp hK _ (lookup_mem' h)
      simp only [hc] at z
      cases z
  have r0 := Rst.begin (sg := sg) (K := K) (N := N) (n := 1) (ok := fun b => H b = none ∨ b = a) (S := ⟨none, T⟩) (o := ⟨none, T⟩) (args := [some (.list (ns.map .int))]) (vs := [.ref a]) (fun b h => .inl h) (fun b h z => by
    rcases z with z | ⟨q, z⟩
    · exact z
    · rcases h with h | h
      · rw [(hT _ z).1] at h; cases h
      · exact (hT _ z).2 h) ⟨trivial, fun p hp => ⟨#[], (hT p hp).1, trivial, fun pos cv e => by cases e⟩, rfl⟩ (.cons ⟨a, _, rfl, .inr rfl, hS, Rps.ints _ _ _ _⟩ .nil) rfl (Nat.le_of_ble_eq_true hN) hown (fun i _ => .inr rfl) (by
    unfold stAt
    cases e : sg.ist with
    | none => rfl
    | some i =>
      rw [e] at hist
      simp at hist
      have : ¬ i < 1 := by omega
      simp [this])
  refine ⟨_, _, _, _, _, r0, ?_⟩
  simp only [List.length_singleton, List.singleton_append] at hd ⊢
  rw [hd]
  intro x σ' H' S' ok' r rx
  cases rx
  exact q H'
theorem fn_law {P : Program} {w : World} {K : PySem.W.Frag} {mg : Str → Option Value} {base : Heap} {x p : Str} {st : Stmt} {N : List Str} {k : Nat} {sg : Sta} {d : DS} {T : List (Addr × Str)} (F : Fun K x x st (He.ga K x) (fdO K (He.ga K x))) (Sc : FnScope N [p] (defScope st)) (hN : Nat.ble 1 N.length = true) (hown : sg.own.all (fun i => decide (1 ≤ i)) = true)
    (hist : (match sg.ist with | some i => decide (1 ≤ i) | none => true) = true)
    (hbody : ∀ (A : Around) (outer : List PySem.Env) (s : Shared) (H : Hp) (E : XK), Room k (A.deeper (envOfC x (defScope st) s.heap.objs.size (He.ga K x) (.ref (He.codeOf K (x, none))))) → A.guards = some [] →
      PSs (cxOf (L2.CX P w) P w K mg base N x (defScope st) (He.ga K x) (.ref (He.codeOf K (x, none))) A outer s H E) (defBody st) (tS K mg sg (wE E) d)) : FnG P w K mg base (k + 1) (He.ga K x) (fdO K (He.ga K x)) [p] (spLaw K T N.length d) := by
  obtain ⟨oc, od, kV, doc, pm, an, cdv, ct, osl, e, lk, hcd⟩ := F.ex
  obtain ⟨c, ec⟩ := He.codeIn_ref hcd
  rw [e] at lk
  have ecv : cdv = .ref (He.codeOf K (x, none)) := by
    rw [ec]
    exact congrArg Value.ref (He.codeOf_eq (p := (x, none)) (show K.lookup (He.ga K x) = _ from lk) (show cdv = .ref c from ec)).symm
  subst ecv
  have len : ∀ vs H Q E, spLaw K T N.length d vs H Q E → vs.length = 1 := fun vs H Q E ⟨a, ns, e, _⟩ => by rw [e]; rfl
  refine ⟨len, fun A outer s H args us vs Q E hr hg e0 hb r hsp => ?_⟩
  rw [e] at hb
  exact LamX.run_ofS lk hcd Sc hr e0 hb r (len _ _ _ _ hsp) fun hr' => ⟨_, hbody A outer s H E hr' hg, law_core hN hown hist hsp⟩
theorem lt_all {l : List Bool} (h : l.all id = true) (i : Nat) {b : Bool} (e : l[i]? = some b := by rfl) : b = true := List.all_eq_true.mp h b (List.mem_of_getElem? e)
theorem all_nil {α : Type} {p : α → Prop} : ∀ x ∈ ([] : List α), p x := fun _ h => by cases h
theorem all_cons {α : Type} {p : α → Prop} {a : α} {l : List α} (h : p a) (t : ∀ x ∈ l, p x) : ∀ x ∈ a :: l, p x := fun x hx => by
  rcases List.mem_cons.mp hx with rfl | hx
  · exact h
  · exact t x hx
theorem cx_no {P : Program} {w : World} {outer : List PySem.Env} {H : Hp} {s : Shared} {u : Value} {s' : Shared} (h : L2.CX P w outer H s (fun _ _ _ => False) u s') : False := by
  obtain ⟨_, _, _, _, _, _, _, _, _, _, _, _, z⟩ := h
  exact z
end FL
namespace FL
open PySem PySem.Spec PyProof.Rows L2 PySem.W
def phMulL (v u : PyData) : Option PyData := match v, u with
  | .list xs, .int k => if (absLt k 1000001 && Nat.ble (xs.length * k.toNat) 16777216) = true then some (.list (List.replicate k.toNat xs).flatten) else none
  | _, _ => none
theorem phMulL_some {v u z : PyData} (h : phMulL v u = some z) : ∃ xs k, v = .list xs ∧ u = .int k ∧ -(2 ^ 63) ≤ k ∧ k < 2 ^ 63 ∧ xs.length * k.toNat ≤ 16777216 ∧ z = .list (List.replicate k.toNat xs).flatten := by
  unfold phMulL at h
  split at h
  · rename_i xs k
    by_cases c : (absLt k 1000001 && Nat.ble (xs.length * k.toNat) 16777216) = true
    · rw [if_pos c] at h
      cases h
      rw [Bool.and_eq_true, absLt_iff, Nat.ble_eq] at c
      exact ⟨xs, k, rfl, rfl, by omega, by omega, c.2, rfl⟩
    · rw [if_neg c] at h; cases h
  · cases h
section
variable {X : Cx} {sg : Sta} {W : WX} {a b : Expr} {d1 d2 : DE} {w w1 w2 p1 p2 f f2 : Bool} {pos : Pos}
/-- [..] * n -/
theorem e_mulL (ha : PE X a (tE X.K X.mg sg W w1 p1 true d1)) (hb : PE X b (tE X.K X.mg sg W w2 p2 f2 d2)) : PE X (.BinOp a .Mult b pos) (tE X.K X.mg sg W w (p1 && p2) f (dOp2 phMulL d1 d2)) := by
  refine PE.imp (pe_op op_rep ha hb) fun σ H Q hq => ?_
  obtain ⟨g, ρ, o, S, ok, r, hq⟩ := hq
  unfold dOp2 at hq
  show tE X.K X.mg sg W w1 p1 true d1 σ H _
  cases e1 : d1 ρ o with
  | bad => rw [e1] at hq; exact hq.elim
  | ex c ρ1 o1 => rw [e1] at hq; exact tE.of_ex r e1 hq
  | ok v ρ1 o1 =>
    rw [e1] at hq
    simp only [Res.bind] at hq
    refine tE.of_ok r e1 fun x H1 ok1 n1 r1 fr1 => ?_
    show tE X.K X.mg sg W w2 p2 f2 d2 σ H1 _
    cases e2 : d2 ρ1 o1 with
    | bad => rw [e2] at hq; exact hq.elim
    | ex c ρ2 o2 =>
      rw [e2] at hq
      exact tE.of_ex n1.st e2 fun cls dd H' ok' n2 x2 => hq cls dd H' ok' (n1.weak.trans n2) x2
    | ok u ρ2 o2 =>
      rw [e2] at hq
      simp only [Res.bind] at hq
      refine tE.of_ok n1.st e2 fun y H2 ok2 n2 r2 _ => ?_
      cases e3 : phMulL v u with
      | none => rw [e3] at hq; exact hq.elim
      | some z =>
        rw [e3] at hq
        obtain ⟨xs, k, rfl, rfl, k1, k2, k3, rfl⟩ := phMulL_some e3
        obtain ⟨l, rfl, hn, h0, hS, st, ct, hown⟩ := fr1 rfl rfl
        obtain ⟨ys, hy, rs⟩ := ct
        have hH : H2 l = some (.lst ys) := n2.stx l _ hy hS (fun ps z => by cases z) fun _ hh => by
          obtain ⟨i, d, hi, hd, hs⟩ := hh
          exact hown i d hi hd hs
        have rs2 : Rps ok2 X.K H2 xs ys := rs.step (fun b hb => n2.mono b hb.1) ((n2.stp n1.st).sub fun b hb => hb.1)
        have hk := (r2.T n2.st.sub).int
        refine ⟨l, k, ys, rfl, hk, hH, k1, k2, by rw [← rs2.length, sizeLine_eq]; exact k3, fun q hq2 => ?_⟩
        exact fin_op (n1.trans n2) (Nw.lst n2.st.fr hq2 (rs2.rep _)) hq
end
section
variable {X : Cx} {sg : Sta} {W : WX} {a b : Expr} {d1 d2 : DE} {w1 w2 p1 p2 f f2 : Bool} {pos : Pos}
theorem x_mulL (ha : PE X a (tE X.K X.mg sg W w1 p1 true d1)) (hb : PE X b (tE X.K X.mg sg W w2 p2 f2 d2)) : PE X (.BinOp a .Mult b pos) (tE X.K X.mg sg W false (p1 && p2) true (dOp2 phMulL d1 d2)) := e_mulL ha hb
end
section
variable {X : Cx} {sg : Sta} {W : WX} {x : Str} {pos p' : Pos} {k : Nat} {fa : Addr} {fd : FuncData} {ps : List Str} {F : DF} {j : Nat}
theorem x_callG0 (Fo : FnG X.prog X.w X.K X.mg X.base k fa fd ps (spF X.K X.mg F)) (hr : Room j X.A) (hgd : X.A.guards = some []) (hm : X.mg x = some (.ref fa)) (hk : PySem.W.keepIn X.K (.ref fa) = true) (hb : Binds X.K fd ps []) (tk : Takes X W)
    (hj : k ≤ j := by decide) (hg : Gl X x := by rfl) (hdb : (x == ("__debug__" : Str)) = false := by decide) : PE X (.Call (.Name x p') [] [] pos) (tE X.K X.mg sg W false true false (dCall false F aNil)) := by
  refine ⟨fun pins s σ H Q I h => wpAny_Call_Name_kw (ld_glob I hg hm ?_ hdb)⟩
  have hs : spF X.K X.mg F [] H Q fun cls d H => W cls d σ H := by
    obtain ⟨g, ρ, o, S, ok, r, q⟩ := call_core h
    exact q [] H ok (.refl r _) .nil
  refine PySem.W.callWith_K0 I.kIn hk ?_
  have hl : ps.length = 0 := (Fo.len _ _ _ _ hs).symm
  have hb1 := hb s [] I.kIn (by simpa using hl.symm)
  rw [List.append_nil] at hb1
  refine wpAny_call (codeAny_mono (Fo.run X.A X.stack s H ⟨[], []⟩ [] [] Q _ (hr.mono hj) hgd I.env0 hb1 .nil hs) fun rr s' hq => ?_)
  cases rr with
  | error ee => exact passAt tk σ pins H s ee s' I hq
  | ok fl =>
    cases fl with
    | ret u => exact I.after hq
    | next => exact hq.elim
    | brk => exact hq.elim
    | cont => exact hq.elim
end
section
variable {prog : Program} {w : World} {A : Around} {E : Value → Shared → Prop} {s : Shared}
theorem args_max2 (a b : Value) : argsOk "max" ⟨[a, b], []⟩ := by unfold argsOk; kernel_rfl
theorem args_max3 (a b c : Value) : argsOk "max" ⟨[a, b, c], []⟩ := by unfold argsOk; kernel_rfl
theorem max_of_tuple {us : List Value} {Q : Value → Shared → Prop} (ha : argsOk "max" ⟨us, []⟩) (h2 : ∃ a b r, us = a :: b :: r) (hz : us.length ≤ sizeLine)
    (h : wpAny (model prog w) A.in1 (pyIter (.ref s.heap.objs.size)) (fun it s2 => ∃ I fp wr G n P St H bt, it = .ref I ∧ WalksS prog w A.in1 I fp wr G n P St ∧ St 0 s2 ∧ (∀ b ∈ fp, b < s2.heap.objs.size) ∧ 0 < n ∧
      (∀ b o, H.get? b = some o → b ∉ wr) ∧ (∀ b o, H.get? b = some o → s2.heap.get? b = some o) ∧ CmpIn prog w A.in1 .Gt H P bt ∧ ∀ v s', P (argBest bt (n - 1)) v → Moved wr G s2 s' → Q v s') E
      { s with heap := s.heap.push { cls := .type "tuple", data := .seq us.toArray } }) :
    wpAny (model prog w) A (call (.builtin "max") us) Q E s := by
  have hname : (toString "max" ++ toString ".loop" : String) = "max.loop" := by decide
  obtain ⟨a, b, r, rfl⟩ := h2
  refine call_function_tree F.kind_max F.plain_max F.entry_max ha ?_
  refine wpAny_bind (wpAny_of_eq (show Builtin.Builtins.bindParams "max" ["key", "default"] 0 ⟨[], []⟩ = pure [none, none] from rfl) ?_)
  show wpAny _ A.in1 (newTuple (a :: b :: r) >>= _) _ _ s
  refine wpAny_bind (wpAny_newObj_type ?_ (show (a :: b :: r).toArray.size ≤ sizeLine by simpa using hz))
  refine wpAny_bind (wpAny_mono h (fun it s2 h2 => ?_) fun _ _ e => e)
  obtain ⟨I, fp, wr, G, n, P, St, H, bt, rfl, W, hst, hfp, hn, hw, hkeep, hcmp, hQ⟩ := h2
  refine wpAny_bind (wpAny_newObj_type ?_)
  have hSf : s2.heap.objs.size ∉ fp := fun hm => Nat.lt_irrefl _ (hfp _ hm)
  rw [hname]
  refine wpAny_pure ⟨plainId_quiet F.plain_max_loop _, codeAny_max_loop_firstH W H hw bt hcmp s2.heap.objs.size hSf (fresh_in hkeep) _ hn (fun b o e => Heap.get?_push_of_some _ (hkeep b o e)) (W.frame 0 s2 _ s2.toks hst (Nat.le_refl _) fun b _ o e => Heap.get?_push_of_some _ e) (Heap.get?_push_size _ rfl) fun v s' hP hm => ?_⟩
  exact hQ v s' hP (Moved.drop_new (tk := s2.toks) hm (Nat.le_refl _))
end
section
variable {X : Cx}
/-- the greatest of what was handed over -/
theorem max_args {pins : List (Addr × Obj)} {s : Shared} {σ : Sl} {H : Hp} {xs : List V} {us : List Value} {Q : VK} {ok : Addr → Prop} {y : PyData} {ys : List PyData} (hc : X.calm = true) (hu : X.A.units + 66 < cLine) (I : Inv X pins σ H s) (ha : argsOk "max" ⟨us, []⟩) (h2 : ∃ a b r, us = a :: b :: r) (hz : us.length ≤ sizeLine)
    (rv : Vals xs us) (rs : Rps ok X.K H (y :: ys) xs) (ho : ordD (y :: ys) = true) (q : ∀ z H', Nw false ok X.K H H' (maxD y ys) z → Q z H') : wpAny (model X.prog X.w) X.A (call (.builtin "max") us) (EP X pins σ Q) X.xe s := by
  obtain ⟨hal, hpl, hdp⟩ := ordD_all ho
  obtain ⟨as, hr⟩ := rs.rd I hpl rv
  have kp : ∀ b o, s.heap.get? b = some o → (s.heap.push { cls := .type "tuple", data := .seq us.toArray }).get? b = some o := fun b o e => Heap.get?_push_of_some _ e
  have hr2 : ReadsAll (s.heap.push { cls := .type "tuple", data := .seq us.toArray }) us.toArray.toList (y :: ys) as := by simpa using ReadsAll.keeps kp hr
  have hT : (s.heap.push { cls := .type "tuple", data := .seq us.toArray }).IsTuple s.heap.objs.size us.toArray := ⟨_, Heap.get?_push_size _ rfl, rfl, 0, rfl⟩
  have hn : us.toArray.size = ys.length + 1 := by
    rw [List.size_toArray, ← rv.length, ← rs.length]; rfl
  refine max_of_tuple ha h2 hz (iter_tupleW (A := X.A.in1) (s := { s with heap := s.heap.push { cls := .type "tuple", data := .seq us.toArray } }) (I.ok.hd hc) hT fun s2 e W st hfp hw hk => ?_)
  refine ⟨_, _, _, _, _, _, _, s.heap.push { cls := .type "tuple", data := .seq us.toArray }, _, rfl, W, st, hfp, by omega, hw, hk, cmpIn_gt (A := X.A.in1) (s := { s with heap := s.heap.push { cls := .type "tuple", data := .seq us.toArray } }) hr2 hal (by show X.A.units + 1 + _ < _; omega), fun v s' hP m => ?_⟩
  obtain ⟨h', tk, rfl, hk'⟩ := moved_old (s := { s with heap := s.heap.push { cls := .type "tuple", data := .seq us.toArray } }) e rfl m
  obtain ⟨bs, r, _, _, _⟩ := readsAll_atA hr2 _ v hP
  have e1 : us.toArray.size - 1 = ys.length := by omega
  have e2 := (argBest_fold (fun a b => dataLt b a) PyData.none y ys ys.length (Nat.le_refl _)).2
  rw [List.take_length] at e2
  rw [e1] at r
  have I1 : Inv X pins σ H { s with heap := h', toks := tk } := I.kept fun b o eb => hk' b o (kp b o eb)
  have r3 : Reads h' v (maxD y ys) bs := Reads.keeps hk' (by unfold maxD; rw [← e2]; exact r)
  obtain ⟨x, rx, rp⟩ := pick_item I1 rs rv hpl (by simpa using hP) r3
  exact ⟨x, H, I1, rx, q _ _ (.old rp)⟩
end
def phMaxN (vs : List PyData) : Option PyData := match vs with
  | [.int i, .int j] => some (.int (max i j))
  | [a, b] => if (FL.flatI a && FL.flatI b) = true then mostD [a, b] else none
  | [a, b, c] => if (FL.flatI a && FL.flatI b && FL.flatI c) = true then mostD [a, b, c] else none
  | vs => phMax vs
theorem call_maxN {X : Cx} (hc : X.calm = true) (hu : X.A.units + 66 < cLine) : CallR X (.builtin "max") (rnD X.K false phMaxN) := by
  intro pins s σ H xs us Q I r ⟨ok, okT, vs, d, fr, rs, e, q⟩
  unfold phMaxN at e
  split at e
  · rename_i i j
    cases e
    cases rs with
    | cons r1 rs =>
      cases rs with
      | cons r2 rs =>
        cases rs
        refine call_max2 hc pins s σ H _ us Q I r ⟨i, j, by rw [r1.int, r2.int], ?_⟩
        have e2 : (if j > i then j else i) = max i j := by split <;> omega
        rw [e2]
        exact q _ _ (Nw.old (.int _))
  · rename_i a b _
    by_cases hf : (FL.flatI a && FL.flatI b) = true
    · rw [if_pos hf] at e
      obtain ⟨y, ys, e3, ho, rfl⟩ := most_some e
      cases e3
      rw [Bool.and_eq_true] at hf
      cases rs with
      | cons r1 rs =>
        cases rs with
        | cons r2 rs =>
          cases rs
          cases r with
          | cons v1 r =>
            cases r with
            | cons v2 r =>
              cases r
              exact max_args hc hu I (args_max2 _ _) ⟨_, _, _, rfl⟩ (by rw [sizeLine_eq]; simp) (.cons v1 (.cons v2 .nil)) (.cons (r1.flatI hf.1) (.cons (r2.flatI hf.2) .nil)) ho q
    · rw [if_neg hf] at e; cases e
  · rename_i a b c
    by_cases hf : (FL.flatI a && FL.flatI b && FL.flatI c) = true
    · rw [if_pos hf] at e
      obtain ⟨y, ys, e3, ho, rfl⟩ := most_some e
      cases e3
      rw [Bool.and_eq_true, Bool.and_eq_true] at hf
      cases rs with
      | cons r1 rs =>
        cases rs with
        | cons r2 rs =>
          cases rs with
          | cons r3 rs =>
            cases rs
            cases r with
            | cons v1 r =>
              cases r with
              | cons v2 r =>
                cases r with
                | cons v3 r =>
                  cases r
                  exact max_args hc hu I (args_max3 _ _ _) ⟨_, _, _, rfl⟩ (by rw [sizeLine_eq]; simp) (.cons v1 (.cons v2 (.cons v3 .nil))) (.cons (r1.flatI hf.1.1) (.cons (r2.flatI hf.1.2) (.cons (r3.flatI hf.2) .nil))) ho q
    · rw [if_neg hf] at e; cases e
  · exact call_maxD hc hu pins s σ H xs us Q I r ⟨ok, okT, _, d, fr, rs, e, q⟩
def setL (ds : List PyData) (y v : PyData) : Option (List PyData) := match y with
  | .int k => (ixN ds.length k).map fun j => ds.set j v
  | _ => none
theorem setL_some {ds ds' : List PyData} {y v : PyData} (h : setL ds y v = some ds') : ∃ k j, y = .int k ∧ ixN ds.length k = some j ∧ ds' = ds.set j v := by
  unfold setL at h
  split at h
  · rename_i k
    cases e : ixN ds.length k with
    | none => rw [e] at h; cases h
    | some j => rw [e] at h; cases h; exact ⟨k, j, rfl, e, rfl⟩
  · cases h
def dSetL (i : Nat) (dk dv : DE) : DS := fun ρ o => (dv ρ o).bind fun v ρ1 o1 => match lstAt ρ1 i with
  | none => .bad
  | some _ => (dk ρ1 o1).bind fun y ρ2 o2 => match (lstAt ρ2 i).bind fun ds => setL ds y v with
    | some ds => .ok .nx (ρ2.set i (some (.list ds))) o2
    | none => .bad
section
variable {X : Cx} {sg : Sta} {W : WX} {ek ev : Expr} {dk dv : DE} {p1 p2 f1 f2 : Bool} {pos p' p'' : Pos}
theorem s_setL {i : Nat} {x : Str} (hN : X.N[i]? = some x) (hv : Vis X.env.scope x) (ho : i ∈ sg.own) (hk : PE X ek (tE X.K X.mg sg W false p2 f2 dk)) (hval : PE X ev (tE X.K X.mg sg W false p1 f1 dv)) (hd : (x == ("__debug__" : Str)) = false := by decide) (hcd : (x == ("__classdict__" : Str)) = false := by decide)
    (ha : ∀ v, assign (.Subscript (.Name x p'') ek p') X.env v = (do
      let ov ← holding [v] (eval (.Name x p'') X.env)
      let iv ← holding [v, ov] (eval ek X.env)
      standAt p'
      holding [v, ov, iv] (setItem ov iv v)
      release [v, ov, iv] []) := by intro _; rfl)
    (hs : swapsWithSole [.Subscript (.Name x p'') ek p'] ev pos.line X.env = pure false := by rfl) (hw : swappedStores [.Subscript (.Name x p'') ek p'] ev X.env = pure none := by rfl)
    (h1 : (assignEach [.Subscript (.Name x p'') ek p'] X.env).map (·.2) = [assign (.Subscript (.Name x p'') ek p') X.env] := by rfl) : PS X (.Assign [.Subscript (.Name x p'') ek p'] ev pos) (tS X.K X.mg sg W (dSetL i dk dv)) := by
  refine PS.imp (ps_asg hval (pg_sub (pe_var hN hv hd hcd) hk set_list ha) hs hw h1) fun D σ H ⟨g, ρ, o, S, ok, r, q⟩ => ?_
  unfold dSetL at q
  show tE X.K X.mg sg W false p1 f1 dv σ H _
  cases e1 : dv ρ o with
  | bad => rw [e1] at q; exact q.elim
  | ex c ρ1 o1 => rw [e1] at q; exact Out.ex1 r e1 q
  | ok v ρ1 o1 =>
    rw [e1] at q
    refine tE.of_ok r e1 fun x H1 ok1 n1 r1 _ => ?_
    simp only [Res.bind] at q
    cases e0 : lstAt ρ1 i with
    | none => rw [e0] at q; exact q.elim
    | some ps0 =>
      rw [e0] at q
      simp only at q
      obtain ⟨a, ea, w0⟩ := n1.st.ow i _ (lstAt_some e0) ho
      refine ⟨_, ea, ?_⟩
      show tE X.K X.mg sg W false p2 f2 dk σ H1 _
      cases e2 : dk ρ1 o1 with
      | bad => rw [e2] at q; exact q.elim
      | ex c ρ2 o2 =>
        rw [e2] at q
        exact tE.of_ex n1.st e2 fun cls dd H' ok' n2 x2 => q cls dd σ H' S ok' n2.st x2
      | ok y ρ2 o2 =>
        rw [e2] at q
        refine tE.of_ok n1.st e2 fun z H2 ok2 n2 r2 _ => ?_
        simp only at q
        cases e3 : lstAt ρ2 i with
        | none => rw [e3] at q; exact q.elim
        | some ds =>
          rw [e3] at q
          simp only [Option.bind] at q
          cases e4 : setL ds y v with
          | none => rw [e4] at q; exact q.elim
          | some ds' =>
            rw [e4] at q
            simp only at q
            obtain ⟨k, j, rfl, hj, rfl⟩ := setL_some e4
            obtain ⟨a', ea', _, w1⟩ := own_first (x := "x") ho n1.st n2 (lstAt_some e3)
            rw [ea] at ea'; cases ea'
            obtain ⟨ys, hy, rs⟩ := w1.ct
            have r1' : Rp ok1 X.K H1 v x := r1
            have st := stp_put (ok := ok2) w1.nok w1.ct.noExt.2.2 (.lst (ys.set j x))
            have rv2 : Rp ok2 X.K H2 v x := r1'.step n2.mono (n2.stp n1.st)
            have ct : CtA ok2 X.K (upd H2 a (.lst (ys.set j x))) (.list (ds.set j v)) a := ⟨_, upd_same, Rps.set (rv2.step (fun _ h => h) st) j (rs.step (fun _ h => h) st)⟩
            have hk := (r2.T n2.st.sub).int
            have m := Nx.mut n2.st (lstAt_some e3) ho ea _ ct
            exact ⟨a, ys, k, j, rfl, hk, hy, by rw [← rs.length]; exact hj, q _ _ S ok2 m.st (((n1.sx r).trans (n2.sx n1.st)).trans (m.sx n2.st))⟩
theorem x_setL {i : Nat} {x : Str} (hk : PE X ek (tE X.K X.mg sg W false p2 f2 dk)) (hval : PE X ev (tE X.K X.mg sg W false p1 f1 dv)) (hN : X.N[i]? = some x := by rfl) (hv : Vis X.env.scope x := by first | exact .inl rfl | exact .inr (.inl rfl) | exact .inr (.inr rfl)) (ho : i ∈ sg.own := by decide) (hd : (x == ("__debug__" : Str)) = false := by decide) (hcd : (x == ("__classdict__" : Str)) = false := by decide)
    (ha : ∀ v, assign (.Subscript (.Name x p'') ek p') X.env v = (do
      let ov ← holding [v] (eval (.Name x p'') X.env)
      let iv ← holding [v, ov] (eval ek X.env)
      standAt p'
      holding [v, ov, iv] (setItem ov iv v)
      release [v, ov, iv] []) := by intro _; rfl)
    (hs : swapsWithSole [.Subscript (.Name x p'') ek p'] ev pos.line X.env = pure false := by rfl) (hw : swappedStores [.Subscript (.Name x p'') ek p'] ev X.env = pure none := by rfl)
    (h1 : (assignEach [.Subscript (.Name x p'') ek p'] X.env).map (·.2) = [assign (.Subscript (.Name x p'') ek p') X.env] := by rfl) : PS X (.Assign [.Subscript (.Name x p'') ek p'] ev pos) (tS X.K X.mg sg W (dSetL i dk dv)) := s_setL hN hv ho hk hval hd hcd ha hs hw h1
end
end FL
namespace FL
open PySem PySem.Spec PyProof.Rows L2 PySem.W
def popE (ds : List PyData) : Option (PyData × List PyData) := (ds[ds.length - 1]?).map fun y => (y, ds.dropLast)
theorem popE_some {ds ds' : List PyData} {y : PyData} (h : popE ds = some (y, ds')) : ds[ds.length - 1]? = some y ∧ ds' = ds.dropLast := by
  unfold popE at h
  cases e : ds[ds.length - 1]? with
  | none => rw [e] at h; cases h
  | some z => rw [e] at h; cases h; exact ⟨rfl, rfl⟩
theorem Rps.dropLast {ok : Addr → Prop} {K : PySem.W.Frag} {H : Hp} {ds : List PyData} {xs : List V} (r : Rps ok K H ds xs) : Rps ok K H ds.dropLast xs.dropLast := by
  rw [List.dropLast_eq_take, List.dropLast_eq_take, r.length]
  exact r.take _
def dPop0 (i : Nat) : DE := fun ρ o => match (lstAt ρ i).bind popE with
  | some (y, ds) => .ok y (ρ.set i (some (.list ds))) o
  | none => .bad
section
variable {X : Cx} {sg : Sta} {W : WX} {p1 : Bool} {pos p' p'' : Pos}
theorem e_pop0 {i : Nat} {x : Str} (hN : X.N[i]? = some x) (hv : Vis X.env.scope x) (ho : i ∈ sg.own) (hd : (x == ("__debug__" : Str)) = false := by decide) (hcd : (x == ("__classdict__" : Str)) = false := by decide)
    (hbase : attributeBase (.Name x p') "pop" X.env (eval (.Name x p') X.env) = eval (.Name x p') X.env := by rfl) (hline : (p''.endLine == pos.line) = true := by rfl) :
    PE X (.Call (.Attribute (.Name x p') "pop" p'') [] [] pos) (tE X.K X.mg sg W false false false (dPop0 i)) := by
  refine PE.imp (pe_bm0 PySem.F.plainAttrs_list PySem.F.slot_list_pop PySem.F.type_list_pop mt_pop (pe_var hN hv hd hcd) hbase hline) fun σ H Q ⟨g, ρ, o, S, ok, r, q⟩ => ?_
  unfold dPop0 at q
  cases e0 : lstAt ρ i with
  | none => rw [e0] at q; exact q.elim
  | some ds0 =>
    rw [e0] at q
    simp only [Option.bind] at q
    cases e1 : popE ds0 with
    | none => rw [e1] at q; exact q.elim
    | some zz =>
      obtain ⟨z, ds'⟩ := zz
      rw [e1] at q
      simp only at q
      obtain ⟨h4, rfl⟩ := popE_some e1
      obtain ⟨a, ea, w0⟩ := r.ow i _ (lstAt_some e0) ho
      obtain ⟨ys, hy, rs⟩ := w0.ct
      obtain ⟨u, eu, ru⟩ := rs.get h4
      refine ⟨_, ea, .inl ⟨rfl, ys, SqL.of hy⟩, ?_⟩
      have st := stp_put (ok := ok) w0.nok w0.ct.noExt.2.2 (.lst ys.dropLast)
      have ct : CtA ok X.K (upd H a (.lst ys.dropLast)) (.list ds0.dropLast) a := ⟨_, upd_same, (rs.step (fun _ h => h) st).dropLast⟩
      refine ⟨a, ys, u, rfl, rfl, hy, by rw [← rs.length]; exact eu, ?_⟩
      exact q u _ ok (Nx.mut r (lstAt_some e0) ho ea _ ct) (RpM.ofRp r.sub (ru.step (fun _ h => h) st)) fun z => by cases z
theorem x_pop0 {i : Nat} {x : Str} (hN : X.N[i]? = some x := by rfl) (hv : Vis X.env.scope x := by first | exact .inl rfl | exact .inr (.inl rfl) | exact .inr (.inr rfl)) (ho : i ∈ sg.own := by decide) (hd : (x == ("__debug__" : Str)) = false := by decide) (hcd : (x == ("__classdict__" : Str)) = false := by decide)
    (hbase : attributeBase (.Name x p') "pop" X.env (eval (.Name x p') X.env) = eval (.Name x p') X.env := by rfl) (hline : (p''.endLine == pos.line) = true := by rfl) :
    PE X (.Call (.Attribute (.Name x p') "pop" p'') [] [] pos) (tE X.K X.mg sg W false false false (dPop0 i)) := e_pop0 hN hv ho hd hcd hbase hline
end
end FL
namespace FL
open PySem PySem.Spec PyProof.Rows L2
inductive HPt where
  | fld (f : Str)
  | isa (D : Addr)
structure CLG where
  C : Addr
  tag : Str
  ps : List HPt
def ptV (K : PySem.W.Frag) (C : Addr) (fs : List (Str × V)) (p : HPt) (v : V) : Prop := match p with
  | .fld f => fs.lookup f = some v
  | .isa D => ∃ b, v = .bl b ∧ PySem.W.kitOne K (.ref C) (.ref D) = some b
inductive PtsV (K : PySem.W.Frag) (C : Addr) (fs : List (Str × V)) : List HPt → List V → Prop
  | nil : PtsV K C fs [] []
  | cons {p : HPt} {ps : List HPt} {v : V} {vs : List V} : ptV K C fs p v → PtsV K C fs ps vs → PtsV K C fs (p :: ps) (v :: vs)
theorem PtsV.length {K : PySem.W.Frag} {C : Addr} {fs : List (Str × V)} : ∀ {ps : List HPt} {vs : List V}, PtsV K C fs ps vs → vs.length = ps.length
  | _, _, .nil => rfl
  | _, _, .cons _ r => by simp [PtsV.length r]
/-- what is asked of an error of the clause's class: the tuple that is told -/
def tupG (K : PySem.W.Frag) (c : CLG) (cls : Value) (d : Option Addr) (H : Hp) (Q : VK) : Prop :=
  cls = .ref c.C ∧ ∃ (dd : Addr) (fs : List (Str × V)) (vs : List V), d = some dd ∧ H dd = some (.xd fs) ∧ PtsV K c.C fs c.ps vs ∧ HardQ H (.str c.tag :: vs) Q
def wG (K : PySem.W.Frag) (Q : VK) : List CLG → XK
  | [] => fun _ _ _ => False
  | c :: r => fun cls d H => ∃ b, PySem.W.exmOne K cls (.ref c.C) = some b ∧ (b = true → tupG K c cls d H Q) ∧ (b = false → wG K Q r cls d H)
/-- the parts, worked out one behind the other -/
def tPts (K : PySem.W.Frag) (C : Addr) (ie : Nat) (a : Addr) (cls : Value) (d : Option Addr) (ps : List HPt) : TA := fun σ H R => σ[ie]? = some (some (.ref a)) ∧ cls = .ref C ∧ ∃ (dd : Addr) (fs : List (Str × V)) (vs : List V), d = some dd ∧ H dd = some (.xd fs) ∧ PtsV K C fs ps vs ∧ R vs H
section
variable {X : Cx} {a C : Addr} {oe : Obj} {cls : Value} {d : Option Addr} {pn : List (Addr × Obj)} {ie it j k : Nat} {e : Str} {es : List Expr} {ps : List HPt} {p3 p4 p5 p6 p7 p8 p1 p2 p13 p14 : Pos}
theorem pt_nil : PA (X.suite a ((a, oe) :: pn)) [] (tPts X.K C ie a cls d []) := PA.imp pa_nil fun σ H R ⟨_, _, dd, fs, vs, _, _, r, q⟩ => by
  cases r
  exact q
theorem pt_fld {f : Str} (hz : Zc cls d oe) (hf : ∃ vs, oe.data = .fields vs) (T : XfC X.K C) (hno : PySem.W.findIn X.K (.ref C) f = some none) (hie : X.N[ie]? = some e) (hve : Vis X.env.scope e) (de : (e == ("__debug__" : Str)) = false) (de2 : (e == ("__classdict__" : Str)) = false)
    (h : PA (X.suite a ((a, oe) :: pn)) es (tPts X.K C ie a cls d ps)) (hs : starEach (.Attribute (.Name e p3) f p4 :: es) (X.suite a ((a, oe) :: pn)).env = (false, eval (.Attribute (.Name e p3) f p4) (X.suite a ((a, oe) :: pn)).env) :: starEach es (X.suite a ((a, oe) :: pn)).env := by rfl) :
    PA (X.suite a ((a, oe) :: pn)) (.Attribute (.Name e p3) f p4 :: es) (tPts X.K C ie a cls d (.fld f :: ps)) := by
  have fl := pe_xf (X := X) (pos := p4) (pn := pn) T hno hz hf (pe_var (X := X.suite a ((a, oe) :: pn)) (pos := p3) hie hve de de2)
  refine PA.imp (pa_cons fl h hs) fun σ H R ⟨h0, hc, dd, fs, vs, ed, hd, r, q⟩ => ?_
  cases r with
  | cons hv r =>
    subst hc
    exact ⟨.ref a, h0, rfl, rfl, dd, fs, _, ed, hd, hv, h0, rfl, dd, fs, _, ed, hd, r, q⟩
theorem pt_isa {xF : Str} {D : Addr} (hz : Zc cls d oe) (hf : ∃ vs, oe.data = .fields vs) (T2 : ExcC X.K C) (hie : X.N[ie]? = some e) (hve : Vis X.env.scope e) (de : (e == ("__debug__" : Str)) = false) (de2 : (e == ("__classdict__" : Str)) = false) (hgF : Gl X xF) (hmF : X.mg xF = some (.ref D)) (dF : (xF == ("__debug__" : Str)) = false)
    (hgi : Gl X "isinstance") (hmi : X.mg "isinstance" = none) (h : PA (X.suite a ((a, oe) :: pn)) es (tPts X.K C ie a cls d ps)) (hs : starEach (.Call (.Name "isinstance" p5) [.Name e p6, .Name xF p7] [] p8 :: es) (X.suite a ((a, oe) :: pn)).env = (false, eval (.Call (.Name "isinstance" p5) [.Name e p6, .Name xF p7] [] p8) (X.suite a ((a, oe) :: pn)).env) :: starEach es (X.suite a ((a, oe) :: pn)).env := by rfl) :
    PA (X.suite a ((a, oe) :: pn)) (.Call (.Name "isinstance" p5) [.Name e p6, .Name xF p7] [] p8 :: es) (tPts X.K C ie a cls d (.isa D :: ps)) := by
  have isF := pe_callB (X := X.suite a ((a, oe) :: pn)) (p := p5) (pos := p8) (call_isX T2 hz hf) hgi hmi (by decide +kernel) (pa_cons (pe_var (X := X.suite a ((a, oe) :: pn)) (pos := p6) hie hve de de2) (pa_cons (pe_glob (X := X.suite a ((a, oe) :: pn)) (pos := p7) hgF hmF (show RelV (V.ref D) (Value.ref D) from rfl) dF) pa_nil))
  refine PA.imp (pa_cons isF h hs) fun σ H R ⟨h0, hc, dd, fs, vs, ed, hd, r, q⟩ => ?_
  cases r with
  | cons hv r =>
    obtain ⟨b, rfl, hb⟩ := hv
    subst hc
    exact ⟨.ref a, h0, D, b, dd, fs, rfl, rfl, ed, hd, hb, h0, rfl, dd, fs, _, ed, hd, r, q⟩
/-- told = ('..', parts) -/
theorem cl_suiteG {c : CLG} {told : Str} (hl : c.ps.length ≤ 1000) (hN : X.N.Nodup) (hit : X.N[it]? = some told) (hlt : Loc X.env.scope told) (hft : X.fn told = true ∨ X.env.scope.names.lookup told = some .local)
    (h : PA (X.suite a ((a, oe) :: pn)) es (tPts X.K c.C ie a cls d c.ps)) (hs : starEach (.Constant (.str c.tag) j p2 :: es) (X.suite a ((a, oe) :: pn)).env = (false, eval (.Constant (.str c.tag) j p2) (X.suite a ((a, oe) :: pn)).env) :: starEach es (X.suite a ((a, oe) :: pn)).env := by rfl)
    (hsw : swapsWith (.Tuple (.Constant (.str c.tag) j p2 :: es) k p13) (some (.Name told p1)) p14.line (X.suite a ((a, oe) :: pn)).env = pure false := by rfl) :
    PSs (X.suite a ((a, oe) :: pn)) [.Assign [.Name told p1] (.Tuple (.Constant (.str c.tag) j p2 :: es) k p13) p14]
      (fun D σ H => σ[ie]? = some (some (.ref a)) ∧ tupG X.K c cls d H fun x H' => D.nx (σ.set it (some x)) H') := by
  have tp := pe_tupH (k := k) (pos := p13) (pa_cons (pe_str (X := X.suite a ((a, oe) :: pn)) (x := c.tag) (j := j) (pos := p2)) h hs)
  refine PSs.imp (pss_one (ps_set (pos := p14) (pos' := p1) (X := X.suite a ((a, oe) :: pn)) hN hit hlt tp hsw hft)) fun D σ H ⟨h0, hc, dd, fs, vs, ed, hd, r, q⟩ => ?_
  exact ⟨h0, hc, dd, fs, vs, ed, hd, r, by rw [sizeLine_eq, List.length_cons, r.length]; omega, q⟩
end
def clSG (K : PySem.W.Frag) (it ie : Nat) (c : CLG) : Clause := (.ref c.C, fun a cls d D σ H => σ[ie]? = some (some (.ref a)) ∧ tupG K c cls d H fun x H' => D.nx (σ.set it (some x)) H')
def TTG (K : PySem.W.Frag) (tag : Str) (l : List CLG) : (XK → Hp → VK → Prop) → Hp → VK → Prop := fun tl H Q => tl (wG K Q l) H fun x H1 => HardQ H1 [.str tag, x] Q
theorem tupG_imp {K : PySem.W.Frag} {c : CLG} {cls : Value} {d : Option Addr} {H : Hp} {Q Q' : VK} (h : tupG K c cls d H Q) (i : ∀ x H, Q x H → Q' x H) : tupG K c cls d H Q' := by
  obtain ⟨h1, dd, fs, vs, h2, h3, h4, h5⟩ := h
  exact ⟨h1, dd, fs, vs, h2, h3, h4, fun p o e1 e2 => i _ _ (h5 p o e1 e2)⟩
theorem wG_all {K : PySem.W.Frag} {it ie : Nat} {Q : VK} {D : Ends} (hD : D.nx = fun σ H => ∃ v, σ[it]? = some (some v) ∧ Q v H) (hne : it ≠ ie) {σ : Sl} (h1 : it < σ.length) (h2 : ie < σ.length) {cls : Value} {d : Option Addr} {H : Hp} :
    ∀ {l : List CLG}, wG K Q l cls d H → wAll K ie (fun _ _ _ _ => False) D (l.map (clSG K it ie)) cls d σ H
  | [], h => h
  | c :: l, ⟨b, hb, yes, no⟩ => by
    refine ⟨b, hb, fun e a na => ⟨set_at h2, tupG_imp (yes e) fun x H' q => ?_⟩, fun e => wG_all hD hne h1 h2 (no e)⟩
    show D.nx _ H'
    rw [hD]
    refine ⟨x, ?_, q⟩
    rw [List.getElem?_set_ne (Ne.symm hne)]
    exact set_at (by simpa using h1)
section
variable {X : Cx} {Ng : List Str} {x a e told q tag : Str} {sg : Scope} {g : Addr} {cdg : Value} {j k it ie : Nat} {h0 : ExceptHandler} {hds : List ExceptHandler} {l : List CLG} {p1 p2 p3 p4 p5 p6 p7 p8 p9 p10 p11 p12 : Pos}
/-- told = None ahead of the try -/
theorem heard_givesG (hN : Ng.Nodup) (hit : Ng[it]? = some told) (hlt : sg.names.lookup told = some .local) (hie : Ng[ie]? = some e) (hle : sg.names.lookup e = some .local) (hne : it ≠ ie) (hi0 : it ≠ 0) (dt : (told == ("__debug__" : Str)) = false) (dt2 : (told == ("__classdict__" : Str)) = false)
    (hst : ∀ f : Addr, (L2.start Ng [V.ref f])[0]? = some (some (V.ref f)))
    (hh : ∀ (s : Shared) (H : Hp), HdsAs (cxOf C8.CX0 X.prog X.w X.K X.mg X.base Ng x sg g cdg X.A X.stack s H C8.E0).nox e (h0 :: hds) (l.map (clSG X.K it ie))) :
    LamX.GivesTo X Ng x sg g cdg [.Assign [.Name told p10] (.Constant .none j p11) p12, .Try [.Assign [.Name told p1] (.Tuple [.Constant (.str tag) j p2, .Call (.Name a p3) [] [] p4] k p5) p6] (h0 :: hds) [] [] p7, .Return (some (.Name told p8)) p9] a q (TTG X.K tag l) := by
  intro f c' s H Q tl act hc h
  have l1 : it < Ng.length := (List.getElem?_eq_some_iff.mp hit).1
  have l2 : ie < Ng.length := (List.getElem?_eq_some_iff.mp hie).1
  have ls : ∀ f : Addr, (L2.start Ng [V.ref f]).length = Ng.length := fun f => by
    unfold L2.start
    simp
    omega
  refine ⟨_, pss_cons (ps_set (pos := p12) (pos' := p10) (X := (cxOf C8.CX0 X.prog X.w X.K X.mg X.base Ng x sg g cdg X.A X.stack s H C8.E0).nox) hN hit (.inl hlt) pe_non (by rfl) (.inr hlt)) (pss_cons (ps_try_all (X := (cxOf C8.CX0 X.prog X.w X.K X.mg X.base Ng x sg g cdg X.A X.stack s H C8.E0).nox) (n := e) (i := ie)
      (tb := fun W D σ H => ∃ Ech : XK, (∀ cls d σ' H', Ech cls d H' → σ'.length = Ng.length → W cls d σ' H') ∧ σ[0]? = some (some (.ref f)) ∧ H c' = some (LamX.CodeO c' q) ∧ tl Ech H fun x H1 => HardQ H1 [.str tag, x] fun z H2 => D.nx (σ.set it (some z)) H2)
      rfl rfl hN hie hle LamX.takes0 (fun W pn xe tk _ => ?_) (hh s H)) (pss_one (ps_ret (pe_var hit (.inl hlt) dt dt2)))), ?_⟩
  · refine ⟨fun pins s' σ H D I ⟨Ech, hW, h1, h2, h3⟩ => ?_⟩
    have hp := act _ pn xe Ech p3 p4 (takes_len tk) fun cls d σ' H' he hl => hW cls d σ' H' he hl
    have tp := pe_tupH (k := k) (pos := p5) (pa_cons (pe_str (x := tag) (j := j) (pos := p2)) (pa_cons hp pa_nil))
    exact (pss_one (ps_set (pos := p6) (pos' := p1) hN hit (.inl hlt) tp (by rfl) (.inr hlt))).run pins s' σ H D I ⟨h1, h2, by
      have z : ∀ x : V, (List.length [V.str tag, x] ≤ sizeLine) = True := fun x => eq_true (by rw [sizeLine_eq]; simp)
      show tl _ _ fun x H1 => List.length [V.str tag, x] ≤ sizeLine ∧ HardQ H1 [V.str tag, x] _
      simp only [z, true_and]
      exact h3⟩
  · have l0 : (((L2.start Ng [V.ref f]).set it (some V.non))).length = Ng.length := by rw [List.length_set, ls]
    refine ⟨wG X.K Q l, fun cls d σ' H' w hl => wG_all rfl hne (by rw [hl]; exact l1) (by rw [hl]; exact l2) w, by rw [List.getElem?_set_ne hi0]; exact hst f, hc, ?_⟩
    have e1 : (fun (z : V) (H2 : Hp) => ∃ v, (((L2.start Ng [V.ref f]).set it (some V.non)).set it (some z))[it]? = some (some v) ∧ Q v H2) = Q := funext fun z => funext fun H2 => propext ⟨fun ⟨v, e1, q⟩ => by
      rw [set_at (by rw [l0]; exact l1)] at e1
      cases e1
      exact q, fun q => ⟨z, set_at (by rw [l0]; exact l1), q⟩⟩
    show tl _ H fun x H1 => HardQ H1 [.str tag, x] fun z H2 => ∃ v, _ ∧ _
    rw [e1]
    exact h
end
end FL
namespace FL
open PySem PySem.Spec PyProof.Rows L2 PySem.W
theorem Nw.dt {f : Bool} {ok : Addr → Prop} {K : PySem.W.Frag} {H : Hp} {ps : List (PyData × PyData)} {kvs : List KTv} {p : Addr} (fr : ∀ a, H a = none → ok a) (n : H p = none) (r : Rtv ok K H ps kvs) : Nw f ok K H (upd H p (DTi p kvs)) (.dict ps) (.ref p) :=
  ⟨.upd n, .dt (fr p n) upd_same (r.step (fun _ h => h) (Grow.upd n).stp), fun _ _ => ⟨p, rfl, n, .inr ⟨kvs, upd_same, r.step0 (fun b u q e _ => ⟨q, ne_of_none e n⟩) (Grow.upd n).stp⟩⟩⟩
section
variable {X : Cx} {ek ev : Expr} {i : Nat} {n : Int} {pos : Pos}
theorem pe_disp1 (hu : X.A.units + 9 < cLine) (hk : PE X ek (tVar i)) (hv : PE X ev (tC (.int n))) : PE X (.Dict [some ek] [ev] pos) (fun σ H Q => ∃ b k, σ[i]? = some (some (.ref b)) ∧ KeyAt X.K H k b ∧ ∀ p, H p = none → Q (.ref p) (upd H p (DTi p [(k, b, .int n)]))) := by
  refine ⟨fun pins s σ H Q I ⟨b, k, e, ka, q⟩ => ?_⟩
  have hn := I.hok.fresh (Nat.le_refl s.heap.objs.size)
  have I1 := empty_toT (I.laid (a := s.heap.objs.size) (o := .dK []) (h' := s.heap.push { cls := .type "dict", data := .dict #[] }) (t' := s.toks) (fun _ _ q => Heap.get?_push_of_some _ q) (Nat.le_refl _) (dk_empty s.heap I.big)) upd_same
  rw [upd_upd] at I1
  have ka1 : KeyAt X.K (upd H s.heap.objs.size (DTi s.heap.objs.size [])) k b := ⟨ka.1.mv fun c xs t => SqT.stp (ok := fun _ => True) t (Grow.upd hn).stp, ka.2⟩
  rw [arm_eval_Dict, zip_pairTrees [some ek] [ev] X.env pos rfl rfl, dictDisplay_pairs _ (by intro z; cases z) (by show 1 < 17; decide)]
  refine wpAny_bind (wpAny_standAt (wpAny_bind (wpAny_subDictH (knd := kTI X) (Q := fun d s' => wpAny (model X.prog X.w) X.A (pure (Value.ref d)) (EP X pins σ Q) X.xe s') (by show X.A.units + 8 < cLine; omega) (by show 1 ≤ 15; decide)
    (pairTrees_cons_walk (thn (hk.run pins _ σ _ (fun x H' => x = .ref b ∧ H' = upd H s.heap.objs.size (DTi s.heap.objs.size [])) I1 ⟨.ref b, e, rfl, rfl⟩) fun u s2 ⟨x, H1, I2, rx, e1, e2⟩ =>
      thn (hv.run pins s2 σ H1 (fun y H' => y = .int n ∧ H' = H1) I2 ⟨rfl, rfl⟩) fun w s3 ⟨y, H2, I3, ry, e3, e4⟩ => pairTrees_nil_walk ?_)))))
  subst e1 e2 e3 e4
  cases rx
  obtain ⟨tk, rfl⟩ := ry
  obtain ⟨z, y, xs, r, dd⟩ := dti_dict I3 upd_same (fun p hp => by cases hp)
  cases r
  refine ⟨[(k, b, .int n tk)], ⟨rfl, rfl, key_ints I3 ka1, trivial⟩, dd, fun h' tk' dd' hs => wpAny_pure ⟨.ref s.heap.objs.size, _, ?_, rfl, q _ hn⟩⟩
  obtain ⟨o, es, ep, hq, h2, h3, h4, _, h5⟩ := dd'
  have h6 : es.toList = [(k, b, Value.int n tk)].map (fun x => (⟨hashI x.1, .ref x.2.1, x.2.2⟩ : DictEntry)) := h4.trans (by
    show [entryOfKey (kTI X) (k, b, Value.int n tk)] = _
    rw [entry_dti X _ ka.nkI]
    rfl)
  have w1 := d_write (t' := tk') I3 (by rw [upd_same]; exact True.intro) hs ⟨o, hq⟩ (dti_ok (kvs := [(k, b, .int n)]) ⟨by show (1 : Nat) ≤ sizeLine; rw [sizeLine_eq]; decide, y, [(k, b, .int n tk)], .cons ⟨rfl, rfl, ⟨tk, rfl⟩⟩ .nil, o, es, ep, hq, h2, h3, h6, by simp⟩)
  rw [upd_upd] at w1
  exact w1
end
def dDict1 (i : Nat) (n : Int) : DE := fun ρ o => match ρ[i]? with
  | some (some v) => match toKT v with
    | some _ => .ok (.dict [(v, .int n)]) ρ o
    | none => .bad
  | _ => .bad
section
variable {X : Cx} {sg : Sta} {W : WX} {i j : Nat} {n : Int} {x : Str} {p1 p2 pos : Pos}
theorem x_dict1 (hu : X.A.units + 70 < cLine) (hN : X.N[i]? = some x := by rfl) (hv : Vis X.env.scope x := by first | exact .inl rfl | exact .inr (.inl rfl) | exact .inr (.inr rfl)) (ho : i ∉ sg.own := by decide) (hd : (x == ("__debug__" : Str)) = false := by decide) (hcd : (x == ("__classdict__" : Str)) = false := by decide) :
    PE X (.Dict [some (.Name x p1)] [.Constant (.int n) j p2] pos) (tE X.K X.mg sg W false true true (dDict1 i n)) := PE.imp (pe_disp1 (by omega) (pe_var hN hv hd hcd) pe_int) fun σ H Q ⟨g, ρ, o, S, ok, r, q⟩ => by
  unfold dDict1 at q
  cases e : ρ[i]? with
  | none => rw [e] at q; exact q.elim
  | some ov =>
    cases ov with
    | none => rw [e] at q; exact q.elim
    | some v =>
    rw [e] at q
    simp only at q
    cases e2 : toKT v with
    | none => rw [e2] at q; exact q.elim
    | some k =>
      simp only [e2] at q
      obtain ⟨rfl, hok⟩ := toKT_ok e2
      obtain ⟨y, ey, ry⟩ := r.pl i _ e ho
      obtain ⟨b, xs, rfl, t, rs⟩ := (ry.toT (okT := ok) fun _ h => h).keyT
      exact ⟨b, .tup k, ey, keyAt_of hok t rs, fun p hp => fin_op (.refl r true) (Nw.dt (f := true) r.fr hp (.cons hok t rs (.int n) .nil)) fun x H' ok' n1 rm fr => q x H' ok' n1 rm fun _ => fr rfl⟩
end

def dChain3 (φ φ' φ'' : PyData → PyData → Option PyData) (d1 d2 d3 d4 : DE) : DE := fun ρ o => (d1 ρ o).bind fun v ρ1 o1 => (d2 ρ1 o1).bind fun u ρ2 o2 =>
  match (φ v u).bind asB with
  | none => .bad
  | some false => .ok (.bool false) ρ2 o2
  | some true => (d3 ρ2 o2).bind fun z ρ3 o3 => match (φ' u z).bind asB with
    | none => .bad
    | some false => .ok (.bool false) ρ3 o3
    | some true => (d4 ρ3 o3).bind fun y ρ4 o4 => .ofO (φ'' z y) ρ4 o4
def tChain3 (r r' r'' : R2) (ta tb tc td : TE) : TE := fun σ H Q => ta σ H fun x H1 => tb σ H1 fun y H2 => r x y H2 fun z H3 => ∃ k, z = .bl k ∧
  (if k = true then tc σ H3 fun w' H4 => r' y w' H4 fun z' H5 => ∃ k', z' = .bl k' ∧ (if k' = true then td σ H5 fun w'' H6 => r'' w' w'' H6 Q else Q (.bl false) H5) else Q (.bl false) H3)
section
variable {X : Cx} {sg : Sta} {W : WX} {a b c e : Expr} {d1 d2 d3 d4 : DE} {w w4 p1 p2 p3 p4 f f1 f2 f3 f4 f5 f6 : Bool} {pos : Pos} {ta tb tc td : TE}
theorem pe_chain3 {op op' op'' : CmpOp} {r r' r'' : R2} (ho : OpR X (compareOp op) r) (ho' : OpR X (compareOp op') r') (ho'' : OpR X (compareOp op'') r'') (ha : PE X a ta) (hb : PE X b tb) (hc : PE X c tc) (hd : PE X e td)
    (hm : lastMarks [op, op', op''] [b, c, e] = false := by with_unfolding_all rfl) : PE X (.Compare a [op, op', op''] [b, c, e] pos) (tChain3 r r' r'' ta tb tc td) := by
  refine ⟨fun pins s σ H Q I h => ?_⟩
  refine Compare_chain (thn (ha.run pins s σ H _ I h) fun v s1 ⟨x, H1, I1, r1, q1⟩ => chain_link (thn (hb.run pins s1 σ H1 _ I1 q1) fun u s2 ⟨y, H2, I2, r2, q2⟩ =>
    thn (ho pins s2 σ H2 x y v u _ I2 r1 r2 q2) fun d s3 ⟨z, H3, I3, r3, k, e, q3⟩ => ?_)) hm
  subst e
  cases r3
  refine wpAny_truthy_bool ?_
  cases k with
  | false => exact ite_ff ⟨.bl false, H3, I3, rfl, q3⟩
  | true =>
    refine ite_tt (chain_link (thn (hc.run pins s3 σ H3 _ I3 q3) fun w' s4 ⟨z', H4, I4, r4, q4⟩ => thn (ho' pins s4 σ H4 y z' u w' _ I4 r2 r4 q4) fun d' s5 ⟨z2, H5, I5, r5, k', e', q5⟩ => ?_))
    subst e'
    cases r5
    refine wpAny_truthy_bool ?_
    cases k' with
    | false => exact ite_ff ⟨.bl false, H5, I5, rfl, q5⟩
    | true => exact ite_tt (chain_last (thn (hd.run pins s5 σ H5 _ I5 q5) fun w'' s6 ⟨z3, H6, I6, r6, q6⟩ => ho'' pins s6 σ H6 z' z3 w' w'' Q I6 r4 r6 q6))
theorem x_chain3 {op op' op'' : CmpOp} {φ φ' φ'' : PyData → PyData → Option PyData} (h : OpR X (compareOp op) (r2D X.K f1 φ)) (h' : OpR X (compareOp op') (r2D X.K f2 φ')) (h'' : OpR X (compareOp op'') (r2D X.K f φ''))
    (ha : PE X a (tE X.K X.mg sg W false p1 f3 d1)) (hb : PE X b (tE X.K X.mg sg W false p2 f4 d2)) (hc : PE X c (tE X.K X.mg sg W false p3 f5 d3)) (hd : PE X e (tE X.K X.mg sg W w4 p4 f6 d4))
    (hm : lastMarks [op, op', op''] [b, c, e] = false := by with_unfolding_all rfl) : PE X (.Compare a [op, op', op''] [b, c, e] pos) (tE X.K X.mg sg W false (p1 && (p2 && (p3 && p4))) f (dChain3 φ φ' φ'' d1 d2 d3 d4)) := PE.imp (pe_chain3 h h' h'' ha hb hc hd hm) fun σ H Q q => by
  obtain ⟨g, ρ, o, S, ok, r, q⟩ := q
  unfold dChain3 at q
  show tE X.K X.mg sg W false p1 f3 d1 σ H _
  cases e1 : d1 ρ o with
  | bad => rw [e1] at q; exact q.elim
  | ex c ρ1 o1 => rw [e1] at q; exact tE.of_ex r e1 q
  | ok v ρ1 o1 =>
    rw [e1] at q
    refine tE.of_ok r e1 fun x H1 ok1 n1 r1 _ => ?_
    simp only [Res.bind] at q
    show tE X.K X.mg sg W false p2 f4 d2 σ H1 _
    cases e2 : d2 ρ1 o1 with
    | bad => rw [e2] at q; exact q.elim
    | ex c ρ2 o2 => rw [e2] at q; exact tE.of_ex n1.st e2 fun cls dd H' ok' n2 x2 => q cls dd H' ok' (n1.weak.trans n2) x2
    | ok u ρ2 o2 =>
      rw [e2] at q
      refine tE.of_ok n1.st e2 fun y H2 ok2 n2 r2 _ => ?_
      simp only at q
      have n12 := n1.trans n2
      cases e3 : φ v u with
      | none => rw [e3] at q; exact q.elim
      | some z =>
        rw [e3] at q
        simp only [Option.bind] at q
        cases e4 : asB z with
        | none => rw [e4] at q; exact q.elim
        | some t =>
          rw [e4] at q
          obtain rfl := asB_some e4
          have r1' := (r1.later n1.st n2 (by intro z; cases z)).T n2.st.sub
          refine ⟨ok2, okw g S, v, u, _, n2.st.fr, r1', r2.T n2.st.sub, e3, fun zz H3 nw => ⟨t, ?_, ?_⟩⟩
          · have := nw.rp
            cases this
            rfl
          · cases t with
            | false =>
              simp only [Bool.false_eq_true, if_false] at q ⊢
              exact q _ _ ok2 ((n12.grow nw.grow).le (by cases p1 <;> cases p2 <;> simp)) (.ofRp n2.st.sub (.bl false)) fun _ z => by cases z
            | true =>
              simp only [if_true] at q ⊢
              have n3 := n12.grow nw.grow
              have r2g : Rp ok2 X.K H3 u y := Rp.grow r2 nw.grow
              show tE X.K X.mg sg W false p3 f5 d3 σ H3 _
              cases e5 : d3 ρ2 o2 with
              | bad => rw [e5] at q; exact q.elim
              | ex c ρ3 o3 => rw [e5] at q; exact tE.of_ex n3.st e5 fun cls dd H' ok' n4 x4 => q cls dd H' ok' (n3.weak.trans n4) x4
              | ok z ρ3 o3 =>
                rw [e5] at q
                refine tE.of_ok n3.st e5 fun zz H4 ok4 n4 r4 _ => ?_
                simp only at q
                have n34 := n3.trans n4
                cases e6 : φ' u z with
                | none => rw [e6] at q; exact q.elim
                | some z6 =>
                  rw [e6] at q
                  simp only [Option.bind] at q
                  cases e7 : asB z6 with
                  | none => rw [e7] at q; exact q.elim
                  | some t6 =>
                    rw [e7] at q
                    obtain rfl := asB_some e7
                    refine ⟨ok4, okw g S, u, z, _, n4.st.fr, (r2g.step n4.mono (n4.stp n3.st)).toT n4.st.sub, r4.T n4.st.sub, e6, fun zz6 H5 nw2 => ⟨t6, ?_, ?_⟩⟩
                    · have := nw2.rp
                      cases this
                      rfl
                    · cases t6 with
                      | false =>
                        simp only [Bool.false_eq_true, if_false] at q ⊢
                        exact q _ _ ok4 ((n34.grow nw2.grow).le (by cases p1 <;> cases p2 <;> cases p3 <;> simp)) (.ofRp n4.st.sub (.bl false)) fun _ z => by cases z
                      | true =>
                        simp only [if_true] at q ⊢
                        have n5 := n34.grow nw2.grow
                        have r4' : Rp ok4 X.K H4 z zz := r4
                        have r4g : Rp ok4 X.K H5 z zz := Rp.grow r4' nw2.grow
                        show tE X.K X.mg sg W w4 p4 f6 d4 σ H5 _
                        cases e8 : d4 ρ3 o3 with
                        | bad => rw [e8] at q; exact q.elim
                        | ex c ρ4 o4 => rw [e8] at q; exact tE.of_ex n5.st e8 fun cls dd H' ok' n6 x6 => q cls dd H' ok' (n5.weak.trans n6) x6
                        | ok y4 ρ4 o4 =>
                          rw [e8] at q
                          refine tE.of_ok n5.st e8 fun yy H6 ok6 n6 r6 _ => ?_
                          simp only at q
                          cases e9 : φ'' z y4 with
                          | none => rw [e9] at q; exact q.elim
                          | some b =>
                            rw [e9] at q
                            refine ⟨ok6, okw g S, z, y4, b, n6.st.fr, (r4g.step n6.mono (n6.stp n5.st)).toT n6.st.sub, r6.T n6.st.sub, e9, fun zz H' nw3 => fin_op ((n5.trans n6).le (by cases p1 <;> cases p2 <;> cases p3 <;> cases p4 <;> simp)) nw3 q⟩
end
end FL
namespace FL
open PySem PySem.Spec PyProof.Rows L2
inductive HPd where
  | fld (f : Str)
  | isa (b : Bool)
structure CLGd where
  cls : Str
  tag : Str
  ps : List HPd
def ptsD (fs : List (Str × PyData)) : List HPd → Option (List PyData)
  | [] => some []
  | .fld f :: ps => (fs.lookup f).bind fun v => (ptsD fs ps).map fun vs => v :: vs
  | .isa b :: ps => (ptsD fs ps).map fun vs => .bool b :: vs
def hearGD : List CLGd → Exn → Option PyData
  | [], _ => none
  | k :: r, c => if c.cls = k.cls then (ptsD c.fs k.ps).map fun vs => .tuple (.str k.tag :: vs) else hearGD r c
def dHeardG (T : List (Addr × Str)) (tag : Str) (cl : List CLGd) (d : DE) : DE := fun ρ o => if o.tb = T then match d ρ o with
  | .ok v ρ1 o1 => .ok (.tuple [.str tag, v]) ρ1 o1
  | .ex c ρ1 o1 => .ofO (hearGD cl c) ρ1 o1
  | .bad => .bad
  else .bad
inductive PtsM (K : PySem.W.Frag) (C : Addr) : List HPd → List HPt → Prop
  | nil : PtsM K C [] []
  | fld {f : Str} {ps : List HPd} {qs : List HPt} : PtsM K C ps qs → PtsM K C (.fld f :: ps) (.fld f :: qs)
  | isa {b : Bool} {D : Addr} {ps : List HPd} {qs : List HPt} : PySem.W.kitOne K (.ref C) (.ref D) = some b → PtsM K C ps qs → PtsM K C (.isa b :: ps) (.isa D :: qs)
/-- the data's clause is the text's -/
structure HCLG (K : PySem.W.Frag) (mg : Str → Option Value) (k : CLGd) (c : CLG) : Prop where
  cls : mg k.cls = some (.ref c.C)
  tag : c.tag = k.tag
  pts : PtsM K c.C k.ps c.ps
theorem Rfs.look {ok : Addr → Prop} {K : PySem.W.Frag} {H : Hp} {f : Str} {v : PyData} : ∀ {ds : List (Str × PyData)} {vs : List (Str × V)}, Rfs ok K H ds vs → ds.lookup f = some v → ∃ u, vs.lookup f = some u ∧ Rp ok K H v u
  | _, _, .nil, h => by cases h
  | _, _, .cons (f := g) hr t, h => by
    cases e : f == g with
    | true =>
      simp only [List.lookup, e] at h ⊢
      cases h
      exact ⟨_, rfl, hr⟩
    | false =>
      simp only [List.lookup, e] at h ⊢
      exact Rfs.look t h
theorem pts_of {ok : Addr → Prop} {K : PySem.W.Frag} {H : Hp} {C : Addr} {fs : List (Str × PyData)} {vs : List (Str × V)} (r : Rfs ok K H fs vs) : ∀ {ps : List HPd} {qs : List HPt} {ds : List PyData}, PtsM K C ps qs → ptsD fs ps = some ds → ∃ us, PtsV K C vs qs us ∧ Rps ok K H ds us
  | _, _, _, .nil, h => by
    simp only [ptsD] at h
    cases h
    exact ⟨[], .nil, .nil⟩
  | _, _, _, .fld (f := f) (ps := ps) m, h => by
    simp only [ptsD] at h
    cases e1 : fs.lookup f with
    | none => rw [e1] at h; cases h
    | some v =>
    cases e2 : ptsD fs ps with
    | none => rw [e1, e2] at h; cases h
    | some ds =>
      rw [e1, e2] at h
      cases h
      obtain ⟨us, p1, p2⟩ := pts_of r m e2
      obtain ⟨u, q1, q2⟩ := r.look e1
      exact ⟨u :: us, .cons q1 p1, .cons q2 p2⟩
  | _, _, _, .isa (b := b) (ps := ps) k m, h => by
    simp only [ptsD] at h
    cases e2 : ptsD fs ps with
    | none => rw [e2] at h; cases h
    | some ds =>
      rw [e2] at h
      cases h
      obtain ⟨us, p1, p2⟩ := pts_of r m e2
      exact ⟨.bl b :: us, .cons ⟨b, rfl, k⟩ p1, .cons (.bl b) p2⟩
theorem hearG_mem {c : Exn} {v : PyData} : ∀ {l : List (CLGd × CLG)}, hearGD (l.map (·.1)) c = some v → ∃ p ∈ l, p.1.cls = c.cls
  | [], h => by cases h
  | p :: r, h => by
    by_cases e : c.cls = p.1.cls
    · exact ⟨p, List.mem_cons_self, e.symm⟩
    · simp only [List.map_cons, hearGD, if_neg e] at h
      obtain ⟨q, hq, e⟩ := hearG_mem h
      exact ⟨q, List.mem_cons_of_mem _ hq, e⟩
theorem hearG_ok {K : PySem.W.Frag} {mg : Str → Option Value} {ok : Addr → Prop} {H : Hp} {c : Exn} {cls : Value} {d : Option Addr} {v : PyData} {Q : VK} {L : List (CLGd × CLG)} (hL : ∀ p ∈ L, HCLG K mg p.1 p.2)
    (hx : ∀ p ∈ L, ∀ q ∈ L, PySem.W.exmOne K (.ref q.2.C) (.ref p.2.C) = some (decide (q.1.cls = p.1.cls))) (x : ExR mg ok K H c cls d) (hq : ∀ z H2, Nw true ok K H H2 v z → Q z H2) :
    ∀ {l : List (CLGd × CLG)}, (∀ p ∈ l, p ∈ L) → hearGD (l.map (·.1)) c = some v → wG K Q (l.map (·.2)) cls d H
  | [], _, h => by cases h
  | p :: r, hl, h => by
    obtain ⟨C, dd, vs, h1, h2, h3, h4, h5⟩ := x
    obtain ⟨q, hqm, eq⟩ := hearG_mem h
    have hC : C = q.2.C := by
      have z := (hL q (hl q hqm)).cls
      rw [eq, h1] at z
      injection z with z; injection z with z
    refine ⟨decide (q.1.cls = p.1.cls), by rw [h2, hC]; exact hx p (hl p List.mem_cons_self) q (hl q hqm), fun e => ?_, fun e => ?_⟩
    · have e : q.1.cls = p.1.cls := of_decide_eq_true e
      have ec : c.cls = p.1.cls := eq.symm.trans e
      have P := hL p (hl p List.mem_cons_self)
      have hC2 : C = p.2.C := by
        have z := P.cls
        rw [← ec, h1] at z
        injection z with z; injection z with z
      simp only [List.map_cons, hearGD, if_pos ec] at h
      cases e3 : ptsD c.fs p.1.ps with
      | none => rw [e3] at h; cases h
      | some ds =>
        rw [e3] at h
        cases h
        obtain ⟨us, p1, p2⟩ := pts_of h5 P.pts e3
        refine ⟨by rw [h2, hC2], dd, vs, us, h3, h4, p1, fun a o e1 e2 => hq _ _ ?_⟩
        rw [P.tag]
        exact Nw.hard e1 e2 (.cons (.str _) p2)
    · have e : q.1.cls ≠ p.1.cls := of_decide_eq_false e
      have ec : c.cls ≠ p.1.cls := fun z => e (eq.trans z)
      simp only [List.map_cons, hearGD, if_neg ec] at h
      exact hearG_ok hL hx ⟨C, dd, vs, h1, h2, h3, h4, h5⟩ hq (fun z hz => hl z (List.mem_cons_of_mem _ hz)) h
section
variable {X : Cx} {sg : Sta} {W : WX} {e : Expr} {d : DE} {w p f1 f : Bool} {T : List (Addr × Str)} {tag : Str} {L : List (CLGd × CLG)}
theorem e_heardG (hL : ∀ p ∈ L, HCLG X.K X.mg p.1 p.2) (hx : ∀ p ∈ L, ∀ q ∈ L, PySem.W.exmOne X.K (.ref q.2.C) (.ref p.2.C) = some (decide (q.1.cls = p.1.cls)))
    (h : PE X e (tLamK T (TTG X.K tag (L.map (·.2))) fun E => tE X.K X.mg sg (wE E) false p f1 d)) : PE X e (tE X.K X.mg sg W w false f (dHeardG T tag (L.map (·.1)) d)) := by
  refine PE.imp h fun σ H Q ⟨g, ρ, o, S, ok, r, q⟩ => ?_
  unfold dHeardG at q
  by_cases hT : o.tb = T
  · rw [if_pos hT] at q
    have hS : S.tb = T := r.orc.2.2.symm.trans hT
    refine ⟨hS ▸ r.orc.2.1, fun H1 eN kp T1 => ?_⟩
    have n0 := Nx.ext r eN kp (hS ▸ T1)
    show tE X.K X.mg sg (wE (wG X.K Q (L.map (·.2)))) false p f1 d σ H1 fun x H2 => HardQ H2 [.str tag, x] Q
    cases e1 : d ρ o with
    | bad => rw [e1] at q; exact q.elim
    | ok v ρ1 o1 =>
      rw [e1] at q
      refine tE.of_ok n0.st e1 fun x H2 ok2 n1 rx _ a oo h1 h2 => ?_
      exact fin_op (n0.trans n1).weak (Nw.hard h1 h2 (.cons (.str _) (.cons rx .nil))) q
    | ex c ρ1 o1 =>
      rw [e1] at q
      simp only [Res.ofO] at q
      refine tE.of_ex n0.st e1 fun cls dd H2 ok2 n1 x1 => ?_
      cases e2 : hearGD (L.map (·.1)) c with
      | none => rw [e2] at q; exact q.elim
      | some v =>
        rw [e2] at q
        exact hearG_ok hL hx x1 (fun z H3 nw => fin_op (n0.trans n1).weak nw.any q) (fun _ h => h) e2
  · rw [if_neg hT] at q; exact q.elim
end
end FL
namespace FL
open PySem PySem.Spec PyProof.Rows L2 PySem.W
/-- tuples that may be ordered -/
def ordT (v u : PyData) : Bool := match v, u with
  | .tuple xs, .tuple ys => alike (.tuple xs) (.tuple ys) && (okD (.tuple xs) && okD (.tuple ys))
  | _, _ => false
def phLtT (v u : PyData) : Option PyData := if ordT v u = true then some (.bool (dataLt v u)) else none
def phGtT (v u : PyData) : Option PyData := if ordT v u = true then some (.bool (dataLt u v)) else none
def phLeT (v u : PyData) : Option PyData := if ordT v u = true then some (.bool (!dataLt u v)) else none
def phGeT (v u : PyData) : Option PyData := if ordT v u = true then some (.bool (!dataLt v u)) else none
theorem ordT_ok {v u : PyData} (h : ordT v u = true) : alike v u = true ∧ v ≠ .none ∧ okD v = true ∧ okD u = true := by
  unfold ordT at h
  split at h
  · simp only [Bool.and_eq_true] at h
    exact ⟨h.1, (by intro z; cases z), h.2.1, h.2.2⟩
  · cases h
section
variable {X : Cx}
theorem opT {op : CmpOp} {g : PyData → PyData → Bool} (hu : X.A.units + 66 < cLine)
    (hg : ∀ {s : Shared} {a b : Value} {as bs : List Addr} {da db : PyData} {Q : Value → Shared → Prop} {E : Value → Shared → Prop}, Reads s.heap a da as → Reads s.heap b db bs → alike da db = true → da ≠ .none → X.A.units + min da.depth db.depth < cLine → Q (.bool (g da db)) s → wpAny (model X.prog X.w) X.A (compareOp op a b) Q E s) :
    OpR X (compareOp op) (r2D X.K true fun v u => if ordT v u = true then some (.bool (g v u)) else none) := by
  intro pins s σ H x y v u Q I rx ry ⟨ok, okT, dv, du, d, fr, r1, r2, e, q⟩
  by_cases hd : ordT dv du = true
  · simp only [if_pos hd] at e
    cases e
    obtain ⟨h1, h2, h3, h4⟩ := ordT_ok hd
    obtain ⟨as, k1⟩ := r1.rd I (okD_plain h3).1 rx
    obtain ⟨bs, k2⟩ := r2.rd I (okD_plain h4).1 ry
    exact hg k1 k2 h1 h2 (room65 hu (okD_plain h4).2) ⟨.bl _, H, I, rfl, q (.bl _) H (Nw.same (.bl _) rfl)⟩
  · simp only [if_neg hd] at e; cases e
theorem opLtT (hu : X.A.units + 66 < cLine) : OpR X (compareOp .Lt) (r2D X.K true phLtT) := opT hu fun k1 k2 h1 h2 h3 h4 => PySem.W.lt_data k1 k2 h1 h2 h3 h4
theorem opGtT (hu : X.A.units + 66 < cLine) : OpR X (compareOp .Gt) (r2D X.K true phGtT) := opT (g := fun v u => dataLt u v) hu fun k1 k2 h1 h2 h3 h4 => PySem.W.gt_data k1 k2 h1 h2 h3 h4
theorem opLeT (hu : X.A.units + 66 < cLine) : OpR X (compareOp .LtE) (r2D X.K true phLeT) := opT (g := fun v u => !dataLt u v) hu fun k1 k2 h1 h2 h3 h4 => PySem.W.le_data k1 k2 h1 h2 h3 h4
theorem opGeT (hu : X.A.units + 66 < cLine) : OpR X (compareOp .GtE) (r2D X.K true phGeT) := opT (g := fun v u => !dataLt v u) hu fun k1 k2 h1 h2 h3 h4 => PySem.W.ge_data k1 k2 h1 h2 h3 h4
end
end FL
namespace FL
open PySem PySem.Spec PyProof.Rows L2 PySem.W
def phSum : List PyData → Option PyData
  | [.list ds] => (intsD ds).map fun ns => .int ns.sum
  | [.tuple ds] => (intsD ds).map fun ns => .int ns.sum
  | _ => none
section
variable {X : Cx}
theorem callSum (hc : X.calm = true) : CallR X (.builtin "sum") (rnD X.K true phSum) := by
  intro pins s σ H xs us Q I r ⟨ok, okT, vs, d, fr, rs, e, q⟩
  unfold phSum at e
  split at e
  · rename_i ds
    cases e1 : intsD ds with
    | none => rw [e1] at e; cases e
    | some ns =>
      rw [e1] at e
      cases e
      obtain rfl := intsD_some e1
      cases rs with
      | cons r1 rs =>
        cases rs
        obtain ⟨a, zs, rfl, h, rz⟩ := r1.lst
        obtain rfl := Rps.ints_inv rz
        exact cr_sum hc pins s σ H _ us Q I r ⟨a, ns, rfl, h, q _ _ (Nw.same (.int _) rfl)⟩
  · rename_i ds
    cases e1 : intsD ds with
    | none => rw [e1] at e; cases e
    | some ns =>
      rw [e1] at e
      cases e
      obtain rfl := intsD_some e1
      cases rs with
      | cons r1 rs =>
        cases rs
        obtain ⟨a, zs, rfl, h, rz⟩ := r1.tup
        obtain rfl := Rps.ints_inv rz
        obtain ⟨its, rv, pl, hz⟩ := I.tuple h.sq
        rw [Vals.ref1 r]
        have hi := rv.ints
        have hT : s.heap.IsTuple a its.toArray := pl
        obtain ⟨ys, ey⟩ := hi.allInts.items
        have hn : numsOf (intItems ys).toList = ns := by rw [← ey]; exact hi.numsOf
        rw [nums_intItems] at hn
        rw [ey] at hT
        refine ktm_sumG (I.ok.hd hc) hT fun h' tk t' hk => ⟨.int _, H, I.kept hk, ⟨_, rfl⟩, ?_⟩
        rw [preSum_eq, List.take_of_length_le (by simp), hn]
        exact q _ _ (Nw.same (.int _) rfl)
  · cases e
end
end FL
namespace FL
open PySem PySem.Spec PyProof.Rows L2
namespace Q
def clsG : List CLGd := [⟨"BadSheet", "sheet", [.fld "place", .isa true]⟩, ⟨"BadLot", "lot", [.fld "value", .isa true]⟩, ⟨"BadKnob", "knob", [.fld "value", .isa true]⟩, ⟨"BadParameter", "parameter", [.fld "value", .isa true]⟩, ⟨"TooGreat", "great", [.fld "most", .isa true]⟩]
def d_is_from : DS := (dRet (dAndV (dOp1 (phIsa "int") (dVar 0)) (dAndV (dNotV (dOp1 (phIsa "bool") (dVar 0))) (dChain (phC fun i j => decide (i ≤ j)) (phC fun i j => decide (i ≤ j)) (dVar 1) (dVar 0) (dVar 2)))))
def D_is_from : DF := dFn 3 3 none (d_is_from)
def d_edge_of : DS := (dRet (dIf (dTop2 (phC fun i j => decide (j ≤ i)) (dVar 0) (dC (.int 0))) (dVar 0) (dOp2 phSub (dOp1 phNeg (dC (.int 1))) (dVar 0))))
def D_edge_of : DF := dFn 1 1 none (d_edge_of)
def d_turned_to : DS := (dRet (dOp2 phAdd (dCut (dVar 0) (dPt (dVar 1)) dNoPt) (dCut (dVar 0) dNoPt (dPt (dVar 1)))))
def D_turned_to : DF := dFn 2 2 none (d_turned_to)
def d_plain_of : DS := (dRet (dOpN phTuple (dCons (dOpN phSorted (dCons (dComp (dItems (dVar 0)) [1] (gName 1) dYes (dCall false D_turned_to (aCons (dVar 1) (aCons (dIndex (dVar 1) (dOpN phMinN (dCons (dVar 1) dNil))) aNil)))) dNil)) dNil)))
def D_plain_of : DF := dFn 2 1 none (d_plain_of)
def d_sides_at : DS := (dSeq (dAsgC 1 dDict) (dSeq (dFor (dEnum (dVar 0)) (gTup 2 (gCons (gName 2) (gCons (gName 3) gNil))) (dFor (dEnum (dVar 3)) (gTup 2 (gCons (gName 4) (gCons (gName 5) gNil))) (dPut 1 (dVar 5) (dTup (dCons (dVar 2) (dCons (dVar 4) dNil)))))) (dRet (dMove 1))))
def D_sides_at : DF := dFn 6 1 none (d_sides_at)
def d_count_edges : DS := (dRet (dOp2 phAdd (dC (.int 1)) (dOpN phMaxN (dCons (dComp (dItems (dVar 0)) [1] (gName 1) dYes (dOpN phMaxN (dCons (dVar 1) dNil))) dNil))))
def D_count_edges : DF := dFn 2 1 none (d_count_edges)
def d_is_joined : DS := (dSeq (dAsgC 2 (dLst (dCons (dC (.int 0)) dNil))) (dSeq (dAsg 3 (dC (.int 0))) (dSeq (dWhile (dTop2 (phC fun i j => decide (i < j)) (dVar 3) (dOpN phLen (dCons (dVar 2) dNil))) (dSeq (dFor (dItems (dOp2 phIx (dVar 0) (dOp2 phIx (dVar 2) (dVar 3)))) (gName 4) (dIfS (dAndT (dTop2 phIn (dOp2 phSub (dOp1 phNeg (dC (.int 1))) (dVar 4)) (dVar 1)) (dTop2 phNotIn (dOp2 phIx (dOp2 phIx (dVar 1) (dOp2 phSub (dOp1 phNeg (dC (.int 1))) (dVar 4))) (dC (.int 0))) (dVar 2))) (dDrop (dApp 2 (dOp2 phIx (dOp2 phIx (dVar 1) (dOp2 phSub (dOp1 phNeg (dC (.int 1))) (dVar 4))) (dC (.int 0))))) dPass)) (dAsg 3 (dOp2 phAdd (dVar 3) (dC (.int 1)))))) (dRet (dOp2 phEq (dOpN phLen (dCons (dVar 2) dNil)) (dOpN phLen (dCons (dVar 0) dNil)))))))
def D_is_joined : DF := dFn 5 2 none (d_is_joined)
def d_check_sides : DS := (dSeq (dAsgC 1 (dLst dNil)) (dSeq (dFor (dEnum (dVar 0)) (gTup 2 (gCons (gName 2) (gCons (gName 3) gNil))) (dIfS (dOrT (dNotT (dTest (dOp1 (phIsa "tuple") (dVar 3)))) (dTop2 phNe (dOpN phLen (dCons (dVar 3) dNil)) (dC (.int 3)))) (dRaise "BadSheet" "place" (dTup (dCons (dVar 2) dNil))) dPass)) (dFor (dEnum (dVar 0)) (gTup 2 (gCons (gName 2) (gCons (gName 3) gNil))) (dFor (dEnum (dVar 3)) (gTup 2 (gCons (gName 4) (gCons (gName 5) gNil))) (dSeq (dIfS (dOrT (dNotT (dTest (dCall false D_is_from (aCons (dVar 5) (aCons (dOp2 phSub (dOp1 phNeg (dC (.int 1))) (dC (.int 11))) (aCons (dC (.int 11)) aNil)))))) (dTop2 phIn (dVar 5) (dVar 1))) (dRaise "BadSheet" "place" (dTup (dCons (dVar 2) (dCons (dVar 4) dNil)))) dPass) (dDrop (dApp 1 (dVar 5))))))))
def D_check_sides : DF := dFn 6 1 none (d_check_sides)
def d_need_sheet : DS := (dSeq (dIfS (dOrT (dNotT (dTest (dOp1 (phIsa "tuple") (dVar 0)))) (dNotT (dTest (dChain (phC fun i j => decide (i ≤ j)) (phC fun i j => decide (i ≤ j)) (dC (.int 1)) (dOpN phLen (dCons (dVar 0) dNil)) (dC (.int 8)))))) (dRaise "BadSheet" "place" (dTup dNil)) dPass) (dSeq (dDrop (dCall false D_check_sides (aCons (dVar 0) aNil))) (dSeq (dAsg 1 (dCall false D_sides_at (aCons (dVar 0) aNil))) (dSeq (dAsg 2 (dOpN phSorted (dCons (dComp (dKeys 1) [4] (gName 4) (dTop2 (phC fun i j => decide (j ≤ i)) (dVar 4) (dC (.int 0))) (dVar 4)) dNil))) (dSeq (dAsg 3 (dOpN phMaxN (dCons (dComp (dKeys 1) [4] (gName 4) dYes (dCall false D_edge_of (aCons (dVar 4) aNil))) dNil))) (dSeq (dIfS (dOrT (dTop2 phNe (dVar 2) (dLRng1 (dOp2 phAdd (dVar 3) (dC (.int 1))))) (dNotT (dTest (dCall false D_is_joined (aCons (dVar 0) (aCons (dVar 1) aNil)))))) (dRaise "BadSheet" "place" (dTup dNil)) dPass) (dRet (dCall false D_plain_of (aCons (dVar 0) aNil)))))))))
def D_need_sheet : DF := dFn 5 1 none (d_need_sheet)
def d_rims_of : DS := (dSeq (dAsg 1 (dCall false D_sides_at (aCons (dVar 0) aNil))) (dRet (dOpN phTuple (dCons (dComp (dRng rng1 (dCons (dCall false D_count_edges (aCons (dVar 0) aNil)) dNil)) [2] (gName 2) (dTop2 phNotIn (dOp2 phSub (dOp1 phNeg (dC (.int 1))) (dVar 2)) (dVar 1)) (dVar 2)) dNil))))
def D_rims_of : DF := dFn 3 1 none (d_rims_of)
def d_counts_in : DS := (dRet (dComp (dItems (dVar 0)) [2] (gName 2) dYes (dOp2 phIx (dVar 1) (dCall false D_edge_of (aCons (dVar 2) aNil)))))
def D_counts_in : DF := dFn 3 2 none (d_counts_in)
def d_is_lot : DS := (dSeq (dIfS (dOrT (dNotT (dTest (dOp1 (phIsa "tuple") (dVar 1)))) (dTop2 phNe (dOpN phLen (dCons (dVar 1) dNil)) (dCall false D_count_edges (aCons (dVar 0) aNil)))) (dRet (dC (.bool false))) dPass) (dSeq (dFor (dItems (dVar 1)) (gName 2) (dIfS (dNotT (dTest (dCall false D_is_from (aCons (dVar 2) (aCons (dC (.int 0)) (aCons (dC (.int 1000000000000000000000000000000000000000000000000000000000000)) aNil)))))) (dRet (dC (.bool false))) dPass)) (dSeq (dFor (dItems (dCall false D_rims_of (aCons (dVar 0) aNil))) (gName 3) (dIfS (dTop2 phNe (dOp2 phIx (dVar 1) (dVar 3)) (dC (.int 0))) (dRet (dC (.bool false))) dPass)) (dSeq (dFor (dItems (dVar 0)) (gName 4) (dSeq (dAsg 5 (dCall false D_counts_in (aCons (dVar 4) (aCons (dVar 1) aNil)))) (dIfS (dOrT (dTop2 phEq (dOp2 phMod (dOpN phSum (dCons (dVar 5) dNil)) (dC (.int 2))) (dC (.int 1))) (dTop2 (phC fun i j => decide (j < i)) (dOp2 phMul (dC (.int 2)) (dOpN phMaxN (dCons (dVar 5) dNil))) (dOpN phSum (dCons (dVar 5) dNil)))) (dRet (dC (.bool false))) dPass))) (dRet (dC (.bool true)))))))
def D_is_lot : DF := dFn 6 2 none (d_is_lot)
def d_check_lot : DS := (dIfS (dNotT (dTest (dCall false D_is_lot (aCons (dVar 0) (aCons (dVar 1) aNil))))) (dRaise "BadLot" "value" (dVar 1)) dPass)
def D_check_lot : DF := dFn 2 2 none (d_check_lot)
def d_need_lot : DS := (dSeq (dDrop (dCall false D_check_lot (aCons (dCall false D_need_sheet (aCons (dVar 0) aNil)) (aCons (dVar 1) aNil)))) (dRet (dVar 1)))
def D_need_lot : DF := dFn 2 2 none (d_need_lot)
def d_corners_in : DS := (dSeq (dAsg 2 (dCall false D_counts_in (aCons (dVar 0) (aCons (dVar 1) aNil)))) (dSeq (dAsg 3 (dOpN phSum (dCons (dVar 2) dNil))) (dRet (dOpN phTuple (dCons (dComp (dItems (dVar 2)) [4] (gName 4) dYes (dOp2 phDiv (dOp2 phSub (dVar 3) (dOp2 phMul (dC (.int 2)) (dVar 4))) (dC (.int 2)))) dNil)))))
def D_corners_in : DF := dFn 5 2 none (d_corners_in)
def d_corners_so : DS := (dRet (dOpN phTuple (dCons (dComp (dItems (dVar 0)) [2] (gName 2) dYes (dCall false D_corners_in (aCons (dVar 2) (aCons (dVar 1) aNil)))) dNil)))
def D_corners_so : DF := dFn 3 2 none (d_corners_so)
def d_corner_counts : DS := (dSeq (dAsg 2 (dCall false D_need_sheet (aCons (dVar 0) aNil))) (dSeq (dDrop (dCall false D_check_lot (aCons (dVar 2) (aCons (dVar 1) aNil)))) (dRet (dCall false D_corners_so (aCons (dVar 2) (aCons (dVar 1) aNil))))))
def D_corner_counts : DF := dFn 3 2 none (d_corner_counts)
def d_check_laid : DS := (dIfS (dTop2 (phC fun i j => decide (j < i)) (dOpN phSum (dCons (dVar 0) dNil)) (dC (.int 400))) (dRaise "TooGreat" "most" (dC (.int 400))) dPass)
def D_check_laid : DF := dFn 1 1 none (d_check_laid)
def d_point_at : DS := (dSeq (dAsg 3 (dCall false D_edge_of (aCons (dVar 0) aNil))) (dRet (dTup (dCons (dVar 3) (dCons (dIf (dTop2 (phC fun i j => decide (j ≤ i)) (dVar 0) (dC (.int 0))) (dVar 2) (dOp2 phSub (dOp2 phSub (dOp2 phIx (dVar 1) (dVar 3)) (dC (.int 1))) (dVar 2))) dNil)))))
def D_point_at : DF := dFn 4 3 none (d_point_at)
def d_joined_points : DS := (dSeq (dAsgC 2 (dLst dNil)) (dSeq (dFor (dEnum (dCall false D_corners_in (aCons (dVar 0) (aCons (dVar 1) aNil)))) (gTup 2 (gCons (gName 3) (gCons (gName 4) gNil))) (dSeq (dPar [6, 7] (dCons (dOp2 phIx (dVar 0) (dOp2 phMod (dOp2 phAdd (dVar 3) (dC (.int 1))) (dC (.int 3)))) (dCons (dOp2 phIx (dVar 0) (dOp2 phMod (dOp2 phAdd (dVar 3) (dC (.int 2))) (dC (.int 3)))) dNil))) (dFor (dRng rng1 (dCons (dVar 4) dNil)) (gName 5) (dSeq (dAsg 8 (dCall false D_point_at (aCons (dVar 6) (aCons (dVar 1) (aCons (dOp2 phSub (dOp2 phSub (dOp2 phIx (dVar 1) (dCall false D_edge_of (aCons (dVar 6) aNil))) (dC (.int 1))) (dVar 5)) aNil))))) (dDrop (dApp 2 (dTup (dCons (dTup (dCons (dVar 6) (dCons (dVar 8) dNil))) (dCons (dTup (dCons (dVar 7) (dCons (dCall false D_point_at (aCons (dVar 7) (aCons (dVar 1) (aCons (dVar 5) aNil)))) dNil))) dNil))))))))) (dRet (dMove 2))))
def D_joined_points : DF := dFn 9 2 none (d_joined_points)
def d_strands_so : DS := (dSeq (dAsgC 2 (dLst dNil)) (dSeq (dFor (dEnum (dVar 0)) (gTup 2 (gCons (gName 3) (gCons (gName 4) gNil))) (dFor (dItems (dCall false D_joined_points (aCons (dVar 4) (aCons (dVar 1) aNil)))) (gTup 2 (gCons (gName 5) (gCons (gName 6) gNil))) (dDrop (dApp 2 (dTup (dCons (dVar 3) (dCons (dOpN phMinN (dCons (dOp2 phIx (dVar 5) (dC (.int 1))) (dCons (dOp2 phIx (dVar 6) (dC (.int 1))) dNil))) (dCons (dOpN phMaxN (dCons (dOp2 phIx (dVar 5) (dC (.int 1))) (dCons (dOp2 phIx (dVar 6) (dC (.int 1))) dNil))) dNil)))))))) (dRet (dOpN phTuple (dCons (dOpN phSorted (dCons (dVar 2) dNil)) dNil)))))
def D_strands_so : DF := dFn 7 2 none (d_strands_so)
def d_strands : DS := (dSeq (dAsg 2 (dCall false D_need_sheet (aCons (dVar 0) aNil))) (dSeq (dDrop (dCall false D_check_lot (aCons (dVar 2) (aCons (dVar 1) aNil)))) (dSeq (dDrop (dCall false D_check_laid (aCons (dVar 1) aNil))) (dRet (dCall false D_strands_so (aCons (dVar 2) (aCons (dVar 1) aNil)))))))
def D_strands : DF := dFn 3 2 none (d_strands)
def d__law_mixed : DS := (dSeq (dAsg 0 (dOp2 phMod (dOpN phInt (dCons (dVar 0) dNil)) (dC (.int 2147483647)))) (dRet (dOp2 phMod (dOp2 phMul (dOp2 phMod (dOp2 phAdd (dOp2 phAdd (dOp2 phMul (dVar 0) (dOp2 phAdd (dC (.int 48271)) (dOp2 phMul (dOp2 phMul (dC (.int 2)) (dVar 1)) (dVar 1)))) (dOp2 phMul (dC (.int 69621)) (dVar 1))) (dC (.int 11))) (dC (.int 2147483647))) (dC (.int 69621))) (dC (.int 2147483629)))))
def D__law_mixed : DF := dFn 2 2 none (d__law_mixed)
def d__law_draw : DS := (dSeq (dAsg 2 dStAt) (dSeq (dStAtS (dOp2 phAdd (dVar 2) (dC (.int 1)))) (dSeq (dAsg 3 (dOp2 phMod (dOpN phInt (dCons (dVar 2) dNil)) dStLen)) (dSeq (dAsg 4 (dStIx OrcS.lefts (dVar 3))) (dSeq (dIfS (dTop2 (phC fun i j => decide (j < i)) (dVar 4) (dC (.int 0))) (dSeq (dStLeftS (dVar 3) (dOp2 phDiv (dVar 4) (dVar 1))) (dRet (dOp2 phMod (dOpN phInt (dCons (dVar 4) dNil)) (dVar 1)))) dPass) (dSeq (dAsg 5 (dCall false D__law_mixed (aCons (dCall false D__law_mixed (aCons (dStIx OrcS.cells (dVar 3)) (aCons (dVar 2) aNil))) (aCons (dOp2 phAdd (dC (.int 40)) (dVar 2)) aNil)))) (dRet (dOp2 phMod (dOp2 phDiv (dOpN phInt (dCons (dOp2 phAdd (dOp2 phMul (dVar 5) (dC (.int 2147483647))) (dCall false D__law_mixed (aCons (dVar 5) (aCons (dOp2 phAdd (dC (.int 7)) (dVar 2)) aNil)))) dNil)) (dC (.int 64))) (dVar 1)))))))))
def D__law_draw : DF := dFn 6 2 (some 0) (d__law_draw)
def d__law_order : DS := (dSeq (dPar [2, 3] (dConsC (dLRng1 (dVar 1)) (dConsC (dLst dNil) dNil))) (dSeq (dWhile (dTop2 phNe (dVar 2) (dLst dNil)) (dDrop (dApp 3 (dPop 2 (dCall false D__law_draw (aSt (aCons (dOpN phLen (dCons (dVar 2) dNil)) aNil))))))) (dRet (dMove 3))))
def D__law_order : DF := dFn 4 2 (some 0) (d__law_order)
def d__law_sheet : DS := (dSeq (dAsg 2 (dOp2 phAdd (dC (.int 1)) (dCall false D__law_draw (aSt (aCons (dVar 1) aNil))))) (dSeq (dPar [4, 5] (dConsC (dLst (dCons (dTup (dCons (dC (.int 0)) (dCons (dC (.int 0)) dNil))) (dCons (dTup (dCons (dC (.int 0)) (dCons (dC (.int 1)) dNil))) (dCons (dTup (dCons (dC (.int 0)) (dCons (dC (.int 2)) dNil))) dNil)))) (dConsC (dLst dNil) dNil))) (dSeq (dFor (dRng rng2 (dCons (dC (.int 1)) (dCons (dVar 2) dNil))) (gName 3) (dSeq (dPar [11, 12] (dCons (dPop 4 (dCall false D__law_draw (aSt (aCons (dOpN phLen (dCons (dVar 4) dNil)) aNil)))) (dCons (dTup (dCons (dVar 3) (dCons (dCall false D__law_draw (aSt (aCons (dC (.int 3)) aNil))) dNil))) dNil))) (dSeq (dDrop (dApp 5 (dTup (dCons (dVar 11) (dCons (dVar 12) dNil))))) (dAsgC 4 (dOp2 phAdd (dVar 4) (dComp (dRng rng1 (dCons (dC (.int 3)) dNil)) [13] (gName 13) (dTop2 phNe (dVar 13) (dOp2 phIx (dVar 12) (dC (.int 1)))) (dTup (dCons (dVar 3) (dCons (dVar 13) dNil))))))))) (dSeq (dWhile (dAndT (dTop2 (phC fun i j => decide (j < i)) (dOpN phLen (dCons (dVar 4) dNil)) (dC (.int 1))) (dTop2 (phC fun i j => decide (j < i)) (dCall false D__law_draw (aSt (aCons (dC (.int 5)) aNil))) (dC (.int 0)))) (dSeq (dAsg 6 (dPop 4 (dCall false D__law_draw (aSt (aCons (dOpN phLen (dCons (dVar 4) dNil)) aNil))))) (dDrop (dApp 5 (dTup (dCons (dVar 6) (dCons (dPop 4 (dCall false D__law_draw (aSt (aCons (dOpN phLen (dCons (dVar 4) dNil)) aNil)))) dNil))))))) (dSeq (dPar [7, 8] (dCons (dOp2 phAdd (dVar 5) (dComp (dItems (dVar 4)) [14] (gName 14) dYes (dTup (dCons (dVar 14) dNil)))) (dConsC dDict dNil))) (dSeq (dFor (dRng zipD (dCons (dCall false D__law_order (aSt (aCons (dOpN phLen (dCons (dVar 7) dNil)) aNil))) (dCons (dVar 7) dNil))) (gTup 2 (gCons (gName 9) (gCons (gName 10) gNil))) (dSeq (dPut 8 (dOp2 phIx (dVar 10) (dC (.int 0))) (dVar 9)) (dIfS (dTop2 phEq (dOpN phLen (dCons (dVar 10) dNil)) (dC (.int 2))) (dPut 8 (dOp2 phIx (dVar 10) (dC (.int 1))) (dOp2 phSub (dOp1 phNeg (dC (.int 1))) (dVar 9))) dPass))) (dRet (dOpN phTuple (dCons (dComp (dRng rng1 (dCons (dVar 2) dNil)) [13] (gName 13) dYes (dOpN phTuple (dCons (dComp (dRng rng1 (dCons (dC (.int 3)) dNil)) [15] (gName 15) dYes (dOp2 phIx (dVar 8) (dTup (dCons (dVar 13) (dCons (dVar 15) dNil))))) dNil))) dNil)))))))))
def D__law_sheet : DF := dFn 16 2 (some 0) (d__law_sheet)
def d__law_closed : DS := (dSeq (dIfS (dTop2 phEq (dVar 1) (dC (.int 0))) (dRet (dTup (dCons (dTup (dCons (dC (.int 0)) (dCons (dC (.int 1)) (dCons (dC (.int 2)) dNil)))) (dCons (dTup (dCons (dOp1 phNeg (dC (.int 1))) (dCons (dOp1 phNeg (dC (.int 2))) (dCons (dOp1 phNeg (dC (.int 3))) dNil)))) dNil)))) dPass) (dSeq (dIfS (dTop2 phEq (dVar 1) (dC (.int 1))) (dRet (dTup (dCons (dTup (dCons (dC (.int 0)) (dCons (dC (.int 1)) (dCons (dC (.int 2)) dNil)))) (dCons (dTup (dCons (dOp1 phNeg (dC (.int 1))) (dCons (dOp1 phNeg (dC (.int 3))) (dCons (dOp1 phNeg (dC (.int 2))) dNil)))) dNil)))) dPass) (dSeq (dIfS (dTop2 phEq (dVar 1) (dC (.int 2))) (dRet (dTup (dCons (dTup (dCons (dC (.int 0)) (dCons (dC (.int 1)) (dCons (dC (.int 2)) dNil)))) (dCons (dTup (dCons (dOp1 phNeg (dC (.int 1))) (dCons (dC (.int 3)) (dCons (dC (.int 4)) dNil)))) (dCons (dTup (dCons (dOp1 phNeg (dC (.int 2))) (dCons (dOp1 phNeg (dC (.int 5))) (dCons (dC (.int 5)) dNil)))) (dCons (dTup (dCons (dOp1 phNeg (dC (.int 3))) (dCons (dOp1 phNeg (dC (.int 6))) (dCons (dOp1 phNeg (dC (.int 4))) dNil)))) dNil)))))) dPass) (dRet (dTup (dCons (dTup (dCons (dC (.int 0)) (dCons (dC (.int 1)) (dCons (dC (.int 2)) dNil)))) (dCons (dTup (dCons (dOp1 phNeg (dC (.int 1))) (dCons (dOp1 phNeg (dC (.int 2))) (dCons (dC (.int 3)) dNil)))) (dCons (dTup (dCons (dOp1 phNeg (dC (.int 3))) (dCons (dC (.int 4)) (dCons (dC (.int 5)) dNil)))) (dCons (dTup (dCons (dOp1 phNeg (dC (.int 4))) (dCons (dOp1 phNeg (dC (.int 5))) (dCons (dOp1 phNeg (dC (.int 6))) dNil)))) dNil)))))))))
def D__law_closed : DF := dFn 2 2 (some 0) (d__law_closed)
def d__law_plain : DS := (dSeq (dAsgC 1 (dLst dNil)) (dSeq (dFor (dItems (dVar 0)) (gName 2) (dSeq (dAsg 3 (dIndex (dVar 2) (dOpN phMinN (dCons (dVar 2) dNil)))) (dDrop (dApp 1 (dOp2 phAdd (dCut (dVar 2) (dPt (dVar 3)) dNoPt) (dCut (dVar 2) dNoPt (dPt (dVar 3)))))))) (dRet (dOpN phTuple (dCons (dOpN phSorted (dCons (dVar 1) dNil)) dNil)))))
def D__law_plain : DF := dFn 4 1 none (d__law_plain)
def d__law_places : DS := (dSeq (dAsgC 1 dDict) (dSeq (dFor (dEnum (dVar 0)) (gTup 2 (gCons (gName 2) (gCons (gName 3) gNil))) (dFor (dEnum (dVar 3)) (gTup 2 (gCons (gName 4) (gCons (gName 5) gNil))) (dPut 1 (dVar 5) (dTup (dCons (dVar 2) (dCons (dVar 4) dNil)))))) (dRet (dMove 1))))
def D__law_places : DF := dFn 6 1 none (d__law_places)
def d__law_edges : DS := (dRet (dOp2 phAdd (dC (.int 1)) (dOpN phMaxN (dCons (dComp (dItems (dVar 0)) [1] (gName 1) dYes (dOpN phMaxN (dCons (dVar 1) dNil))) dNil))))
def D__law_edges : DF := dFn 2 1 none (d__law_edges)
def d__law_like : DS := (dRet (dOp2 phEq (dOpN phRepr (dCons (dVar 0) dNil)) (dOpN phRepr (dCons (dVar 1) dNil))))
def D__law_like : DF := dFn 2 2 none (d__law_like)
def d__law_triangle : DS := (dSeq (dAsgC 1 (dLst dNil)) (dSeq (dFor (dRng rng1 (dCons (dC (.int 4)) dNil)) (gName 2) (dFor (dRng rng1 (dCons (dC (.int 4)) dNil)) (gName 3) (dFor (dRng rng1 (dCons (dC (.int 4)) dNil)) (gName 4) (dIfS (dTop2 phEq (dLst (dCons (dOp2 phAdd (dVar 3) (dVar 4)) (dCons (dOp2 phAdd (dVar 4) (dVar 2)) (dCons (dOp2 phAdd (dVar 2) (dVar 3)) dNil)))) (dVar 0)) (dDrop (dApp 1 (dTup (dCons (dVar 2) (dCons (dVar 3) (dCons (dVar 4) dNil)))))) dPass)))) (dRet (dMove 1))))
def D__law_triangle : DF := dFn 5 1 none (d__law_triangle)
def d__law_choices : DS := (dSeq (dAsg 2 (dCall false D__law_places (aCons (dVar 0) aNil))) (dSeq (dFor (dEnum (dVar 1)) (gTup 2 (gCons (gName 5) (gCons (gName 6) gNil))) (dIfS (dAndT (dTop2 phNotIn (dOp2 phSub (dOp1 phNeg (dC (.int 1))) (dVar 5)) (dVar 2)) (dTop2 (phC fun i j => decide (j < i)) (dVar 6) (dC (.int 0)))) (dRet (dLst dNil)) dPass)) (dSeq (dAsg 3 (dLst (dCons (dTup dNil) dNil))) (dSeq (dFor (dItems (dVar 0)) (gName 4) (dSeq (dAsg 7 (dLst dNil)) (dSeq (dAsg 8 (dComp (dItems (dVar 4)) [10] (gName 10) dYes (dOp2 phIx (dVar 1) (dOpN phMaxN (dCons (dVar 10) (dCons (dOp2 phSub (dOp1 phNeg (dC (.int 1))) (dVar 10)) dNil)))))) (dSeq (dFor (dItems (dCall false D__law_triangle (aCons (dVar 8) aNil))) (gName 9) (dAsg 7 (dOp2 phAdd (dVar 7) (dComp (dItems (dVar 3)) [11] (gName 11) dYes (dOp2 phAdd (dVar 11) (dTup (dCons (dVar 9) dNil))))))) (dAsg 3 (dOpN phList (dCons (dVar 7) dNil))))))) (dRet (dVar 3))))))
def D__law_choices : DF := dFn 12 2 none (d__law_choices)
def d__law_all_rows : DS := (dSeq (dAsg 2 (dLst (dCons (dTup dNil) dNil))) (dSeq (dFor (dRng rng1 (dCons (dVar 0) dNil)) (gName 3) (dSeq (dAsg 4 (dLst dNil)) (dSeq (dFor (dItems (dVar 2)) (gName 5) (dAsg 4 (dOp2 phAdd (dVar 4) (dComp (dRng rng1 (dCons (dOp2 phAdd (dVar 1) (dC (.int 1))) dNil)) [6] (gName 6) dYes (dOp2 phAdd (dVar 5) (dTup (dCons (dVar 6) dNil))))))) (dAsg 2 (dOpN phList (dCons (dVar 4) dNil)))))) (dRet (dVar 2))))
def D__law_all_rows : DF := dFn 7 2 none (d__law_all_rows)
def d_law (T : List (Addr × Str)) : DS := (dSeq (dBegin T begOk begF 1 0) (dSeq (dAsg 2 (dIf (dTop2 (phC fun i j => decide (j < i)) (dCall false D__law_draw (aSt (aCons (dC (.int 3)) aNil))) (dC (.int 0))) (dCall false D__law_sheet (aSt (aCons (dC (.int 2)) aNil))) (dCall false D__law_closed (aSt (aCons (dCall false D__law_draw (aSt (aCons (dC (.int 2)) aNil))) aNil))))) (dSeq (dAsg 3 (dCall false D__law_plain (aCons (dVar 2) aNil))) (dSeq (dFor (dItems (dCall false D__law_all_rows (aCons (dCall false D__law_edges (aCons (dVar 2) aNil)) (aCons (dIf (dTop2 (phC fun i j => decide (i < j)) (dCall false D__law_edges (aCons (dVar 2) aNil)) (dC (.int 4))) (dC (.int 3)) (dC (.int 2))) aNil)))) (gName 4) (dSeq (dAsg 5 (dCall false D__law_choices (aCons (dVar 3) (aCons (dVar 4) aNil)))) (dSeq (dAsg 6 (dHeardG T "is" clsG (dCall false D_need_lot (aCons (dVar 2) (aCons (dVar 4) aNil))))) (dSeq (dIfS (dOrT (dTop2 (phC fun i j => decide (j < i)) (dOpN phLen (dCons (dVar 5) dNil)) (dC (.int 1))) (dNotT (dTest (dCall false D__law_like (aCons (dVar 6) (aCons (dIf (dTop2 phNe (dVar 5) (dLst dNil)) (dTup (dCons (dC (.str "is")) (dCons (dVar 4) dNil))) (dTup (dCons (dC (.str "lot")) (dCons (dVar 4) (dCons (dC (.bool true)) dNil))))) aNil)))))) (dRet (dC (.bool false))) dPass) (dIfS (dTop2 phNe (dVar 5) (dLst dNil)) (dSeq (dIfS (dNotT (dTest (dCall false D__law_like (aCons (dCall false D_corner_counts (aCons (dVar 2) (aCons (dVar 4) aNil))) (aCons (dOp2 phIx (dVar 5) (dC (.int 0))) aNil))))) (dRet (dC (.bool false))) dPass) (dIfS (dNotT (dTest (dCall false D__law_like (aCons (dOpN phLen (dCons (dCall false D_strands (aCons (dVar 2) (aCons (dVar 4) aNil))) dNil)) (aCons (dOpN phSum (dCons (dComp (dItems (dOp2 phIx (dVar 5) (dC (.int 0)))) [7] (gName 7) dYes (dOpN phSum (dCons (dVar 7) dNil))) dNil)) aNil))))) (dRet (dC (.bool false))) dPass)) dPass))))) (dRet (dC (.bool true)))))))
def D_law (T : List (Addr × Str)) : DF := dFn 8 1 (some 1) (d_law T)
end Q
end FL
namespace FL
open PySem PySem.Spec PyProof.Rows L2
namespace Q
def top (i : Nat) : Stmt := PySem.Challenge.pw_flipsheets_k07_whole_counts_by_all_corne.main.body.getD i (.Pass ⟨0, 0, 0, 0⟩)
def clsInit : Stmt → Stmt
  | .ClassDef _ _ _ (st :: _) _ _ _ _ _ _ _ => st
  | s => s
abbrev s_is_from : Stmt := top 10
abbrev s_edge_of : Stmt := top 11
abbrev s_turned_to : Stmt := top 12
abbrev s_plain_of : Stmt := top 13
abbrev s_sides_at : Stmt := top 14
abbrev s_count_edges : Stmt := top 15
abbrev s_is_joined : Stmt := top 16
abbrev s_check_sides : Stmt := top 17
abbrev s_need_sheet : Stmt := top 18
abbrev s_rims_of : Stmt := top 19
abbrev s_counts_in : Stmt := top 22
abbrev s_is_lot : Stmt := top 23
abbrev s_check_lot : Stmt := top 24
abbrev s_need_lot : Stmt := top 25
abbrev s_corners_in : Stmt := top 26
abbrev s_corners_so : Stmt := top 27
abbrev s_corner_counts : Stmt := top 28
abbrev s_check_laid : Stmt := top 31
abbrev s_point_at : Stmt := top 32
abbrev s_joined_points : Stmt := top 33
abbrev s_strands_so : Stmt := top 34
abbrev s_strands : Stmt := top 35
abbrev s__law_mixed : Stmt := top 37
abbrev s__law_begin : Stmt := top 38
abbrev s__law_draw : Stmt := top 39
abbrev s__law_order : Stmt := top 40
abbrev s__law_sheet : Stmt := top 41
abbrev s__law_closed : Stmt := top 42
abbrev s__law_plain : Stmt := top 43
abbrev s__law_places : Stmt := top 44
abbrev s__law_edges : Stmt := top 45
abbrev s__law_heard : Stmt := top 46
abbrev s__law_like : Stmt := top 47
abbrev s__law_triangle : Stmt := top 48
abbrev s__law_choices : Stmt := top 49
abbrev s__law_all_rows : Stmt := top 50
abbrev s_law : Stmt := top 51
def i_BadSheet : ClI := ⟨"BadSheet", "place", clsInit (top 2)⟩
def i_BadLot : ClI := ⟨"BadLot", "value", clsInit (top 3)⟩
def i_BadKnob : ClI := ⟨"BadKnob", "value", clsInit (top 4)⟩
def i_BadParameter : ClI := ⟨"BadParameter", "value", clsInit (top 5)⟩
def i_TooGreat : ClI := ⟨"TooGreat", "most", clsInit (top 6)⟩
def hkFa : List He.Fa := [.glo "is_from", .glo "edge_of", .glo "turned_to", .glo "plain_of", .glo "sides_at", .glo "count_edges", .glo "is_joined", .glo "check_sides", .glo "need_sheet", .glo "rims_of", .glo "counts_in", .glo "is_lot", .glo "check_lot", .glo "need_lot", .glo "corners_in", .glo "corners_so", .glo "corner_counts", .glo "check_laid", .glo "point_at", .glo "joined_points", .glo "strands_so", .glo "strands", .glo "_law_mixed", .glo "_law_begin", .glo "_law_draw", .glo "_law_order", .glo "_law_sheet", .glo "_law_closed", .glo "_law_plain", .glo "_law_places", .glo "_law_edges", .glo "_law_heard", .glo "_law_like", .glo "_law_triangle", .glo "_law_choices", .glo "_law_all_rows", .glo "law", .glo "FlipError", .glo "BadSheet", .glo "BadLot", .glo "BadKnob", .glo "BadParameter", .glo "TooGreat", .free "bool", .free "enumerate", .free "int", .free "isinstance", .free "len", .free "list", .free "max", .free "min", .free "range", .free "repr", .free "sorted", .free "sum", .free "super", .free "tuple", .free "zip", .int "MOST_TRIANGLES" 8, .int "MOST_EDGE" 11, .int "MOST_COUNT" 1000000000000000000000000000000000000000000000000000000000000, .int "MOST_POINTS" 400, .exm "BadSheet" "BadSheet" true, .exm "BadLot" "BadSheet" false, .exm "BadKnob" "BadSheet" false, .exm "BadParameter" "BadSheet" false, .exm "TooGreat" "BadSheet" false, .exm "BadSheet" "BadLot" false, .exm "BadLot" "BadLot" true, .exm "BadKnob" "BadLot" false, .exm "BadParameter" "BadLot" false, .exm "TooGreat" "BadLot" false, .exm "BadSheet" "BadKnob" false, .exm "BadLot" "BadKnob" false, .exm "BadKnob" "BadKnob" true, .exm "BadParameter" "BadKnob" false, .exm "TooGreat" "BadKnob" false, .exm "BadSheet" "BadParameter" false, .exm "BadLot" "BadParameter" false, .exm "BadKnob" "BadParameter" false, .exm "BadParameter" "BadParameter" true, .exm "TooGreat" "BadParameter" false, .exm "BadSheet" "TooGreat" false, .exm "BadLot" "TooGreat" false, .exm "BadKnob" "TooGreat" false, .exm "BadParameter" "TooGreat" false, .exm "TooGreat" "TooGreat" true]
def hkFn : List He.DefD := [⟨("is_from", none), "is_from", "is_from", defArgs s_is_from, defBody s_is_from, defScope s_is_from, [], []⟩, ⟨("edge_of", none), "edge_of", "edge_of", defArgs s_edge_of, defBody s_edge_of, defScope s_edge_of, [], []⟩, ⟨("turned_to", none), "turned_to", "turned_to", defArgs s_turned_to, defBody s_turned_to, defScope s_turned_to, [], []⟩, ⟨("plain_of", none), "plain_of", "plain_of", defArgs s_plain_of, defBody s_plain_of, defScope s_plain_of, [], []⟩, ⟨("sides_at", none), "sides_at", "sides_at", defArgs s_sides_at, defBody s_sides_at, defScope s_sides_at, [], []⟩, ⟨("count_edges", none), "count_edges", "count_edges", defArgs s_count_edges, defBody s_count_edges, defScope s_count_edges, [], []⟩, ⟨("is_joined", none), "is_joined", "is_joined", defArgs s_is_joined, defBody s_is_joined, defScope s_is_joined, [], []⟩, ⟨("check_sides", none), "check_sides", "check_sides", defArgs s_check_sides, defBody s_check_sides, defScope s_check_sides, [], []⟩, ⟨("need_sheet", none), "need_sheet", "need_sheet", defArgs s_need_sheet, defBody s_need_sheet, defScope s_need_sheet, [], []⟩, ⟨("rims_of", none), "rims_of", "rims_of", defArgs s_rims_of, defBody s_rims_of, defScope s_rims_of, [], []⟩, ⟨("counts_in", none), "counts_in", "counts_in", defArgs s_counts_in, defBody s_counts_in, defScope s_counts_in, [], []⟩, ⟨("is_lot", none), "is_lot", "is_lot", defArgs s_is_lot, defBody s_is_lot, defScope s_is_lot, [], []⟩, ⟨("check_lot", none), "check_lot", "check_lot", defArgs s_check_lot, defBody s_check_lot, defScope s_check_lot, [], []⟩, ⟨("need_lot", none), "need_lot", "need_lot", defArgs s_need_lot, defBody s_need_lot, defScope s_need_lot, [], []⟩, ⟨("corners_in", none), "corners_in", "corners_in", defArgs s_corners_in, defBody s_corners_in, defScope s_corners_in, [], []⟩, ⟨("corners_so", none), "corners_so", "corners_so", defArgs s_corners_so, defBody s_corners_so, defScope s_corners_so, [], []⟩, ⟨("corner_counts", none), "corner_counts", "corner_counts", defArgs s_corner_counts, defBody s_corner_counts, defScope s_corner_counts, [], []⟩, ⟨("check_laid", none), "check_laid", "check_laid", defArgs s_check_laid, defBody s_check_laid, defScope s_check_laid, [], []⟩, ⟨("point_at", none), "point_at", "point_at", defArgs s_point_at, defBody s_point_at, defScope s_point_at, [], []⟩, ⟨("joined_points", none), "joined_points", "joined_points", defArgs s_joined_points, defBody s_joined_points, defScope s_joined_points, [], []⟩, ⟨("strands_so", none), "strands_so", "strands_so", defArgs s_strands_so, defBody s_strands_so, defScope s_strands_so, [], []⟩, ⟨("strands", none), "strands", "strands", defArgs s_strands, defBody s_strands, defScope s_strands, [], []⟩, ⟨("_law_mixed", none), "_law_mixed", "_law_mixed", defArgs s__law_mixed, defBody s__law_mixed, defScope s__law_mixed, [], []⟩, ⟨("_law_begin", none), "_law_begin", "_law_begin", defArgs s__law_begin, defBody s__law_begin, defScope s__law_begin, [], []⟩, ⟨("_law_draw", none), "_law_draw", "_law_draw", defArgs s__law_draw, defBody s__law_draw, defScope s__law_draw, [], []⟩, ⟨("_law_order", none), "_law_order", "_law_order", defArgs s__law_order, defBody s__law_order, defScope s__law_order, [], []⟩, ⟨("_law_sheet", none), "_law_sheet", "_law_sheet", defArgs s__law_sheet, defBody s__law_sheet, defScope s__law_sheet, [], []⟩, ⟨("_law_closed", none), "_law_closed", "_law_closed", defArgs s__law_closed, defBody s__law_closed, defScope s__law_closed, [], []⟩, ⟨("_law_plain", none), "_law_plain", "_law_plain", defArgs s__law_plain, defBody s__law_plain, defScope s__law_plain, [], []⟩, ⟨("_law_places", none), "_law_places", "_law_places", defArgs s__law_places, defBody s__law_places, defScope s__law_places, [], []⟩, ⟨("_law_edges", none), "_law_edges", "_law_edges", defArgs s__law_edges, defBody s__law_edges, defScope s__law_edges, [], []⟩, ⟨("_law_heard", none), "_law_heard", "_law_heard", defArgs s__law_heard, defBody s__law_heard, defScope s__law_heard, [], []⟩, ⟨("_law_like", none), "_law_like", "_law_like", defArgs s__law_like, defBody s__law_like, defScope s__law_like, [], []⟩, ⟨("_law_triangle", none), "_law_triangle", "_law_triangle", defArgs s__law_triangle, defBody s__law_triangle, defScope s__law_triangle, [], []⟩, ⟨("_law_choices", none), "_law_choices", "_law_choices", defArgs s__law_choices, defBody s__law_choices, defScope s__law_choices, [], []⟩, ⟨("_law_all_rows", none), "_law_all_rows", "_law_all_rows", defArgs s__law_all_rows, defBody s__law_all_rows, defScope s__law_all_rows, [], []⟩, ⟨("law", none), "law", "law", defArgs s_law, defBody s_law, defScope s_law, [], []⟩]
def hkCl : List ClI := [i_BadSheet, i_BadLot, i_BadKnob, i_BadParameter, i_TooGreat]
def hkTf : List He.Defn := [("law", none)]
def hkEx (K : PySem.W.Frag) : Bool := [kisB K "BadSheet" "FlipError" true, kisB K "BadLot" "FlipError" true, kisB K "BadKnob" "FlipError" true, kisB K "BadParameter" "FlipError" true, kisB K "TooGreat" "FlipError" true, noLst K].all id
def hk : Hk := ⟨hkFa, hkFn, hkCl, hkTf, "/claim/cut.py", hkEx⟩
section
variable {P : Program} {w : World} {K : PySem.W.Frag} {mg : Str → Option Value} {base : Heap}
theorem g_is_from (z : Zn hk P K mg) : mg "is_from" = some (.ref (He.ga K "is_from")) := z.glo 0
theorem g_edge_of (z : Zn hk P K mg) : mg "edge_of" = some (.ref (He.ga K "edge_of")) := z.glo 1
theorem g_turned_to (z : Zn hk P K mg) : mg "turned_to" = some (.ref (He.ga K "turned_to")) := z.glo 2
theorem g_plain_of (z : Zn hk P K mg) : mg "plain_of" = some (.ref (He.ga K "plain_of")) := z.glo 3
theorem g_sides_at (z : Zn hk P K mg) : mg "sides_at" = some (.ref (He.ga K "sides_at")) := z.glo 4
theorem g_count_edges (z : Zn hk P K mg) : mg "count_edges" = some (.ref (He.ga K "count_edges")) := z.glo 5
theorem g_is_joined (z : Zn hk P K mg) : mg "is_joined" = some (.ref (He.ga K "is_joined")) := z.glo 6
theorem g_check_sides (z : Zn hk P K mg) : mg "check_sides" = some (.ref (He.ga K "check_sides")) := z.glo 7
theorem g_need_sheet (z : Zn hk P K mg) : mg "need_sheet" = some (.ref (He.ga K "need_sheet")) := z.glo 8
theorem g_rims_of (z : Zn hk P K mg) : mg "rims_of" = some (.ref (He.ga K "rims_of")) := z.glo 9
theorem g_counts_in (z : Zn hk P K mg) : mg "counts_in" = some (.ref (He.ga K "counts_in")) := z.glo 10
theorem g_is_lot (z : Zn hk P K mg) : mg "is_lot" = some (.ref (He.ga K "is_lot")) := z.glo 11
theorem g_check_lot (z : Zn hk P K mg) : mg "check_lot" = some (.ref (He.ga K "check_lot")) := z.glo 12
theorem g_need_lot (z : Zn hk P K mg) : mg "need_lot" = some (.ref (He.ga K "need_lot")) := z.glo 13
theorem g_corners_in (z : Zn hk P K mg) : mg "corners_in" = some (.ref (He.ga K "corners_in")) := z.glo 14
theorem g_corners_so (z : Zn hk P K mg) : mg "corners_so" = some (.ref (He.ga K "corners_so")) := z.glo 15
theorem g_corner_counts (z : Zn hk P K mg) : mg "corner_counts" = some (.ref (He.ga K "corner_counts")) := z.glo 16
theorem g_check_laid (z : Zn hk P K mg) : mg "check_laid" = some (.ref (He.ga K "check_laid")) := z.glo 17
theorem g_point_at (z : Zn hk P K mg) : mg "point_at" = some (.ref (He.ga K "point_at")) := z.glo 18
theorem g_joined_points (z : Zn hk P K mg) : mg "joined_points" = some (.ref (He.ga K "joined_points")) := z.glo 19
theorem g_strands_so (z : Zn hk P K mg) : mg "strands_so" = some (.ref (He.ga K "strands_so")) := z.glo 20
theorem g_strands (z : Zn hk P K mg) : mg "strands" = some (.ref (He.ga K "strands")) := z.glo 21
theorem g__law_mixed (z : Zn hk P K mg) : mg "_law_mixed" = some (.ref (He.ga K "_law_mixed")) := z.glo 22
theorem g__law_begin (z : Zn hk P K mg) : mg "_law_begin" = some (.ref (He.ga K "_law_begin")) := z.glo 23
theorem g__law_draw (z : Zn hk P K mg) : mg "_law_draw" = some (.ref (He.ga K "_law_draw")) := z.glo 24
theorem g__law_order (z : Zn hk P K mg) : mg "_law_order" = some (.ref (He.ga K "_law_order")) := z.glo 25
theorem g__law_sheet (z : Zn hk P K mg) : mg "_law_sheet" = some (.ref (He.ga K "_law_sheet")) := z.glo 26
theorem g__law_closed (z : Zn hk P K mg) : mg "_law_closed" = some (.ref (He.ga K "_law_closed")) := z.glo 27
theorem g__law_plain (z : Zn hk P K mg) : mg "_law_plain" = some (.ref (He.ga K "_law_plain")) := z.glo 28
theorem g__law_places (z : Zn hk P K mg) : mg "_law_places" = some (.ref (He.ga K "_law_places")) := z.glo 29
theorem g__law_edges (z : Zn hk P K mg) : mg "_law_edges" = some (.ref (He.ga K "_law_edges")) := z.glo 30
theorem g__law_heard (z : Zn hk P K mg) : mg "_law_heard" = some (.ref (He.ga K "_law_heard")) := z.glo 31
theorem g__law_like (z : Zn hk P K mg) : mg "_law_like" = some (.ref (He.ga K "_law_like")) := z.glo 32
theorem g__law_triangle (z : Zn hk P K mg) : mg "_law_triangle" = some (.ref (He.ga K "_law_triangle")) := z.glo 33
theorem g__law_choices (z : Zn hk P K mg) : mg "_law_choices" = some (.ref (He.ga K "_law_choices")) := z.glo 34
theorem g__law_all_rows (z : Zn hk P K mg) : mg "_law_all_rows" = some (.ref (He.ga K "_law_all_rows")) := z.glo 35
theorem g_law (z : Zn hk P K mg) : mg "law" = some (.ref (He.ga K "law")) := z.glo 36
theorem g_FlipError (z : Zn hk P K mg) : mg "FlipError" = some (.ref (He.ga K "FlipError")) := z.glo 37
theorem g_BadSheet (z : Zn hk P K mg) : mg "BadSheet" = some (.ref (He.ga K "BadSheet")) := z.glo 38
theorem g_BadLot (z : Zn hk P K mg) : mg "BadLot" = some (.ref (He.ga K "BadLot")) := z.glo 39
theorem g_BadKnob (z : Zn hk P K mg) : mg "BadKnob" = some (.ref (He.ga K "BadKnob")) := z.glo 40
theorem g_BadParameter (z : Zn hk P K mg) : mg "BadParameter" = some (.ref (He.ga K "BadParameter")) := z.glo 41
theorem g_TooGreat (z : Zn hk P K mg) : mg "TooGreat" = some (.ref (He.ga K "TooGreat")) := z.glo 42
theorem n_bool (z : Zn hk P K mg) : mg "bool" = none := z.free 43
theorem n_enumerate (z : Zn hk P K mg) : mg "enumerate" = none := z.free 44
theorem n_int (z : Zn hk P K mg) : mg "int" = none := z.free 45
theorem n_isinstance (z : Zn hk P K mg) : mg "isinstance" = none := z.free 46
theorem n_len (z : Zn hk P K mg) : mg "len" = none := z.free 47
theorem n_list (z : Zn hk P K mg) : mg "list" = none := z.free 48
theorem n_max (z : Zn hk P K mg) : mg "max" = none := z.free 49
theorem n_min (z : Zn hk P K mg) : mg "min" = none := z.free 50
theorem n_range (z : Zn hk P K mg) : mg "range" = none := z.free 51
theorem n_repr (z : Zn hk P K mg) : mg "repr" = none := z.free 52
theorem n_sorted (z : Zn hk P K mg) : mg "sorted" = none := z.free 53
theorem n_sum (z : Zn hk P K mg) : mg "sum" = none := z.free 54
theorem n_super (z : Zn hk P K mg) : mg "super" = none := z.free 55
theorem n_tuple (z : Zn hk P K mg) : mg "tuple" = none := z.free 56
theorem n_zip (z : Zn hk P K mg) : mg "zip" = none := z.free 57
theorem c_MOST_TRIANGLES (z : Zn hk P K mg) : ∃ t, mg "MOST_TRIANGLES" = some (.int 8 t) := z.int 58
theorem c_MOST_EDGE (z : Zn hk P K mg) : ∃ t, mg "MOST_EDGE" = some (.int 11 t) := z.int 59
theorem c_MOST_COUNT (z : Zn hk P K mg) : ∃ t, mg "MOST_COUNT" = some (.int 1000000000000000000000000000000000000000000000000000000000000 t) := z.int 60
theorem c_MOST_POINTS (z : Zn hk P K mg) : ∃ t, mg "MOST_POINTS" = some (.int 400 t) := z.int 61
theorem m_BadSheet_BadSheet (z : Zn hk P K mg) : PySem.W.exmOne K (.ref (He.ga K "BadSheet")) (.ref (He.ga K "BadSheet")) = some true := z.exm 62
theorem m_BadLot_BadSheet (z : Zn hk P K mg) : PySem.W.exmOne K (.ref (He.ga K "BadLot")) (.ref (He.ga K "BadSheet")) = some false := z.exm 63
theorem m_BadKnob_BadSheet (z : Zn hk P K mg) : PySem.W.exmOne K (.ref (He.ga K "BadKnob")) (.ref (He.ga K "BadSheet")) = some false := z.exm 64
theorem m_BadParameter_BadSheet (z : Zn hk P K mg) : PySem.W.exmOne K (.ref (He.ga K "BadParameter")) (.ref (He.ga K "BadSheet")) = some false := z.exm 65
theorem m_TooGreat_BadSheet (z : Zn hk P K mg) : PySem.W.exmOne K (.ref (He.ga K "TooGreat")) (.ref (He.ga K "BadSheet")) = some false := z.exm 66
theorem m_BadSheet_BadLot (z : Zn hk P K mg) : PySem.W.exmOne K (.ref (He.ga K "BadSheet")) (.ref (He.ga K "BadLot")) = some false := z.exm 67
theorem m_BadLot_BadLot (z : Zn hk P K mg) : PySem.W.exmOne K (.ref (He.ga K "BadLot")) (.ref (He.ga K "BadLot")) = some true := z.exm 68
theorem m_BadKnob_BadLot (z : Zn hk P K mg) : PySem.W.exmOne K (.ref (He.ga K "BadKnob")) (.ref (He.ga K "BadLot")) = some false := z.exm 69
theorem m_BadParameter_BadLot (z : Zn hk P K mg) : PySem.W.exmOne K (.ref (He.ga K "BadParameter")) (.ref (He.ga K "BadLot")) = some false := z.exm 70
theorem m_TooGreat_BadLot (z : Zn hk P K mg) : PySem.W.exmOne K (.ref (He.ga K "TooGreat")) (.ref (He.ga K "BadLot")) = some false := z.exm 71
theorem m_BadSheet_BadKnob (z : Zn hk P K mg) : PySem.W.exmOne K (.ref (He.ga K "BadSheet")) (.ref (He.ga K "BadKnob")) = some false := z.exm 72
theorem m_BadLot_BadKnob (z : Zn hk P K mg) : PySem.W.exmOne K (.ref (He.ga K "BadLot")) (.ref (He.ga K "BadKnob")) = some false := z.exm 73
theorem m_BadKnob_BadKnob (z : Zn hk P K mg) : PySem.W.exmOne K (.ref (He.ga K "BadKnob")) (.ref (He.ga K "BadKnob")) = some true := z.exm 74
theorem m_BadParameter_BadKnob (z : Zn hk P K mg) : PySem.W.exmOne K (.ref (He.ga K "BadParameter")) (.ref (He.ga K "BadKnob")) = some false := z.exm 75
theorem m_TooGreat_BadKnob (z : Zn hk P K mg) : PySem.W.exmOne K (.ref (He.ga K "TooGreat")) (.ref (He.ga K "BadKnob")) = some false := z.exm 76
theorem m_BadSheet_BadParameter (z : Zn hk P K mg) : PySem.W.exmOne K (.ref (He.ga K "BadSheet")) (.ref (He.ga K "BadParameter")) = some false := z.exm 77
theorem m_BadLot_BadParameter (z : Zn hk P K mg) : PySem.W.exmOne K (.ref (He.ga K "BadLot")) (.ref (He.ga K "BadParameter")) = some false := z.exm 78
theorem m_BadKnob_BadParameter (z : Zn hk P K mg) : PySem.W.exmOne K (.ref (He.ga K "BadKnob")) (.ref (He.ga K "BadParameter")) = some false := z.exm 79
theorem m_BadParameter_BadParameter (z : Zn hk P K mg) : PySem.W.exmOne K (.ref (He.ga K "BadParameter")) (.ref (He.ga K "BadParameter")) = some true := z.exm 80
theorem m_TooGreat_BadParameter (z : Zn hk P K mg) : PySem.W.exmOne K (.ref (He.ga K "TooGreat")) (.ref (He.ga K "BadParameter")) = some false := z.exm 81
theorem m_BadSheet_TooGreat (z : Zn hk P K mg) : PySem.W.exmOne K (.ref (He.ga K "BadSheet")) (.ref (He.ga K "TooGreat")) = some false := z.exm 82
theorem m_BadLot_TooGreat (z : Zn hk P K mg) : PySem.W.exmOne K (.ref (He.ga K "BadLot")) (.ref (He.ga K "TooGreat")) = some false := z.exm 83
theorem m_BadKnob_TooGreat (z : Zn hk P K mg) : PySem.W.exmOne K (.ref (He.ga K "BadKnob")) (.ref (He.ga K "TooGreat")) = some false := z.exm 84
theorem m_BadParameter_TooGreat (z : Zn hk P K mg) : PySem.W.exmOne K (.ref (He.ga K "BadParameter")) (.ref (He.ga K "TooGreat")) = some false := z.exm 85
theorem m_TooGreat_TooGreat (z : Zn hk P K mg) : PySem.W.exmOne K (.ref (He.ga K "TooGreat")) (.ref (He.ga K "TooGreat")) = some true := z.exm 86
theorem F_is_from (z : Zn hk P K mg) : Fun K "is_from" "is_from" s_is_from (He.ga K "is_from") (fdO K (He.ga K "is_from")) := (z.def_ 0).1
theorem B_is_from (z : Zn hk P K mg) : Binds K (fdO K (He.ga K "is_from")) ["value", "low", "high"] [] := (z.def_ (x := "is_from") (st := s_is_from) 0).2 _ fun _ _ _ _ _ _ us hl => match us, hl with | [_, _, _], _ => rfl
theorem sc_is_from : FnScope ["value", "low", "high"] ["value", "low", "high"] (defScope s_is_from) := ⟨rfl, rfl, rfl, by decide +kernel, rfl, by decide +kernel, by decide +kernel⟩
theorem F_edge_of (z : Zn hk P K mg) : Fun K "edge_of" "edge_of" s_edge_of (He.ga K "edge_of") (fdO K (He.ga K "edge_of")) := (z.def_ 1).1
theorem B_edge_of (z : Zn hk P K mg) : Binds K (fdO K (He.ga K "edge_of")) ["side"] [] := (z.def_ (x := "edge_of") (st := s_edge_of) 1).2 _ fun _ _ _ _ _ _ us hl => match us, hl with | [_], _ => rfl
theorem sc_edge_of : FnScope ["side"] ["side"] (defScope s_edge_of) := ⟨rfl, rfl, rfl, by decide +kernel, rfl, by decide +kernel, by decide +kernel⟩
theorem F_turned_to (z : Zn hk P K mg) : Fun K "turned_to" "turned_to" s_turned_to (He.ga K "turned_to") (fdO K (He.ga K "turned_to")) := (z.def_ 2).1
theorem B_turned_to (z : Zn hk P K mg) : Binds K (fdO K (He.ga K "turned_to")) ["triangle", "index"] [] := (z.def_ (x := "turned_to") (st := s_turned_to) 2).2 _ fun _ _ _ _ _ _ us hl => match us, hl with | [_, _], _ => rfl
theorem sc_turned_to : FnScope ["triangle", "index"] ["triangle", "index"] (defScope s_turned_to) := ⟨rfl, rfl, rfl, by decide +kernel, rfl, by decide +kernel, by decide +kernel⟩
theorem F_plain_of (z : Zn hk P K mg) : Fun K "plain_of" "plain_of" s_plain_of (He.ga K "plain_of") (fdO K (He.ga K "plain_of")) := (z.def_ 3).1
theorem B_plain_of (z : Zn hk P K mg) : Binds K (fdO K (He.ga K "plain_of")) ["sheet"] [] := (z.def_ (x := "plain_of") (st := s_plain_of) 3).2 _ fun _ _ _ _ _ _ us hl => match us, hl with | [_], _ => rfl
theorem sc_plain_of : FnScope ["sheet", "triangle"] ["sheet"] (defScope s_plain_of) := ⟨rfl, rfl, rfl, by decide +kernel, rfl, by decide +kernel, by decide +kernel⟩
theorem F_sides_at (z : Zn hk P K mg) : Fun K "sides_at" "sides_at" s_sides_at (He.ga K "sides_at") (fdO K (He.ga K "sides_at")) := (z.def_ 4).1
theorem B_sides_at (z : Zn hk P K mg) : Binds K (fdO K (He.ga K "sides_at")) ["sheet"] [] := (z.def_ (x := "sides_at") (st := s_sides_at) 4).2 _ fun _ _ _ _ _ _ us hl => match us, hl with | [_], _ => rfl
theorem sc_sides_at : FnScope ["sheet", "found", "number", "triangle", "index", "side"] ["sheet"] (defScope s_sides_at) := ⟨rfl, rfl, rfl, by decide +kernel, rfl, by decide +kernel, by decide +kernel⟩
theorem F_count_edges (z : Zn hk P K mg) : Fun K "count_edges" "count_edges" s_count_edges (He.ga K "count_edges") (fdO K (He.ga K "count_edges")) := (z.def_ 5).1
theorem B_count_edges (z : Zn hk P K mg) : Binds K (fdO K (He.ga K "count_edges")) ["sheet"] [] := (z.def_ (x := "count_edges") (st := s_count_edges) 5).2 _ fun _ _ _ _ _ _ us hl => match us, hl with | [_], _ => rfl
theorem sc_count_edges : FnScope ["sheet", "triangle"] ["sheet"] (defScope s_count_edges) := ⟨rfl, rfl, rfl, by decide +kernel, rfl, by decide +kernel, by decide +kernel⟩
theorem F_is_joined (z : Zn hk P K mg) : Fun K "is_joined" "is_joined" s_is_joined (He.ga K "is_joined") (fdO K (He.ga K "is_joined")) := (z.def_ 6).1
theorem B_is_joined (z : Zn hk P K mg) : Binds K (fdO K (He.ga K "is_joined")) ["sheet", "table"] [] := (z.def_ (x := "is_joined") (st := s_is_joined) 6).2 _ fun _ _ _ _ _ _ us hl => match us, hl with | [_, _], _ => rfl
theorem sc_is_joined : FnScope ["sheet", "table", "line", "at", "side"] ["sheet", "table"] (defScope s_is_joined) := ⟨rfl, rfl, rfl, by decide +kernel, rfl, by decide +kernel, by decide +kernel⟩
theorem F_check_sides (z : Zn hk P K mg) : Fun K "check_sides" "check_sides" s_check_sides (He.ga K "check_sides") (fdO K (He.ga K "check_sides")) := (z.def_ 7).1
theorem B_check_sides (z : Zn hk P K mg) : Binds K (fdO K (He.ga K "check_sides")) ["value"] [] := (z.def_ (x := "check_sides") (st := s_check_sides) 7).2 _ fun _ _ _ _ _ _ us hl => match us, hl with | [_], _ => rfl
theorem sc_check_sides : FnScope ["value", "met", "number", "triangle", "index", "side"] ["value"] (defScope s_check_sides) := ⟨rfl, rfl, rfl, by decide +kernel, rfl, by decide +kernel, by decide +kernel⟩
theorem F_need_sheet (z : Zn hk P K mg) : Fun K "need_sheet" "need_sheet" s_need_sheet (He.ga K "need_sheet") (fdO K (He.ga K "need_sheet")) := (z.def_ 8).1
theorem B_need_sheet (z : Zn hk P K mg) : Binds K (fdO K (He.ga K "need_sheet")) ["value"] [] := (z.def_ (x := "need_sheet") (st := s_need_sheet) 8).2 _ fun _ _ _ _ _ _ us hl => match us, hl with | [_], _ => rfl
theorem sc_need_sheet : FnScope ["value", "table", "edges_met", "greatest", "side"] ["value"] (defScope s_need_sheet) := ⟨rfl, rfl, rfl, by decide +kernel, rfl, by decide +kernel, by decide +kernel⟩
theorem F_rims_of (z : Zn hk P K mg) : Fun K "rims_of" "rims_of" s_rims_of (He.ga K "rims_of") (fdO K (He.ga K "rims_of")) := (z.def_ 9).1
theorem B_rims_of (z : Zn hk P K mg) : Binds K (fdO K (He.ga K "rims_of")) ["sheet"] [] := (z.def_ (x := "rims_of") (st := s_rims_of) 9).2 _ fun _ _ _ _ _ _ us hl => match us, hl with | [_], _ => rfl
theorem sc_rims_of : FnScope ["sheet", "table", "edge"] ["sheet"] (defScope s_rims_of) := ⟨rfl, rfl, rfl, by decide +kernel, rfl, by decide +kernel, by decide +kernel⟩
theorem F_counts_in (z : Zn hk P K mg) : Fun K "counts_in" "counts_in" s_counts_in (He.ga K "counts_in") (fdO K (He.ga K "counts_in")) := (z.def_ 10).1
theorem B_counts_in (z : Zn hk P K mg) : Binds K (fdO K (He.ga K "counts_in")) ["triangle", "lot"] [] := (z.def_ (x := "counts_in") (st := s_counts_in) 10).2 _ fun _ _ _ _ _ _ us hl => match us, hl with | [_, _], _ => rfl
theorem sc_counts_in : FnScope ["triangle", "lot", "side"] ["triangle", "lot"] (defScope s_counts_in) := ⟨rfl, rfl, rfl, by decide +kernel, rfl, by decide +kernel, by decide +kernel⟩
theorem F_is_lot (z : Zn hk P K mg) : Fun K "is_lot" "is_lot" s_is_lot (He.ga K "is_lot") (fdO K (He.ga K "is_lot")) := (z.def_ 11).1
theorem B_is_lot (z : Zn hk P K mg) : Binds K (fdO K (He.ga K "is_lot")) ["sheet", "value"] [] := (z.def_ (x := "is_lot") (st := s_is_lot) 11).2 _ fun _ _ _ _ _ _ us hl => match us, hl with | [_, _], _ => rfl
theorem sc_is_lot : FnScope ["sheet", "value", "number", "edge", "triangle", "counts"] ["sheet", "value"] (defScope s_is_lot) := ⟨rfl, rfl, rfl, by decide +kernel, rfl, by decide +kernel, by decide +kernel⟩
theorem F_check_lot (z : Zn hk P K mg) : Fun K "check_lot" "check_lot" s_check_lot (He.ga K "check_lot") (fdO K (He.ga K "check_lot")) := (z.def_ 12).1
theorem B_check_lot (z : Zn hk P K mg) : Binds K (fdO K (He.ga K "check_lot")) ["sheet", "value"] [] := (z.def_ (x := "check_lot") (st := s_check_lot) 12).2 _ fun _ _ _ _ _ _ us hl => match us, hl with | [_, _], _ => rfl
theorem sc_check_lot : FnScope ["sheet", "value"] ["sheet", "value"] (defScope s_check_lot) := ⟨rfl, rfl, rfl, by decide +kernel, rfl, by decide +kernel, by decide +kernel⟩
theorem F_need_lot (z : Zn hk P K mg) : Fun K "need_lot" "need_lot" s_need_lot (He.ga K "need_lot") (fdO K (He.ga K "need_lot")) := (z.def_ 13).1
theorem B_need_lot (z : Zn hk P K mg) : Binds K (fdO K (He.ga K "need_lot")) ["sheet", "value"] [] := (z.def_ (x := "need_lot") (st := s_need_lot) 13).2 _ fun _ _ _ _ _ _ us hl => match us, hl with | [_, _], _ => rfl
theorem sc_need_lot : FnScope ["sheet", "value"] ["sheet", "value"] (defScope s_need_lot) := ⟨rfl, rfl, rfl, by decide +kernel, rfl, by decide +kernel, by decide +kernel⟩
theorem F_corners_in (z : Zn hk P K mg) : Fun K "corners_in" "corners_in" s_corners_in (He.ga K "corners_in") (fdO K (He.ga K "corners_in")) := (z.def_ 14).1
theorem B_corners_in (z : Zn hk P K mg) : Binds K (fdO K (He.ga K "corners_in")) ["triangle", "lot"] [] := (z.def_ (x := "corners_in") (st := s_corners_in) 14).2 _ fun _ _ _ _ _ _ us hl => match us, hl with | [_, _], _ => rfl
theorem sc_corners_in : FnScope ["triangle", "lot", "counts", "whole", "number"] ["triangle", "lot"] (defScope s_corners_in) := ⟨rfl, rfl, rfl, by decide +kernel, rfl, by decide +kernel, by decide +kernel⟩
theorem F_corners_so (z : Zn hk P K mg) : Fun K "corners_so" "corners_so" s_corners_so (He.ga K "corners_so") (fdO K (He.ga K "corners_so")) := (z.def_ 15).1
theorem B_corners_so (z : Zn hk P K mg) : Binds K (fdO K (He.ga K "corners_so")) ["sheet", "lot"] [] := (z.def_ (x := "corners_so") (st := s_corners_so) 15).2 _ fun _ _ _ _ _ _ us hl => match us, hl with | [_, _], _ => rfl
theorem sc_corners_so : FnScope ["sheet", "lot", "triangle"] ["sheet", "lot"] (defScope s_corners_so) := ⟨rfl, rfl, rfl, by decide +kernel, rfl, by decide +kernel, by decide +kernel⟩
theorem F_corner_counts (z : Zn hk P K mg) : Fun K "corner_counts" "corner_counts" s_corner_counts (He.ga K "corner_counts") (fdO K (He.ga K "corner_counts")) := (z.def_ 16).1
theorem B_corner_counts (z : Zn hk P K mg) : Binds K (fdO K (He.ga K "corner_counts")) ["sheet", "lot"] [] := (z.def_ (x := "corner_counts") (st := s_corner_counts) 16).2 _ fun _ _ _ _ _ _ us hl => match us, hl with | [_, _], _ => rfl
theorem sc_corner_counts : FnScope ["sheet", "lot", "near"] ["sheet", "lot"] (defScope s_corner_counts) := ⟨rfl, rfl, rfl, by decide +kernel, rfl, by decide +kernel, by decide +kernel⟩
theorem F_check_laid (z : Zn hk P K mg) : Fun K "check_laid" "check_laid" s_check_laid (He.ga K "check_laid") (fdO K (He.ga K "check_laid")) := (z.def_ 17).1
theorem B_check_laid (z : Zn hk P K mg) : Binds K (fdO K (He.ga K "check_laid")) ["lot"] [] := (z.def_ (x := "check_laid") (st := s_check_laid) 17).2 _ fun _ _ _ _ _ _ us hl => match us, hl with | [_], _ => rfl
theorem sc_check_laid : FnScope ["lot"] ["lot"] (defScope s_check_laid) := ⟨rfl, rfl, rfl, by decide +kernel, rfl, by decide +kernel, by decide +kernel⟩
theorem F_point_at (z : Zn hk P K mg) : Fun K "point_at" "point_at" s_point_at (He.ga K "point_at") (fdO K (He.ga K "point_at")) := (z.def_ 18).1
theorem B_point_at (z : Zn hk P K mg) : Binds K (fdO K (He.ga K "point_at")) ["side", "lot", "index"] [] := (z.def_ (x := "point_at") (st := s_point_at) 18).2 _ fun _ _ _ _ _ _ us hl => match us, hl with | [_, _, _], _ => rfl
theorem sc_point_at : FnScope ["side", "lot", "index", "edge"] ["side", "lot", "index"] (defScope s_point_at) := ⟨rfl, rfl, rfl, by decide +kernel, rfl, by decide +kernel, by decide +kernel⟩
theorem F_joined_points (z : Zn hk P K mg) : Fun K "joined_points" "joined_points" s_joined_points (He.ga K "joined_points") (fdO K (He.ga K "joined_points")) := (z.def_ 19).1
theorem B_joined_points (z : Zn hk P K mg) : Binds K (fdO K (He.ga K "joined_points")) ["triangle", "lot"] [] := (z.def_ (x := "joined_points") (st := s_joined_points) 19).2 _ fun _ _ _ _ _ _ us hl => match us, hl with | [_, _], _ => rfl
theorem sc_joined_points : FnScope ["triangle", "lot", "found", "corner", "times", "index", "ending", "beginning", "near"] ["triangle", "lot"] (defScope s_joined_points) := ⟨rfl, rfl, rfl, by decide +kernel, rfl, by decide +kernel, by decide +kernel⟩
theorem F_strands_so (z : Zn hk P K mg) : Fun K "strands_so" "strands_so" s_strands_so (He.ga K "strands_so") (fdO K (He.ga K "strands_so")) := (z.def_ 20).1
theorem B_strands_so (z : Zn hk P K mg) : Binds K (fdO K (He.ga K "strands_so")) ["sheet", "lot"] [] := (z.def_ (x := "strands_so") (st := s_strands_so) 20).2 _ fun _ _ _ _ _ _ us hl => match us, hl with | [_, _], _ => rfl
theorem sc_strands_so : FnScope ["sheet", "lot", "found", "number", "triangle", "near", "far"] ["sheet", "lot"] (defScope s_strands_so) := ⟨rfl, rfl, rfl, by decide +kernel, rfl, by decide +kernel, by decide +kernel⟩
theorem F_strands (z : Zn hk P K mg) : Fun K "strands" "strands" s_strands (He.ga K "strands") (fdO K (He.ga K "strands")) := (z.def_ 21).1
theorem B_strands (z : Zn hk P K mg) : Binds K (fdO K (He.ga K "strands")) ["sheet", "lot"] [] := (z.def_ (x := "strands") (st := s_strands) 21).2 _ fun _ _ _ _ _ _ us hl => match us, hl with | [_, _], _ => rfl
theorem sc_strands : FnScope ["sheet", "lot", "plain"] ["sheet", "lot"] (defScope s_strands) := ⟨rfl, rfl, rfl, by decide +kernel, rfl, by decide +kernel, by decide +kernel⟩
theorem F__law_mixed (z : Zn hk P K mg) : Fun K "_law_mixed" "_law_mixed" s__law_mixed (He.ga K "_law_mixed") (fdO K (He.ga K "_law_mixed")) := (z.def_ 22).1
theorem B__law_mixed (z : Zn hk P K mg) : Binds K (fdO K (He.ga K "_law_mixed")) ["_law_cell", "_law_k"] [] := (z.def_ (x := "_law_mixed") (st := s__law_mixed) 22).2 _ fun _ _ _ _ _ _ us hl => match us, hl with | [_, _], _ => rfl
theorem sc__law_mixed : FnScope ["_law_cell", "_law_k"] ["_law_cell", "_law_k"] (defScope s__law_mixed) := ⟨rfl, rfl, rfl, by decide +kernel, rfl, by decide +kernel, by decide +kernel⟩
theorem F__law_begin (z : Zn hk P K mg) : Fun K "_law_begin" "_law_begin" s__law_begin (He.ga K "_law_begin") (fdO K (He.ga K "_law_begin")) := (z.def_ 23).1
theorem B__law_begin (z : Zn hk P K mg) : Binds K (fdO K (He.ga K "_law_begin")) ["_law_script"] [] := (z.def_ (x := "_law_begin") (st := s__law_begin) 23).2 _ fun _ _ _ _ _ _ us hl => match us, hl with | [_], _ => rfl
theorem sc__law_begin : FnScope ["_law_script", "_law_cells_so", "_law_cell"] ["_law_script"] (defScope s__law_begin) := ⟨rfl, rfl, rfl, by decide +kernel, rfl, by decide +kernel, by decide +kernel⟩
theorem F__law_draw (z : Zn hk P K mg) : Fun K "_law_draw" "_law_draw" s__law_draw (He.ga K "_law_draw") (fdO K (He.ga K "_law_draw")) := (z.def_ 24).1
theorem B__law_draw (z : Zn hk P K mg) : Binds K (fdO K (He.ga K "_law_draw")) ["_law_state", "_law_limit"] [] := (z.def_ (x := "_law_draw") (st := s__law_draw) 24).2 _ fun _ _ _ _ _ _ us hl => match us, hl with | [_, _], _ => rfl
theorem sc__law_draw : FnScope ["_law_state", "_law_limit", "_law_at", "_law_place", "_law_left", "_law_number"] ["_law_state", "_law_limit"] (defScope s__law_draw) := ⟨rfl, rfl, rfl, by decide +kernel, rfl, by decide +kernel, by decide +kernel⟩
theorem F__law_order (z : Zn hk P K mg) : Fun K "_law_order" "_law_order" s__law_order (He.ga K "_law_order") (fdO K (He.ga K "_law_order")) := (z.def_ 25).1
theorem B__law_order (z : Zn hk P K mg) : Binds K (fdO K (He.ga K "_law_order")) ["_law_state", "_law_many_so"] [] := (z.def_ (x := "_law_order") (st := s__law_order) 25).2 _ fun _ _ _ _ _ _ us hl => match us, hl with | [_, _], _ => rfl
theorem sc__law_order : FnScope ["_law_state", "_law_many_so", "_law_left", "_law_found"] ["_law_state", "_law_many_so"] (defScope s__law_order) := ⟨rfl, rfl, rfl, by decide +kernel, rfl, by decide +kernel, by decide +kernel⟩
theorem F__law_sheet (z : Zn hk P K mg) : Fun K "_law_sheet" "_law_sheet" s__law_sheet (He.ga K "_law_sheet") (fdO K (He.ga K "_law_sheet")) := (z.def_ 26).1
theorem B__law_sheet (z : Zn hk P K mg) : Binds K (fdO K (He.ga K "_law_sheet")) ["_law_state", "_law_most"] [] := (z.def_ (x := "_law_sheet") (st := s__law_sheet) 26).2 _ fun _ _ _ _ _ _ us hl => match us, hl with | [_, _], _ => rfl
theorem sc__law_sheet : FnScope ["_law_state", "_law_most", "_law_many_so", "_law_here", "_law_free", "_law_pairs_so", "_law_one", "_law_things", "_law_sides_so", "_law_number", "_law_thing", "_law_far", "_law_near", "_law_k", "_law_slot", "_law_j"] ["_law_state", "_law_most"] (defScope s__law_sheet) := ⟨rfl, rfl, rfl, by decide +kernel, rfl, by decide +kernel, by decide +kernel⟩
theorem F__law_closed (z : Zn hk P K mg) : Fun K "_law_closed" "_law_closed" s__law_closed (He.ga K "_law_closed") (fdO K (He.ga K "_law_closed")) := (z.def_ 27).1
theorem B__law_closed (z : Zn hk P K mg) : Binds K (fdO K (He.ga K "_law_closed")) ["_law_state", "_law_pick"] [] := (z.def_ (x := "_law_closed") (st := s__law_closed) 27).2 _ fun _ _ _ _ _ _ us hl => match us, hl with | [_, _], _ => rfl
theorem sc__law_closed : FnScope ["_law_state", "_law_pick"] ["_law_state", "_law_pick"] (defScope s__law_closed) := ⟨rfl, rfl, rfl, by decide +kernel, rfl, by decide +kernel, by decide +kernel⟩
theorem F__law_plain (z : Zn hk P K mg) : Fun K "_law_plain" "_law_plain" s__law_plain (He.ga K "_law_plain") (fdO K (He.ga K "_law_plain")) := (z.def_ 28).1
theorem B__law_plain (z : Zn hk P K mg) : Binds K (fdO K (He.ga K "_law_plain")) ["_law_sheet_here"] [] := (z.def_ (x := "_law_plain") (st := s__law_plain) 28).2 _ fun _ _ _ _ _ _ us hl => match us, hl with | [_], _ => rfl
theorem sc__law_plain : FnScope ["_law_sheet_here", "_law_found", "_law_triple", "_law_at"] ["_law_sheet_here"] (defScope s__law_plain) := ⟨rfl, rfl, rfl, by decide +kernel, rfl, by decide +kernel, by decide +kernel⟩
theorem F__law_places (z : Zn hk P K mg) : Fun K "_law_places" "_law_places" s__law_places (He.ga K "_law_places") (fdO K (He.ga K "_law_places")) := (z.def_ 29).1
theorem B__law_places (z : Zn hk P K mg) : Binds K (fdO K (He.ga K "_law_places")) ["_law_sheet_here"] [] := (z.def_ (x := "_law_places") (st := s__law_places) 29).2 _ fun _ _ _ _ _ _ us hl => match us, hl with | [_], _ => rfl
theorem sc__law_places : FnScope ["_law_sheet_here", "_law_found", "_law_number", "_law_triple", "_law_place", "_law_side"] ["_law_sheet_here"] (defScope s__law_places) := ⟨rfl, rfl, rfl, by decide +kernel, rfl, by decide +kernel, by decide +kernel⟩
theorem F__law_edges (z : Zn hk P K mg) : Fun K "_law_edges" "_law_edges" s__law_edges (He.ga K "_law_edges") (fdO K (He.ga K "_law_edges")) := (z.def_ 30).1
theorem B__law_edges (z : Zn hk P K mg) : Binds K (fdO K (He.ga K "_law_edges")) ["_law_sheet_here"] [] := (z.def_ (x := "_law_edges") (st := s__law_edges) 30).2 _ fun _ _ _ _ _ _ us hl => match us, hl with | [_], _ => rfl
theorem sc__law_edges : FnScope ["_law_sheet_here", "_law_triple"] ["_law_sheet_here"] (defScope s__law_edges) := ⟨rfl, rfl, rfl, by decide +kernel, rfl, by decide +kernel, by decide +kernel⟩
theorem F__law_heard (z : Zn hk P K mg) : Fun K "_law_heard" "_law_heard" s__law_heard (He.ga K "_law_heard") (fdO K (He.ga K "_law_heard")) := (z.def_ 31).1
theorem B__law_heard (z : Zn hk P K mg) : Binds K (fdO K (He.ga K "_law_heard")) ["_law_call"] [] := (z.def_ (x := "_law_heard") (st := s__law_heard) 31).2 _ fun _ _ _ _ _ _ us hl => match us, hl with | [_], _ => rfl
theorem sc__law_heard : FnScope ["_law_call", "_law_told", "error_so"] ["_law_call"] (defScope s__law_heard) := ⟨rfl, rfl, rfl, by decide +kernel, rfl, by decide +kernel, by decide +kernel⟩
theorem F__law_like (z : Zn hk P K mg) : Fun K "_law_like" "_law_like" s__law_like (He.ga K "_law_like") (fdO K (He.ga K "_law_like")) := (z.def_ 32).1
theorem B__law_like (z : Zn hk P K mg) : Binds K (fdO K (He.ga K "_law_like")) ["_law_got", "_law_due"] [] := (z.def_ (x := "_law_like") (st := s__law_like) 32).2 _ fun _ _ _ _ _ _ us hl => match us, hl with | [_, _], _ => rfl
theorem sc__law_like : FnScope ["_law_got", "_law_due"] ["_law_got", "_law_due"] (defScope s__law_like) := ⟨rfl, rfl, rfl, by decide +kernel, rfl, by decide +kernel, by decide +kernel⟩
theorem F__law_triangle (z : Zn hk P K mg) : Fun K "_law_triangle" "_law_triangle" s__law_triangle (He.ga K "_law_triangle") (fdO K (He.ga K "_law_triangle")) := (z.def_ 33).1
theorem B__law_triangle (z : Zn hk P K mg) : Binds K (fdO K (He.ga K "_law_triangle")) ["_law_numbers"] [] := (z.def_ (x := "_law_triangle") (st := s__law_triangle) 33).2 _ fun _ _ _ _ _ _ us hl => match us, hl with | [_], _ => rfl
theorem sc__law_triangle : FnScope ["_law_numbers", "_law_found", "_law_p", "_law_q", "_law_r"] ["_law_numbers"] (defScope s__law_triangle) := ⟨rfl, rfl, rfl, by decide +kernel, rfl, by decide +kernel, by decide +kernel⟩
theorem F__law_choices (z : Zn hk P K mg) : Fun K "_law_choices" "_law_choices" s__law_choices (He.ga K "_law_choices") (fdO K (He.ga K "_law_choices")) := (z.def_ 34).1
theorem B__law_choices (z : Zn hk P K mg) : Binds K (fdO K (He.ga K "_law_choices")) ["_law_sheet_here", "_law_counts"] [] := (z.def_ (x := "_law_choices") (st := s__law_choices) 34).2 _ fun _ _ _ _ _ _ us hl => match us, hl with | [_, _], _ => rfl
theorem sc__law_choices : FnScope ["_law_sheet_here", "_law_counts", "_law_places_so", "_law_found", "_law_triple", "_law_edge", "_law_count", "_law_more", "_law_numbers", "_law_choice", "_law_side", "_law_row"] ["_law_sheet_here", "_law_counts"] (defScope s__law_choices) := ⟨rfl, rfl, rfl, by decide +kernel, rfl, by decide +kernel, by decide +kernel⟩
theorem F__law_all_rows (z : Zn hk P K mg) : Fun K "_law_all_rows" "_law_all_rows" s__law_all_rows (He.ga K "_law_all_rows") (fdO K (He.ga K "_law_all_rows")) := (z.def_ 35).1
theorem B__law_all_rows (z : Zn hk P K mg) : Binds K (fdO K (He.ga K "_law_all_rows")) ["_law_many_so", "_law_most"] [] := (z.def_ (x := "_law_all_rows") (st := s__law_all_rows) 35).2 _ fun _ _ _ _ _ _ us hl => match us, hl with | [_, _], _ => rfl
theorem sc__law_all_rows : FnScope ["_law_many_so", "_law_most", "_law_found", "_law_place", "_law_more", "_law_row", "_law_number"] ["_law_many_so", "_law_most"] (defScope s__law_all_rows) := ⟨rfl, rfl, rfl, by decide +kernel, rfl, by decide +kernel, by decide +kernel⟩
theorem F_law (z : Zn hk P K mg) : Fun K "law" "law" s_law (He.ga K "law") (fdO K (He.ga K "law")) := (z.def_ 36).1
theorem B_law (z : Zn hk P K mg) : Binds K (fdO K (He.ga K "law")) ["_law_script"] [] := (z.def_ (x := "law") (st := s_law) 36).2 _ fun _ _ _ _ _ _ us hl => match us, hl with | [_], _ => rfl
theorem sc_law : FnScope ["_law_script", "_law_state", "_law_sheet_here", "_law_plain_so", "_law_counts", "_law_found", "_law_got", "_law_choice"] ["_law_script"] (defScope s_law) := ⟨rfl, rfl, rfl, by decide +kernel, rfl, by decide +kernel, by decide +kernel⟩
theorem k_BadSheet (z : Zn hk P K mg) : ClOk P K mg i_BadSheet := z.cls 0 55
theorem mk_BadSheet {X : Cx} (z : Zn hk X.prog X.K X.mg) {k : Nat} (hr : Room (k + 1) X.A) {e : Expr} {p pos : Pos} {ta : TA} (ha : PA X [e] ta) (hg : Gl X "BadSheet" := by rfl) (he : starEach [e] X.env = (false, eval e X.env) :: starEach [] X.env := by rfl) :
    PMk X (.Call (.Name "BadSheet" p) [e] [] pos) (fun σ H Q => ta σ H fun vs H1 => ∃ y, vs = [y] ∧ ∀ d, H1 d = none → Q (.ref (He.ga X.K "BadSheet")) (some d) (upd H1 d (.xd [("place", y)]))) := by
  have c := k_BadSheet z
  obtain ⟨oc, od, kV, doc, pm, an, ct, osl, lk⟩ := c.lk
  exact pmk_in (fld := "place") (sf := "self") (pr := "place") (msg := "no sheet") (scope := defScope i_BadSheet.st) c.inc hr lk c.code ⟨_, rfl, rfl⟩ (fun s u v => BindsTo.of_eq rfl) (by decide) rfl rfl rfl rfl (by decide +kernel) rfl rfl rfl rfl rfl (fun env => rfl) (fun env => rfl) (fun env => rfl) hg (g_BadSheet z) ha rfl he
theorem k_BadLot (z : Zn hk P K mg) : ClOk P K mg i_BadLot := z.cls 1 55
theorem mk_BadLot {X : Cx} (z : Zn hk X.prog X.K X.mg) {k : Nat} (hr : Room (k + 1) X.A) {e : Expr} {p pos : Pos} {ta : TA} (ha : PA X [e] ta) (hg : Gl X "BadLot" := by rfl) (he : starEach [e] X.env = (false, eval e X.env) :: starEach [] X.env := by rfl) :
    PMk X (.Call (.Name "BadLot" p) [e] [] pos) (fun σ H Q => ta σ H fun vs H1 => ∃ y, vs = [y] ∧ ∀ d, H1 d = none → Q (.ref (He.ga X.K "BadLot")) (some d) (upd H1 d (.xd [("value", y)]))) := by
  have c := k_BadLot z
  obtain ⟨oc, od, kV, doc, pm, an, ct, osl, lk⟩ := c.lk
  exact pmk_in (fld := "value") (sf := "self") (pr := "value") (msg := "no lot") (scope := defScope i_BadLot.st) c.inc hr lk c.code ⟨_, rfl, rfl⟩ (fun s u v => BindsTo.of_eq rfl) (by decide) rfl rfl rfl rfl (by decide +kernel) rfl rfl rfl rfl rfl (fun env => rfl) (fun env => rfl) (fun env => rfl) hg (g_BadLot z) ha rfl he
theorem k_BadKnob (z : Zn hk P K mg) : ClOk P K mg i_BadKnob := z.cls 2 55
theorem mk_BadKnob {X : Cx} (z : Zn hk X.prog X.K X.mg) {k : Nat} (hr : Room (k + 1) X.A) {e : Expr} {p pos : Pos} {ta : TA} (ha : PA X [e] ta) (hg : Gl X "BadKnob" := by rfl) (he : starEach [e] X.env = (false, eval e X.env) :: starEach [] X.env := by rfl) :
    PMk X (.Call (.Name "BadKnob" p) [e] [] pos) (fun σ H Q => ta σ H fun vs H1 => ∃ y, vs = [y] ∧ ∀ d, H1 d = none → Q (.ref (He.ga X.K "BadKnob")) (some d) (upd H1 d (.xd [("value", y)]))) := by
  have c := k_BadKnob z
  obtain ⟨oc, od, kV, doc, pm, an, ct, osl, lk⟩ := c.lk
  exact pmk_in (fld := "value") (sf := "self") (pr := "value") (msg := "no knob") (scope := defScope i_BadKnob.st) c.inc hr lk c.code ⟨_, rfl, rfl⟩ (fun s u v => BindsTo.of_eq rfl) (by decide) rfl rfl rfl rfl (by decide +kernel) rfl rfl rfl rfl rfl (fun env => rfl) (fun env => rfl) (fun env => rfl) hg (g_BadKnob z) ha rfl he
theorem k_BadParameter (z : Zn hk P K mg) : ClOk P K mg i_BadParameter := z.cls 3 55
theorem mk_BadParameter {X : Cx} (z : Zn hk X.prog X.K X.mg) {k : Nat} (hr : Room (k + 1) X.A) {e : Expr} {p pos : Pos} {ta : TA} (ha : PA X [e] ta) (hg : Gl X "BadParameter" := by rfl) (he : starEach [e] X.env = (false, eval e X.env) :: starEach [] X.env := by rfl) :
    PMk X (.Call (.Name "BadParameter" p) [e] [] pos) (fun σ H Q => ta σ H fun vs H1 => ∃ y, vs = [y] ∧ ∀ d, H1 d = none → Q (.ref (He.ga X.K "BadParameter")) (some d) (upd H1 d (.xd [("value", y)]))) := by
  have c := k_BadParameter z
  obtain ⟨oc, od, kV, doc, pm, an, ct, osl, lk⟩ := c.lk
  exact pmk_in (fld := "value") (sf := "self") (pr := "value") (msg := "not as told") (scope := defScope i_BadParameter.st) c.inc hr lk c.code ⟨_, rfl, rfl⟩ (fun s u v => BindsTo.of_eq rfl) (by decide) rfl rfl rfl rfl (by decide +kernel) rfl rfl rfl rfl rfl (fun env => rfl) (fun env => rfl) (fun env => rfl) hg (g_BadParameter z) ha rfl he
theorem k_TooGreat (z : Zn hk P K mg) : ClOk P K mg i_TooGreat := z.cls 4 55
theorem mk_TooGreat {X : Cx} (z : Zn hk X.prog X.K X.mg) {k : Nat} (hr : Room (k + 1) X.A) {e : Expr} {p pos : Pos} {ta : TA} (ha : PA X [e] ta) (hg : Gl X "TooGreat" := by rfl) (he : starEach [e] X.env = (false, eval e X.env) :: starEach [] X.env := by rfl) :
    PMk X (.Call (.Name "TooGreat" p) [e] [] pos) (fun σ H Q => ta σ H fun vs H1 => ∃ y, vs = [y] ∧ ∀ d, H1 d = none → Q (.ref (He.ga X.K "TooGreat")) (some d) (upd H1 d (.xd [("most", y)]))) := by
  have c := k_TooGreat z
  obtain ⟨oc, od, kV, doc, pm, an, ct, osl, lk⟩ := c.lk
  exact pmk_in (fld := "most") (sf := "self") (pr := "most") (msg := "too great") (scope := defScope i_TooGreat.st) c.inc hr lk c.code ⟨_, rfl, rfl⟩ (fun s u v => BindsTo.of_eq rfl) (by decide) rfl rfl rfl rfl (by decide +kernel) rfl rfl rfl rfl rfl (fun env => rfl) (fun env => rfl) (fun env => rfl) hg (g_TooGreat z) ha rfl he
end
end Q
end FL
namespace FL
open PySem PySem.Spec PyProof.Rows L2
namespace Q
section
variable {P : Program} {w : World} {K : PySem.W.Frag} {mg : Str → Option Value} {base : Heap}
theorem ok_is_from (z : Zn hk P K mg) : FnOk P w K mg base (L2.CX P w) 1 (He.ga K "is_from") (fdO K (He.ga K "is_from")) ["value", "low", "high"] (spF K mg D_is_from) :=
  fn_ok (sg := ⟨[], none⟩) (F_is_from z) sc_is_from rfl rfl rfl fun cdv A outer s H E hr => (ss_one (s_ret (e_and (x_isa (T := "int") (n_isinstance z) (n_int z) (by decide +kernel) (x_var (i := 0))) (e_and (x_not (x_isa (T := "bool") (n_isinstance z) (n_bool z) (by decide +kernel) (x_var (i := 0)))) (e_one (x_chain opLe opLe (x_var (i := 1)) (x_var (i := 0)) (x_var (i := 2))))))))
theorem ok_edge_of (z : Zn hk P K mg) : FnOk P w K mg base (L2.CX P w) 1 (He.ga K "edge_of") (fdO K (He.ga K "edge_of")) ["side"] (spF K mg D_edge_of) :=
  fn_ok (sg := ⟨[], none⟩) (F_edge_of z) sc_edge_of rfl rfl rfl fun cdv A outer s H E hr => (ss_one (s_ret (x_if (t_cmp opGe (x_var (i := 0)) e_int) (x_var (i := 0)) (x_bin opSub (x_un unNeg e_int) (x_var (i := 0))))))
theorem ok_turned_to (z : Zn hk P K mg) : FnOk P w K mg base (L2.CX P w) 1 (He.ga K "turned_to") (fdO K (He.ga K "turned_to")) ["triangle", "index"] (spF K mg D_turned_to) :=
  fn_ok (sg := ⟨[], none⟩) (F_turned_to z) sc_turned_to rfl rfl rfl fun cdv A outer s H E hr => (ss_one (s_ret (x_bin opAdd (x_cut (x_var (i := 0)) (o_some (x_var (i := 1))) o_none) (x_cut (x_var (i := 0)) o_none (o_some (x_var (i := 1)))))))
theorem ok_plain_of (z : Zn hk P K mg) : FnOk P w K mg base (L2.CX P w) 2 (He.ga K "plain_of") (fdO K (He.ga K "plain_of")) ["sheet"] (spF K mg D_plain_of) :=
  fn_ok (sg := ⟨[], none⟩) (F_plain_of z) sc_plain_of rfl rfl rfl fun cdv A outer s H E hr => (ss_one (s_ret (x_callTy callTuple (n_tuple z) (a_cons (x_callB (callSorted rfl (Room.u70 hr)) (n_sorted z) (a_cons (x_comp [("triangle", 1)] sc_plain_of.nd (i_seq (x_var (i := 0))) (fun _ _ _ _ _ => (x_gn (i := 1) sc_plain_of.nd)) (fun _ _ _ _ _ => ts_nil) (fun _ _ _ _ _ => (x_call false (ok_turned_to z) hr (g_turned_to z) (F_turned_to z).kp (B_turned_to z) takes_blk (ao_cons (x_var (i := 1)) (ao_cons (x_index (x_var (i := 1)) (x_callB (call_minN rfl (Room.u66 hr)) (n_min z) (a_cons (x_var (i := 1)) a_nil))) ao_nil))))) a_nil)) a_nil))))
theorem ok_sides_at (z : Zn hk P K mg) : FnOk P w K mg base (L2.CX P w) 1 (He.ga K "sides_at") (fdO K (He.ga K "sides_at")) ["sheet"] (spF K mg D_sides_at) :=
  fn_ok (sg := ⟨[1], none⟩) (F_sides_at z) sc_sides_at rfl rfl rfl fun cdv A outer s H E hr => (ss_cons (x_aso (i := 1) sc_sides_at.nd x_dict) (ss_cons (s_for psD rfl (x_enum (n_enumerate z) (x_var (i := 0))) (g_tup rfl (gs_cons (x_gn (i := 2) sc_sides_at.nd) (gs_cons (x_gn (i := 3) sc_sides_at.nd) gs_nil))) (ss_one (s_for psD rfl (x_enum (n_enumerate z) (x_var (i := 3))) (g_tup rfl (gs_cons (x_gn (i := 4) sc_sides_at.nd) (gs_cons (x_gn (i := 5) sc_sides_at.nd) gs_nil))) (ss_one (x_put (i := 1) (Room.u70 hr) (x_var (i := 5)) (x_tup (a_cons (x_var (i := 2)) (a_cons (x_var (i := 4)) a_nil)))))))) (ss_one (s_ret (x_mv (i := 1))))))
theorem ok_count_edges (z : Zn hk P K mg) : FnOk P w K mg base (L2.CX P w) 1 (He.ga K "count_edges") (fdO K (He.ga K "count_edges")) ["sheet"] (spF K mg D_count_edges) :=
  fn_ok (sg := ⟨[], none⟩) (F_count_edges z) sc_count_edges rfl rfl rfl fun cdv A outer s H E hr => (ss_one (s_ret (x_bin opAdd e_int (x_callB (call_maxN rfl (Room.u66 hr)) (n_max z) (a_cons (x_comp [("triangle", 1)] sc_count_edges.nd (i_seq (x_var (i := 0))) (fun _ _ _ _ _ => (x_gn (i := 1) sc_count_edges.nd)) (fun _ _ _ _ _ => ts_nil) (fun _ _ _ _ _ => (x_callB (call_maxN rfl (Room.u66 hr)) (n_max z) (a_cons (x_var (i := 1)) a_nil)))) a_nil)))))
theorem ok_is_joined (z : Zn hk P K mg) : FnOk P w K mg base (L2.CX P w) 1 (He.ga K "is_joined") (fdO K (He.ga K "is_joined")) ["sheet", "table"] (spF K mg D_is_joined) :=
  fn_ok (sg := ⟨[2], none⟩) (F_is_joined z) sc_is_joined rfl rfl rfl fun cdv A outer s H E hr => (ss_cons (x_aso (i := 2) sc_is_joined.nd (x_lst (a_cons e_int a_nil))) (ss_cons (x_asg (i := 3) sc_is_joined.nd e_int) (ss_cons (s_while psD (t_cmp opLt (x_var (i := 3)) (x_callB callLen (n_len z) (a_cons (x_own (i := 2)) a_nil))) (ss_cons (s_for psD rfl (i_seq (x_ix (Room.u66 hr) (x_var (i := 0)) (x_ix (Room.u66 hr) (x_own (i := 2)) (x_var (i := 3))))) (x_gn (i := 4) sc_is_joined.nd) (ss_one (s_if (t_w (w_and (t_cmp (opIn (Room.u66 hr)) (x_bin opSub (x_un unNeg e_int) (x_var (i := 4))) (x_var (i := 1))) (w_and1 (t_cmp (opNotIn (Room.u66 hr)) (x_ix (Room.u66 hr) (x_ix (Room.u66 hr) (x_var (i := 1)) (x_bin opSub (x_un unNeg e_int) (x_var (i := 4)))) e_int) (x_own (i := 2)))))) (ss_one (s_drop (x_app (i := 2) (x_ix (Room.u66 hr) (x_ix (Room.u66 hr) (x_var (i := 1)) (x_bin opSub (x_un unNeg e_int) (x_var (i := 4)))) e_int)))) ss_nil))) (ss_one (x_asg (i := 3) sc_is_joined.nd (x_bin opAdd (x_var (i := 3)) e_int))))) (ss_one (s_ret (x_cmp (opEq (Room.u66 hr)) (x_callB callLen (n_len z) (a_cons (x_own (i := 2)) a_nil)) (x_callB callLen (n_len z) (a_cons (x_var (i := 0)) a_nil))))))))
theorem ok_check_sides (z : Zn hk P K mg) : FnOk P w K mg base (L2.CX P w) 2 (He.ga K "check_sides") (fdO K (He.ga K "check_sides")) ["value"] (spF K mg D_check_sides) :=
  fn_ok (sg := ⟨[1], none⟩) (F_check_sides z) sc_check_sides rfl rfl rfl fun cdv A outer s H E hr => (ss_cons (x_aso (i := 1) sc_check_sides.nd (x_lst a_nil)) (ss_cons (s_for psD rfl (x_enum (n_enumerate z) (x_var (i := 0))) (g_tup rfl (gs_cons (x_gn (i := 2) sc_check_sides.nd) (gs_cons (x_gn (i := 3) sc_check_sides.nd) gs_nil))) (ss_one (s_if (t_w (w_or (t_not (x_val (x_isa (T := "tuple") (n_isinstance z) (n_tuple z) (by decide +kernel) (x_var (i := 3))))) (w_or1 (t_cmp (opNe (Room.u66 hr)) (x_callB callLen (n_len z) (a_cons (x_var (i := 3)) a_nil)) e_int)))) (ss_one (s_raise rfl tkD (g_BadSheet z) (fun ha => mk_BadSheet z hr ha) (x_tup (a_cons (x_var (i := 2)) a_nil)))) ss_nil))) (ss_one (s_for psD rfl (x_enum (n_enumerate z) (x_var (i := 0))) (g_tup rfl (gs_cons (x_gn (i := 2) sc_check_sides.nd) (gs_cons (x_gn (i := 3) sc_check_sides.nd) gs_nil))) (ss_one (s_for psD rfl (x_enum (n_enumerate z) (x_var (i := 3))) (g_tup rfl (gs_cons (x_gn (i := 4) sc_check_sides.nd) (gs_cons (x_gn (i := 5) sc_check_sides.nd) gs_nil))) (ss_cons (s_if (t_w (w_or (t_not (x_val (x_call false (ok_is_from z) hr (g_is_from z) (F_is_from z).kp (B_is_from z) tkD (ao_cons (x_var (i := 5)) (ao_cons (x_bin opSub (x_un unNeg e_int) (x_con (c_MOST_EDGE z))) (ao_cons (x_con (c_MOST_EDGE z)) ao_nil)))))) (w_or1 (t_cmp (opIn (Room.u66 hr)) (x_var (i := 5)) (x_own (i := 1)))))) (ss_one (s_raise rfl tkD (g_BadSheet z) (fun ha => mk_BadSheet z hr ha) (x_tup (a_cons (x_var (i := 2)) (a_cons (x_var (i := 4)) a_nil))))) ss_nil) (ss_one (s_drop (x_app (i := 1) (x_var (i := 5))))))))))))
end
end Q
end FL
namespace FL
open PySem PySem.Spec PyProof.Rows L2
namespace Q
section
variable {P : Program} {w : World} {K : PySem.W.Frag} {mg : Str → Option Value} {base : Heap}
theorem ok_need_sheet (z : Zn hk P K mg) : FnOk P w K mg base (L2.CX P w) 3 (He.ga K "need_sheet") (fdO K (He.ga K "need_sheet")) ["value"] (spF K mg D_need_sheet) :=
  fn_ok (sg := ⟨[], none⟩) (F_need_sheet z) sc_need_sheet rfl rfl rfl fun cdv A outer s H E hr => (ss_cons (s_if (t_w (w_or (t_not (x_val (x_isa (T := "tuple") (n_isinstance z) (n_tuple z) (by decide +kernel) (x_var (i := 0))))) (w_or1 (t_not (x_chainT opLe opLe e_int (x_callB callLen (n_len z) (a_cons (x_var (i := 0)) a_nil)) (x_con (c_MOST_TRIANGLES z))))))) (ss_one (s_raise rfl tkD (g_BadSheet z) (fun ha => mk_BadSheet z hr ha) (x_tup a_nil))) ss_nil) (ss_cons (s_drop (x_call false (ok_check_sides z) hr (g_check_sides z) (F_check_sides z).kp (B_check_sides z) tkD (ao_cons (x_var (i := 0)) ao_nil))) (ss_cons (x_asg (i := 1) sc_need_sheet.nd (x_call false (ok_sides_at z) hr (g_sides_at z) (F_sides_at z).kp (B_sides_at z) tkD (ao_cons (x_var (i := 0)) ao_nil))) (ss_cons (x_asg (i := 2) sc_need_sheet.nd (x_callB (callSorted rfl (Room.u70 hr)) (n_sorted z) (a_cons (x_compK (i := 1) [("side", 4)] sc_need_sheet.nd (fun _ _ _ _ _ => (x_gn (i := 4) sc_need_sheet.nd)) (fun _ _ _ _ _ => (ts_one (t_cmp opGe (x_var (i := 4)) e_int))) (fun _ _ _ _ _ => (x_var (i := 4)))) a_nil))) (ss_cons (x_asg (i := 3) sc_need_sheet.nd (x_callB (call_maxN rfl (Room.u66 hr)) (n_max z) (a_cons (x_compK (i := 1) [("side", 4)] sc_need_sheet.nd (fun _ _ _ _ _ => (x_gn (i := 4) sc_need_sheet.nd)) (fun _ _ _ _ _ => ts_nil) (fun _ _ _ _ _ => (x_call false (ok_edge_of z) hr (g_edge_of z) (F_edge_of z).kp (B_edge_of z) takes_blk (ao_cons (x_var (i := 4)) ao_nil)))) a_nil))) (ss_cons (s_if (t_w (w_or (t_cmp (opNe (Room.u66 hr)) (x_var (i := 2)) (x_lrng1 (n_list z) (n_range z) (x_bin opAdd (x_var (i := 3)) e_int))) (w_or1 (t_not (x_val (x_call false (ok_is_joined z) hr (g_is_joined z) (F_is_joined z).kp (B_is_joined z) tkD (ao_cons (x_var (i := 0)) (ao_cons (x_var (i := 1)) ao_nil)))))))) (ss_one (s_raise rfl tkD (g_BadSheet z) (fun ha => mk_BadSheet z hr ha) (x_tup a_nil))) ss_nil) (ss_one (s_ret (x_call false (ok_plain_of z) hr (g_plain_of z) (F_plain_of z).kp (B_plain_of z) tkD (ao_cons (x_var (i := 0)) ao_nil))))))))))
theorem ok_rims_of (z : Zn hk P K mg) : FnOk P w K mg base (L2.CX P w) 2 (He.ga K "rims_of") (fdO K (He.ga K "rims_of")) ["sheet"] (spF K mg D_rims_of) :=
  fn_ok (sg := ⟨[], none⟩) (F_rims_of z) sc_rims_of rfl rfl rfl fun cdv A outer s H E hr => (ss_cons (x_asg (i := 1) sc_rims_of.nd (x_call false (ok_sides_at z) hr (g_sides_at z) (F_sides_at z).kp (B_sides_at z) tkD (ao_cons (x_var (i := 0)) ao_nil))) (ss_one (s_ret (x_callTy callTuple (n_tuple z) (a_cons (x_comp [("edge", 2)] sc_rims_of.nd (x_rng1 (n_range z) (a_cons (x_call false (ok_count_edges z) hr (g_count_edges z) (F_count_edges z).kp (B_count_edges z) tkD (ao_cons (x_var (i := 0)) ao_nil)) a_nil)) (fun _ _ _ _ _ => (x_gn (i := 2) sc_rims_of.nd)) (fun _ _ _ _ _ => (ts_one (t_cmp (opNotIn (Room.u66 hr)) (x_bin opSub (x_un unNeg e_int) (x_var (i := 2))) (x_var (i := 1))))) (fun _ _ _ _ _ => (x_var (i := 2)))) a_nil)))))
theorem ok_counts_in (z : Zn hk P K mg) : FnOk P w K mg base (L2.CX P w) 2 (He.ga K "counts_in") (fdO K (He.ga K "counts_in")) ["triangle", "lot"] (spF K mg D_counts_in) :=
  fn_ok (sg := ⟨[], none⟩) (F_counts_in z) sc_counts_in rfl rfl rfl fun cdv A outer s H E hr => (ss_one (s_ret (x_comp [("side", 2)] sc_counts_in.nd (i_seq (x_var (i := 0))) (fun _ _ _ _ _ => (x_gn (i := 2) sc_counts_in.nd)) (fun _ _ _ _ _ => ts_nil) (fun _ _ _ _ _ => (x_ix (Room.u66 hr) (x_var (i := 1)) (x_call false (ok_edge_of z) hr (g_edge_of z) (F_edge_of z).kp (B_edge_of z) takes_blk (ao_cons (x_var (i := 2)) ao_nil)))))))
theorem ok_is_lot (z : Zn hk P K mg) : FnOk P w K mg base (L2.CX P w) 3 (He.ga K "is_lot") (fdO K (He.ga K "is_lot")) ["sheet", "value"] (spF K mg D_is_lot) :=
  fn_ok (sg := ⟨[], none⟩) (F_is_lot z) sc_is_lot rfl rfl rfl fun cdv A outer s H E hr => (ss_cons (s_if (t_w (w_or (t_not (x_val (x_isa (T := "tuple") (n_isinstance z) (n_tuple z) (by decide +kernel) (x_var (i := 1))))) (w_or1 (t_cmp (opNe (Room.u66 hr)) (x_callB callLen (n_len z) (a_cons (x_var (i := 1)) a_nil)) (x_call false (ok_count_edges z) hr (g_count_edges z) (F_count_edges z).kp (B_count_edges z) tkD (ao_cons (x_var (i := 0)) ao_nil)))))) (ss_one (s_ret e_bl)) ss_nil) (ss_cons (s_for psD rfl (i_seq (x_var (i := 1))) (x_gn (i := 2) sc_is_lot.nd) (ss_one (s_if (t_not (x_val (x_call false (ok_is_from z) hr (g_is_from z) (F_is_from z).kp (B_is_from z) tkD (ao_cons (x_var (i := 2)) (ao_cons e_int (ao_cons (x_con (c_MOST_COUNT z)) ao_nil)))))) (ss_one (s_ret e_bl)) ss_nil))) (ss_cons (s_for psD rfl (i_seq (x_call false (ok_rims_of z) hr (g_rims_of z) (F_rims_of z).kp (B_rims_of z) tkD (ao_cons (x_var (i := 0)) ao_nil))) (x_gn (i := 3) sc_is_lot.nd) (ss_one (s_if (t_cmp (opNe (Room.u66 hr)) (x_ix (Room.u66 hr) (x_var (i := 1)) (x_var (i := 3))) e_int) (ss_one (s_ret e_bl)) ss_nil))) (ss_cons (s_for psD rfl (i_seq (x_var (i := 0))) (x_gn (i := 4) sc_is_lot.nd) (ss_cons (x_asg (i := 5) sc_is_lot.nd (x_call false (ok_counts_in z) hr (g_counts_in z) (F_counts_in z).kp (B_counts_in z) tkD (ao_cons (x_var (i := 4)) (ao_cons (x_var (i := 1)) ao_nil)))) (ss_one (s_if (t_w (w_or (t_cmp (opEq (Room.u66 hr)) (x_bin opMod (x_callB (callSum rfl) (n_sum z) (a_cons (x_var (i := 5)) a_nil)) e_int) e_int) (w_or1 (t_cmp opGt (x_bin opMul e_int (x_callB (call_maxN rfl (Room.u66 hr)) (n_max z) (a_cons (x_var (i := 5)) a_nil))) (x_callB (callSum rfl) (n_sum z) (a_cons (x_var (i := 5)) a_nil)))))) (ss_one (s_ret e_bl)) ss_nil)))) (ss_one (s_ret e_bl))))))
theorem ok_check_lot (z : Zn hk P K mg) : FnOk P w K mg base (L2.CX P w) 4 (He.ga K "check_lot") (fdO K (He.ga K "check_lot")) ["sheet", "value"] (spF K mg D_check_lot) :=
  fn_ok (sg := ⟨[], none⟩) (F_check_lot z) sc_check_lot rfl rfl rfl fun cdv A outer s H E hr => (ss_one (s_if (t_not (x_val (x_call false (ok_is_lot z) hr (g_is_lot z) (F_is_lot z).kp (B_is_lot z) tkD (ao_cons (x_var (i := 0)) (ao_cons (x_var (i := 1)) ao_nil))))) (ss_one (s_raise rfl tkD (g_BadLot z) (fun ha => mk_BadLot z hr ha) (x_var (i := 1)))) ss_nil))
theorem ok_need_lot (z : Zn hk P K mg) : FnOk P w K mg base (L2.CX P w) 5 (He.ga K "need_lot") (fdO K (He.ga K "need_lot")) ["sheet", "value"] (spF K mg D_need_lot) :=
  fn_ok (sg := ⟨[], none⟩) (F_need_lot z) sc_need_lot rfl rfl rfl fun cdv A outer s H E hr => (ss_cons (s_drop (x_call false (ok_check_lot z) hr (g_check_lot z) (F_check_lot z).kp (B_check_lot z) tkD (ao_cons (x_call false (ok_need_sheet z) hr (g_need_sheet z) (F_need_sheet z).kp (B_need_sheet z) tkD (ao_cons (x_var (i := 0)) ao_nil)) (ao_cons (x_var (i := 1)) ao_nil)))) (ss_one (s_ret (x_var (i := 1)))))
theorem ok_corners_in (z : Zn hk P K mg) : FnOk P w K mg base (L2.CX P w) 3 (He.ga K "corners_in") (fdO K (He.ga K "corners_in")) ["triangle", "lot"] (spF K mg D_corners_in) :=
  fn_ok (sg := ⟨[], none⟩) (F_corners_in z) sc_corners_in rfl rfl rfl fun cdv A outer s H E hr => (ss_cons (x_asg (i := 2) sc_corners_in.nd (x_call false (ok_counts_in z) hr (g_counts_in z) (F_counts_in z).kp (B_counts_in z) tkD (ao_cons (x_var (i := 0)) (ao_cons (x_var (i := 1)) ao_nil)))) (ss_cons (x_asg (i := 3) sc_corners_in.nd (x_callB (callSum rfl) (n_sum z) (a_cons (x_var (i := 2)) a_nil))) (ss_one (s_ret (x_callTy callTuple (n_tuple z) (a_cons (x_comp [("number", 4)] sc_corners_in.nd (i_seq (x_var (i := 2))) (fun _ _ _ _ _ => (x_gn (i := 4) sc_corners_in.nd)) (fun _ _ _ _ _ => ts_nil) (fun _ _ _ _ _ => (x_bin opDiv (x_bin opSub (x_var (i := 3)) (x_bin opMul e_int (x_var (i := 4)))) e_int))) a_nil))))))
theorem ok_corners_so (z : Zn hk P K mg) : FnOk P w K mg base (L2.CX P w) 4 (He.ga K "corners_so") (fdO K (He.ga K "corners_so")) ["sheet", "lot"] (spF K mg D_corners_so) :=
  fn_ok (sg := ⟨[], none⟩) (F_corners_so z) sc_corners_so rfl rfl rfl fun cdv A outer s H E hr => (ss_one (s_ret (x_callTy callTuple (n_tuple z) (a_cons (x_comp [("triangle", 2)] sc_corners_so.nd (i_seq (x_var (i := 0))) (fun _ _ _ _ _ => (x_gn (i := 2) sc_corners_so.nd)) (fun _ _ _ _ _ => ts_nil) (fun _ _ _ _ _ => (x_call false (ok_corners_in z) hr (g_corners_in z) (F_corners_in z).kp (B_corners_in z) takes_blk (ao_cons (x_var (i := 2)) (ao_cons (x_var (i := 1)) ao_nil))))) a_nil))))
end
end Q
end FL
namespace FL
open PySem PySem.Spec PyProof.Rows L2
namespace Q
section
variable {P : Program} {w : World} {K : PySem.W.Frag} {mg : Str → Option Value} {base : Heap}
theorem ok_corner_counts (z : Zn hk P K mg) : FnOk P w K mg base (L2.CX P w) 5 (He.ga K "corner_counts") (fdO K (He.ga K "corner_counts")) ["sheet", "lot"] (spF K mg D_corner_counts) :=
  fn_ok (sg := ⟨[], none⟩) (F_corner_counts z) sc_corner_counts rfl rfl rfl fun cdv A outer s H E hr => (ss_cons (x_asg (i := 2) sc_corner_counts.nd (x_call false (ok_need_sheet z) hr (g_need_sheet z) (F_need_sheet z).kp (B_need_sheet z) tkD (ao_cons (x_var (i := 0)) ao_nil))) (ss_cons (s_drop (x_call false (ok_check_lot z) hr (g_check_lot z) (F_check_lot z).kp (B_check_lot z) tkD (ao_cons (x_var (i := 2)) (ao_cons (x_var (i := 1)) ao_nil)))) (ss_one (s_ret (x_call false (ok_corners_so z) hr (g_corners_so z) (F_corners_so z).kp (B_corners_so z) tkD (ao_cons (x_var (i := 2)) (ao_cons (x_var (i := 1)) ao_nil)))))))
theorem ok_check_laid (z : Zn hk P K mg) : FnOk P w K mg base (L2.CX P w) 2 (He.ga K "check_laid") (fdO K (He.ga K "check_laid")) ["lot"] (spF K mg D_check_laid) :=
  fn_ok (sg := ⟨[], none⟩) (F_check_laid z) sc_check_laid rfl rfl rfl fun cdv A outer s H E hr => (ss_one (s_if (t_cmp opGt (x_callB (callSum rfl) (n_sum z) (a_cons (x_var (i := 0)) a_nil)) (x_con (c_MOST_POINTS z))) (ss_one (s_raise rfl tkD (g_TooGreat z) (fun ha => mk_TooGreat z hr ha) (x_con (c_MOST_POINTS z)))) ss_nil))
theorem ok_point_at (z : Zn hk P K mg) : FnOk P w K mg base (L2.CX P w) 2 (He.ga K "point_at") (fdO K (He.ga K "point_at")) ["side", "lot", "index"] (spF K mg D_point_at) :=
  fn_ok (sg := ⟨[], none⟩) (F_point_at z) sc_point_at rfl rfl rfl fun cdv A outer s H E hr => (ss_cons (x_asg (i := 3) sc_point_at.nd (x_call false (ok_edge_of z) hr (g_edge_of z) (F_edge_of z).kp (B_edge_of z) tkD (ao_cons (x_var (i := 0)) ao_nil))) (ss_one (s_ret (x_tup (a_cons (x_var (i := 3)) (a_cons (x_if (t_cmp opGe (x_var (i := 0)) e_int) (x_var (i := 2)) (x_bin opSub (x_bin opSub (x_ix (Room.u66 hr) (x_var (i := 1)) (x_var (i := 3))) e_int) (x_var (i := 2)))) a_nil))))))
theorem ok_joined_points (z : Zn hk P K mg) : FnOk P w K mg base (L2.CX P w) 4 (He.ga K "joined_points") (fdO K (He.ga K "joined_points")) ["triangle", "lot"] (spF K mg D_joined_points) :=
  fn_ok (sg := ⟨[2], none⟩) (F_joined_points z) sc_joined_points rfl rfl rfl fun cdv A outer s H E hr => (ss_cons (x_aso (i := 2) sc_joined_points.nd (x_lst a_nil)) (ss_cons (s_for psD rfl (x_enum (n_enumerate z) (x_call false (ok_corners_in z) hr (g_corners_in z) (F_corners_in z).kp (B_corners_in z) tkD (ao_cons (x_var (i := 0)) (ao_cons (x_var (i := 1)) ao_nil)))) (g_tup rfl (gs_cons (x_gn (i := 3) sc_joined_points.nd) (gs_cons (x_gn (i := 4) sc_joined_points.nd) gs_nil))) (ss_cons (x_par2 sc_joined_points.nd (m_old (x_ix (Room.u66 hr) (x_var (i := 0)) (x_bin opMod (x_bin opAdd (x_var (i := 3)) e_int) e_int)) (m_old (x_ix (Room.u66 hr) (x_var (i := 0)) (x_bin opMod (x_bin opAdd (x_var (i := 3)) e_int) e_int)) m_nil))) (ss_one (s_for psD rfl (x_rng1 (n_range z) (a_cons (x_var (i := 4)) a_nil)) (x_gn (i := 5) sc_joined_points.nd) (ss_cons (x_asg (i := 8) sc_joined_points.nd (x_call false (ok_point_at z) hr (g_point_at z) (F_point_at z).kp (B_point_at z) tkD (ao_cons (x_var (i := 6)) (ao_cons (x_var (i := 1)) (ao_cons (x_bin opSub (x_bin opSub (x_ix (Room.u66 hr) (x_var (i := 1)) (x_call false (ok_edge_of z) hr (g_edge_of z) (F_edge_of z).kp (B_edge_of z) tkD (ao_cons (x_var (i := 6)) ao_nil))) e_int) (x_var (i := 5))) ao_nil))))) (ss_one (s_drop (x_app (i := 2) (x_tup (a_cons (x_tup (a_cons (x_var (i := 6)) (a_cons (x_var (i := 8)) a_nil))) (a_cons (x_tup (a_cons (x_var (i := 7)) (a_cons (x_call false (ok_point_at z) hr (g_point_at z) (F_point_at z).kp (B_point_at z) tkD (ao_cons (x_var (i := 7)) (ao_cons (x_var (i := 1)) (ao_cons (x_var (i := 5)) ao_nil)))) a_nil))) a_nil))))))))))) (ss_one (s_ret (x_mv (i := 2))))))
theorem ok_strands_so (z : Zn hk P K mg) : FnOk P w K mg base (L2.CX P w) 5 (He.ga K "strands_so") (fdO K (He.ga K "strands_so")) ["sheet", "lot"] (spF K mg D_strands_so) :=
  fn_ok (sg := ⟨[2], none⟩) (F_strands_so z) sc_strands_so rfl rfl rfl fun cdv A outer s H E hr => (ss_cons (x_aso (i := 2) sc_strands_so.nd (x_lst a_nil)) (ss_cons (s_for psD rfl (x_enum (n_enumerate z) (x_var (i := 0))) (g_tup rfl (gs_cons (x_gn (i := 3) sc_strands_so.nd) (gs_cons (x_gn (i := 4) sc_strands_so.nd) gs_nil))) (ss_one (s_for psD rfl (i_seq (x_call false (ok_joined_points z) hr (g_joined_points z) (F_joined_points z).kp (B_joined_points z) tkD (ao_cons (x_var (i := 4)) (ao_cons (x_var (i := 1)) ao_nil)))) (g_tup rfl (gs_cons (x_gn (i := 5) sc_strands_so.nd) (gs_cons (x_gn (i := 6) sc_strands_so.nd) gs_nil))) (ss_one (s_drop (x_app (i := 2) (x_tup (a_cons (x_var (i := 3)) (a_cons (x_callB (call_minN rfl (Room.u66 hr)) (n_min z) (a_cons (x_ix (Room.u66 hr) (x_var (i := 5)) e_int) (a_cons (x_ix (Room.u66 hr) (x_var (i := 6)) e_int) a_nil))) (a_cons (x_callB (call_maxN rfl (Room.u66 hr)) (n_max z) (a_cons (x_ix (Room.u66 hr) (x_var (i := 5)) e_int) (a_cons (x_ix (Room.u66 hr) (x_var (i := 6)) e_int) a_nil))) a_nil)))))))))) (ss_one (s_ret (x_callTy callTuple (n_tuple z) (a_cons (x_callB (callSorted rfl (Room.u70 hr)) (n_sorted z) (a_cons (x_own (i := 2)) a_nil)) a_nil))))))
theorem ok_strands (z : Zn hk P K mg) : FnOk P w K mg base (L2.CX P w) 6 (He.ga K "strands") (fdO K (He.ga K "strands")) ["sheet", "lot"] (spF K mg D_strands) :=
  fn_ok (sg := ⟨[], none⟩) (F_strands z) sc_strands rfl rfl rfl fun cdv A outer s H E hr => (ss_cons (x_asg (i := 2) sc_strands.nd (x_call false (ok_need_sheet z) hr (g_need_sheet z) (F_need_sheet z).kp (B_need_sheet z) tkD (ao_cons (x_var (i := 0)) ao_nil))) (ss_cons (s_drop (x_call false (ok_check_lot z) hr (g_check_lot z) (F_check_lot z).kp (B_check_lot z) tkD (ao_cons (x_var (i := 2)) (ao_cons (x_var (i := 1)) ao_nil)))) (ss_cons (s_drop (x_call false (ok_check_laid z) hr (g_check_laid z) (F_check_laid z).kp (B_check_laid z) tkD (ao_cons (x_var (i := 1)) ao_nil))) (ss_one (s_ret (x_call false (ok_strands_so z) hr (g_strands_so z) (F_strands_so z).kp (B_strands_so z) tkD (ao_cons (x_var (i := 2)) (ao_cons (x_var (i := 1)) ao_nil))))))))
theorem ok__law_mixed (z : Zn hk P K mg) : FnOk P w K mg base (L2.CX P w) 1 (He.ga K "_law_mixed") (fdO K (He.ga K "_law_mixed")) ["_law_cell", "_law_k"] (spF K mg D__law_mixed) :=
  fn_ok (sg := ⟨[], none⟩) (F__law_mixed z) sc__law_mixed rfl rfl rfl fun cdv A outer s H E hr => (ss_cons (x_asg (i := 0) sc__law_mixed.nd (x_bin opMod (x_callTy callInt (n_int z) (a_cons (x_var (i := 0)) a_nil)) e_int)) (ss_one (s_ret (x_bin opMod (x_bin opMul (x_bin opMod (x_bin opAdd (x_bin opAdd (x_bin opMul (x_var (i := 0)) (x_bin opAdd e_int (x_bin opMul (x_bin opMul e_int (x_var (i := 1))) (x_var (i := 1))))) (x_bin opMul e_int (x_var (i := 1)))) e_int) e_int) e_int) e_int))))
theorem ok__law_draw (z : Zn hk P K mg) : FnOk P w K mg base (L2.CX P w) 2 (He.ga K "_law_draw") (fdO K (He.ga K "_law_draw")) ["_law_state", "_law_limit"] (spF K mg D__law_draw) :=
  fn_ok (sg := ⟨[], (some 0)⟩) (F__law_draw z) sc__law_draw rfl rfl rfl fun cdv A outer s H E hr => (ss_cons (x_asg (i := 2) sc__law_draw.nd (x_stAt (Room.u66 hr))) (ss_cons (x_stAtS (Room.u66 hr) (x_bin opAdd (x_var (i := 2)) e_int)) (ss_cons (x_asg (i := 3) sc__law_draw.nd (x_bin opMod (x_callTy callInt (n_int z) (a_cons (x_var (i := 2)) a_nil)) (x_stLen (Room.u66 hr) (n_len z)))) (ss_cons (x_asg (i := 4) sc__law_draw.nd (x_st_lefts (Room.u66 hr) (x_var (i := 3)))) (ss_cons (s_if (t_cmp opGt (x_var (i := 4)) e_int) (ss_cons (x_stLeft (Room.u66 hr) (x_var (i := 3)) (x_bin opDiv (x_var (i := 4)) (x_var (i := 1)))) (ss_one (s_ret (x_bin opMod (x_callTy callInt (n_int z) (a_cons (x_var (i := 4)) a_nil)) (x_var (i := 1)))))) ss_nil) (ss_cons (x_asg (i := 5) sc__law_draw.nd (x_call false (ok__law_mixed z) hr (g__law_mixed z) (F__law_mixed z).kp (B__law_mixed z) tkD (ao_cons (x_call false (ok__law_mixed z) hr (g__law_mixed z) (F__law_mixed z).kp (B__law_mixed z) tkD (ao_cons (x_st_cells (Room.u66 hr) (x_var (i := 3))) (ao_cons (x_var (i := 2)) ao_nil))) (ao_cons (x_bin opAdd e_int (x_var (i := 2))) ao_nil)))) (ss_one (s_ret (x_bin opMod (x_bin opDiv (x_callTy callInt (n_int z) (a_cons (x_bin opAdd (x_bin opMul (x_var (i := 5)) e_int) (x_call false (ok__law_mixed z) hr (g__law_mixed z) (F__law_mixed z).kp (B__law_mixed z) tkD (ao_cons (x_var (i := 5)) (ao_cons (x_bin opAdd e_int (x_var (i := 2))) ao_nil)))) a_nil)) e_int) (x_var (i := 1)))))))))))
end
end Q
end FL
namespace FL
open PySem PySem.Spec PyProof.Rows L2
namespace Q
section
variable {P : Program} {w : World} {K : PySem.W.Frag} {mg : Str → Option Value} {base : Heap}
theorem ok__law_order (z : Zn hk P K mg) : FnOk P w K mg base (L2.CX P w) 3 (He.ga K "_law_order") (fdO K (He.ga K "_law_order")) ["_law_state", "_law_many_so"] (spF K mg D__law_order) :=
  fn_ok (sg := ⟨[2, 3], (some 0)⟩) (F__law_order z) sc__law_order rfl rfl rfl fun cdv A outer s H E hr => (ss_cons (x_par2 sc__law_order.nd (m_new (x_lrng1 (n_list z) (n_range z) (x_var (i := 1))) (m_new (x_lst a_nil) m_nil))) (ss_cons (s_while psD (t_cmp (opNe (Room.u66 hr)) (x_own (i := 2)) (x_lst a_nil)) (ss_one (s_drop (x_app (i := 3) (x_pop (i := 2) (x_call false (ok__law_draw z) hr (g__law_draw z) (F__law_draw z).kp (B__law_draw z) tkD (x_st (ao_cons (x_callB callLen (n_len z) (a_cons (x_own (i := 2)) a_nil)) ao_nil)))))))) (ss_one (s_ret (x_mv (i := 3))))))
theorem ok__law_sheet (z : Zn hk P K mg) : FnOk P w K mg base (L2.CX P w) 4 (He.ga K "_law_sheet") (fdO K (He.ga K "_law_sheet")) ["_law_state", "_law_most"] (spF K mg D__law_sheet) :=
  fn_ok (sg := ⟨[4, 5, 8], (some 0)⟩) (F__law_sheet z) sc__law_sheet rfl rfl rfl fun cdv A outer s H E hr => (ss_cons (x_asg (i := 2) sc__law_sheet.nd (x_bin opAdd e_int (x_call false (ok__law_draw z) hr (g__law_draw z) (F__law_draw z).kp (B__law_draw z) tkD (x_st (ao_cons (x_var (i := 1)) ao_nil))))) (ss_cons (x_par2 sc__law_sheet.nd (m_new (x_lst (a_cons (x_tup (a_cons e_int (a_cons e_int a_nil))) (a_cons (x_tup (a_cons e_int (a_cons e_int a_nil))) (a_cons (x_tup (a_cons e_int (a_cons e_int a_nil))) a_nil)))) (m_new (x_lst a_nil) m_nil))) (ss_cons (s_for psD rfl (x_rng2 (n_range z) (a_cons e_int (a_cons (x_var (i := 2)) a_nil))) (x_gn (i := 3) sc__law_sheet.nd) (ss_cons (x_parT (m_old (x_pop (i := 4) (x_call false (ok__law_draw z) hr (g__law_draw z) (F__law_draw z).kp (B__law_draw z) tkD (x_st (ao_cons (x_callB callLen (n_len z) (a_cons (x_own (i := 4)) a_nil)) ao_nil)))) (m_old (x_tup (a_cons (x_var (i := 3)) (a_cons (x_call false (ok__law_draw z) hr (g__law_draw z) (F__law_draw z).kp (B__law_draw z) tkD (x_st (ao_cons e_int ao_nil))) a_nil))) m_nil)) (n_cons (i := 11) sc__law_sheet.nd (n_cons (i := 12) sc__law_sheet.nd n_nil))) (ss_cons (s_drop (x_app (i := 5) (x_tup (a_cons (x_var (i := 11)) (a_cons (x_var (i := 12)) a_nil))))) (ss_one (x_aso (i := 4) sc__law_sheet.nd (x_bin opAdd (x_own (i := 4)) (x_comp [("_law_k", 13)] sc__law_sheet.nd (x_rng1 (n_range z) (a_cons e_int a_nil)) (fun _ _ _ _ _ => (x_gn (i := 13) sc__law_sheet.nd)) (fun _ _ _ _ _ => (ts_one (t_cmp (opNe (Room.u66 hr)) (x_var (i := 13)) (x_ix (Room.u66 hr) (x_var (i := 12)) e_int)))) (fun _ _ _ _ _ => (x_tup (a_cons (x_var (i := 3)) (a_cons (x_var (i := 13)) a_nil))))))))))) (ss_cons (s_while psD (t_w (w_and (t_cmp opGt (x_callB callLen (n_len z) (a_cons (x_own (i := 4)) a_nil)) e_int) (w_and1 (t_cmp opGt (x_call false (ok__law_draw z) hr (g__law_draw z) (F__law_draw z).kp (B__law_draw z) tkD (x_st (ao_cons e_int ao_nil))) e_int)))) (ss_cons (x_asg (i := 6) sc__law_sheet.nd (x_pop (i := 4) (x_call false (ok__law_draw z) hr (g__law_draw z) (F__law_draw z).kp (B__law_draw z) tkD (x_st (ao_cons (x_callB callLen (n_len z) (a_cons (x_own (i := 4)) a_nil)) ao_nil))))) (ss_one (s_drop (x_app (i := 5) (x_tup (a_cons (x_var (i := 6)) (a_cons (x_pop (i := 4) (x_call false (ok__law_draw z) hr (g__law_draw z) (F__law_draw z).kp (B__law_draw z) tkD (x_st (ao_cons (x_callB callLen (n_len z) (a_cons (x_own (i := 4)) a_nil)) ao_nil)))) a_nil)))))))) (ss_cons (x_parT (m_old (x_bin opAdd (x_own (i := 5)) (x_comp [("_law_slot", 14)] sc__law_sheet.nd (i_seq (x_own (i := 4))) (fun _ _ _ _ _ => (x_gn (i := 14) sc__law_sheet.nd)) (fun _ _ _ _ _ => ts_nil) (fun _ _ _ _ _ => (x_tup (a_cons (x_var (i := 14)) a_nil))))) (m_new x_dict m_nil)) (n_cons (i := 7) sc__law_sheet.nd (n_cons (i := 8) sc__law_sheet.nd n_nil))) (ss_cons (s_for psD rfl (x_zip (n_zip z) (a_cons (x_call false (ok__law_order z) hr (g__law_order z) (F__law_order z).kp (B__law_order z) tkD (x_st (ao_cons (x_callB callLen (n_len z) (a_cons (x_var (i := 7)) a_nil)) ao_nil))) (a_cons (x_var (i := 7)) a_nil))) (g_tup rfl (gs_cons (x_gn (i := 9) sc__law_sheet.nd) (gs_cons (x_gn (i := 10) sc__law_sheet.nd) gs_nil))) (ss_cons (x_put (i := 8) (Room.u70 hr) (x_ix (Room.u66 hr) (x_var (i := 10)) e_int) (x_var (i := 9))) (ss_one (s_if (t_cmp (opEq (Room.u66 hr)) (x_callB callLen (n_len z) (a_cons (x_var (i := 10)) a_nil)) e_int) (ss_one (x_put (i := 8) (Room.u70 hr) (x_ix (Room.u66 hr) (x_var (i := 10)) e_int) (x_bin opSub (x_un unNeg e_int) (x_var (i := 9))))) ss_nil)))) (ss_one (s_ret (x_callTy callTuple (n_tuple z) (a_cons (x_comp [("_law_k", 13)] sc__law_sheet.nd (x_rng1 (n_range z) (a_cons (x_var (i := 2)) a_nil)) (fun _ _ _ _ _ => (x_gn (i := 13) sc__law_sheet.nd)) (fun _ _ _ _ _ => ts_nil) (fun _ _ _ _ _ => (x_callTy callTuple (n_tuple z) (a_cons (x_comp [("_law_j", 15)] sc__law_sheet.nd (x_rng1 (n_range z) (a_cons e_int a_nil)) (fun _ _ _ _ _ => (x_gn (i := 15) sc__law_sheet.nd)) (fun _ _ _ _ _ => ts_nil) (fun _ _ _ _ _ => (x_ix (Room.u66 hr) (x_var (i := 8)) (x_tup (a_cons (x_var (i := 13)) (a_cons (x_var (i := 15)) a_nil)))))) a_nil)))) a_nil))))))))))
theorem ok__law_closed (z : Zn hk P K mg) : FnOk P w K mg base (L2.CX P w) 1 (He.ga K "_law_closed") (fdO K (He.ga K "_law_closed")) ["_law_state", "_law_pick"] (spF K mg D__law_closed) :=
  fn_ok (sg := ⟨[], (some 0)⟩) (F__law_closed z) sc__law_closed rfl rfl rfl fun cdv A outer s H E hr => (ss_cons (s_if (t_cmp (opEq (Room.u66 hr)) (x_var (i := 1)) e_int) (ss_one (s_ret (x_tup (a_cons (x_tup (a_cons e_int (a_cons e_int (a_cons e_int a_nil)))) (a_cons (x_tup (a_cons (x_un unNeg e_int) (a_cons (x_un unNeg e_int) (a_cons (x_un unNeg e_int) a_nil)))) a_nil))))) ss_nil) (ss_cons (s_if (t_cmp (opEq (Room.u66 hr)) (x_var (i := 1)) e_int) (ss_one (s_ret (x_tup (a_cons (x_tup (a_cons e_int (a_cons e_int (a_cons e_int a_nil)))) (a_cons (x_tup (a_cons (x_un unNeg e_int) (a_cons (x_un unNeg e_int) (a_cons (x_un unNeg e_int) a_nil)))) a_nil))))) ss_nil) (ss_cons (s_if (t_cmp (opEq (Room.u66 hr)) (x_var (i := 1)) e_int) (ss_one (s_ret (x_tup (a_cons (x_tup (a_cons e_int (a_cons e_int (a_cons e_int a_nil)))) (a_cons (x_tup (a_cons (x_un unNeg e_int) (a_cons e_int (a_cons e_int a_nil)))) (a_cons (x_tup (a_cons (x_un unNeg e_int) (a_cons (x_un unNeg e_int) (a_cons e_int a_nil)))) (a_cons (x_tup (a_cons (x_un unNeg e_int) (a_cons (x_un unNeg e_int) (a_cons (x_un unNeg e_int) a_nil)))) a_nil))))))) ss_nil) (ss_one (s_ret (x_tup (a_cons (x_tup (a_cons e_int (a_cons e_int (a_cons e_int a_nil)))) (a_cons (x_tup (a_cons (x_un unNeg e_int) (a_cons (x_un unNeg e_int) (a_cons e_int a_nil)))) (a_cons (x_tup (a_cons (x_un unNeg e_int) (a_cons e_int (a_cons e_int a_nil)))) (a_cons (x_tup (a_cons (x_un unNeg e_int) (a_cons (x_un unNeg e_int) (a_cons (x_un unNeg e_int) a_nil)))) a_nil))))))))))
theorem ok__law_plain (z : Zn hk P K mg) : FnOk P w K mg base (L2.CX P w) 1 (He.ga K "_law_plain") (fdO K (He.ga K "_law_plain")) ["_law_sheet_here"] (spF K mg D__law_plain) :=
  fn_ok (sg := ⟨[1], none⟩) (F__law_plain z) sc__law_plain rfl rfl rfl fun cdv A outer s H E hr => (ss_cons (x_aso (i := 1) sc__law_plain.nd (x_lst a_nil)) (ss_cons (s_for psD rfl (i_seq (x_var (i := 0))) (x_gn (i := 2) sc__law_plain.nd) (ss_cons (x_asg (i := 3) sc__law_plain.nd (x_index (x_var (i := 2)) (x_callB (call_minN rfl (Room.u66 hr)) (n_min z) (a_cons (x_var (i := 2)) a_nil)))) (ss_one (s_drop (x_app (i := 1) (x_bin opAdd (x_cut (x_var (i := 2)) (o_some (x_var (i := 3))) o_none) (x_cut (x_var (i := 2)) o_none (o_some (x_var (i := 3)))))))))) (ss_one (s_ret (x_callTy callTuple (n_tuple z) (a_cons (x_callB (callSorted rfl (Room.u70 hr)) (n_sorted z) (a_cons (x_own (i := 1)) a_nil)) a_nil))))))
theorem ok__law_places (z : Zn hk P K mg) : FnOk P w K mg base (L2.CX P w) 1 (He.ga K "_law_places") (fdO K (He.ga K "_law_places")) ["_law_sheet_here"] (spF K mg D__law_places) :=
  fn_ok (sg := ⟨[1], none⟩) (F__law_places z) sc__law_places rfl rfl rfl fun cdv A outer s H E hr => (ss_cons (x_aso (i := 1) sc__law_places.nd x_dict) (ss_cons (s_for psD rfl (x_enum (n_enumerate z) (x_var (i := 0))) (g_tup rfl (gs_cons (x_gn (i := 2) sc__law_places.nd) (gs_cons (x_gn (i := 3) sc__law_places.nd) gs_nil))) (ss_one (s_for psD rfl (x_enum (n_enumerate z) (x_var (i := 3))) (g_tup rfl (gs_cons (x_gn (i := 4) sc__law_places.nd) (gs_cons (x_gn (i := 5) sc__law_places.nd) gs_nil))) (ss_one (x_put (i := 1) (Room.u70 hr) (x_var (i := 5)) (x_tup (a_cons (x_var (i := 2)) (a_cons (x_var (i := 4)) a_nil)))))))) (ss_one (s_ret (x_mv (i := 1))))))
theorem ok__law_edges (z : Zn hk P K mg) : FnOk P w K mg base (L2.CX P w) 1 (He.ga K "_law_edges") (fdO K (He.ga K "_law_edges")) ["_law_sheet_here"] (spF K mg D__law_edges) :=
  fn_ok (sg := ⟨[], none⟩) (F__law_edges z) sc__law_edges rfl rfl rfl fun cdv A outer s H E hr => (ss_one (s_ret (x_bin opAdd e_int (x_callB (call_maxN rfl (Room.u66 hr)) (n_max z) (a_cons (x_comp [("_law_triple", 1)] sc__law_edges.nd (i_seq (x_var (i := 0))) (fun _ _ _ _ _ => (x_gn (i := 1) sc__law_edges.nd)) (fun _ _ _ _ _ => ts_nil) (fun _ _ _ _ _ => (x_callB (call_maxN rfl (Room.u66 hr)) (n_max z) (a_cons (x_var (i := 1)) a_nil)))) a_nil)))))
theorem ok__law_triangle (z : Zn hk P K mg) : FnOk P w K mg base (L2.CX P w) 1 (He.ga K "_law_triangle") (fdO K (He.ga K "_law_triangle")) ["_law_numbers"] (spF K mg D__law_triangle) :=
  fn_ok (sg := ⟨[1], none⟩) (F__law_triangle z) sc__law_triangle rfl rfl rfl fun cdv A outer s H E hr => (ss_cons (x_aso (i := 1) sc__law_triangle.nd (x_lst a_nil)) (ss_cons (s_for psD rfl (x_rng1 (n_range z) (a_cons e_int a_nil)) (x_gn (i := 2) sc__law_triangle.nd) (ss_one (s_for psD rfl (x_rng1 (n_range z) (a_cons e_int a_nil)) (x_gn (i := 3) sc__law_triangle.nd) (ss_one (s_for psD rfl (x_rng1 (n_range z) (a_cons e_int a_nil)) (x_gn (i := 4) sc__law_triangle.nd) (ss_one (s_if (t_cmp (opEq (Room.u66 hr)) (x_lst (a_cons (x_bin opAdd (x_var (i := 3)) (x_var (i := 4))) (a_cons (x_bin opAdd (x_var (i := 4)) (x_var (i := 2))) (a_cons (x_bin opAdd (x_var (i := 2)) (x_var (i := 3))) a_nil)))) (x_var (i := 0))) (ss_one (s_drop (x_app (i := 1) (x_tup (a_cons (x_var (i := 2)) (a_cons (x_var (i := 3)) (a_cons (x_var (i := 4)) a_nil))))))) ss_nil))))))) (ss_one (s_ret (x_mv (i := 1))))))
theorem ok__law_choices (z : Zn hk P K mg) : FnOk P w K mg base (L2.CX P w) 2 (He.ga K "_law_choices") (fdO K (He.ga K "_law_choices")) ["_law_sheet_here", "_law_counts"] (spF K mg D__law_choices) :=
  fn_ok (sg := ⟨[], none⟩) (F__law_choices z) sc__law_choices rfl rfl rfl fun cdv A outer s H E hr => (ss_cons (x_asg (i := 2) sc__law_choices.nd (x_call false (ok__law_places z) hr (g__law_places z) (F__law_places z).kp (B__law_places z) tkD (ao_cons (x_var (i := 0)) ao_nil))) (ss_cons (s_for psD rfl (x_enum (n_enumerate z) (x_var (i := 1))) (g_tup rfl (gs_cons (x_gn (i := 5) sc__law_choices.nd) (gs_cons (x_gn (i := 6) sc__law_choices.nd) gs_nil))) (ss_one (s_if (t_w (w_and (t_cmp (opNotIn (Room.u66 hr)) (x_bin opSub (x_un unNeg e_int) (x_var (i := 5))) (x_var (i := 2))) (w_and1 (t_cmp opGt (x_var (i := 6)) e_int)))) (ss_one (s_ret (x_lst a_nil))) ss_nil))) (ss_cons (x_asg (i := 3) sc__law_choices.nd (x_lst (a_cons (x_tup a_nil) a_nil))) (ss_cons (s_for psD rfl (i_seq (x_var (i := 0))) (x_gn (i := 4) sc__law_choices.nd) (ss_cons (x_asg (i := 7) sc__law_choices.nd (x_lst a_nil)) (ss_cons (x_asgLc (i := 8) [("_law_side", 10)] sc__law_choices.nd (i_seq (x_var (i := 4))) (fun _ _ _ _ _ => (x_gn (i := 10) sc__law_choices.nd)) (fun _ _ _ _ _ => ts_nil) (fun _ _ _ _ _ => (x_ix (Room.u66 hr) (x_var (i := 1)) (x_callB (call_maxN rfl (Room.u66 hr)) (n_max z) (a_cons (x_var (i := 10)) (a_cons (x_bin opSub (x_un unNeg e_int) (x_var (i := 10))) a_nil)))))) (ss_cons (s_for psD rfl (i_seq (x_call false (ok__law_triangle z) hr (g__law_triangle z) (F__law_triangle z).kp (B__law_triangle z) tkD (ao_cons (x_var (i := 8)) ao_nil))) (x_gn (i := 9) sc__law_choices.nd) (ss_one (x_asg (i := 7) sc__law_choices.nd (x_bin opAdd (x_var (i := 7)) (x_comp [("_law_row", 11)] sc__law_choices.nd (i_seq (x_var (i := 3))) (fun _ _ _ _ _ => (x_gn (i := 11) sc__law_choices.nd)) (fun _ _ _ _ _ => ts_nil) (fun _ _ _ _ _ => (x_bin opAdd (x_var (i := 11)) (x_tup (a_cons (x_var (i := 9)) a_nil))))))))) (ss_one (x_asg (i := 3) sc__law_choices.nd (x_callTy (callList rfl) (n_list z) (a_cons (x_var (i := 7)) a_nil)))))))) (ss_one (s_ret (x_var (i := 3))))))))
end
end Q
end FL
namespace FL
open PySem PySem.Spec PyProof.Rows L2
namespace Q
section
variable {P : Program} {w : World} {K : PySem.W.Frag} {mg : Str → Option Value} {base : Heap}
theorem ok__law_all_rows (z : Zn hk P K mg) : FnOk P w K mg base (L2.CX P w) 1 (He.ga K "_law_all_rows") (fdO K (He.ga K "_law_all_rows")) ["_law_many_so", "_law_most"] (spF K mg D__law_all_rows) :=
  fn_ok (sg := ⟨[], none⟩) (F__law_all_rows z) sc__law_all_rows rfl rfl rfl fun cdv A outer s H E hr => (ss_cons (x_asg (i := 2) sc__law_all_rows.nd (x_lst (a_cons (x_tup a_nil) a_nil))) (ss_cons (s_for psD rfl (x_rng1 (n_range z) (a_cons (x_var (i := 0)) a_nil)) (x_gn (i := 3) sc__law_all_rows.nd) (ss_cons (x_asg (i := 4) sc__law_all_rows.nd (x_lst a_nil)) (ss_cons (s_for psD rfl (i_seq (x_var (i := 2))) (x_gn (i := 5) sc__law_all_rows.nd) (ss_one (x_asg (i := 4) sc__law_all_rows.nd (x_bin opAdd (x_var (i := 4)) (x_comp [("_law_number", 6)] sc__law_all_rows.nd (x_rng1 (n_range z) (a_cons (x_bin opAdd (x_var (i := 1)) e_int) a_nil)) (fun _ _ _ _ _ => (x_gn (i := 6) sc__law_all_rows.nd)) (fun _ _ _ _ _ => ts_nil) (fun _ _ _ _ _ => (x_bin opAdd (x_var (i := 5)) (x_tup (a_cons (x_var (i := 6)) a_nil))))))))) (ss_one (x_asg (i := 2) sc__law_all_rows.nd (x_callTy (callList rfl) (n_list z) (a_cons (x_var (i := 4)) a_nil))))))) (ss_one (s_ret (x_var (i := 2))))))
end
end Q
end FL
namespace FL
open PySem PySem.Spec PyProof.Rows L2
namespace Q
section
variable {P : Program} {w : World} {K : PySem.W.Frag} {mg : Str → Option Value} {base : Heap}
theorem ok__law_begin {T : List (Addr × Str)} (z : Zn hk P K mg) : FnOk P w K mg base (L2.CX P w) 1 (He.ga K "_law_begin") (fdO K (He.ga K "_law_begin")) ["_law_script"] (spB T begOk begF) :=
  fn_begin (N := ["_law_script", "_law_cells_so", "_law_cell"]) (F__law_begin z) sc__law_begin begD rfl fun cdv A outer s H E hr => pss_cons (x_aso (i := 1) sc__law_begin.nd (x_if (t_cmp (opNe (Room.u66 hr)) (x_var (i := 0)) (x_lst a_nil)) (x_callTy (callList rfl) (n_list z) (a_cons (x_var (i := 0)) a_nil)) (x_lst (a_cons e_int a_nil)))) (pss_one (ps_ret (e_begin (W := wE E) (by decide) rfl (.inl rfl) (x_comp [("_law_cell", 2)] sc__law_begin.nd (i_seq (x_own (i := 1))) (fun _ _ _ _ _ => (x_gn (i := 2) sc__law_begin.nd)) (fun _ _ _ _ _ => ts_nil) (fun _ _ _ _ _ => (x_if (t_cmp opGe (x_var (i := 2)) (x_bin opPow e_int e_int)) (x_var (i := 2)) e_int))))))
end
end Q
end FL
namespace FL
open PySem PySem.Spec PyProof.Rows L2
namespace Q
section
variable {P : Program} {w : World} {K : PySem.W.Frag} {mg : Str → Option Value} {base : Heap}
theorem ok__law_like (z : Zn hk P K mg) : FnG P w K mg base 1 (He.ga K "_law_like") (fdO K (He.ga K "_law_like")) ["_law_got", "_law_due"] (spF K mg D__law_like) :=
  fn_okG (sg := ⟨[], none⟩) (F__law_like z) sc__law_like rfl rfl rfl fun cdv A outer s H E hr hgd => (ss_one (s_ret (x_cmp (opEq (Room.u66 hr)) (x_callB (callRepr hgd (Room.u70 hr)) (n_repr z) (a_cons (x_var (i := 0)) a_nil)) (x_callB (callRepr hgd (Room.u70 hr)) (n_repr z) (a_cons (x_var (i := 1)) a_nil)))))
end
end Q
end FL
namespace FL
open PySem PySem.Spec PyProof.Rows L2
namespace Q
section
variable {P : Program} {w : World} {K : PySem.W.Frag} {mg : Str → Option Value} {base : Heap}
def clGA (K : PySem.W.Frag) : List CLG := [⟨He.ga K "BadSheet", "sheet", [.fld "place", .isa (He.ga K "FlipError")]⟩, ⟨He.ga K "BadLot", "lot", [.fld "value", .isa (He.ga K "FlipError")]⟩, ⟨He.ga K "BadKnob", "knob", [.fld "value", .isa (He.ga K "FlipError")]⟩, ⟨He.ga K "BadParameter", "parameter", [.fld "value", .isa (He.ga K "FlipError")]⟩, ⟨He.ga K "TooGreat", "great", [.fld "most", .isa (He.ga K "FlipError")]⟩]
def clGP (K : PySem.W.Frag) : List (CLGd × CLG) := [(⟨"BadSheet", "sheet", [.fld "place", .isa true]⟩, ⟨He.ga K "BadSheet", "sheet", [.fld "place", .isa (He.ga K "FlipError")]⟩), (⟨"BadLot", "lot", [.fld "value", .isa true]⟩, ⟨He.ga K "BadLot", "lot", [.fld "value", .isa (He.ga K "FlipError")]⟩), (⟨"BadKnob", "knob", [.fld "value", .isa true]⟩, ⟨He.ga K "BadKnob", "knob", [.fld "value", .isa (He.ga K "FlipError")]⟩), (⟨"BadParameter", "parameter", [.fld "value", .isa true]⟩, ⟨He.ga K "BadParameter", "parameter", [.fld "value", .isa (He.ga K "FlipError")]⟩), (⟨"TooGreat", "great", [.fld "most", .isa true]⟩, ⟨He.ga K "TooGreat", "great", [.fld "most", .isa (He.ga K "FlipError")]⟩)]
def tabs (K : PySem.W.Frag) : List (Addr × Str) := [((He.cT K ("law", none)).2, ("law" : Str) ++ ".<locals>." ++ "<lambda>")]
theorem clL (z : Zn hk P K mg) : ∀ p ∈ clGP K, HCLG K mg p.1 p.2 := (all_cons ⟨g_BadSheet z, rfl, (.fld (.isa (kisB_ok (lt_all z.more 0)) .nil))⟩ (all_cons ⟨g_BadLot z, rfl, (.fld (.isa (kisB_ok (lt_all z.more 1)) .nil))⟩ (all_cons ⟨g_BadKnob z, rfl, (.fld (.isa (kisB_ok (lt_all z.more 2)) .nil))⟩ (all_cons ⟨g_BadParameter z, rfl, (.fld (.isa (kisB_ok (lt_all z.more 3)) .nil))⟩ (all_cons ⟨g_TooGreat z, rfl, (.fld (.isa (kisB_ok (lt_all z.more 4)) .nil))⟩ all_nil)))))
theorem clX (z : Zn hk P K mg) : ∀ p ∈ clGP K, ∀ q ∈ clGP K, PySem.W.exmOne K (.ref q.2.C) (.ref p.2.C) = some (decide (q.1.cls = p.1.cls)) := (all_cons (all_cons (m_BadSheet_BadSheet z) (all_cons (m_BadLot_BadSheet z) (all_cons (m_BadKnob_BadSheet z) (all_cons (m_BadParameter_BadSheet z) (all_cons (m_TooGreat_BadSheet z) all_nil))))) (all_cons (all_cons (m_BadSheet_BadLot z) (all_cons (m_BadLot_BadLot z) (all_cons (m_BadKnob_BadLot z) (all_cons (m_BadParameter_BadLot z) (all_cons (m_TooGreat_BadLot z) all_nil))))) (all_cons (all_cons (m_BadSheet_BadKnob z) (all_cons (m_BadLot_BadKnob z) (all_cons (m_BadKnob_BadKnob z) (all_cons (m_BadParameter_BadKnob z) (all_cons (m_TooGreat_BadKnob z) all_nil))))) (all_cons (all_cons (m_BadSheet_BadParameter z) (all_cons (m_BadLot_BadParameter z) (all_cons (m_BadKnob_BadParameter z) (all_cons (m_BadParameter_BadParameter z) (all_cons (m_TooGreat_BadParameter z) all_nil))))) (all_cons (all_cons (m_BadSheet_TooGreat z) (all_cons (m_BadLot_TooGreat z) (all_cons (m_BadKnob_TooGreat z) (all_cons (m_BadParameter_TooGreat z) (all_cons (m_TooGreat_TooGreat z) all_nil))))) all_nil)))))
theorem gives {X : Cx} {cdg : Value} {qn : Str} (z : Zn hk X.prog X.K X.mg) : LamX.GivesTo X ["_law_call", "_law_told", "error_so"] "_law_heard" (defScope s__law_heard) (He.ga X.K "_law_heard") cdg (defBody s__law_heard) "_law_call" qn (TTG X.K "is" (clGA X.K)) :=
  heard_givesG (it := 1) (ie := 2) sc__law_heard.nd rfl rfl rfl rfl (by decide) (by decide) (by decide) (by decide) (fun _ => rfl) fun s H => (.cons ⟨rfl, by decide, .inl (g_BadSheet z)⟩ (fun a oe cls d pn hz hf => cl_suiteG (c := ⟨He.ga X.K "BadSheet", "sheet", [.fld "place", .isa (He.ga X.K "FlipError")]⟩) (it := 1) (ie := 2) (Nat.le_of_ble_eq_true rfl) sc__law_heard.nd rfl (.inl rfl) (.inr rfl) (pt_fld hz hf (k_BadSheet z).xf (k_BadSheet z).inc.nof rfl (.inl rfl) (by decide) (by decide) (pt_isa hz hf (k_BadSheet z).ex rfl (.inl rfl) (by decide) (by decide) rfl (g_FlipError z) (by decide) rfl (n_isinstance z) pt_nil))) (.cons ⟨rfl, by decide, .inl (g_BadLot z)⟩ (fun a oe cls d pn hz hf => cl_suiteG (c := ⟨He.ga X.K "BadLot", "lot", [.fld "value", .isa (He.ga X.K "FlipError")]⟩) (it := 1) (ie := 2) (Nat.le_of_ble_eq_true rfl) sc__law_heard.nd rfl (.inl rfl) (.inr rfl) (pt_fld hz hf (k_BadLot z).xf (k_BadLot z).inc.nof rfl (.inl rfl) (by decide) (by decide) (pt_isa hz hf (k_BadLot z).ex rfl (.inl rfl) (by decide) (by decide) rfl (g_FlipError z) (by decide) rfl (n_isinstance z) pt_nil))) (.cons ⟨rfl, by decide, .inl (g_BadKnob z)⟩ (fun a oe cls d pn hz hf => cl_suiteG (c := ⟨He.ga X.K "BadKnob", "knob", [.fld "value", .isa (He.ga X.K "FlipError")]⟩) (it := 1) (ie := 2) (Nat.le_of_ble_eq_true rfl) sc__law_heard.nd rfl (.inl rfl) (.inr rfl) (pt_fld hz hf (k_BadKnob z).xf (k_BadKnob z).inc.nof rfl (.inl rfl) (by decide) (by decide) (pt_isa hz hf (k_BadKnob z).ex rfl (.inl rfl) (by decide) (by decide) rfl (g_FlipError z) (by decide) rfl (n_isinstance z) pt_nil))) (.cons ⟨rfl, by decide, .inl (g_BadParameter z)⟩ (fun a oe cls d pn hz hf => cl_suiteG (c := ⟨He.ga X.K "BadParameter", "parameter", [.fld "value", .isa (He.ga X.K "FlipError")]⟩) (it := 1) (ie := 2) (Nat.le_of_ble_eq_true rfl) sc__law_heard.nd rfl (.inl rfl) (.inr rfl) (pt_fld hz hf (k_BadParameter z).xf (k_BadParameter z).inc.nof rfl (.inl rfl) (by decide) (by decide) (pt_isa hz hf (k_BadParameter z).ex rfl (.inl rfl) (by decide) (by decide) rfl (g_FlipError z) (by decide) rfl (n_isinstance z) pt_nil))) (.cons ⟨rfl, by decide, .inl (g_TooGreat z)⟩ (fun a oe cls d pn hz hf => cl_suiteG (c := ⟨He.ga X.K "TooGreat", "great", [.fld "most", .isa (He.ga X.K "FlipError")]⟩) (it := 1) (ie := 2) (Nat.le_of_ble_eq_true rfl) sc__law_heard.nd rfl (.inl rfl) (.inr rfl) (pt_fld hz hf (k_TooGreat z).xf (k_TooGreat z).inc.nof rfl (.inl rfl) (by decide) (by decide) (pt_isa hz hf (k_TooGreat z).ex rfl (.inl rfl) (by decide) (by decide) rfl (g_FlipError z) (by decide) rfl (n_isinstance z) pt_nil))) .nil)))))
theorem x_heard {X : Cx} {sg : Sta} {W : WX} {params : Arguments} {body : Expr} {scope : Scope} {p lpos pos : Pos} {j : Nat} {T : List (Addr × Str)} {c Pa : Addr} {d : DE} {p1 f1 : Bool} (k : Nat) (z : Zn hk X.prog X.K X.mg) (hr : Room j X.A) (TB : LamX.TabB X.base X.mg c Pa)
    (hT : (Pa, X.env.qual ++ "<lambda>") ∈ T ∧ ∀ p ∈ T, p.1 = Pa → p.2 = X.env.qual ++ "<lambda>")
    (hbody : ∀ (A : Around) (outer : List PySem.Env) (s : Shared) (H : Hp) (E : XK) (f c1 : Addr), Room k (A.deeper (LamX.lamEnv X scope s.heap.objs.size f c1)) → PE (LamX.lamCx X A outer s H E scope f c1) body (tE X.K X.mg sg (wE E) false p1 f1 d)) (hc : X.env.code = .ref c := by rfl) (hj : k + 2 ≤ j := by decide)
    (L : LamX.lamSB X.env.scope scope = true := by rfl) (hdef : defaultsOf params X.env = ([], []) := by rfl) (hbind : ∀ (qn : Str) (cl : List (Str × Addr)) (pm cv ctv : Value), bindArgs (PySem.W.kla_fn "<lambda>" qn params body scope cl pm cv ctv) ⟨[], []⟩ = pure [] := by intros; rfl) (hg : Gl X "_law_heard" := by rfl) :
    PE X (.Call (.Name "_law_heard" p) [.Lambda params body scope lpos] [] pos) (tE X.K X.mg sg W false false true (dHeardG T "is" clsG d)) := by
  obtain ⟨oc, od, kV, doc, pm, an, cdv, ct, osl, e, lk, hcd⟩ := (F__law_heard z).ex
  have hb := B__law_heard z
  rw [e] at hb lk
  exact e_heardG (L := clGP X.K) (clL z) (clX z) (pe_lamK hg (g__law_heard z) (F__law_heard z).kp lk hcd hb sc__law_heard rfl (.inl rfl) (gives z) TB hc hT.1 hT.2 (hr.mono hj) (LamX.lamS_by L) hdef hbind hbody)
theorem hT_law (z : Zn hk P K mg) : ((He.cT K ("law", none)).2, ("law" : Str) ++ ".<locals>." ++ "<lambda>") ∈ tabs K ∧ ∀ p ∈ tabs K, p.1 = (He.cT K ("law", none)).2 → p.2 = ("law" : Str) ++ ".<locals>." ++ "<lambda>" := ⟨.head _, (all_cons (fun _ => rfl) all_nil)⟩
end
end Q
end FL
namespace FL
open PySem PySem.Spec PyProof.Rows L2
namespace Q
section
variable {P : Program} {w : World} {K : PySem.W.Frag} {mg : Str → Option Value} {base : Heap}
theorem ok_law (z : Zn hk P K mg) (TB : ∀ p ∈ hkTf, LamX.TabB base mg (He.cT K p).1 (He.cT K p).2) : FnG P w K mg base 8 (He.ga K "law") (fdO K (He.ga K "law")) ["_law_script"] (spLaw K (tabs K) 8 (d_law (tabs K))) :=
  fn_law (sg := ⟨[], (some 1)⟩) (F_law z) sc_law rfl rfl rfl fun A outer s H E hr hgd => (ss_cons (s_begin (i := 1) (j := 0) (ok__law_begin z) (hr.mono (by decide)) rfl (g__law_begin z) (F__law_begin z).kp (B__law_begin z) tkD sc_law.nd rfl (by first | exact .inl rfl | exact .inr (.inl rfl)) (by decide) rfl (by first | exact .inl rfl | exact .inr rfl) rfl (by decide)) (ss_cons (x_asg (i := 2) sc_law.nd (x_if (t_cmp opGt (x_call false (ok__law_draw z) hr (g__law_draw z) (F__law_draw z).kp (B__law_draw z) tkD (x_st (ao_cons e_int ao_nil))) e_int) (x_call false (ok__law_sheet z) hr (g__law_sheet z) (F__law_sheet z).kp (B__law_sheet z) tkD (x_st (ao_cons e_int ao_nil))) (x_call false (ok__law_closed z) hr (g__law_closed z) (F__law_closed z).kp (B__law_closed z) tkD (x_st (ao_cons (x_call false (ok__law_draw z) hr (g__law_draw z) (F__law_draw z).kp (B__law_draw z) tkD (x_st (ao_cons e_int ao_nil))) ao_nil))))) (ss_cons (x_asg (i := 3) sc_law.nd (x_call false (ok__law_plain z) hr (g__law_plain z) (F__law_plain z).kp (B__law_plain z) tkD (ao_cons (x_var (i := 2)) ao_nil))) (ss_cons (s_for psD rfl (i_seq (x_call false (ok__law_all_rows z) hr (g__law_all_rows z) (F__law_all_rows z).kp (B__law_all_rows z) tkD (ao_cons (x_call false (ok__law_edges z) hr (g__law_edges z) (F__law_edges z).kp (B__law_edges z) tkD (ao_cons (x_var (i := 2)) ao_nil)) (ao_cons (x_if (t_cmp opLt (x_call false (ok__law_edges z) hr (g__law_edges z) (F__law_edges z).kp (B__law_edges z) tkD (ao_cons (x_var (i := 2)) ao_nil)) e_int) e_int e_int) ao_nil)))) (x_gn (i := 4) sc_law.nd) (ss_cons (x_asg (i := 5) sc_law.nd (x_call false (ok__law_choices z) hr (g__law_choices z) (F__law_choices z).kp (B__law_choices z) tkD (ao_cons (x_var (i := 3)) (ao_cons (x_var (i := 4)) ao_nil)))) (ss_cons (x_asg (i := 6) sc_law.nd (x_heard 5 z hr (TB _ (.head _)) (hT_law z) (fun A outer s H E f c1 hr => (x_call false (ok_need_lot z) hr (g_need_lot z) (F_need_lot z).kp (B_need_lot z) tkL (ao_cons (x_var (i := 2)) (ao_cons (x_var (i := 4)) ao_nil)))))) (ss_cons (s_if (t_w (w_or (t_cmp opGt (x_callB callLen (n_len z) (a_cons (x_var (i := 5)) a_nil)) e_int) (w_or1 (t_not (x_val (x_callG false (ok__law_like z) hr hgd (g__law_like z) (F__law_like z).kp (B__law_like z) tkD (ao_cons (x_var (i := 6)) (ao_cons (x_if (t_cmp (opNe (Room.u66 hr)) (x_var (i := 5)) (x_lst a_nil)) (x_tup (a_cons e_str (a_cons (x_var (i := 4)) a_nil))) (x_tup (a_cons e_str (a_cons (x_var (i := 4)) (a_cons e_bl a_nil))))) ao_nil)))))))) (ss_one (s_ret e_bl)) ss_nil) (ss_one (s_if (t_cmp (opNe (Room.u66 hr)) (x_var (i := 5)) (x_lst a_nil)) (ss_cons (s_if (t_not (x_val (x_callG false (ok__law_like z) hr hgd (g__law_like z) (F__law_like z).kp (B__law_like z) tkD (ao_cons (x_call false (ok_corner_counts z) hr (g_corner_counts z) (F_corner_counts z).kp (B_corner_counts z) tkD (ao_cons (x_var (i := 2)) (ao_cons (x_var (i := 4)) ao_nil))) (ao_cons (x_ix (Room.u66 hr) (x_var (i := 5)) e_int) ao_nil))))) (ss_one (s_ret e_bl)) ss_nil) (ss_one (s_if (t_not (x_val (x_callG false (ok__law_like z) hr hgd (g__law_like z) (F__law_like z).kp (B__law_like z) tkD (ao_cons (x_callB callLen (n_len z) (a_cons (x_call false (ok_strands z) hr (g_strands z) (F_strands z).kp (B_strands z) tkD (ao_cons (x_var (i := 2)) (ao_cons (x_var (i := 4)) ao_nil))) a_nil)) (ao_cons (x_callB (callSum rfl) (n_sum z) (a_cons (x_comp [("_law_choice", 7)] sc_law.nd (i_seq (x_ix (Room.u66 hr) (x_var (i := 5)) e_int)) (fun _ _ _ _ _ => (x_gn (i := 7) sc_law.nd)) (fun _ _ _ _ _ => ts_nil) (fun _ _ _ _ _ => (x_callB (callSum rfl) (n_sum z) (a_cons (x_var (i := 7)) a_nil)))) a_nil)) ao_nil))))) (ss_one (s_ret e_bl)) ss_nil))) ss_nil)))))) (ss_one (s_ret e_bl))))))
end
end Q
end FL
namespace FL
open PySem PySem.Spec PyProof.Rows L2
namespace Q
def loose0 : List PySem.Str := ["FlipError", "BadSheet", "BadLot", "BadKnob", "BadParameter", "TooGreat", "MOST_TRIANGLES", "MOST_EDGE", "MOST_COUNT", "MOST_POINTS", "is_from", "edge_of", "turned_to", "plain_of", "sides_at", "count_edges", "is_joined", "check_sides", "need_sheet", "rims_of", "counts_in", "is_lot", "check_lot", "need_lot", "corners_in", "corners_so", "corner_counts", "check_laid", "point_at", "joined_points"]
def loose1 : List PySem.Str := ["strands_so", "strands", "_law_mixed", "_law_begin", "_law_draw", "_law_order", "_law_sheet", "_law_closed", "_law_plain", "_law_places", "_law_edges", "_law_heard", "_law_like", "_law_triangle", "_law_choices", "_law_all_rows"]
def loose : List PySem.Str := loose0 ++ loose1
abbrev R : PySem.W.OpenRow := PySem.W.OpenLaw.row PySem.Challenge.rw_flipsheets_k07_whole_counts_by_all_corne
def ob (s : PySem.W.SharedT) : AlF := hk.obs 6 (HandSHeadRun.getT s)
theorem ob_eq (s : PySem.W.SharedT) : ob s = (hk.hook 6).obs s.abs := Hk.obs_eq (HandSHeadRun.getT_eq s)
theorem head_run (w : World) : HandSHeadRun.RunEq R (PySem.W.view R.prog [51]) (hk.hook 6) ob 100000 loose w := by
  intro os
  kernel_rfl
end Q
end FL
namespace FL
open PySem PySem.Spec PyProof.Rows L2
namespace Q
theorem law_at (plain : ∀ (T : List (Addr × Str)) (ns : List Int), ns.length ≤ 63 → ∃ ρ' o', d_law T (some (.list (ns.map .int)) :: List.replicate 7 none) ⟨none, T⟩ = .ok (.ret (.bool true)) ρ' o') (w : World) (mg : Str → Option Value) (fa : Addr) (h : Heap) (Y : ∃ K : PySem.W.Frag, K.In h ∧ hk.Says h K) (G : h.Ns mainGlobals mg) (e : mg "law" = some (.ref fa)) : ∃ K : PySem.W.Frag, K.In h ∧ LawG PySem.Challenge.rw_flipsheets_k07_whole_counts_by_all_corne w K 8 63 "_law_script" mg fa h := by
  obtain ⟨K, X, c⟩ := Y
  have z : Zn hk (PySem.Challenge.rw_flipsheets_k07_whole_counts_by_all_corne).prog K mg := ⟨⟨h, X, G, c⟩, by decide +kernel, rfl⟩
  have ea := (g_law z).symm.trans e
  cases ea
  have hno : noLst K = true := lt_all z.more 5
  refine ⟨K, X, fdO K (He.ga K "law"), hkTf.map (He.cT K), spLaw K (tabs K) 8 (d_law (tabs K)), fun p hp => ?_, fun p hp => ?_, fun p hp => ?_, fun s u => ?_, fun H a ns hl hT S hne => ?_, fun base X2 G2 TB => ok_law z fun p hp => TB _ (List.mem_map_of_mem hp)⟩
  · obtain ⟨y, hy, rfl⟩ := List.mem_map.mp hp
    exact c.empty y hy
  · obtain ⟨y, hy, rfl⟩ := List.mem_map.mp hp
    exact c.out y hy
  · obtain ⟨y, hy, rfl⟩ := List.mem_map.mp hp
    exact PySem.W.codeHd_of_K X (c.hd y hy)
  · obtain ⟨oc, od, kV, doc, pm, an, cdv, ct, osl, e, _⟩ := (F_law z).ex
    rw [e]
    exact BindsTo.of_eq rfl
  · exact ⟨a, ns, rfl, S, hno, (all_cons ⟨hT _ (List.mem_map_of_mem (f := He.cT K) (show (("law", none) : He.Defn) ∈ hkTf from .head _)), hne _ (List.mem_map.mpr ⟨_, List.mem_map_of_mem (f := He.cT K) (show (("law", none) : He.Defn) ∈ hkTf from .head _), rfl⟩)⟩ all_nil), plain (tabs K) ns hl, fun _ => rfl⟩
end Q
end FL
open PySem PySem.W PySem.Calls PyProof.Rows
theorem FL.Q.holds_of (plain : ∀ (T : List (Addr × Str)) (ns : List Int), ns.length ≤ 63 → ∃ ρ' o', FL.Q.d_law T (some (.list (ns.map .int)) :: List.replicate 7 none) ⟨none, T⟩ = .ok (.ret (.bool true)) ρ' o') : PySem.Challenge.rw_flipsheets_k07_whole_counts_by_all_corne.Holds := by
  w_on; o_law
  refine HandSHeadRun.head_any (r := OpenLaw.row PySem.Challenge.rw_flipsheets_k07_whole_counts_by_all_corne) (q := view (OpenLaw.row PySem.Challenge.rw_flipsheets_k07_whole_counts_by_all_corne).prog [51]) (H := FL.Q.hk.hook 6) (ob := FL.Q.ob) (M := 100000) (loose := FL.Q.loose) (d := HandSHeadRun.topDef (OpenLaw.row PySem.Challenge.rw_flipsheets_k07_whole_counts_by_all_corne).prog 51) (kwd := []) FL.Q.ob_eq
    (by kernel_rfl) (fun s => by kernel_rfl) FL.Q.head_run (by kernel_rfl) (by kernel_rfl) (by kernel_rfl) (by rfl) (by first | assumption | decide +kernel) (by decide +kernel) ⟨rfl, rfl, rfl, rfl, rfl, by decide +kernel⟩ ?hw ?hc
  case hw => w_witness2
  case hc =>
    refine FL.walk_ofG (l := PySem.Challenge.rw_flipsheets_k07_whole_counts_by_all_corne) (n := 63) (k := 8) (x := "_law_script") rfl (by decide) (by kernel_rfl) ⟨rfl, by decide, by decide⟩ ?F (fun w H s e s' h => FL.cx_no h)
    intro w mg fa h Y G hmg0
    have hmg : mg ("law" : PySem.Str) = some (.ref fa) := by
      have e : (HandSHeadRun.topDef (OpenLaw.row PySem.Challenge.rw_flipsheets_k07_whole_counts_by_all_corne).prog 51).name = ("law" : PySem.Str) := by kernel_rfl
      rw [← e]
      exact hmg0
    exact FL.Q.law_at plain w mg fa h Y G hmg
namespace FL
def rot {α : Type} (l : List α) (i : Nat) : List α := l.drop i ++ l.take i
theorem map_rot {α β : Type} (f : α → β) (l : List α) (i : Nat) : (rot l i).map f = rot (l.map f) i := by
  unfold rot
  rw [List.map_append, List.map_drop, List.map_take]
theorem rot_length {α : Type} (l : List α) (i : Nat) : (rot l i).length = l.length := by
  unfold rot
  simp
  omega
theorem rot_perm {α : Type} (l : List α) (i : Nat) : (rot l i).Perm l := by
  unfold rot
  exact (List.perm_append_comm).trans (by rw [List.take_append_drop])
theorem rot_zero {α : Type} (l : List α) : rot l 0 = l := by simp [rot]
/-- one row is another one begun elsewhere -/
def Tn {α : Type} (x y : List α) : Prop := ∃ a b, x = a ++ b ∧ y = b ++ a
theorem Tn.refl {α : Type} (x : List α) : Tn x x := ⟨[], x, rfl, by simp⟩
theorem Tn.symm {α : Type} {x y : List α} : Tn x y → Tn y x := fun ⟨a, b, h1, h2⟩ => ⟨b, a, h2, h1⟩
theorem Tn.trans {α : Type} {x y z : List α} (h1 : Tn x y) (h2 : Tn y z) : Tn x z := by
  obtain ⟨a, b, rfl, rfl⟩ := h1
  obtain ⟨c, d, e, rfl⟩ := h2
  rcases List.append_eq_append_iff.mp e with ⟨u, rfl, rfl⟩ | ⟨u, rfl, rfl⟩
  · exact ⟨u, d ++ b, by simp, by simp⟩
  · exact ⟨a ++ c, u, by simp, by simp⟩
theorem Tn.perm {α : Type} {x y : List α} : Tn x y → x.Perm y := fun ⟨a, b, h1, h2⟩ => by rw [h1, h2]; exact List.perm_append_comm
theorem Tn.length {α : Type} {x y : List α} (h : Tn x y) : x.length = y.length := h.perm.length_eq
theorem Tn.mem {α : Type} {x y : List α} (h : Tn x y) {z : α} : z ∈ x ↔ z ∈ y := h.perm.mem_iff
theorem Tn.map {α β : Type} (f : α → β) {x y : List α} : Tn x y → Tn (x.map f) (y.map f) := fun ⟨a, b, h1, h2⟩ => ⟨a.map f, b.map f, by simp [h1], by simp [h2]⟩
theorem Tn.reverse {α : Type} {x y : List α} : Tn x y → Tn x.reverse y.reverse := fun ⟨a, b, h1, h2⟩ => ⟨b.reverse, a.reverse, by simp [h1], by simp [h2]⟩
theorem tn_rot {α : Type} (x : List α) (i : Nat) : Tn x (rot x i) := ⟨x.take i, x.drop i, by simp, rfl⟩
theorem tn_iff {α : Type} {x y : List α} (hx : x ≠ []) : Tn x y ↔ ∃ i, i < x.length ∧ y = rot x i := by
  constructor
  · rintro ⟨a, b, rfl, rfl⟩
    by_cases hb : b = []
    · subst hb
      refine ⟨0, List.length_pos_iff.mpr hx, by simp [rot]⟩
    · refine ⟨a.length, ?_, by simp [rot]⟩
      have := List.length_pos_iff.mpr hb
      simp
      omega
  · rintro ⟨i, _, rfl⟩
    exact tn_rot x i

/-- each item stands to the next one as told -/
def Chn {α : Type} (R : α → α → Prop) : List α → Prop
  | [] => True
  | [_] => True
  | x :: y :: l => R x y ∧ Chn R (y :: l)
theorem chn_cons2 {α : Type} {R : α → α → Prop} {x y : α} {l : List α} : Chn R (x :: y :: l) ↔ R x y ∧ Chn R (y :: l) := Iff.rfl
theorem chn_app {α : Type} {R : α → α → Prop} : ∀ {l : List α} {x y : α} {k : List α}, Chn R (l ++ x :: y :: k) ↔ Chn R (l ++ [x]) ∧ R x y ∧ Chn R (y :: k)
  | [], x, y, k => by simp [Chn]
  | [z], x, y, k => by simp [Chn, and_assoc]
  | z :: w :: l, x, y, k => by
    have h := chn_app (R := R) (l := w :: l) (x := x) (y := y) (k := k)
    simp only [List.cons_append, chn_cons2] at h ⊢
    rw [h, and_assoc]
/-- a row whose last item stands to its first one, too -/
def Cyc {α : Type} (R : α → α → Prop) : List α → Prop
  | [] => True
  | x :: l => Chn R (x :: l ++ [x])
theorem cyc_swap {α : Type} {R : α → α → Prop} : ∀ {a b : List α}, Cyc R (a ++ b) → Cyc R (b ++ a)
  | [], b, h => by simpa using h
  | x :: a, [], h => by simpa using h
  | x :: a, y :: b, h => by
    have h' : Chn R ((x :: a) ++ y :: (b ++ [x])) := by simpa [Cyc] using h
    show Chn R (y :: (b ++ x :: a) ++ [y])
    have e1 : ∃ c z, x :: a = c ++ [z] := ⟨(x :: a).dropLast, (x :: a).getLast (by simp), (List.dropLast_concat_getLast (by simp)).symm⟩
    obtain ⟨c, z, e1⟩ := e1
    rw [e1] at h'
    rw [List.append_assoc, List.singleton_append, chn_app] at h'
    obtain ⟨h1, h2, h3⟩ := h'
    rw [← e1] at h1
    have e2 : ∃ d w, y :: b = d ++ [w] := ⟨(y :: b).dropLast, (y :: b).getLast (by simp), (List.dropLast_concat_getLast (by simp)).symm⟩
    obtain ⟨d, w, e2⟩ := e2
    have e3 : y :: (b ++ x :: a) ++ [y] = d ++ w :: x :: (a ++ [y]) := by
      have : y :: (b ++ x :: a) ++ [y] = (y :: b) ++ x :: (a ++ [y]) := by simp
      rw [this, e2]
      simp
    rw [e3, chn_app]
    have h3' : Chn R (d ++ w :: x :: []) := by
      have : y :: (b ++ [x]) = d ++ w :: x :: [] := by
        have : y :: (b ++ [x]) = (y :: b) ++ [x] := by simp
        rw [this, e2]
        simp
      rw [← this]
      exact h3
    obtain ⟨h4, h5, _⟩ := chn_app.mp h3'
    refine ⟨h4, h5, ?_⟩
    have e4 : x :: (a ++ [y]) = c ++ z :: y :: [] := by
      have : x :: (a ++ [y]) = (x :: a) ++ [y] := by simp
      rw [this, e1]
      simp
    rw [e4, chn_app]
    exact ⟨by rw [← e1]; exact h1, h2, trivial⟩
theorem Tn.cyc {α : Type} {R : α → α → Prop} {x y : List α} (h : Tn x y) (c : Cyc R x) : Cyc R y := by
  obtain ⟨a, b, rfl, rfl⟩ := h
  exact cyc_swap c
theorem chn_rev {α : Type} {R : α → α → Prop} : ∀ {l : List α}, Chn R l → Chn (fun a b => R b a) l.reverse
  | [], _ => trivial
  | [_], _ => trivial
  | x :: y :: l, h => by
    have ih := chn_rev h.2
    rw [List.reverse_cons] at ih
    rw [List.reverse_cons, List.reverse_cons, List.append_assoc, List.singleton_append, chn_app]
    exact ⟨ih, h.1, trivial⟩
theorem chn_map {α β : Type} {R : β → β → Prop} (f : α → β) : ∀ {l : List α}, Chn R (l.map f) ↔ Chn (fun a b => R (f a) (f b)) l
  | [] => Iff.rfl
  | [_] => Iff.rfl
  | x :: y :: l => by
    have ih := chn_map (R := R) f (l := y :: l)
    simp only [List.map_cons, chn_cons2] at ih ⊢
    rw [ih]
theorem chn_imp {α : Type} {R S : α → α → Prop} : ∀ {l : List α}, (∀ a b, a ∈ l → b ∈ l → R a b → S a b) → Chn R l → Chn S l
  | [], _, _ => trivial
  | [_], _, _ => trivial
  | x :: y :: l, h, c => ⟨h _ _ (by simp) (by simp) c.1, chn_imp (fun a b ha hb => h a b (List.mem_cons_of_mem _ ha) (List.mem_cons_of_mem _ hb)) c.2⟩
theorem cyc_rev {α : Type} {R : α → α → Prop} {l : List α} (h : Cyc R l) : Cyc (fun a b => R b a) l.reverse := by
  cases l with
  | nil => trivial
  | cons x l =>
    have h1 := chn_rev (show Chn R (x :: l ++ [x]) from h)
    have e : (x :: l ++ [x]).reverse = x :: l.reverse ++ [x] := by simp
    rw [e] at h1
    have h2 : Cyc (fun a b => R b a) (x :: l.reverse) := h1
    have := cyc_swap (a := [x]) (b := l.reverse) h2
    simpa using this
theorem cyc_map {α β : Type} {R : β → β → Prop} (f : α → β) {l : List α} : Cyc R (l.map f) ↔ Cyc (fun a b => R (f a) (f b)) l := by
  cases l with
  | nil => exact Iff.rfl
  | cons x l =>
    have := chn_map (R := R) f (l := x :: l ++ [x])
    simpa [Cyc] using this
theorem cyc_imp {α : Type} {R S : α → α → Prop} {l : List α} (h : ∀ a b, a ∈ l → b ∈ l → R a b → S a b) (c : Cyc R l) : Cyc S l := by
  cases l with
  | nil => trivial
  | cons x l => exact chn_imp (fun a b ha hb => h a b (by simpa [or_comm, or_assoc] using ha) (by simpa [or_comm, or_assoc] using hb)) (show Chn R (x :: l ++ [x]) from c)
/-- by places: each item and the one ahead of it -/
theorem cyc_ix {α : Type} {R : α → α → Prop} {l : List α} (h : Cyc R l) (i : Nat) (hi : i < l.length) : R (l[(i + l.length - 1) % l.length]'(Nat.mod_lt _ (by omega))) l[i] := by
  have c : Chn R (l.drop i ++ l.take i ++ [l[i]]) := by
    have h1 : Cyc R (l.drop i ++ l.take i) := (tn_rot l i).cyc h
    have e0 : l.drop i ++ l.take i = l[i] :: (l.drop (i + 1) ++ l.take i) := by rw [List.drop_eq_getElem_cons hi]; rfl
    rw [e0] at h1 ⊢
    exact h1
  have e : ∃ d, l.drop i ++ l.take i = d ++ [l[(i + l.length - 1) % l.length]'(Nat.mod_lt _ (by omega))] := by
    have hne : l.drop i ++ l.take i ≠ [] := by
      intro q
      have := congrArg List.length q
      simp at this
      omega
    refine ⟨(l.drop i ++ l.take i).dropLast, ?_⟩
    conv => lhs; rw [← List.dropLast_concat_getLast hne]
    congr 2
    rw [List.getLast_eq_getElem]
    by_cases h0 : i = 0
    · subst h0
      simp only [List.drop_zero, List.take_zero, List.append_nil]
      congr 1
      rw [Nat.zero_add, Nat.mod_eq_of_lt (by omega)]
    · have e1 : (i + l.length - 1) % l.length = i - 1 := by
        have : i + l.length - 1 = (i - 1) + l.length := by omega
        rw [this, Nat.add_mod_right, Nat.mod_eq_of_lt (by omega)]
      rw [List.getElem_append_right (by simp; omega)]
      rw [List.getElem_take]
      congr 1
      simp
      omega
  obtain ⟨d, e⟩ := e
  rw [e, List.append_assoc, List.singleton_append, chn_app] at c
  exact c.2.1
theorem cyc_of_ix {α : Type} {R : α → α → Prop} {l : List α} (h : ∀ i (hi : i < l.length), R (l[(i + l.length - 1) % l.length]'(Nat.mod_lt _ (by omega))) l[i]) : Cyc R l := by
  have key : ∀ {k : List α}, (∀ i (hi : i + 1 < k.length), R k[i] k[i + 1]) → Chn R k := by
    intro k
    induction k with
    | nil => intro _; trivial
    | cons x k ih =>
      intro hk
      cases k with
      | nil => trivial
      | cons y k => exact ⟨hk 0 (by simp), ih fun i hi => hk (i + 1) (by simpa using hi)⟩
  cases l with
  | nil => trivial
  | cons x l =>
    refine key fun i hi => ?_
    simp only [List.cons_append, List.length_cons, List.length_append, List.length_nil] at hi
    by_cases hl : i + 1 < l.length + 1
    · have := h (i + 1) (by simpa using hl)
      have e1 : (i + 1 + (x :: l).length - 1) % (x :: l).length = i := by
        have : i + 1 + (x :: l).length - 1 = i + (x :: l).length := by omega
        rw [this, Nat.add_mod_right, Nat.mod_eq_of_lt (by simp; omega)]
      simp only [e1] at this
      rw [List.getElem_append_left (by simp; omega), List.getElem_append_left (by simp; omega)]
      exact this
    · have e0 : i = l.length := by omega
      subst e0
      have := h 0 (by simp)
      have e1 : (0 + (x :: l).length - 1) % (x :: l).length = l.length := by
        have : 0 + (x :: l).length - 1 = l.length := by simp
        rw [this, Nat.mod_eq_of_lt (by simp)]
      simp only [e1] at this
      rw [List.getElem_append_left (by simp), List.getElem_append_right (by simp)]
      simpa using this

theorem rows_irrefl (x : List Int) : ¬ x < x := List.lt_irrefl x
theorem rows_tri {x y : List Int} (h1 : ¬ x < y) (h2 : ¬ y < x) : x = y := List.le_antisymm (List.not_lt.mp h2) (List.not_lt.mp h1)
theorem rows_trans {x y z : List Int} (h1 : x < y) (h2 : y < z) : x < z := List.lt_trans h1 h2
/-- the least of some rows -/
def lmin (x : List Int) (xs : List (List Int)) : List Int := xs.foldl (fun a y => if y < a then y else a) x
theorem lmin_spec : ∀ (xs : List (List Int)) (x : List Int), lmin x xs ∈ x :: xs ∧ ∀ y ∈ x :: xs, ¬ y < lmin x xs
  | [], x => ⟨List.mem_cons_self, fun y hy => by
    rcases List.mem_cons.mp hy with rfl | h
    · exact rows_irrefl _
    · cases h⟩
  | y :: xs, x => by
    have e : lmin x (y :: xs) = lmin (if y < x then y else x) xs := rfl
    obtain ⟨h1, h2⟩ := lmin_spec xs (if y < x then y else x)
    rw [e]
    refine ⟨?_, fun z hz => ?_⟩
    · rcases List.mem_cons.mp h1 with h | h
      · rw [h]
        split
        · exact List.mem_cons_of_mem _ List.mem_cons_self
        · exact List.mem_cons_self
      · exact List.mem_cons_of_mem _ (List.mem_cons_of_mem _ h)
    · have h0 := h2 _ List.mem_cons_self
      rcases List.mem_cons.mp hz with rfl | hz
      · by_cases hy : y < z
        · rw [if_pos hy] at h0 ⊢
          exact fun q => h0 (rows_trans hy q)
        · rw [if_neg hy] at h0 ⊢
          exact h0
      · rcases List.mem_cons.mp hz with rfl | hz
        · by_cases hy : z < x
          · rw [if_pos hy] at h0 ⊢
            exact h0
          · rw [if_neg hy] at h0 ⊢
            intro q
            by_cases hx : x = z
            · subst hx; exact h0 q
            · have hxz : x < z := by
                rcases Decidable.em (x < z) with h | h
                · exact h
                · exact absurd (rows_tri h hy) hx
              exact h0 (rows_trans hxz q)
        · exact h2 z (List.mem_cons_of_mem _ hz)
/-- the least is known by what it is the least of -/
theorem lmin_unique {x y : List Int} {xs ys : List (List Int)} (h : ∀ z, z ∈ x :: xs ↔ z ∈ y :: ys) : lmin x xs = lmin y ys := by
  obtain ⟨a1, a2⟩ := lmin_spec xs x
  obtain ⟨b1, b2⟩ := lmin_spec ys y
  exact rows_tri (fun q => b2 _ ((h _).mp a1) q) (fun q => a2 _ ((h _).mpr b1) q)
theorem lmin_is {x m : List Int} {xs : List (List Int)} (h1 : m ∈ x :: xs) (h2 : ∀ z ∈ x :: xs, ¬ z < m) : lmin x xs = m := by
  obtain ⟨a1, a2⟩ := lmin_spec xs x
  exact rows_tri (h2 _ a1) (a2 _ h1)

def rle (x y : List Int) : Bool := decide (¬ y < x)
def rsort (xs : List (List Int)) : List (List Int) := xs.mergeSort rle
def isort (xs : List Int) : List Int := xs.mergeSort (fun a b => decide (a ≤ b))
theorem rle_trans (a b c : List Int) (h1 : rle a b = true) (h2 : rle b c = true) : rle a c = true := by
  unfold rle at *
  rw [decide_eq_true_eq] at *
  intro h
  by_cases e : a = b
  · subst e; exact h2 h
  · have : a < b := by
      rcases Decidable.em (a < b) with q | q
      · exact q
      · exact absurd (rows_tri q h1) e
    exact h2 (rows_trans h this)
theorem rle_total (a b : List Int) : (rle a b || rle b a) = true := by
  unfold rle
  rw [Bool.or_eq_true, decide_eq_true_eq, decide_eq_true_eq]
  by_cases h : b < a
  · exact .inr fun q => rows_irrefl _ (rows_trans h q)
  · exact .inl h
theorem rsort_perm (xs : List (List Int)) : (rsort xs).Perm xs := List.mergeSort_perm _ _
theorem rsort_sorted (xs : List (List Int)) : (rsort xs).Pairwise (fun a b => rle a b = true) := List.pairwise_mergeSort rle_trans rle_total xs
theorem rsort_of {xs : List (List Int)} (h : xs.Pairwise (fun a b => rle a b = true)) : rsort xs = xs := List.mergeSort_of_pairwise h
theorem isort_perm (xs : List Int) : (isort xs).Perm xs := List.mergeSort_perm _ _
theorem isort_sorted (xs : List Int) : (isort xs).Pairwise (fun a b => a ≤ b) := by
  have := List.pairwise_mergeSort (le := fun a b : Int => decide (a ≤ b)) (fun a b c h1 h2 => by rw [decide_eq_true_eq] at *; omega) (fun a b => by rw [Bool.or_eq_true, decide_eq_true_eq, decide_eq_true_eq]; omega) xs
  exact this.imp fun h => by simpa using h
/-- two strictly rising rows with the same members are one -/
theorem rise_ext : ∀ {xs ys : List Int}, xs.Pairwise (· < ·) → ys.Pairwise (· < ·) → (∀ z, z ∈ xs ↔ z ∈ ys) → xs = ys
  | [], [], _, _, _ => rfl
  | [], y :: ys, _, _, h => absurd ((h y).mpr List.mem_cons_self) (by simp)
  | x :: xs, [], _, _, h => absurd ((h x).mp List.mem_cons_self) (by simp)
  | x :: xs, y :: ys, hx, hy, h => by
    obtain ⟨hx1, hx2⟩ := List.pairwise_cons.mp hx
    obtain ⟨hy1, hy2⟩ := List.pairwise_cons.mp hy
    have e : x = y := by
      rcases List.mem_cons.mp ((h x).mp List.mem_cons_self) with e | e
      · exact e
      · rcases List.mem_cons.mp ((h y).mpr List.mem_cons_self) with e' | e'
        · exact e'.symm
        · have := hy1 x e
          have := hx1 y e'
          omega
    subst e
    congr 1
    refine rise_ext hx2 hy2 fun z => ⟨fun hz => ?_, fun hz => ?_⟩
    · rcases List.mem_cons.mp ((h z).mp (List.mem_cons_of_mem _ hz)) with e | e
      · have := hx1 z hz; omega
      · exact e
    · rcases List.mem_cons.mp ((h z).mpr (List.mem_cons_of_mem _ hz)) with e | e
      · have := hy1 z hz; omega
      · exact e
theorem isort_rise {xs : List Int} (h : xs.Nodup) : (isort xs).Pairwise (· < ·) := by
  have h1 := isort_sorted xs
  have h2 : (isort xs).Nodup := (isort_perm xs).nodup_iff.mpr h
  exact (h1.and h2).imp fun {a b} ⟨h, n⟩ => by omega
end FL
namespace FL
/-- the other side of a side's edge -/
def ng (x : Int) : Int := -1 - x
theorem ng_ng (x : Int) : ng (ng x) = x := by unfold ng; omega
theorem ng_inj {x y : Int} : ng x = ng y ↔ x = y := by unfold ng; omega
/-- gone the other way round -/
def bk (l : List Int) : List Int := (l.map ng).reverse
theorem bk_bk (l : List Int) : bk (bk l) = l := by
  unfold bk
  rw [List.map_reverse, List.reverse_reverse, List.map_map]
  have : ng ∘ ng = id := funext ng_ng
  rw [this, List.map_id]
theorem bk_length (l : List Int) : (bk l).length = l.length := by simp [bk]
theorem mem_bk {l : List Int} {x : Int} : x ∈ bk l ↔ ng x ∈ l := by
  unfold bk
  rw [List.mem_reverse, List.mem_map]
  constructor
  · rintro ⟨y, h, rfl⟩
    rw [ng_ng]
    exact h
  · intro h
    exact ⟨_, h, ng_ng x⟩
theorem bk_ne {l : List Int} (h : l ≠ []) : bk l ≠ [] := by
  intro q
  have := congrArg List.length q
  rw [bk_length] at this
  exact h (List.length_eq_zero_iff.mp this)
theorem Tn.bk {x y : List Int} (h : Tn x y) : Tn (FL.bk x) (FL.bk y) := (h.map ng).reverse
/-- the same closed row, begun anywhere, gone either way -/
def Fm (x y : List Int) : Prop := Tn x y ∨ Tn (bk x) y
theorem Fm.refl (x : List Int) : Fm x x := .inl (Tn.refl x)
theorem Fm.symm {x y : List Int} : Fm x y → Fm y x
  | .inl h => .inl h.symm
  | .inr h => .inr (by have := h.bk.symm; rwa [bk_bk] at this)
theorem Fm.trans {x y z : List Int} : Fm x y → Fm y z → Fm x z
  | .inl h, .inl k => .inl (h.trans k)
  | .inl h, .inr k => .inr (h.bk.trans k)
  | .inr h, .inl k => .inr (h.trans k)
  | .inr h, .inr k => .inl (by have := h.bk.trans k; rwa [bk_bk] at this)
theorem Fm.length {x y : List Int} : Fm x y → x.length = y.length
  | .inl h => h.length
  | .inr h => (bk_length x).symm.trans h.length
def rots (x : List Int) : List (List Int) := (List.range x.length).map (rot x)
theorem mem_rots {x y : List Int} (hx : x ≠ []) : y ∈ rots x ↔ Tn x y := by
  rw [tn_iff hx]
  unfold rots
  rw [List.mem_map]
  constructor
  · rintro ⟨i, h, rfl⟩
    exact ⟨i, List.mem_range.mp h, rfl⟩
  · rintro ⟨i, h, rfl⟩
    exact ⟨i, List.mem_range.mpr h, rfl⟩
def frms (x : List Int) : List (List Int) := rots x ++ rots (bk x)
theorem mem_frms {x y : List Int} (hx : x ≠ []) : y ∈ frms x ↔ Fm x y := by
  unfold frms
  rw [List.mem_append, mem_rots hx, mem_rots (bk_ne hx)]
  rfl
/-- the least form -/
def lst (x : List Int) : List Int := match frms x with
  | [] => []
  | a :: l => lmin a l
theorem frms_cons {x : List Int} (hx : x ≠ []) : ∃ a l, frms x = a :: l := by
  have : frms x ≠ [] := by
    have : x ∈ frms x := (mem_frms hx).mpr (Fm.refl x)
    exact List.ne_nil_of_mem this
  exact ⟨_, _, (List.cons_head_tail this).symm⟩
theorem lst_form {x : List Int} (hx : x ≠ []) : Fm x (lst x) := by
  obtain ⟨a, l, e⟩ := frms_cons hx
  rw [← mem_frms hx]
  unfold lst
  rw [e]
  exact (lmin_spec l a).1
theorem lst_le {x y : List Int} (hx : x ≠ []) (h : Fm x y) : ¬ y < lst x := by
  obtain ⟨a, l, e⟩ := frms_cons hx
  rw [← mem_frms hx] at h
  unfold lst
  rw [e] at h ⊢
  exact (lmin_spec l a).2 _ h
theorem Fm.ne {x y : List Int} (h : Fm x y) (hx : x ≠ []) : y ≠ [] := by
  intro q
  have := h.length
  rw [q] at this
  exact hx (List.length_eq_zero_iff.mp this)
theorem lst_eq {x y : List Int} (hx : x ≠ []) (h : Fm x y) : lst x = lst y := by
  have hy := h.ne hx
  exact rows_tri (fun q => lst_le hy (h.symm.trans (lst_form hx)) q) (fun q => lst_le hx (h.trans (lst_form hy)) q)
theorem lst_ne {x : List Int} (hx : x ≠ []) : lst x ≠ [] := (lst_form hx).ne hx
theorem lst_lst {x : List Int} (hx : x ≠ []) : lst (lst x) = lst x := (lst_eq hx (lst_form hx)).symm
theorem lst_length {x : List Int} (hx : x ≠ []) : (lst x).length = x.length := (lst_form hx).length.symm
theorem lst_is {x m : List Int} (hx : x ≠ []) (h1 : Fm x m) (h2 : ∀ y, Fm x y → ¬ y < m) : lst x = m :=
  rows_tri (fun q => h2 _ (lst_form hx) q) (fun q => lst_le hx h1 q)
/-- the least form, found step by step -/
theorem lst_step {x : List Int} (hx : x ≠ []) : ∀ (n : Nat), (List.range n).foldl (fun f k => lmin f [rot x k, rot (bk x) k]) x = lmin x ((List.range n).flatMap fun k => [rot x k, rot (bk x) k])
  | 0 => rfl
  | n + 1 => by
    rw [List.range_succ, List.foldl_append, lst_step hx n, List.flatMap_append]
    simp [lmin]
theorem lst_fold {x : List Int} (hx : x ≠ []) : (List.range x.length).foldl (fun f k => lmin f [rot x k, rot (bk x) k]) x = lst x := by
  rw [lst_step hx]
  refine (lst_is hx ?_ ?_).symm
  · have h := (lmin_spec ((List.range x.length).flatMap fun k => [rot x k, rot (bk x) k]) x).1
    rcases List.mem_cons.mp h with h | h
    · rw [h]; exact Fm.refl x
    · obtain ⟨k, _, h⟩ := List.mem_flatMap.mp h
      simp only [List.mem_cons, List.not_mem_nil, or_false] at h
      rcases h with h | h
      · rw [h]; exact .inl (tn_rot x k)
      · rw [h]; exact .inr (tn_rot (bk x) k)
  · intro y hy
    refine (lmin_spec _ x).2 y (List.mem_cons_of_mem _ (List.mem_flatMap.mpr ?_))
    rcases hy with h | h
    · obtain ⟨i, hi, rfl⟩ := (tn_iff hx).mp h
      exact ⟨i, List.mem_range.mpr hi, by simp⟩
    · obtain ⟨i, hi, rfl⟩ := (tn_iff (bk_ne hx)).mp h
      rw [bk_length] at hi
      exact ⟨i, List.mem_range.mpr hi, by simp⟩
end FL
namespace FL
def edg (x : Int) : Int := if 0 ≤ x then x else -1 - x
/-- a sheet -/
structure Sht (s : List (List Int)) : Prop where
  ne : s ≠ []
  len : s.length ≤ 8
  tri : ∀ t ∈ s, t.length = 3
  nd : s.flatten.Nodup
  bd : ∀ x ∈ s.flatten, -12 ≤ x ∧ x ≤ 11
  all : ∀ x ∈ s.flatten, ∀ e, 0 ≤ e → e ≤ edg x → e ∈ s.flatten
  conn : ∀ S : Int → Prop, (∀ t ∈ s, ∀ x ∈ t, ∀ y ∈ t, S x → S y) → (∀ x, x ∈ s.flatten → ng x ∈ s.flatten → S x → S (ng x)) → (∃ x, x ∈ s.flatten ∧ S x) → ∀ x ∈ s.flatten, S x
theorem Sht.perm {s u : List (List Int)} (h : Sht s) (p : u.Perm s) : Sht u := by
  have q := p.flatten
  refine ⟨fun e => h.ne (by rw [e] at p; exact p.symm.eq_nil), p.length_eq ▸ h.len, fun t ht => h.tri t (p.mem_iff.mp ht), q.nodup_iff.mpr h.nd, fun x hx => h.bd x (q.mem_iff.mp hx), fun x hx e h1 h2 => q.mem_iff.mpr (h.all x (q.mem_iff.mp hx) e h1 h2), ?_⟩
  intro S h1 h2 ⟨x, hx, h3⟩ y hy
  exact h.conn S (fun t ht => h1 t (p.mem_iff.mpr ht)) (fun x hx hy => h2 x (q.mem_iff.mpr hx) (q.mem_iff.mpr hy)) ⟨x, q.mem_iff.mp hx, h3⟩ y (q.mem_iff.mp hy)
theorem flatten_map_perm (f : List Int → List Int) : ∀ {s : List (List Int)}, (∀ t ∈ s, (f t).Perm t) → (s.map f).flatten.Perm s.flatten
  | [], _ => List.Perm.refl _
  | t :: s, h => by
    simp only [List.map_cons, List.flatten_cons]
    exact (h t List.mem_cons_self).append (flatten_map_perm f fun t ht => h t (List.mem_cons_of_mem _ ht))
theorem Sht.map {s : List (List Int)} (h : Sht s) (f : List Int → List Int) (p : ∀ t ∈ s, (f t).Perm t) : Sht (s.map f) := by
  have q := flatten_map_perm f p
  refine ⟨fun e => h.ne (List.map_eq_nil_iff.mp e), by simpa using h.len, fun t ht => ?_, q.nodup_iff.mpr h.nd, fun x hx => h.bd x (q.mem_iff.mp hx), fun x hx e h1 h2 => q.mem_iff.mpr (h.all x (q.mem_iff.mp hx) e h1 h2), ?_⟩
  · obtain ⟨u, hu, rfl⟩ := List.mem_map.mp ht
    exact (p u hu).length_eq.trans (h.tri u hu)
  · intro S h1 h2 ⟨x, hx, h3⟩ y hy
    refine h.conn S (fun t ht x hx y hy => ?_) (fun x hx hy => h2 x (q.mem_iff.mpr hx) (q.mem_iff.mpr hy)) ⟨x, q.mem_iff.mp hx, h3⟩ y (q.mem_iff.mp hy)
    exact h1 _ (List.mem_map_of_mem ht) x ((p t ht).mem_iff.mpr hx) y ((p t ht).mem_iff.mpr hy)

def mnI (t : List Int) : Int := match t with
  | [] => 0
  | a :: l => l.foldl min a
theorem foldl_min_le : ∀ (l : List Int) (a : Int), l.foldl min a ≤ a ∧ ∀ x ∈ l, l.foldl min a ≤ x
  | [], a => ⟨Int.le_refl _, by simp⟩
  | b :: l, a => by
    obtain ⟨h1, h2⟩ := foldl_min_le l (min a b)
    simp only [List.foldl_cons]
    refine ⟨by omega, fun x hx => ?_⟩
    rcases List.mem_cons.mp hx with rfl | hx
    · omega
    · exact h2 x hx
theorem foldl_min_mem : ∀ (l : List Int) (a : Int), l.foldl min a ∈ a :: l
  | [], a => by simp
  | b :: l, a => by
    have h := foldl_min_mem l (min a b)
    simp only [List.foldl_cons]
    rcases List.mem_cons.mp h with h | h
    · rw [h]
      rcases Int.le_total a b with q | q
      · rw [Int.min_eq_left q]; simp
      · rw [Int.min_eq_right q]; simp
    · exact List.mem_cons_of_mem _ (List.mem_cons_of_mem _ h)
theorem mnI_mem {t : List Int} (h : t ≠ []) : mnI t ∈ t := by
  cases t with
  | nil => exact absurd rfl h
  | cons a l => exact foldl_min_mem l a
theorem mnI_le {t : List Int} {x : Int} (h : x ∈ t) : mnI t ≤ x := by
  cases t with
  | nil => cases h
  | cons a l =>
    rcases List.mem_cons.mp h with rfl | h
    · exact (foldl_min_le l x).1
    · exact (foldl_min_le l a).2 x h
def plT (t : List Int) : List Int := rot t (t.idxOf (mnI t))
def plainL (s : List (List Int)) : List (List Int) := rsort (s.map plT)
/-- plain: each triangle begins with its least side, ascending -/
structure Pln (s : List (List Int)) : Prop where
  beg : ∀ t ∈ s, t.idxOf (mnI t) = 0
  asc : s.Pairwise (fun a b => rle a b = true)
theorem plT_perm (t : List Int) : (plT t).Perm t := rot_perm _ _
theorem mnI_perm {t u : List Int} (h : t.Perm u) : mnI t = mnI u := by
  cases ht : t with
  | nil =>
    rw [ht] at h
    rw [h.symm.eq_nil]
  | cons a l =>
    have n1 : t ≠ [] := by rw [ht]; simp
    have n2 : u ≠ [] := fun e => n1 (by rw [e] at h; exact h.eq_nil)
    rw [← ht]
    have h1 := mnI_le (h.mem_iff.mp (mnI_mem n1))
    have h2 := mnI_le (h.mem_iff.mpr (mnI_mem n2))
    omega
theorem plT_beg {t : List Int} (h : t ≠ []) : (plT t).idxOf (mnI (plT t)) = 0 := by
  rw [mnI_perm (plT_perm t)]
  unfold plT rot
  have hm := mnI_mem h
  have hi : t.idxOf (mnI t) < t.length := List.idxOf_lt_length_of_mem hm
  rw [List.drop_eq_getElem_cons hi]
  have e : t[t.idxOf (mnI t)] = mnI t := List.getElem_idxOf hi
  rw [List.cons_append, List.idxOf_cons, e]
  simp
theorem Sht.plain {s : List (List Int)} (h : Sht s) : Sht (plainL s) := (h.map plT fun t _ => plT_perm t).perm (rsort_perm _)
theorem Sht.pln {s : List (List Int)} (h : Sht s) : Pln (plainL s) := by
  refine ⟨fun t ht => ?_, rsort_sorted _⟩
  obtain ⟨u, hu, rfl⟩ := List.mem_map.mp ((rsort_perm _).mem_iff.mp ht)
  exact plT_beg (by intro e; have := h.tri u hu; rw [e] at this; simp at this)
theorem Pln.eq {s : List (List Int)} (h : Pln s) : plainL s = s := by
  unfold plainL
  have e : s.map plT = s := by
    conv => rhs; rw [← List.map_id s]
    apply List.map_congr_left
    intro t ht
    unfold plT
    rw [h.beg t ht, rot_zero]
    rfl
  rw [e]
  exact rsort_of h.asc
theorem plainL_length (s : List (List Int)) : (plainL s).length = s.length := by
  unfold plainL
  rw [(rsort_perm _).length_eq, List.length_map]

def num (s : List (List Int)) (x : Int) : Nat := s.findIdx fun t => decide (x ∈ t)
def tri (s : List (List Int)) (x : Int) : List Int := (s[num s x]?).getD []
theorem num_lt {s : List (List Int)} {x : Int} (h : x ∈ s.flatten) : num s x < s.length := by
  obtain ⟨t, ht, hx⟩ := List.mem_flatten.mp h
  exact List.findIdx_lt_length_of_exists ⟨t, ht, by simpa using hx⟩
theorem num_get {s : List (List Int)} {x : Int} (h : x ∈ s.flatten) : s[num s x]? = some (tri s x) := by
  unfold tri
  rw [List.getElem?_eq_getElem (num_lt h)]
  rfl
theorem tri_mem {s : List (List Int)} {x : Int} (h : x ∈ s.flatten) : tri s x ∈ s := List.mem_of_getElem? (num_get h)
theorem mem_tri {s : List (List Int)} {x : Int} (h : x ∈ s.flatten) : x ∈ tri s x := by
  have h1 := num_lt h
  have e := num_get h
  rw [List.getElem?_eq_getElem h1] at e
  have := List.findIdx_getElem (p := fun t => decide (x ∈ t)) (xs := s) (w := h1)
  have e2 : s[num s x] = tri s x := Option.some.inj e
  rw [← e2]
  exact of_decide_eq_true this
theorem nodup_two {s : List (List Int)} (nd : s.flatten.Nodup) : ∀ {i j : Nat} {t u : List Int} {x : Int}, s[i]? = some t → s[j]? = some u → x ∈ t → x ∈ u → i = j := by
  induction s with
  | nil => intro i j t u x h; simp at h
  | cons v s ih =>
    intro i j t u x h1 h2 h3 h4
    rw [List.flatten_cons, List.nodup_append] at nd
    obtain ⟨n1, n2, n3⟩ := nd
    cases i with
    | zero =>
      cases j with
      | zero => rfl
      | succ j =>
        simp at h1 h2
        subst h1
        exact absurd rfl (n3 x h3 x (List.mem_flatten.mpr ⟨u, List.mem_of_getElem? h2, h4⟩))
    | succ i =>
      cases j with
      | zero =>
        simp at h1 h2
        subst h2
        exact absurd rfl (n3 x h4 x (List.mem_flatten.mpr ⟨t, List.mem_of_getElem? h1, h3⟩))
      | succ j =>
        simp at h1 h2
        rw [ih n2 h1 h2 h3 h4]
section
variable {s : List (List Int)} (nd : s.flatten.Nodup)
include nd
theorem num_at {i : Nat} {t : List Int} {x : Int} (h : s[i]? = some t) (hx : x ∈ t) : num s x = i := by
  have hf : x ∈ s.flatten := List.mem_flatten.mpr ⟨t, List.mem_of_getElem? h, hx⟩
  exact nodup_two nd (num_get hf) h (mem_tri hf) hx
theorem tri_of {t : List Int} {x : Int} (h : t ∈ s) (hx : x ∈ t) : tri s x = t := by
  obtain ⟨i, hi⟩ := List.mem_iff_getElem?.mp h
  unfold tri
  rw [num_at nd hi hx, hi]
  rfl
theorem num_eq {x y : Int} (hx : x ∈ s.flatten) (hy : y ∈ s.flatten) : num s x = num s y ↔ x ∈ tri s y := by
  constructor
  · intro e
    have h := mem_tri hx
    unfold tri at h ⊢
    rw [e] at h
    exact h
  · intro h
    exact num_at nd (num_get hy) h
theorem tri_tri {x y : Int} (hx : x ∈ s.flatten) (h : y ∈ tri s x) : tri s y = tri s x := tri_of nd (tri_mem hx) h
end
theorem flat_of_tri {s : List (List Int)} {x y : Int} (hx : x ∈ s.flatten) (h : y ∈ tri s x) : y ∈ s.flatten := List.mem_flatten.mpr ⟨_, tri_mem hx, h⟩

/-- a side that is glued -/
def Gl (s : List (List Int)) (x : Int) : Prop := x ∈ s.flatten ∧ ng x ∈ s.flatten
/-- from a side on to another one, not back -/
def On (s : List (List Int)) (a b : Int) : Prop := b ∈ tri s (ng a) ∧ b ≠ ng a
structure Wk (s : List (List Int)) (w : List Int) : Prop where
  ne : w ≠ []
  gl : ∀ x ∈ w, Gl s x
  cyc : Cyc (On s) w
theorem Gl.ng {s : List (List Int)} {x : Int} (h : Gl s x) : Gl s (FL.ng x) := ⟨h.2, by rw [ng_ng]; exact h.1⟩
theorem Wk.form {s : List (List Int)} (nd : s.flatten.Nodup) {w v : List Int} (h : Wk s w) (f : Fm w v) : Wk s v := by
  have key : ∀ {w : List Int}, Wk s w → Wk s (bk w) := by
    intro w h
    refine ⟨bk_ne h.ne, fun x hx => ?_, ?_⟩
    · have := (h.gl _ (mem_bk.mp hx)).ng
      rwa [ng_ng] at this
    · unfold bk
      rw [← List.map_reverse, cyc_map]
      refine cyc_imp (fun a b ha hb r => ?_) (cyc_rev h.cyc)
      obtain ⟨r1, r2⟩ := r
      have ga := h.gl a (List.mem_reverse.mp ha)
      have gb := h.gl b (List.mem_reverse.mp hb)
      refine ⟨?_, fun e => r2 ?_⟩
      · rw [ng_ng]
        have := tri_tri nd gb.2 r1
        rw [this]
        exact mem_tri gb.2
      · rw [ng_ng] at e
        exact e.symm
  have turn : ∀ {w v : List Int}, Wk s w → Tn w v → Wk s v := fun h t =>
    ⟨fun e => h.ne (List.length_eq_zero_iff.mp (by rw [t.length, e]; rfl)), fun x hx => h.gl x (t.mem.mpr hx), t.cyc h.cyc⟩
  rcases f with f | f
  · exact turn h f
  · exact turn (key h) f
theorem Wk.lst {s : List (List Int)} (nd : s.flatten.Nodup) {w : List Int} (h : Wk s w) : Wk s (lst w) := h.form nd (lst_form h.ne)

def lastI (w : List Int) : Int := w.getLastD 0
def headI (w : List Int) : Int := w.headD 0
def nexts (s : List (List Int)) (w : List Int) : List Int := (tri s (ng (lastI w))).filter fun x => decide (x ≠ ng (lastI w)) && decide (ng x ∈ s.flatten)
def stepL (s : List (List Int)) (line : List (List Int)) : List (List Int) := line.flatMap fun w => (nexts s w).map fun x => w ++ [x]
def closes (s : List (List Int)) (w : List Int) : Bool := decide (headI w ∈ tri s (ng (lastI w))) && decide (headI w ≠ ng (lastI w))
def addW (found : List (List Int)) (w : List Int) : List (List Int) := if w ∈ found then found else found ++ [w]
def putsL (s : List (List Int)) (line found : List (List Int)) : List (List Int) := line.foldl (fun f w => if closes s w = true then addW f (lst w) else f) found
def line0 (s : List (List Int)) : List (List Int) := ((isort s.flatten).filter fun x => decide (ng x ∈ s.flatten)).map fun x => [x]
def listL (s : List (List Int)) : Nat → List (List Int) × List (List Int)
  | 0 => (line0 s, [])
  | n + 1 => (stepL s (listL s n).1, putsL s (listL s n).1 (listL s n).2)
/-- the walks that are listed -/
def walksL (s : List (List Int)) (n : Nat) : List (List Int) := (listL s n).2
/-- a row that is gone along -/
structure Rw (s : List (List Int)) (w : List Int) : Prop where
  ne : w ≠ []
  gl : ∀ x ∈ w, Gl s x
  chn : Chn (On s) w
theorem lastI_mem {w : List Int} (h : w ≠ []) : lastI w ∈ w := by
  unfold lastI
  rw [List.getLastD_eq_getLast?, List.getLast?_eq_some_getLast h]
  exact List.getLast_mem h
theorem headI_mem {w : List Int} (h : w ≠ []) : headI w ∈ w := by
  cases w with
  | nil => exact absurd rfl h
  | cons a l => simp [headI]
theorem split_last {w : List Int} (h : w ≠ []) : w = w.dropLast ++ [lastI w] := by
  conv => lhs; rw [← List.dropLast_concat_getLast h]
  unfold lastI
  rw [List.getLastD_eq_getLast?, List.getLast?_eq_some_getLast h]
  rfl
theorem Rw.next {s : List (List Int)} {w : List Int} (h : Rw s w) {x : Int} (hx : x ∈ nexts s w) : Rw s (w ++ [x]) := by
  unfold nexts at hx
  rw [List.mem_filter] at hx
  simp only [Bool.and_eq_true, decide_eq_true_eq] at hx
  obtain ⟨h1, h2, h3⟩ := hx
  have gl := h.gl _ (lastI_mem h.ne)
  refine ⟨by simp, fun y hy => ?_, ?_⟩
  · rcases List.mem_append.mp hy with hy | hy
    · exact h.gl y hy
    · simp only [List.mem_cons, List.not_mem_nil, or_false] at hy
      subst hy
      exact ⟨flat_of_tri gl.2 h1, h3⟩
  · rw [split_last h.ne, List.append_assoc, List.singleton_append, chn_app]
    exact ⟨by rw [← split_last h.ne]; exact h.chn, ⟨h1, h2⟩, trivial⟩
theorem Rw.walk {s : List (List Int)} {w : List Int} (h : Rw s w) (c : closes s w = true) : Wk s w := by
  unfold closes at c
  simp only [Bool.and_eq_true, decide_eq_true_eq] at c
  refine ⟨h.ne, h.gl, ?_⟩
  cases hw : w with
  | nil => trivial
  | cons a l =>
    have e : headI w = a := by rw [hw]; rfl
    show Chn (On s) (a :: l ++ [a])
    rw [← hw, split_last h.ne, List.append_assoc, List.singleton_append, chn_app, ← split_last h.ne]
    exact ⟨h.chn, by rw [← e]; exact ⟨c.1, c.2⟩, trivial⟩
theorem mem_addW {f : List (List Int)} {w v : List Int} : v ∈ addW f w ↔ v ∈ f ∨ v = w := by
  unfold addW
  split
  · constructor
    · exact .inl
    · rintro (h | rfl)
      · exact h
      · assumption
  · simp
theorem nodup_addW {f : List (List Int)} {w : List Int} (h : f.Nodup) : (addW f w).Nodup := by
  unfold addW
  split
  · exact h
  · rename_i n
    rw [List.nodup_append]
    exact ⟨h, by simp, fun a ha b hb => by simp at hb; subst hb; exact fun e => n (e ▸ ha)⟩
theorem puts_ind {s : List (List Int)} (P : List (List Int) → Prop) : ∀ {line f : List (List Int)}, (∀ w ∈ line, ∀ f, P f → closes s w = true → P (addW f (lst w))) → P f → P (putsL s line f)
  | [], f, _, h => h
  | w :: line, f, st, h => by
    unfold putsL
    simp only [List.foldl_cons]
    have h' : P (if closes s w = true then addW f (lst w) else f) := by
      split
      · exact st w List.mem_cons_self f h (by assumption)
      · exact h
    exact puts_ind P (fun v hv => st v (List.mem_cons_of_mem _ hv)) h'
theorem line0_rw {s : List (List Int)} {w : List Int} (h : w ∈ line0 s) : Rw s w := by
  unfold line0 at h
  obtain ⟨x, hx, rfl⟩ := List.mem_map.mp h
  rw [List.mem_filter] at hx
  refine ⟨by simp, fun y hy => ?_, trivial⟩
  simp at hy
  subst hy
  exact ⟨(isort_perm _).mem_iff.mp hx.1, by simpa using hx.2⟩
theorem step_rw {s line : List (List Int)} (h : ∀ w ∈ line, Rw s w) {w : List Int} (hw : w ∈ stepL s line) : Rw s w := by
  unfold stepL at hw
  obtain ⟨v, hv, hw⟩ := List.mem_flatMap.mp hw
  obtain ⟨x, hx, rfl⟩ := List.mem_map.mp hw
  exact (h v hv).next hx
theorem list_rw {s : List (List Int)} : ∀ (n : Nat), ∀ w ∈ (listL s n).1, Rw s w
  | 0 => fun w h => line0_rw h
  | n + 1 => fun w h => step_rw (list_rw n) h
theorem list_wk {s : List (List Int)} (nd : s.flatten.Nodup) : ∀ (n : Nat), ∀ w ∈ (listL s n).2, Wk s w ∧ lst w = w
  | 0 => fun w h => by cases h
  | n + 1 => by
    refine puts_ind (fun f => ∀ w ∈ f, Wk s w ∧ lst w = w) (fun v hv f hf c w hw => ?_) (list_wk nd n)
    rcases mem_addW.mp hw with hw | rfl
    · exact hf w hw
    · have k := (list_rw n v hv).walk c
      exact ⟨k.lst nd, lst_lst k.ne⟩
theorem list_nodup {s : List (List Int)} : ∀ (n : Nat), (listL s n).2.Nodup
  | 0 => List.nodup_nil
  | n + 1 => puts_ind (fun f => f.Nodup) (fun v hv f hf c => nodup_addW hf) (list_nodup n)
theorem flatMap_len {α β : Type} {f : α → List β} {k : Nat} : ∀ {l : List α}, (∀ x ∈ l, (f x).length ≤ k) → (l.flatMap f).length ≤ k * l.length
  | [], _ => by simp
  | x :: l, h => by
    have ih := flatMap_len (l := l) fun y hy => h y (List.mem_cons_of_mem _ hy)
    have := h x List.mem_cons_self
    simp only [List.flatMap_cons, List.length_append, List.length_cons]
    have e : k * (l.length + 1) = k * l.length + k := by rw [Nat.mul_add, Nat.mul_one]
    omega
theorem step_len {s : List (List Int)} (tr : ∀ t ∈ s, t.length = 3) {line : List (List Int)} (h : ∀ w ∈ line, Rw s w) : (stepL s line).length ≤ 3 * line.length := by
  refine flatMap_len fun w hw => ?_
  rw [List.length_map]
  have g := (h w hw).gl _ (lastI_mem (h w hw).ne)
  have := tr _ (tri_mem g.2)
  exact Nat.le_trans (List.length_filter_le _ _) (by omega)
theorem list_len {s : List (List Int)} (tr : ∀ t ∈ s, t.length = 3) : ∀ (n : Nat), (listL s n).1.length ≤ 3 ^ n * s.flatten.length
  | 0 => by
    show (line0 s).length ≤ _
    unfold line0
    rw [List.length_map]
    have := List.length_filter_le (fun x => decide (ng x ∈ s.flatten)) (isort s.flatten)
    rw [(isort_perm _).length_eq] at this
    omega
  | n + 1 => by
    have h1 := step_len tr (list_rw (s := s) n)
    have h2 := list_len tr n
    rw [Nat.pow_succ, Nat.mul_comm (3 ^ n) 3, Nat.mul_assoc]
    exact Nat.le_trans h1 (Nat.mul_le_mul_left 3 h2)
theorem addW_len (f : List (List Int)) (w : List Int) : (addW f w).length ≤ f.length + 1 := by
  unfold addW
  split <;> simp
theorem puts_len (s : List (List Int)) : ∀ (line f : List (List Int)), (putsL s line f).length ≤ f.length + line.length
  | [], f => Nat.le_refl _
  | w :: line, f => by
    have h := puts_len s line (if closes s w = true then addW f (lst w) else f)
    have h2 : (if closes s w = true then addW f (lst w) else f).length ≤ f.length + 1 := by
      split
      · exact addW_len _ _
      · omega
    have e : putsL s (w :: line) f = putsL s line (if closes s w = true then addW f (lst w) else f) := rfl
    rw [e, List.length_cons]
    omega
theorem list_len2 {s : List (List Int)} (tr : ∀ t ∈ s, t.length = 3) : ∀ (n : Nat), (listL s n).2.length ≤ n * (3 ^ n * s.flatten.length)
  | 0 => Nat.zero_le _
  | n + 1 => by
    have h1 := puts_len s (listL s n).1 (listL s n).2
    have h2 := list_len tr (s := s) n
    have h3 := list_len2 tr (s := s) n
    have e : (listL s (n + 1)).2 = putsL s (listL s n).1 (listL s n).2 := rfl
    rw [e]
    have h4 : 3 ^ n * s.flatten.length ≤ 3 ^ (n + 1) * s.flatten.length := by
      apply Nat.mul_le_mul_right
      rw [Nat.pow_succ]
      omega
    have h5 := Nat.mul_le_mul_left n h4
    have h6 : (n + 1) * (3 ^ (n + 1) * s.flatten.length) = n * (3 ^ (n + 1) * s.flatten.length) + 3 ^ (n + 1) * s.flatten.length := by rw [Nat.add_mul, Nat.one_mul]
    omega
theorem flatten_len {s : List (List Int)} (tr : ∀ t ∈ s, t.length = 3) : s.flatten.length = 3 * s.length := by
  induction s with
  | nil => rfl
  | cons t s ih =>
    rw [List.flatten_cons, List.length_append, tr t List.mem_cons_self, ih fun t ht => tr t (List.mem_cons_of_mem _ ht), List.length_cons]
    omega
theorem list_row_len {s : List (List Int)} : ∀ (n : Nat), ∀ w ∈ (listL s n).1, w.length = n + 1
  | 0 => fun w h => by
    obtain ⟨x, hx, rfl⟩ := List.mem_map.mp (show w ∈ line0 s from h)
    rfl
  | n + 1 => fun w h => by
    obtain ⟨v, hv, hw⟩ := List.mem_flatMap.mp (show w ∈ stepL s (listL s n).1 from h)
    obtain ⟨x, hx, rfl⟩ := List.mem_map.mp hw
    rw [List.length_append, list_row_len n v hv]
    rfl
theorem list_wk_len {s : List (List Int)} : ∀ (n : Nat), ∀ w ∈ (listL s n).2, w.length ≤ n
  | 0 => fun w h => by cases h
  | n + 1 => by
    refine puts_ind (fun f => ∀ w ∈ f, w.length ≤ n + 1) (fun v hv f hf c w hw => ?_) (fun w hw => Nat.le_succ_of_le (list_wk_len n w hw))
    rcases mem_addW.mp hw with hw | rfl
    · exact hf w hw
    · rw [lst_length (list_rw n v hv).ne, list_row_len n v hv]
      exact Nat.le_refl _
end FL
namespace FL
abbrev Slot := Nat × Nat
def slots (n : Nat) : List Slot := (List.range n).flatMap fun k => (List.range 3).map fun j => (k, j)
def twoS (p : Slot × Slot) : List Slot := [p.1, p.2]
structure Bld (n : Nat) (free : List Slot) (pairs : List (Slot × Slot)) : Prop where
  all : (pairs.flatMap twoS ++ free).Perm (slots n)
  conn : ∀ S : Nat → Prop, (∀ p ∈ pairs, S p.1.1 ↔ S p.2.1) → (∃ k, k < n ∧ S k) → ∀ k, k < n → S k
  cnt : n ≤ pairs.length + 1
theorem twoS_len : ∀ l : List (Slot × Slot), (l.flatMap twoS).length = 2 * l.length
  | [] => rfl
  | p :: l => by rw [List.flatMap_cons, List.length_append, twoS_len l]; simp [twoS]; omega
theorem slots_len : ∀ n, (slots n).length = 3 * n
  | 0 => rfl
  | n + 1 => by
    have := slots_len n
    unfold slots at this ⊢
    rw [List.range_succ (n := n), List.flatMap_append, List.length_append, this]
    simp
    omega
theorem slots_succ (n : Nat) : slots (n + 1) = slots n ++ [(n, 0), (n, 1), (n, 2)] := by
  unfold slots
  rw [List.range_succ (n := n), List.flatMap_append]
  rfl
theorem Bld.len {n : Nat} {free : List Slot} {pairs : List (Slot × Slot)} (h : Bld n free pairs) : 2 * pairs.length + free.length = 3 * n := by
  have := h.all.length_eq
  rw [List.length_append, twoS_len, slots_len] at this
  exact this
theorem bld_one : Bld 1 [(0, 0), (0, 1), (0, 2)] [] := ⟨List.Perm.refl _, fun S _ ⟨k, hk, hs⟩ j hj => by
  have : k = j := by omega
  exact this ▸ hs, by simp⟩
theorem erase_perm {α : Type} : ∀ {l : List α} {i : Nat} (h : i < l.length), (l[i] :: l.eraseIdx i).Perm l
  | a :: l, 0, _ => List.Perm.refl _
  | a :: l, i + 1, h => by
    have ih := erase_perm (l := l) (i := i) (by simpa using h)
    exact (List.Perm.swap a _ _).trans (ih.cons a)
theorem three_perm (n j : Nat) (h : j < 3) : ((n, j) :: ((List.range 3).filter fun k => decide (k ≠ j)).map fun k => (n, k)).Perm [(n, 0), (n, 1), (n, 2)] := by
  match j, h with
  | 0, _ => exact List.Perm.refl _
  | 1, _ => exact List.Perm.swap _ _ _
  | 2, _ => exact (List.Perm.swap _ _ _).trans ((List.Perm.swap _ _ _).cons _)
theorem Bld.add {n : Nat} {free : List Slot} {pairs : List (Slot × Slot)} (b : Bld n free pairs) (hn : 1 ≤ n) {i j : Nat} (hi : i < free.length) (hj : j < 3) :
    Bld (n + 1) (free.eraseIdx i ++ ((List.range 3).filter fun k => decide (k ≠ j)).map fun k => (n, k)) (pairs ++ [(free[i], (n, j))]) := by
  refine ⟨?_, ?_, ?_⟩
  · rw [slots_succ, List.flatMap_append]
    have h1 := three_perm n j hj
    have h2 := erase_perm hi
    have h3 := b.all
    have e : (pairs.flatMap twoS ++ [(free[i], (n, j))].flatMap twoS) ++ (free.eraseIdx i ++ ((List.range 3).filter fun k => decide (k ≠ j)).map fun k => (n, k)) = pairs.flatMap twoS ++ (free[i] :: ((n, j) :: (free.eraseIdx i ++ ((List.range 3).filter fun k => decide (k ≠ j)).map fun k => (n, k)))) := by simp [twoS]
    rw [e]
    refine List.Perm.trans (List.Perm.append_left _ (List.Perm.cons _ (l₂ := free.eraseIdx i ++ ((n, j) :: ((List.range 3).filter fun k => decide (k ≠ j)).map fun k => (n, k))) List.perm_middle.symm)) ?_
    rw [← List.cons_append, ← List.append_assoc]
    refine List.Perm.append ?_ h1
    exact (List.Perm.append_left _ h2).trans h3
  · intro S hS ⟨k, hk, hs⟩ l hl
    have hm : ∃ f, f ∈ free ∧ f = free[i] := ⟨_, List.getElem_mem hi, rfl⟩
    have hf : free[i].1 < n := by
      have : free[i] ∈ slots n := b.all.mem_iff.mp (List.mem_append_right _ (List.getElem_mem hi))
      unfold slots at this
      obtain ⟨q, hq, h⟩ := List.mem_flatMap.mp this
      obtain ⟨r, _, h⟩ := List.mem_map.mp h
      rw [← h]
      exact List.mem_range.mp hq
    have hS' : ∀ p ∈ pairs, S p.1.1 ↔ S p.2.1 := fun p hp => hS p (List.mem_append_left _ hp)
    have hl' : S free[i].1 ↔ S n := hS (free[i], (n, j)) (by simp)
    have key : ∃ k, k < n ∧ S k := by
      by_cases h : k < n
      · exact ⟨k, h, hs⟩
      · have : k = n := by omega
        subst this
        exact ⟨_, hf, hl'.mpr hs⟩
    have all := b.conn S hS' key
    by_cases h : l < n
    · exact all l h
    · have : l = n := by omega
      subst this
      exact hl'.mp (all _ hf)
  · have := b.cnt
    simp
    omega
theorem Bld.glue {n : Nat} {free : List Slot} {pairs : List (Slot × Slot)} (b : Bld n free pairs) {i j : Nat} (hi : i < free.length) (hj : j < (free.eraseIdx i).length) :
    Bld n ((free.eraseIdx i).eraseIdx j) (pairs ++ [(free[i], (free.eraseIdx i)[j])]) := by
  refine ⟨?_, fun S hS => b.conn S fun p hp => hS p (List.mem_append_left _ hp), ?_⟩
  · rw [List.flatMap_append]
    have e : (pairs.flatMap twoS ++ [(free[i], (free.eraseIdx i)[j])].flatMap twoS) ++ (free.eraseIdx i).eraseIdx j = pairs.flatMap twoS ++ (free[i] :: ((free.eraseIdx i)[j] :: (free.eraseIdx i).eraseIdx j)) := by simp [twoS]
    rw [e]
    exact (List.Perm.append_left _ (((erase_perm hj).cons _).trans (erase_perm hi))).trans b.all
  · have := b.cnt
    simp
    omega

def alP (q : Int × (Slot × Slot)) : List (Slot × Int) := [(q.2.1, q.1), (q.2.2, ng q.1)]
def alF (q : Int × Slot) : Slot × Int := (q.2, q.1)
/-- which side stands at which place -/
def alS (nums : List Int) (pairs : List (Slot × Slot)) (free : List Slot) : List (Slot × Int) :=
  ((nums.take pairs.length).zip pairs).flatMap alP ++ ((nums.drop pairs.length).zip free).map alF
def look (al : List (Slot × Int)) (k : Slot) : Int := ((al.find? fun p => decide (p.1 = k)).map (·.2)).getD 0
theorem look_of : ∀ {al : List (Slot × Int)}, (al.map (·.1)).Nodup → ∀ {p : Slot × Int}, p ∈ al → look al p.1 = p.2
  | q :: al, nd, p, h => by
    rw [List.map_cons, List.nodup_cons] at nd
    unfold look
    rcases List.mem_cons.mp h with rfl | h
    · simp
    · have hne : q.1 ≠ p.1 := fun e => nd.1 (e ▸ List.mem_map_of_mem h)
      rw [List.find?_cons_of_neg (by simpa using hne)]
      exact look_of nd.2 h
def shtOf (n : Nat) (al : List (Slot × Int)) : List (List Int) := (List.range n).map fun k => (List.range 3).map fun j => look al (k, j)
theorem shtOf_flat (n : Nat) (al : List (Slot × Int)) : (shtOf n al).flatten = (slots n).map (look al) := by
  unfold shtOf slots
  rw [List.map_flatMap, List.flatMap_def]
  congr 1
theorem zip_fst : ∀ {α β : Type} {a : List α} {b : List β}, a.length = b.length → (a.zip b).map (·.1) = a
  | _, _, [], [], _ => rfl
  | _, _, x :: a, y :: b, h => by simp only [List.zip_cons_cons, List.map_cons, zip_fst (a := a) (b := b) (by simpa using h)]
theorem zip_snd : ∀ {α β : Type} {a : List α} {b : List β}, a.length = b.length → (a.zip b).map (·.2) = b
  | _, _, [], [], _ => rfl
  | _, _, x :: a, y :: b, h => by simp only [List.zip_cons_cons, List.map_cons, zip_snd (a := a) (b := b) (by simpa using h)]
section
variable {n : Nat} {free : List Slot} {pairs : List (Slot × Slot)} {nums : List Int}
theorem alS_keys (hl : nums.length = pairs.length + free.length) : (alS nums pairs free).map (·.1) = pairs.flatMap twoS ++ free := by
  unfold alS
  have l1 : (nums.take pairs.length).length = pairs.length := by simp; omega
  have l2 : (nums.drop pairs.length).length = free.length := by simp; omega
  rw [List.map_append, List.map_flatMap, List.map_map]
  congr 1
  · conv => rhs; rw [← zip_snd l1]
    rw [List.flatMap_map]
    rfl
  · conv => rhs; rw [← zip_snd l2]
    rfl
theorem alS_vals (hl : nums.length = pairs.length + free.length) : (alS nums pairs free).map (·.2) = ((nums.take pairs.length).flatMap fun e => [e, ng e]) ++ nums.drop pairs.length := by
  unfold alS
  have l1 : (nums.take pairs.length).length = pairs.length := by simp; omega
  have l2 : (nums.drop pairs.length).length = free.length := by simp; omega
  rw [List.map_append, List.map_flatMap, List.map_map]
  congr 1
  · conv => rhs; rw [← zip_fst l1]
    rw [List.flatMap_map]
    rfl
  · conv => rhs; rw [← zip_fst l2]
    rfl
theorem two_perm : ∀ l : List Int, (l.flatMap fun e => [e, ng e]).Perm (l ++ l.map ng)
  | [] => List.Perm.refl _
  | a :: l => by
    rw [List.flatMap_cons, List.map_cons]
    have ih := two_perm l
    show (a :: ng a :: (l.flatMap fun e => [e, ng e])).Perm (a :: (l ++ ng a :: l.map ng))
    exact List.Perm.cons _ ((ih.cons _).trans List.perm_middle.symm)
theorem slots_nodup (n : Nat) : (slots n).Nodup := by
  unfold slots
  rw [List.Nodup, List.pairwise_flatMap]
  refine ⟨fun k _ => ?_, ?_⟩
  · exact (List.pairwise_map.mpr (List.nodup_range.imp fun {a b} h e => h (congrArg Prod.snd e)))
  · refine List.nodup_range.imp fun {a b} h x hx y hy e => h ?_
    obtain ⟨i, _, rfl⟩ := List.mem_map.mp hx
    obtain ⟨j, _, rfl⟩ := List.mem_map.mp hy
    exact congrArg Prod.fst e
theorem Bld.sheet (b : Bld n free pairs) (h1 : 1 ≤ n) (h2 : n ≤ 5) (hp : nums.Perm ((List.range (pairs.length + free.length)).map Int.ofNat)) : Sht (shtOf n (alS nums pairs free)) := by
  have hl : nums.length = pairs.length + free.length := by have := hp.length_eq; simpa using this
  have hm : pairs.length + free.length ≤ 12 := by have := b.len; have := b.cnt; omega
  have ek := alS_keys (nums := nums) (pairs := pairs) (free := free) hl
  have ev := alS_vals (nums := nums) (pairs := pairs) (free := free) hl
  have hk : ((alS nums pairs free).map (·.1)).Nodup := by rw [ek]; exact b.all.nodup_iff.mpr (slots_nodup n)
  have hf : (shtOf n (alS nums pairs free)).flatten.Perm ((alS nums pairs free).map (·.2)) := by
    rw [shtOf_flat]
    have p1 : (slots n).Perm ((alS nums pairs free).map (·.1)) := by rw [ek]; exact b.all.symm
    refine (p1.map _).trans (List.Perm.of_eq ?_)
    rw [List.map_map]
    exact List.map_congr_left fun p hp => look_of hk hp
  have hv : ((alS nums pairs free).map (·.2)).Perm (nums ++ (nums.take pairs.length).map ng) := by
    rw [ev]
    refine (List.Perm.append_right _ (two_perm _)).trans ?_
    rw [List.append_assoc]
    refine (List.Perm.append_left _ List.perm_append_comm).trans ?_
    rw [← List.append_assoc, List.take_append_drop]
  have hv2 := hf.trans hv
  have hn : ∀ e, e ∈ nums ↔ 0 ≤ e ∧ e < (pairs.length + free.length : Nat) := by
    intro e
    rw [hp.mem_iff, List.mem_map]
    constructor
    · rintro ⟨k, hk, rfl⟩
      have := List.mem_range.mp hk
      constructor
      · exact Int.natCast_nonneg k
      · exact Int.ofNat_lt.mpr this
    · rintro ⟨h3, h4⟩
      exact ⟨e.toNat, List.mem_range.mpr (by omega), Int.toNat_of_nonneg h3⟩
  have hmem : ∀ x, x ∈ (shtOf n (alS nums pairs free)).flatten → x ∈ nums ∨ ng x ∈ nums := by
    intro x hx
    rcases List.mem_append.mp (hv2.mem_iff.mp hx) with h | h
    · exact .inl h
    · obtain ⟨e, he, rfl⟩ := List.mem_map.mp h
      exact .inr (by rw [ng_ng]; exact List.mem_of_mem_take he)
  refine ⟨?_, ?_, ?_, ?_, ?_, ?_, ?_⟩
  · intro e
    have := congrArg List.length e
    unfold shtOf at this
    simp at this
    omega
  · unfold shtOf
    simp
    omega
  · intro t ht
    obtain ⟨k, _, rfl⟩ := List.mem_map.mp ht
    simp
  · rw [hv2.nodup_iff, List.nodup_append]
    have n1 : nums.Nodup := by
      rw [hp.nodup_iff]
      exact List.pairwise_map.mpr (List.nodup_range.imp fun {a b} h e => h (Int.ofNat.inj e))
    refine ⟨n1, ?_, ?_⟩
    · exact List.pairwise_map.mpr ((n1.sublist (List.take_sublist _ _)).imp fun {a b} h e => h (ng_inj.mp e))
    · intro x hx y hy e
      obtain ⟨z, hz, rfl⟩ := List.mem_map.mp hy
      have q1 := (hn _).mp hx
      have q2 := (hn _).mp (List.mem_of_mem_take hz)
      rw [e] at q1
      unfold ng at q1
      omega
  · intro x hx
    rcases hmem x hx with h | h
    · have := (hn _).mp h
      omega
    · have := (hn _).mp h
      unfold ng at this
      omega
  · intro x hx e h3 h4
    refine hv2.mem_iff.mpr (List.mem_append_left _ ((hn e).mpr ⟨h3, ?_⟩))
    unfold edg at h4
    rcases hmem x hx with h | h
    · have := (hn _).mp h
      rw [if_pos this.1] at h4
      omega
    · have := (hn _).mp h
      unfold ng at this
      rw [if_neg (by omega)] at h4
      omega
  · intro S c1 c2 ⟨x, hx, hs⟩ y hy
    have slotOf : ∀ z, z ∈ (shtOf n (alS nums pairs free)).flatten → ∃ k j, k < n ∧ j < 3 ∧ z = look (alS nums pairs free) (k, j) := by
      intro z hz
      unfold shtOf at hz
      obtain ⟨t, ht, hz⟩ := List.mem_flatten.mp hz
      obtain ⟨k, hk, rfl⟩ := List.mem_map.mp ht
      obtain ⟨j, hj, rfl⟩ := List.mem_map.mp hz
      exact ⟨k, j, List.mem_range.mp hk, List.mem_range.mp hj, rfl⟩
    have memS : ∀ {k j}, k < n → j < 3 → look (alS nums pairs free) (k, j) ∈ (List.range 3).map fun j => look (alS nums pairs free) (k, j) := fun hk hj => List.mem_map.mpr ⟨_, List.mem_range.mpr hj, rfl⟩
    have memT : ∀ {k}, k < n → ((List.range 3).map fun j => look (alS nums pairs free) (k, j)) ∈ shtOf n (alS nums pairs free) := fun hk => List.mem_map.mpr ⟨_, List.mem_range.mpr hk, rfl⟩
    have memF : ∀ {k j}, k < n → j < 3 → look (alS nums pairs free) (k, j) ∈ (shtOf n (alS nums pairs free)).flatten := fun hk hj => List.mem_flatten.mpr ⟨_, memT hk, memS hk hj⟩
    have spread : ∀ {k j i}, k < n → j < 3 → i < 3 → S (look (alS nums pairs free) (k, j)) → S (look (alS nums pairs free) (k, i)) := fun hk hj hi h => c1 _ (memT hk) _ (memS hk hj) _ (memS hk hi) h
    have hS : ∀ p ∈ pairs, S (look (alS nums pairs free) (p.1.1, 0)) ↔ S (look (alS nums pairs free) (p.2.1, 0)) := by
      intro p hp'
      have l1 : (nums.take pairs.length).length = pairs.length := by simp; omega
      obtain ⟨i, hi, e⟩ := List.mem_iff_getElem.mp hp'
      have hz : ((nums.take pairs.length)[i]'(by omega), p) ∈ (nums.take pairs.length).zip pairs := by
        rw [← e]
        have : i < ((nums.take pairs.length).zip pairs).length := by rw [List.length_zip]; omega
        have h := List.getElem_mem this
        rw [List.getElem_zip] at h
        exact h
      have a1 : (p.1, (nums.take pairs.length)[i]'(by omega)) ∈ alS nums pairs free := List.mem_append_left _ (List.mem_flatMap.mpr ⟨_, hz, by simp [alP]⟩)
      have a2 : (p.2, ng ((nums.take pairs.length)[i]'(by omega))) ∈ alS nums pairs free := List.mem_append_left _ (List.mem_flatMap.mpr ⟨_, hz, by simp [alP]⟩)
      have b1 := look_of hk a1
      have b2 := look_of hk a2
      simp only at b1 b2
      have slot_lt : ∀ q, q ∈ pairs.flatMap twoS → q.1 < n ∧ q.2 < 3 := by
        intro q hq
        have : q ∈ slots n := b.all.mem_iff.mp (List.mem_append_left _ hq)
        unfold slots at this
        obtain ⟨k, hk, h⟩ := List.mem_flatMap.mp this
        obtain ⟨j, hj, h⟩ := List.mem_map.mp h
        rw [← h]
        exact ⟨List.mem_range.mp hk, List.mem_range.mp hj⟩
      have s1 := slot_lt p.1 (List.mem_flatMap.mpr ⟨p, hp', by simp [twoS]⟩)
      have s2 := slot_lt p.2 (List.mem_flatMap.mpr ⟨p, hp', by simp [twoS]⟩)
      have f1 := memF s1.1 s1.2
      have f2 := memF s2.1 s2.2
      have eta1 : (p.1.1, p.1.2) = p.1 := rfl
      have eta2 : (p.2.1, p.2.2) = p.2 := rfl
      rw [eta1, b1] at f1
      rw [eta2, b2] at f2
      constructor
      · intro h
        have h := spread s1.1 (by omega) s1.2 h
        rw [eta1, b1] at h
        have h := c2 _ f1 f2 h
        rw [← b2, ← eta2] at h
        exact spread s2.1 s2.2 (by omega) h
      · intro h
        have h := spread s2.1 (by omega) s2.2 h
        rw [eta2, b2] at h
        have h := c2 _ f2 (by rw [ng_ng]; exact f1) h
        rw [ng_ng, ← b1, ← eta1] at h
        exact spread s1.1 s1.2 (by omega) h
    obtain ⟨k, j, hk', hj, rfl⟩ := slotOf x hx
    obtain ⟨k2, j2, hk2, hj2, rfl⟩ := slotOf y hy
    have := b.conn (fun k => S (look (alS nums pairs free) (k, 0))) hS ⟨k, hk', spread hk' hj (by omega) hs⟩ k2 hk2
    exact spread hk2 (by omega) hj2 this
end
end FL
namespace FL
theorem nd_len {α : Type} [DecidableEq α] : ∀ {l k : List α}, l.Nodup → (∀ x ∈ l, x ∈ k) → l.length ≤ k.length
  | [], _, _, _ => Nat.zero_le _
  | a :: l, k, nd, h => by
    obtain ⟨n1, n2⟩ := List.nodup_cons.mp nd
    have ha := h a List.mem_cons_self
    have := nd_len (l := l) (k := k.erase a) n2 fun x hx => (List.mem_erase_of_ne (show x ≠ a from fun e => n1 (by rw [← e]; exact hx))).mpr (h x (List.mem_cons_of_mem _ hx))
    rw [List.length_erase_of_mem ha] at this
    have := List.length_pos_iff.mpr (List.ne_nil_of_mem ha)
    rw [List.length_cons]
    omega
def addN (s : List (List Int)) (line : List Nat) (x : Int) : List Nat := if ng x ∈ s.flatten ∧ num s (ng x) ∉ line then line ++ [num s (ng x)] else line
def addT (s : List (List Int)) (line : List Nat) (t : List Int) : List Nat := t.foldl (addN s) line
theorem addN_pre (s : List (List Int)) (line : List Nat) (x : Int) : line <+: addN s line x := by
  unfold addN
  split
  · exact List.prefix_append _ _
  · exact List.prefix_refl _
theorem addT_pre (s : List (List Int)) : ∀ (t : List Int) (line : List Nat), line <+: addT s line t
  | [], line => List.prefix_refl _
  | x :: t, line => (addN_pre s line x).trans (addT_pre s t (addN s line x))
theorem addN_mem {s : List (List Int)} {line : List Nat} {x : Int} (h : ng x ∈ s.flatten) : num s (ng x) ∈ addN s line x := by
  unfold addN
  split
  · simp
  · rename_i q
    exact Decidable.byContradiction fun n => q ⟨h, n⟩
theorem addT_mem {s : List (List Int)} : ∀ {t : List Int} {line : List Nat} {x : Int}, x ∈ t → ng x ∈ s.flatten → num s (ng x) ∈ addT s line t
  | y :: t, line, x, h, hf => by
    rcases List.mem_cons.mp h with rfl | h
    · exact (addT_pre s t _).subset (addN_mem hf)
    · exact addT_mem (t := t) (line := addN s line y) h hf
structure JI (s : List (List Int)) (line : List Nat) : Prop where
  nd : line.Nodup
  lt : ∀ i ∈ line, i < s.length
  z : 0 ∈ line
theorem JI.addN {s : List (List Int)} {line : List Nat} (h : JI s line) (x : Int) : JI s (addN s line x) := by
  unfold FL.addN
  split
  · rename_i q
    refine ⟨?_, fun i hi => ?_, by simp [h.z]⟩
    · rw [List.nodup_append]
      exact ⟨h.nd, by simp, fun a ha b hb => by simp at hb; subst hb; exact fun e => q.2 (e ▸ ha)⟩
    · rcases List.mem_append.mp hi with hi | hi
      · exact h.lt i hi
      · simp at hi
        subst hi
        exact num_lt q.1
  · exact h
theorem JI.addT {s : List (List Int)} : ∀ {t : List Int} {line : List Nat}, JI s line → JI s (addT s line t)
  | [], _, h => h
  | x :: t, _, h => JI.addT (t := t) (h.addN x)
theorem JI.len {s : List (List Int)} {line : List Nat} (h : JI s line) : line.length ≤ s.length := by
  have h1 : ∀ i ∈ line, i ∈ List.range s.length := fun i hi => List.mem_range.mpr (h.lt i hi)
  have := nd_len h.nd h1
  simpa using this
theorem JI.full {s : List (List Int)} (hs : Sht s) {line : List Nat} (h : JI s line) (cl : ∀ i ∈ line, ∀ t, s[i]? = some t → ∀ x ∈ t, ng x ∈ s.flatten → num s (ng x) ∈ line) : line.length = s.length := by
  have key : ∀ x ∈ s.flatten, num s x ∈ line := by
    refine hs.conn (fun x => num s x ∈ line) ?_ ?_ ?_
    · intro t ht x hx y hy hxl
      obtain ⟨i, hi⟩ := List.mem_iff_getElem?.mp ht
      rw [num_at hs.nd hi hy, ← num_at hs.nd hi hx]
      exact hxl
    · intro x hx hn hl
      exact cl _ hl _ (num_get hx) x (mem_tri hx) hn
    · cases hc : s with
      | nil => exact absurd hc hs.ne
      | cons t u =>
        have h3 := hs.tri t (by rw [hc]; simp)
        cases t with
        | nil => simp at h3
        | cons a l =>
          refine ⟨a, by simp, ?_⟩
          have : num ((a :: l) :: u) a = 0 := by simp [num, List.findIdx_cons]
          rw [this]
          exact h.z
  have h2 : ∀ i ∈ List.range s.length, i ∈ line := by
    intro i hi
    have hi := List.mem_range.mp hi
    have ht : s[i] ∈ s := List.getElem_mem hi
    have h3 := hs.tri _ ht
    cases he : s[i] with
    | nil => rw [he] at h3; simp at h3
    | cons a l =>
      have ha : a ∈ s[i] := by rw [he]; simp
      have := key a (List.mem_flatten.mpr ⟨_, ht, ha⟩)
      rw [num_at hs.nd (List.getElem?_eq_getElem hi) ha] at this
      exact this
  have := nd_len List.nodup_range h2
  have := h.len
  simp at *
  omega
theorem flat_ne {s : List (List Int)} (h : Sht s) : s.flatten ≠ [] := by
  cases hc : s with
  | nil => exact absurd hc h.ne
  | cons t u =>
    have h3 := h.tri t (by rw [hc]; simp)
    cases t with
    | nil => simp at h3
    | cons a l => simp
def mxI (l : List Int) : Int := match l with
  | [] => 0
  | a :: l => l.foldl max a
def mxE (s : List (List Int)) : Int := mxI (s.flatten.map edg)
theorem foldl_max_ge : ∀ (l : List Int) (a : Int), a ≤ l.foldl max a ∧ ∀ x ∈ l, x ≤ l.foldl max a
  | [], a => ⟨Int.le_refl _, by simp⟩
  | b :: l, a => by
    obtain ⟨h1, h2⟩ := foldl_max_ge l (max a b)
    simp only [List.foldl_cons]
    refine ⟨by omega, fun x hx => ?_⟩
    rcases List.mem_cons.mp hx with rfl | hx
    · omega
    · exact h2 x hx
theorem foldl_max_mem : ∀ (l : List Int) (a : Int), l.foldl max a ∈ a :: l
  | [], a => by simp
  | b :: l, a => by
    have h := foldl_max_mem l (max a b)
    simp only [List.foldl_cons]
    rcases List.mem_cons.mp h with h | h
    · rw [h]
      rcases Int.le_total a b with q | q
      · rw [Int.max_eq_right q]; simp
      · rw [Int.max_eq_left q]; simp
    · exact List.mem_cons_of_mem _ (List.mem_cons_of_mem _ h)
theorem mxE_spec {s : List (List Int)} (h : s.flatten ≠ []) : mxE s ∈ s.flatten.map edg ∧ ∀ x ∈ s.flatten, edg x ≤ mxE s := by
  unfold mxE mxI
  cases hc : s.flatten.map edg with
  | nil => exact absurd (List.map_eq_nil_iff.mp hc) h
  | cons a l =>
    refine ⟨foldl_max_mem l a, fun x hx => ?_⟩
    have : edg x ∈ a :: l := by rw [← hc]; exact List.mem_map_of_mem hx
    rcases List.mem_cons.mp this with e | e
    · rw [e]; exact (foldl_max_ge l a).1
    · exact (foldl_max_ge l a).2 _ e
theorem edg_nonneg (x : Int) : 0 ≤ edg x := by unfold edg; split <;> omega
theorem edges_met {s : List (List Int)} (h : Sht s) : isort (s.flatten.filter fun x => decide (0 ≤ x)) = (List.range (mxE s + 1).toNat).map Int.ofNat := by
  obtain ⟨h1, h2⟩ := mxE_spec (flat_ne h)
  obtain ⟨y, hy, hm⟩ := List.mem_map.mp h1
  have n0 : 0 ≤ mxE s := by rw [← hm]; exact edg_nonneg y
  refine rise_ext (isort_rise (h.nd.sublist List.filter_sublist)) ?_ fun z => ?_
  · rw [List.pairwise_map]
    exact List.pairwise_lt_range.imp fun h => Int.ofNat_lt.mpr h
  · rw [(isort_perm _).mem_iff, List.mem_filter, List.mem_map]
    constructor
    · rintro ⟨hz, hz2⟩
      simp only [decide_eq_true_eq] at hz2
      have := h2 z hz
      have e : edg z = z := if_pos hz2
      exact ⟨z.toNat, List.mem_range.mpr (by omega), Int.toNat_of_nonneg hz2⟩
    · rintro ⟨k, hk, rfl⟩
      have hk := List.mem_range.mp hk
      have : (0 : Int) ≤ Int.ofNat k := Int.natCast_nonneg k
      refine ⟨h.all y hy _ this ?_, by simpa using this⟩
      rw [hm]
      show (k : Int) ≤ _
      omega
end FL
namespace FL
open PySem PySem.Spec PyProof.Rows L2
/-- list(range(i)): kept folded (the kernel must not reckon its bound) -/
def lrngR (i : Int) (ρ : Env) (o : Orc) : Res PyData := if rngC 0 i = true then .ok (.list (rngL 0 i.toNat)) ρ o else .bad
theorem lrngR_ok {i : Int} (h : rngC 0 i = true) (ρ : Env) (o : Orc) : lrngR i ρ o = .ok (.list (rngL 0 i.toNat)) ρ o := if_pos h

section
variable {α : Type} {ρ ρ1 : Env} {o o1 : Orc} {i j : Nat} {d d1 d2 d3 : DE} {c c1 c2 : DT} {ds : DA} {s s1 s2 : DS} {v u : PyData} {vs : List PyData}
@[simp] theorem q_var : dVar i ρ o = match ρ[i]? with
  | some (some d) => .ok d ρ o
  | _ => .bad := rfl
@[simp] theorem q_c : dC v ρ o = .ok v ρ o := rfl
@[simp] theorem q_op1 {φ : PyData → Option PyData} : dOp1 φ d ρ o = (d ρ o).bind fun v ρ1 o1 => .ofO (φ v) ρ1 o1 := rfl
@[simp] theorem q_op2 {φ : PyData → PyData → Option PyData} : dOp2 φ d1 d2 ρ o = (d1 ρ o).bind fun v ρ1 o1 => (d2 ρ1 o1).bind fun u ρ2 o2 => .ofO (φ v u) ρ2 o2 := rfl
@[simp] theorem q_opN {φ : List PyData → Option PyData} : dOpN φ ds ρ o = (ds ρ o).bind fun vs ρ1 o1 => .ofO (φ vs) ρ1 o1 := rfl
@[simp] theorem q_top2 {φ : PyData → PyData → Option PyData} : dTop2 φ d1 d2 ρ o = (dOp2 φ d1 d2 ρ o).bind fun v ρ1 o1 => .ofO (asB v) ρ1 o1 := rfl
@[simp] theorem q_test : dTest d ρ o = (d ρ o).bind fun v ρ1 o1 => .ofO (asB v) ρ1 o1 := rfl
@[simp] theorem q_move : dMove i ρ o = match ρ[i]? with
  | some (some d) => .ok d (ρ.set i none) o
  | _ => .bad := rfl
@[simp] theorem q_andT : dAndT c1 c2 ρ o = (c1 ρ o).bind fun v ρ1 o1 => if v = true then c2 ρ1 o1 else .ok false ρ1 o1 := rfl
@[simp] theorem q_orT : dOrT c1 c2 ρ o = (c1 ρ o).bind fun v ρ1 o1 => if v = true then .ok true ρ1 o1 else c2 ρ1 o1 := rfl
@[simp] theorem q_notT : dNotT c ρ o = (c ρ o).bind fun v ρ1 o1 => .ok (!v) ρ1 o1 := rfl
@[simp] theorem q_if : dIf c d1 d2 ρ o = (c ρ o).bind fun v ρ1 o1 => if v = true then d1 ρ1 o1 else d2 ρ1 o1 := rfl
@[simp] theorem q_nil : dNil ρ o = .ok [] ρ o := rfl
@[simp] theorem q_cons : dCons d ds ρ o = (d ρ o).bind fun v ρ1 o1 => (ds ρ1 o1).bind fun vs ρ2 o2 => .ok (v :: vs) ρ2 o2 := rfl
@[simp] theorem q_consC : dConsC d ds ρ o = (d ρ o).bind fun v ρ1 o1 => if isC v = true then (ds ρ1 o1).bind fun vs ρ2 o2 => .ok (v :: vs) ρ2 o2 else .bad := rfl
@[simp] theorem q_tup : dTup ds ρ o = (ds ρ o).bind fun vs ρ1 o1 => if vs.length ≤ sizeLine then .ok (.tuple vs) ρ1 o1 else .bad := rfl
@[simp] theorem q_lst : dLst ds ρ o = (ds ρ o).bind fun vs ρ1 o1 => if vs.length ≤ sizeLine then .ok (.list vs) ρ1 o1 else .bad := rfl
@[simp] theorem q_dict : dDict ρ o = .ok (.dict []) ρ o := rfl
@[simp] theorem q_andV : dAndV d1 d2 ρ o = (dTest d1 ρ o).bind fun v ρ1 o1 => if v = true then d2 ρ1 o1 else .ok (.bool false) ρ1 o1 := rfl
@[simp] theorem q_orV : dOrV d1 d2 ρ o = (dTest d1 ρ o).bind fun v ρ1 o1 => if v = true then .ok (.bool true) ρ1 o1 else d2 ρ1 o1 := rfl
@[simp] theorem q_notV : dNotV d ρ o = (dTest d ρ o).bind fun v ρ1 o1 => .ok (.bool !v) ρ1 o1 := rfl
@[simp] theorem q_chain {φ φ' : PyData → PyData → Option PyData} : dChain φ φ' d1 d2 d3 ρ o = (d1 ρ o).bind fun v ρ1 o1 => (d2 ρ1 o1).bind fun u ρ2 o2 => match (φ v u).bind asB with
  | none => .bad
  | some false => .ok (.bool false) ρ2 o2
  | some true => (d3 ρ2 o2).bind fun z ρ3 o3 => .ofO (φ' u z) ρ3 o3 := rfl
@[simp] theorem q_index : dIndex d1 d2 ρ o = (d1 ρ o).bind fun v ρ1 o1 => if tripD v = true then (d2 ρ1 o1).bind fun u ρ2 o2 => .ofO (phIndex v u) ρ2 o2 else .bad := rfl
@[simp] theorem q_noPt : dNoPt ρ o = .ok none ρ o := rfl
@[simp] theorem q_pt : dPt d ρ o = (d ρ o).bind fun v ρ1 o1 => (Res.ofO (asI v) ρ1 o1).bind fun i ρ2 o2 => .ok (some i) ρ2 o2 := rfl
@[simp] theorem q_cut {a b : DO} : dCut d a b ρ o = (d ρ o).bind fun v ρ1 o1 => (a ρ1 o1).bind fun i ρ2 o2 => (b ρ2 o2).bind fun j ρ3 o3 => .ofO (phCut v i j) ρ3 o3 := rfl
@[simp] theorem q_app : dApp i d ρ o = match lstAt ρ i with
  | none => .bad
  | some _ => (d ρ o).bind fun v ρ1 o1 => match lstAt ρ1 i with
    | some ds => if ds.length < sizeLine then .ok .none (ρ1.set i (some (.list (ds ++ [v])))) o1 else .bad
    | none => .bad := rfl
@[simp] theorem q_pop : dPop i d ρ o = match lstAt ρ i with
  | none => .bad
  | some _ => (d ρ o).bind fun v ρ1 o1 => match (lstAt ρ1 i).bind fun ds => popL ds v with
    | some (y, ds) => .ok y (ρ1.set i (some (.list ds))) o1
    | none => .bad := rfl
@[simp] theorem q_setL {dk dv : DE} : dSetL i dk dv ρ o = (dv ρ o).bind fun v ρ1 o1 => match lstAt ρ1 i with
  | none => .bad
  | some _ => (dk ρ1 o1).bind fun y ρ2 o2 => match (lstAt ρ2 i).bind fun ds => setL ds y v with
    | some ds => .ok .nx (ρ2.set i (some (.list ds))) o2
    | none => .bad := rfl
@[simp] theorem q_lstAt : lstAt ρ i = match ρ[i]? with
  | some (some (.list ds)) => some ds
  | _ => none := rfl
@[simp] theorem q_dctAt : dctAt ρ i = match ρ[i]? with
  | some (some (.dict ds)) => some ds
  | _ => none := rfl
@[simp] theorem q_put {dk dv : DE} : dPut i dk dv ρ o = (dv ρ o).bind fun v ρ1 o1 => match dctAt ρ1 i with
  | none => .bad
  | some _ => (dk ρ1 o1).bind fun y ρ2 o2 => match (dctAt ρ2 i).bind fun ps => putD ps y v with
    | some ps => .ok .nx (ρ2.set i (some (.dict ps))) o2
    | none => .bad := rfl
@[simp] theorem q_seq : dSeq s1 s2 ρ o = (s1 ρ o).bind fun v ρ1 o1 => match v with
  | .nx => s2 ρ1 o1
  | v => .ok v ρ1 o1 := by
  unfold dSeq
  cases s1 ρ o with
  | ok v ρ1 o1 => cases v <;> rfl
  | _ => rfl
@[simp] theorem q_pass : dPass ρ o = .ok .nx ρ o := rfl
@[simp] theorem q_asg : dAsg i d ρ o = (d ρ o).bind fun v ρ1 o1 => .ok .nx (ρ1.set i (some v)) o1 := rfl
@[simp] theorem q_asgC : dAsgC i d ρ o = (d ρ o).bind fun v ρ1 o1 => if isC v = true then .ok .nx (ρ1.set i (some v)) o1 else .bad := rfl
@[simp] theorem q_asgG {τ : DG} : dAsgG d τ ρ o = (d ρ o).bind fun v ρ1 o1 => match τ v ρ1 with
  | some ρ2 => .ok .nx ρ2 o1
  | none => .bad := rfl
@[simp] theorem q_drop : dDrop d ρ o = (d ρ o).bind fun _ ρ1 o1 => .ok .nx ρ1 o1 := rfl
@[simp] theorem q_ret : dRet d ρ o = (d ρ o).bind fun v ρ1 o1 => .ok (.ret v) ρ1 o1 := rfl
@[simp] theorem q_retN : dRetN ρ o = .ok (.ret .none) ρ o := rfl
@[simp] theorem q_ifS : dIfS c s1 s2 ρ o = (c ρ o).bind fun v ρ1 o1 => if v = true then s1 ρ1 o1 else s2 ρ1 o1 := rfl
@[simp] theorem q_par {is : List Nat} : dPar is ds ρ o = (ds ρ o).bind fun vs ρ1 o1 => if vs.length = is.length then .ok .nx (setsE ρ1 is vs) o1 else .bad := rfl
@[simp] theorem q_raise {c f : Str} : dRaise c f d ρ o = (d ρ o).bind fun v ρ1 o1 => .ex ⟨c, [(f, v)]⟩ ρ1 o1 := rfl
@[simp] theorem q_for {it : DA} {τ : DG} : dFor it τ s ρ o = (it ρ o).bind fun vs ρ1 o1 => loopF τ s vs ρ1 o1 := rfl
@[simp] theorem q_comp {it : DA} {ks : List Nat} {τ : DG} {t : DT} {e : DE} : dComp it ks τ t e ρ o = (it ρ o).bind fun xs ρ1 o1 => (loopC τ t e (wipeE ρ1 ks) xs o1 []).bind fun acc _ o2 => .ok (.list acc) ρ1 o2 := rfl
@[simp] theorem q_yes : dYes ρ o = .ok true ρ o := rfl
@[simp] theorem q_items : dItems d ρ o = (d ρ o).bind fun v ρ1 o1 => .ofO (itemsD v) ρ1 o1 := rfl
@[simp] theorem q_keys : dKeys i ρ o = match ρ[i]? with
  | some (some v) => .ofO (keysD v) ρ o
  | _ => .bad := rfl
@[simp] theorem q_enum : dEnum d ρ o = (d ρ o).bind fun v ρ1 o1 => .ofO ((itemsD v).map enumL) ρ1 o1 := rfl
@[simp] theorem q_revI : dRevI d ρ o = (d ρ o).bind fun v ρ1 o1 => .ofO ((itemsD v).map List.reverse) ρ1 o1 := rfl
@[simp] theorem q_rng {φ : List PyData → Option (List PyData)} : dRng φ ds ρ o = (ds ρ o).bind fun vs ρ1 o1 => .ofO (φ vs) ρ1 o1 := rfl
@[simp] theorem q_lrng1 : dLRng1 d ρ o = (d ρ o).bind fun v ρ1 o1 => (Res.ofO (asI v) ρ1 o1).bind fun i ρ2 o2 => lrngR i ρ2 o2 := rfl
@[simp] theorem q_aNil : aNil ρ o = .ok [] ρ o := rfl
@[simp] theorem q_aCons {as : DAo} : aCons d as ρ o = (d ρ o).bind fun v ρ1 o1 => (as ρ1 o1).bind fun vs ρ2 o2 => .ok (some v :: vs) ρ2 o2 := rfl
@[simp] theorem q_aSt {as : DAo} : aSt as ρ o = match o.st with
  | none => .bad
  | some _ => (as ρ o).bind fun vs ρ2 o2 => .ok (none :: vs) ρ2 o2 := rfl
@[simp] theorem q_call {w : Bool} {F : DF} {as : DAo} : dCall w F as ρ o = (as ρ o).bind fun as ρ1 o1 => match F as o1 with
  | .ok v o2 => if (!w || flat v) = true then .ok v ρ1 o2 else .bad
  | .ex c o2 => if w = true then .bad else .ex c ρ1 o2
  | .bad => .bad := rfl
@[simp] theorem q_gName : gName i v ρ = some (ρ.set i (some v)) := rfl
@[simp] theorem q_gTup {n : Nat} {us : DGs} : gTup n us (.tuple vs) ρ = if vs.length = n then us vs ρ else none := rfl
@[simp] theorem q_gNil : gNil [] ρ = some ρ := rfl
@[simp] theorem q_gCons {t : DG} {us : DGs} : gCons t us (v :: vs) ρ = (t v ρ).bind fun ρ1 => us vs ρ1 := rfl
@[simp] theorem q_sets0 : setsE ρ [] [] = ρ := rfl
@[simp] theorem q_sets1 {is : List Nat} : setsE ρ (i :: is) (v :: vs) = setsE (ρ.set i (some v)) is vs := rfl
@[simp] theorem q_wipe0 : wipeE ρ [] = ρ := rfl
@[simp] theorem q_wipe1 {is : List Nat} : wipeE ρ (i :: is) = (wipeE ρ is).set i none := rfl
end

section
variable {i j : Int} {b : Bool} {xs ys : List PyData} {d : PyData}
@[simp] theorem q_asB : asB (.bool b) = some b := rfl
@[simp] theorem q_asI : asI (.int i) = some i := rfl
@[simp] theorem q_sub : phSub (.int i) (.int j) = some (.int (i - j)) := rfl
@[simp] theorem q_addI : phAdd (.int i) (.int j) = some (.int (i + j)) := rfl
@[simp] theorem q_neg : phNeg (.int i) = some (.int (-i)) := rfl
@[simp] theorem q_phC {h : Int → Int → Bool} : phC h (.int i) (.int j) = some (.bool (h i j)) := rfl
@[simp] theorem q_eqI : phEq (.int i) (.int j) = some (.bool (i == j)) := rfl
@[simp] theorem q_neI : phNe (.int i) (.int j) = some (.bool (!(i == j))) := rfl
@[simp] theorem q_len : phLen [.list xs] = some (.int xs.length) := rfl
@[simp] theorem q_lenT : phLen [.tuple xs] = some (.int xs.length) := rfl
@[simp] theorem q_tupL : phTuple [.list xs] = some (.tuple xs) := rfl
@[simp] theorem q_tupT : phTuple [.tuple xs] = some (.tuple xs) := rfl
@[simp] theorem q_lstL : phList [.list xs] = some (.list xs) := rfl
@[simp] theorem q_itL : itemsD (.list xs) = some xs := rfl
@[simp] theorem q_itT : itemsD (.tuple xs) = some xs := rfl
@[simp] theorem q_isCL : isC (.list xs) = true := rfl
@[simp] theorem q_isCD {ps : List (PyData × PyData)} : isC (.dict ps) = true := rfl
@[simp] theorem q_ixT : phIx (.tuple xs) (.int i) = L2.atI xs i := rfl
@[simp] theorem q_ixL : phIx (.list xs) (.int i) = L2.atI xs i := rfl
@[simp] theorem q_cutT {lo hi : Option Int} : phCut (.tuple xs) lo hi = some (.tuple (cutD xs lo hi)) := rfl
@[simp] theorem q_cutL {lo hi : Option Int} : phCut (.list xs) lo hi = some (.list (cutD xs lo hi)) := rfl
@[simp] theorem q_rev : phRev (.tuple xs) = some (.tuple xs.reverse) := rfl
@[simp] theorem q_intI : phInt [.int i] = some (.int i) := rfl
@[simp] theorem q_maxL : phMaxN [.list xs] = phMax [.list xs] := rfl
@[simp] theorem q_maxT : phMaxN [.tuple xs] = phMax [.tuple xs] := rfl
@[simp] theorem q_max2 : phMaxN [.int i, .int j] = some (.int (max i j)) := rfl
@[simp] theorem q_mulLl {k : Int} : phMulL (.list xs) (.int k) = if (absLt k 1000001 && Nat.ble (xs.length * k.toNat) 16777216) = true then some (.list (List.replicate k.toNat xs).flatten) else none := rfl
theorem q_addT (h : xs.length + ys.length ≤ sizeLine) : phAdd (.tuple xs) (.tuple ys) = some (.tuple (xs ++ ys)) := if_pos h
theorem q_addL (h : xs.length + ys.length ≤ sizeLine) : phAdd (.list xs) (.list ys) = some (.list (xs ++ ys)) := if_pos h
end
theorem sz {n : Nat} (h : n ≤ 16777216) : n ≤ sizeLine := by rw [sizeLine_eq]; exact h
theorem szl {n : Nat} (h : n < 16777216) : n < sizeLine := by rw [sizeLine_eq]; exact h

def finR (o : Orc) (r : Res Fl) : FR := match r with
  | .ok .nx _ o' => if o.st.isNone && o'.st.isSome then .bad else .ok .none o'
  | .ok (.ret v) _ o' => if o.st.isNone && o'.st.isSome then .bad else .ok v o'
  | .ok _ _ _ => .bad
  | .ex c _ o' => if o.st.isNone && o'.st.isSome then .bad else .ex c o'
  | .bad => .bad
theorem dFn_fin {N n : Nat} {ist : Option Nat} {d : DS} {args : Env} {o : Orc} : dFn N n ist d args o = if (decide (args.length = n) && stAt args n ist) = true then finR o (d (args ++ List.replicate (N - args.length) none) o) else .bad := by
  unfold dFn finR
  split
  · generalize d (args ++ List.replicate (N - args.length) none) o = r
    cases r with
    | ok fl _ _ => cases fl <;> rfl
    | _ => rfl
  · rfl
section
variable {o o' : Orc} {ρ : Env} {v : PyData} {c : Exn}
theorem nos (o : Orc) : (o.st.isNone && o.st.isSome) = false := by cases o.st <;> rfl
@[simp] theorem finR_ret : finR o (.ok (.ret v) ρ o) = .ok v o := by simp [finR, nos]
@[simp] theorem finR_nx : finR o (.ok .nx ρ o) = .ok .none o := by simp [finR, nos]
@[simp] theorem finR_ex : finR o (.ex c ρ o) = .ex c o := by simp [finR, nos]
theorem finS_ret (h : o.st.isSome = true) : finR o (.ok (.ret v) ρ o') = .ok v o' := by
  cases e : o.st with
  | none => rw [e] at h; cases h
  | some q => simp [finR, e]
end
theorem run_ret {N n : Nat} {ist : Option Nat} {d : DS} {args : Env} {o o' : Orc} {v : PyData} {ρ' : Env} (hd : d (args ++ List.replicate (N - args.length) none) o = .ok (.ret v) ρ' o') (h : (decide (args.length = n) && stAt args n ist) = true := by rfl) (hs : (o.st.isNone && o'.st.isSome) = false := by simp) : dFn N n ist d args o = .ok v o' := by
  unfold dFn
  rw [if_pos h, hd]
  simp only [hs]
  rfl
theorem run_nx {N n : Nat} {ist : Option Nat} {d : DS} {args : Env} {o o' : Orc} {ρ' : Env} (hd : d (args ++ List.replicate (N - args.length) none) o = .ok .nx ρ' o') (h : (decide (args.length = n) && stAt args n ist) = true := by rfl) (hs : (o.st.isNone && o'.st.isSome) = false := by simp) : dFn N n ist d args o = .ok .none o' := by
  unfold dFn
  rw [if_pos h, hd]
  simp only [hs]
  rfl
theorem run_ex {N n : Nat} {ist : Option Nat} {d : DS} {args : Env} {o o' : Orc} {c : Exn} {ρ' : Env} (hd : d (args ++ List.replicate (N - args.length) none) o = .ex c ρ' o') (h : (decide (args.length = n) && stAt args n ist) = true := by rfl) (hs : (o.st.isNone && o'.st.isSome) = false := by simp) : dFn N n ist d args o = .ex c o' := by
  unfold dFn
  rw [if_pos h, hd]
  simp only [hs]
  rfl

/-- a for that runs through -/
theorem run_for {α : Type} {τ : DG} {body : DS} (enc : α → PyData) (I : List α → Env → Orc → Prop)
    (step : ∀ x xs ρ o, I (x :: xs) ρ o → ∃ ρ1 ρ2 o2, τ (enc x) ρ = some ρ1 ∧ body ρ1 o = .ok .nx ρ2 o2 ∧ I xs ρ2 o2) : ∀ {xs : List α} {ρ : Env} {o : Orc}, I xs ρ o → ∃ ρ' o', loopF τ body (xs.map enc) ρ o = .ok .nx ρ' o' ∧ I [] ρ' o'
  | [], ρ, o, h => ⟨ρ, o, rfl, h⟩
  | x :: xs, ρ, o, h => by
    obtain ⟨ρ1, ρ2, o2, e1, e2, h2⟩ := step x xs ρ o h
    obtain ⟨ρ', o', e3, h3⟩ := run_for enc I step h2
    refine ⟨ρ', o', ?_, h3⟩
    simp only [List.map_cons, loopF, e1, e2, Res.bind, e3]
theorem run_forI {α : Type} {τ : DG} {body : DS} (enc : α → PyData) {xs : List α} {ρ : Env} {o : Orc} (I : List α → Env → Orc → Prop) (h0 : I xs ρ o)
    (step : ∀ x xs ρ o, I (x :: xs) ρ o → ∃ ρ1 ρ2 o2, τ (enc x) ρ = some ρ1 ∧ body ρ1 o = .ok .nx ρ2 o2 ∧ I xs ρ2 o2) : ∃ ρ' o', loopF τ body (xs.map enc) ρ o = .ok .nx ρ' o' ∧ I [] ρ' o' := run_for enc I step h0
/-- a comprehension that draws nothing -/
theorem run_comp {α β : Type} {τ : DG} {t : DT} {e : DE} {ρ : Env} {o : Orc} (enc : α → PyData) (enc' : β → PyData) (p : α → Bool) (f : α → β) (hf : ∀ b, flat (enc' b) = true) : ∀ {xs : List α} {acc : List β},
    (∀ x ∈ xs, ∃ ρ1 ρ2, τ (enc x) ρ = some ρ1 ∧ t ρ1 o = .ok (p x) ρ2 o ∧ (p x = true → ∃ ρ3, e ρ2 o = .ok (enc' (f x)) ρ3 o)) → acc.length + xs.length ≤ 16777216 →
    loopC τ t e ρ (xs.map enc) o (acc.map enc') = .ok ((acc ++ (xs.filter p).map f).map enc') ρ o
  | [], acc, _, _ => by simp [loopC]
  | x :: xs, acc, h, hl => by
    obtain ⟨ρ1, ρ2, e1, e2, e3⟩ := h x List.mem_cons_self
    have h' := fun y hy => h y (List.mem_cons_of_mem _ hy)
    simp only [List.length_cons] at hl
    rw [List.map_cons]
    unfold loopC
    simp only [e1, e2]
    cases hp : p x with
    | false =>
      simp only [Bool.false_eq_true, if_false]
      rw [run_comp enc enc' p f hf h' (by omega)]
      simp [hp]
    | true =>
      obtain ⟨ρ3, e4⟩ := e3 hp
      simp only [if_true, e4]
      rw [if_pos ⟨hf _, szl (by simp; omega)⟩]
      rw [show acc.map enc' ++ [enc' (f x)] = (acc ++ [f x]).map enc' by simp, run_comp enc enc' p f hf h' (by simp; omega)]
      simp [hp]
theorem run_comp0 {α β : Type} {τ : DG} {t : DT} {e : DE} {ρ : Env} {o : Orc} (enc : α → PyData) (enc' : β → PyData) (p : α → Bool) (f : α → β) (hf : ∀ b, flat (enc' b) = true) {xs : List α}
    (h : ∀ x ∈ xs, ∃ ρ1 ρ2, τ (enc x) ρ = some ρ1 ∧ t ρ1 o = .ok (p x) ρ2 o ∧ (p x = true → ∃ ρ3, e ρ2 o = .ok (enc' (f x)) ρ3 o)) (hl : xs.length ≤ 16777216) :
    loopC τ t e ρ (xs.map enc) o [] = .ok (((xs.filter p).map f).map enc') ρ o := by
  have := run_comp (acc := []) enc enc' p f hf h (by simpa using hl)
  simpa using this
/-- .. of all items -/
theorem run_map {α β : Type} {τ : DG} {e : DE} {ρ : Env} {o : Orc} (enc : α → PyData) (enc' : β → PyData) (f : α → β) (hf : ∀ b, flat (enc' b) = true) {xs : List α}
    (h : ∀ x ∈ xs, ∃ ρ1 ρ3, τ (enc x) ρ = some ρ1 ∧ e ρ1 o = .ok (enc' (f x)) ρ3 o) (hl : xs.length ≤ 16777216) :
    loopC τ dYes e ρ (xs.map enc) o [] = .ok ((xs.map f).map enc') ρ o := by
  have := run_comp0 (t := dYes) enc enc' (fun _ => true) f hf (xs := xs) (e := e) (τ := τ) (ρ := ρ) (o := o) (fun x hx => by
    obtain ⟨ρ1, ρ3, e1, e2⟩ := h x hx
    exact ⟨ρ1, ρ1, e1, rfl, fun _ => ⟨ρ3, e2⟩⟩) hl
  rw [List.filter_eq_self.mpr fun _ _ => rfl] at this
  exact this

abbrev iT (l : List Int) : PyData := .tuple (l.map .int)
abbrev shD (s : List (List Int)) : PyData := .tuple (s.map iT)
@[simp] theorem flat_int (i : Int) : flat (.int i) = true := rfl
theorem flats_ints : ∀ l : List Int, flats (l.map .int) = true
  | [] => rfl
  | _ :: l => by simp [flats, flat, flats_ints l]
@[simp] theorem flat_iT (l : List Int) : flat (iT l) = true := by simp [flat, flats_ints]
theorem atI_nat {α : Type} {xs : List α} {i : Nat} {x : α} (h : xs[i]? = some x) : L2.atI xs (i : Int) = some x := by
  have hl := (List.getElem?_eq_some_iff.mp h).1
  have e : L2.ixN xs.length (i : Int) = some i := by
    unfold L2.ixN
    rw [if_pos (by omega), if_pos (by omega)]
    simp
  unfold L2.atI
  rw [e]
  exact h
theorem atI_last {α : Type} {xs : List α} (h : xs ≠ []) : L2.atI xs (-1) = some (xs.getLast h) := by
  have hl : 0 < xs.length := List.length_pos_iff.mpr h
  have e : L2.ixN xs.length (-1) = some (xs.length - 1) := by
    unfold L2.ixN
    rw [if_neg (by omega), if_pos (by omega)]
    congr 1
    omega
  unfold L2.atI
  rw [e]
  simp only [Option.bind]
  rw [List.getLast_eq_getElem, List.getElem?_eq_getElem]
theorem cut_from {xs : List PyData} {i : Nat} (h : i ≤ xs.length) : cutD xs (some (i : Int)) none = xs.drop i := by
  unfold cutD
  have e1 : HT.sIx xs.length 0 (some (i : Int)) = i := by rw [HT.sIx_nat]; omega
  have e2 : HT.sIx xs.length xs.length none = xs.length := rfl
  rw [e1, e2]
  apply List.take_of_length_le
  simp
theorem cut_to {xs : List PyData} {i : Nat} : cutD xs none (some (i : Int)) = xs.take i := by
  unfold cutD
  have e1 : HT.sIx xs.length 0 none = 0 := rfl
  rw [e1, HT.sIx_nat]
  simp
end FL
namespace FL
open PySem PySem.Spec PyProof.Rows L2 PySem.W

theorem dlt_iT (xs ys : List Int) : dataLt (iT xs) (iT ys) = decide (xs < ys) := by
  rw [dataLt_tuple]
  exact dataLt_ints xs ys
theorem dlt_int (x y : Int) : dataLt (.int x) (.int y) = decide (x < y) := dataLt_int x y
theorem minD_rows : ∀ (xs : List (List Int)) (x : List Int), minD (iT x) (xs.map iT) = iT (lmin x xs)
  | [], x => rfl
  | y :: xs, x => by
    have ih := minD_rows xs
    unfold minD lmin at ih ⊢
    simp only [List.map_cons, List.foldl_cons, dlt_iT]
    by_cases h : y < x
    · simp only [h, decide_true, if_true]; exact ih y
    · simp only [h, decide_false, Bool.false_eq_true, if_false]; exact ih x
theorem alike_iT (x y : List Int) : alike (iT x) (iT y) = true := by
  simp only [alike]
  exact alike_ints x y
theorem plain_iT (x : List Int) : PyData.plain (iT x) = true := by simp only [PyData.plain]; exact plain_ints x
theorem depth_iT (x : List Int) : PyData.depth (iT x) = 1 := by simp only [PyData.depth, depth_ints x]
theorem plainAll_rows : ∀ xs : List (List Int), PyData.plainAll (xs.map iT) = true
  | [] => rfl
  | x :: xs => by simp only [List.map_cons, PyData.plainAll, plain_iT, plainAll_rows xs, Bool.and_self]
theorem depthAll_rows : ∀ xs : List (List Int), PyData.depthAll (xs.map iT) ≤ 1
  | [] => Nat.zero_le _
  | x :: xs => by
    simp only [List.map_cons, PyData.depthAll, depth_iT]
    have := depthAll_rows xs
    omega
theorem okDs_rows (xs : List (List Int)) : okDs (xs.map iT) = true := by
  unfold okDs
  rw [plainAll_rows, Bool.true_and, decide_eq_true_eq]
  have := depthAll_rows xs
  omega
theorem okDs_ints (xs : List Int) : okDs (xs.map .int) = true := by
  unfold okDs
  rw [plain_ints, depth_ints]
  rfl
theorem ordD_rows (xs : List (List Int)) : ordD (xs.map iT) = true := by
  unfold ordD
  rw [okDs_rows, Bool.and_true, List.all_eq_true]
  intro d hd
  obtain ⟨x, _, rfl⟩ := List.mem_map.mp hd
  rw [Bool.and_eq_true]
  refine ⟨rfl, List.all_eq_true.mpr fun e he => ?_⟩
  obtain ⟨y, _, rfl⟩ := List.mem_map.mp he
  exact alike_iT x y
theorem ordD_ints (xs : List Int) : ordD (xs.map .int) = true := by
  unfold ordD
  rw [okDs_ints, Bool.and_true, List.all_eq_true]
  intro d hd
  obtain ⟨x, _, rfl⟩ := List.mem_map.mp hd
  rw [Bool.and_eq_true]
  refine ⟨rfl, List.all_eq_true.mpr fun e he => ?_⟩
  obtain ⟨y, _, rfl⟩ := List.mem_map.mp he
  rfl
theorem least_rows (x : List Int) (xs : List (List Int)) : leastD (iT x :: xs.map iT) = some (iT (lmin x xs)) := by
  have h := ordD_rows (x :: xs)
  simp only [List.map_cons] at h
  simp only [leastD, if_pos h, minD_rows]
theorem minN_list (x : List Int) (xs : List (List Int)) : phMinN [.list (iT x :: xs.map iT)] = some (iT (lmin x xs)) := least_rows x xs
theorem minN_three (x y z : List Int) : phMinN [iT x, iT y, iT z] = some (iT (lmin x [y, z])) := by
  show (if (FL.flatI (iT x) && FL.flatI (iT y) && FL.flatI (iT z)) = true then leastD [iT x, iT y, iT z] else none) = _
  exact (if_pos rfl).trans (least_rows x [y, z])
theorem minN_ints (n : Int) (ns : List Int) : phMinN [.tuple (.int n :: ns.map .int)] = some (.int (ns.foldl min n)) := by
  show leastD (.int n :: ns.map .int) = _
  have h := ordD_ints (n :: ns)
  simp only [List.map_cons] at h
  simp only [leastD, if_pos h, minD_ints]
theorem max_ints (n : Int) (ns : List Int) : phMax [.list (.int n :: ns.map .int)] = some (.int (ns.foldl max n)) := by
  show mostD (.int n :: ns.map .int) = _
  have h := ordD_ints (n :: ns)
  simp only [List.map_cons] at h
  simp only [mostD, if_pos h, maxD_ints]

theorem sortD_rows (xs : List (List Int)) (h : ∀ x ∈ xs, x ≠ []) (hl : xs.length ≤ 16777216) : sortD (xs.map iT) = some ((rsort xs).map iT) := by
  have hs : srtD (xs.map iT) = true := by
    unfold srtD
    simp only [Bool.and_eq_true, Bool.or_eq_true, decide_eq_true_eq, List.all_eq_true]
    refine ⟨⟨⟨fun d hd e he => ?_, okDs_rows xs⟩, .inl fun d hd => ?_⟩, by rw [List.length_map]; exact sz hl⟩
    · obtain ⟨x, _, rfl⟩ := List.mem_map.mp hd
      obtain ⟨y, _, rfl⟩ := List.mem_map.mp he
      exact alike_iT x y
    · obtain ⟨x, hx, rfl⟩ := List.mem_map.mp hd
      have := h x hx
      cases x with
      | nil => exact absurd rfl this
      | cons a b => rfl
  unfold sortD
  rw [if_pos hs]
  congr 1
  unfold rsort
  rw [sortL_eq]
  rw [List.map_mergeSort]
  intro a _ b _
  show rle a b = !dataLt (iT b) (iT a)
  rw [dlt_iT]
  unfold rle
  by_cases q : b < a <;> simp [q]
theorem sortD_ints (xs : List Int) (hl : xs.length ≤ 16777216) : sortD (xs.map .int) = some ((isort xs).map .int) := by
  have hs : srtD (xs.map .int) = true := by
    unfold srtD
    simp only [Bool.and_eq_true, Bool.or_eq_true, decide_eq_true_eq, List.all_eq_true]
    refine ⟨⟨⟨fun d hd e he => ?_, okDs_ints xs⟩, .inr fun d hd => ?_⟩, by rw [List.length_map]; exact sz hl⟩
    · obtain ⟨x, _, rfl⟩ := List.mem_map.mp hd
      obtain ⟨y, _, rfl⟩ := List.mem_map.mp he
      rfl
    · obtain ⟨x, hx, rfl⟩ := List.mem_map.mp hd
      rfl
  unfold sortD
  rw [if_pos hs]
  congr 1
  unfold isort
  rw [sortL_eq]
  rw [List.map_mergeSort]
  intro a _ b _
  show decide (a ≤ b) = !dataLt (.int b) (.int a)
  rw [dlt_int]
  by_cases q : b < a <;> simp [q] <;> omega
end FL
namespace FL
open PySem PySem.Spec PyProof.Rows L2 PySem.W
namespace Q
theorem isa_int (n : Int) : phIsa "int" (.int n) = some (.bool true) := rfl
theorem isa_bool (n : Int) : phIsa "bool" (.int n) = some (.bool false) := rfl
theorem isa_tup {xs : List PyData} (h : PyData.plainAll xs = true) : phIsa "tuple" (.tuple xs) = some (.bool true) := by
  unfold phIsa isaD
  simp [PyData.plain, h]
  rfl
theorem r_is_from (n lo hi : Int) (o : Orc) : D_is_from [some (.int n), some (.int lo), some (.int hi)] o = .ok (.bool (decide (lo ≤ n) && decide (n ≤ hi))) o := by
  by_cases h1 : lo ≤ n <;> simp [D_is_from, dFn_fin, d_is_from, stAt, isa_int, isa_bool, h1]
theorem r_edge_of (n : Int) (o : Orc) : D_edge_of [some (.int n)] o = .ok (.int (edg n)) o := by
  by_cases h1 : 0 ≤ n <;> simp [D_edge_of, dFn_fin, d_edge_of, stAt, h1, edg]
theorem r_turned_to (l : List Int) (i : Nat) (o : Orc) (hi : i ≤ l.length) (hl : l.length ≤ 1000) : D_turned_to [some (iT l), some (.int i)] o = .ok (iT (rot l i)) o := by
  have e1 : cutD (l.map PyData.int) (some (i : Int)) none = (l.map .int).drop i := cut_from (by simpa using hi)
  have e2 : cutD (l.map PyData.int) none (some (i : Int)) = (l.map .int).take i := cut_to
  have hz : ((l.map PyData.int).drop i).length + ((l.map PyData.int).take i).length ≤ sizeLine := sz (by simp; omega)
  simp [D_turned_to, dFn_fin, d_turned_to, stAt, e1, e2, q_addT hz, rot]
theorem trip_iT {t : List Int} (h : t.length = 3) : trip (t.map .int) = true := by
  match t, h with
  | [a, b, c], _ => rfl
theorem tripD_iT {t : List Int} (h : t.length = 3) : tripD (iT t) = true := by
  match t, h with
  | [a, b, c], _ => rfl
theorem intsOf_ints : ∀ t : List Int, intsOf (t.map .int) = some t
  | [] => rfl
  | a :: t => by simp [intsOf, intsOf_ints t]
theorem ph_index {t : List Int} {k : Int} (h : t.length = 3) (hk : k ∈ t) : phIndex (iT t) (.int k) = some (.int (t.idxOf k : Nat)) := by
  unfold phIndex
  simp [trip_iT h, intsOf_ints, hk]
theorem minN_iT {t : List Int} (h : t ≠ []) : phMinN [iT t] = some (.int (mnI t)) := by
  cases t with
  | nil => exact absurd rfl h
  | cons a l => exact minN_ints a l
theorem ph_sorted_rows {xs : List (List Int)} (h : ∀ x ∈ xs, x ≠ []) (hl : xs.length ≤ 16777216) : phSorted [.list (xs.map iT)] = some (.list ((rsort xs).map iT)) := by
  show (sortD (xs.map iT)).map PyData.list = _
  rw [sortD_rows xs h hl]
  rfl
theorem r_plain_of (s : List (List Int)) (o : Orc) (h3 : ∀ t ∈ s, t.length = 3) (hl : s.length ≤ 1000) : D_plain_of [some (shD s)] o = .ok (shD (plainL s)) o := by
  have hc := run_map (τ := gName 1) (e := dCall false D_turned_to (aCons (dVar 1) (aCons (dIndex (dVar 1) (dOpN phMinN (dCons (dVar 1) dNil))) aNil))) (ρ := [some (shD s), none]) (o := o) iT iT plT flat_iT (xs := s) (fun t ht => by
    have n3 := h3 t ht
    have ne : t ≠ [] := by intro e; rw [e] at n3; simp at n3
    refine ⟨_, [some (shD s), some (iT t)], rfl, ?_⟩
    have hi : t.idxOf (mnI t) ≤ t.length := List.idxOf_le_length
    have em : phMinN [iT t] = some (.int (mnI t)) := minN_iT ne
    simp [em, tripD_iT n3, ph_index n3 (mnI_mem ne), r_turned_to t _ o hi (by omega), plT]) (by omega)
  have hne : ∀ x ∈ s.map plT, x ≠ [] := by
    intro x hx
    obtain ⟨t, ht, rfl⟩ := List.mem_map.mp hx
    intro e
    have := (plT_perm t).length_eq
    rw [e, h3 t ht] at this
    simp at this
  have hs := ph_sorted_rows (xs := s.map plT) hne (by simp; omega)
  simp only [List.map_map] at hs hc
  simp [D_plain_of, dFn_fin, d_plain_of, stAt, hc, hs, plainL]
end Q
end FL
namespace FL
open PySem PySem.Spec PyProof.Rows L2 PySem.W
/-- the table as a dict -/
def rowA (k : Nat) : Nat → List Int → List (PyData × PyData)
  | _, [] => []
  | i, x :: t => (.int x, .tuple [.int k, .int i]) :: rowA k (i + 1) t
def tabA : Nat → List (List Int) → List (PyData × PyData)
  | _, [] => []
  | k, t :: s => rowA k 0 t ++ tabA (k + 1) s
abbrev tabD (s : List (List Int)) : PyData := .dict (tabA 0 s)
def eL (k : Nat) : List PyData → List PyData
  | [] => []
  | v :: vs => .tuple [.int k, v] :: eL (k + 1) vs
theorem enum_go : ∀ (vs : List PyData) (k : Nat), vs.mapIdx (fun i v => PyData.tuple [.int ((i + k : Nat) : Int), v]) = eL k vs
  | [], k => rfl
  | v :: vs, k => by
    rw [List.mapIdx_cons]
    have ih := enum_go vs (k + 1)
    unfold eL
    rw [← ih]
    simp [Nat.add_assoc, Nat.add_comm 1 k]
theorem enumL_eq (vs : List PyData) : enumL vs = eL 0 vs := enum_go vs 0
theorem rowA_keys (k : Nat) : ∀ (i : Nat) (t : List Int), (rowA k i t).map (·.1) = t.map .int
  | _, [] => rfl
  | i, x :: t => by simp [rowA, rowA_keys k (i + 1) t]
theorem tabA_keys : ∀ (k : Nat) (s : List (List Int)), (tabA k s).map (·.1) = s.flatten.map .int
  | _, [] => rfl
  | k, t :: s => by simp [tabA, rowA_keys, tabA_keys (k + 1) s]
theorem toK_int (x : Int) : toK (.int x) = some (.inl x) := rfl
theorem allK_keys {ps : List (PyData × PyData)} {l : List Int} (h : ps.map (·.1) = l.map .int) : allK ps = true := by
  unfold allK
  rw [List.all_eq_true]
  intro p hp
  have : p.1 ∈ l.map PyData.int := by rw [← h]; exact List.mem_map_of_mem hp
  obtain ⟨x, _, e⟩ := List.mem_map.mp this
  rw [← e]
  rfl
theorem getK_none {ps : List (PyData × PyData)} {l : List Int} (h : ps.map (·.1) = l.map .int) {x : Int} (hx : x ∉ l) : getK (.inl x) ps = none := by
  induction ps generalizing l with
  | nil => rfl
  | cons p ps ih =>
    cases l with
    | nil => simp at h
    | cons y l =>
      simp only [List.map_cons, List.cons.injEq] at h
      unfold getK
      rw [h.1, toK_int, if_neg (by intro e; injection e with e; injection e with e; exact hx (by rw [e]; simp))]
      exact ih h.2 fun q => hx (List.mem_cons_of_mem _ q)
theorem getK_append (k : Key) : ∀ (ps qs : List (PyData × PyData)), getK k (ps ++ qs) = (getK k ps).or (getK k qs)
  | [], qs => rfl
  | p :: ps, qs => by
    simp only [List.cons_append, getK]
    split
    · rfl
    · exact getK_append k ps qs
theorem getK_row (k : Nat) (x : Int) : ∀ (i : Nat) (t : List Int), getK (.inl x) (rowA k i t) = if x ∈ t then some (.tuple [.int k, .int ((i + t.idxOf x : Nat) : Int)]) else none
  | _, [] => rfl
  | i, y :: t => by
    unfold rowA getK
    rw [toK_int]
    by_cases h : y = x
    · subst h
      simp
    · have h2 : ¬ x = y := fun e => h e.symm
      rw [if_neg (by intro e; injection e with e; injection e with e; exact h e), getK_row k x (i + 1) t]
      simp only [List.mem_cons, h2, false_or]
      split
      · rw [List.idxOf_cons]
        have hb : (y == x) = false := by simpa using h
        simp [hb]
        omega
      · rfl
theorem getK_tab (x : Int) : ∀ (k : Nat) (s : List (List Int)), getK (.inl x) (tabA k s) = if x ∈ s.flatten then some (.tuple [.int ((k + num s x : Nat) : Int), .int ((tri s x).idxOf x : Nat)]) else none
  | _, [] => rfl
  | k, t :: s => by
    unfold tabA
    rw [getK_append, getK_row]
    by_cases h : x ∈ t
    · simp [h, num, tri, List.findIdx_cons]
    · rw [if_neg h, getK_tab x (k + 1) s]
      simp only [List.flatten_cons, List.mem_append, h, false_or]
      split
      · have e1 : num (t :: s) x = num s x + 1 := by simp [num, List.findIdx_cons, h]
        have e2 : tri (t :: s) x = tri s x := by unfold tri; rw [e1]; rfl
        rw [e1, e2, Nat.add_assoc, Nat.add_comm 1]
        rfl
      · rfl
theorem tab_ne {s : List (List Int)} {x : Int} (h : x ∈ s.flatten) (k : Nat) : (tabA k s).isEmpty = false := by
  have e := tabA_keys k s
  cases h2 : tabA k s with
  | nil =>
    rw [h2] at e
    simp only [List.map_nil] at e
    have e0 : s.flatten = [] := List.map_eq_nil_iff.mp e.symm
    rw [e0] at h
    cases h
  | cons _ _ => rfl
/-- a sheet with a side -/
def Has (s : List (List Int)) : Prop := ∃ x, x ∈ s.flatten
theorem Sht.has {s : List (List Int)} (h : Sht s) : Has s := by
  cases hs : s with
  | nil => exact absurd hs h.ne
  | cons t u =>
    have := h.tri t (by rw [hs]; simp)
    cases t with
    | nil => simp at this
    | cons a l => exact ⟨a, by simp⟩
theorem getD_tab {s : List (List Int)} (h : Has s) (x : Int) : getD (tabA 0 s) (.int x) = some (if x ∈ s.flatten then some (.tuple [.int (num s x : Nat), .int ((tri s x).idxOf x : Nat)]) else none) := by
  obtain ⟨y, hy⟩ := h
  unfold getD
  rw [tab_ne hy 0]
  simp only [Bool.false_eq_true, if_false, toK_int, allK_keys (tabA_keys 0 s), if_true, getK_tab, Nat.zero_add]
theorem in_tab {s : List (List Int)} (h : Has s) (x : Int) : phIn (.int x) (tabD s) = some (.bool (decide (x ∈ s.flatten))) := by
  unfold phIn inD
  simp only [getD_tab h]
  split <;> simp_all
theorem notIn_tab {s : List (List Int)} (h : Has s) (x : Int) : phNotIn (.int x) (tabD s) = some (.bool (!decide (x ∈ s.flatten))) := by
  unfold phNotIn inD
  simp only [getD_tab h]
  split <;> simp_all
theorem ix_tab {s : List (List Int)} {x : Int} (h : x ∈ s.flatten) : phIx (tabD s) (.int x) = some (.tuple [.int (num s x : Nat), .int ((tri s x).idxOf x : Nat)]) := by
  show (getD (tabA 0 s) (.int x)).bind id = _
  rw [getD_tab ⟨x, h⟩, if_pos h]
  rfl
theorem keys_tab {s : List (List Int)} (h : Has s) : keysD (tabD s) = some (s.flatten.map .int) := by
  obtain ⟨y, hy⟩ := h
  have h1 := allK_keys (tabA_keys 0 s)
  unfold allK at h1
  simp only [keysD, tab_ne hy 0, h1, tabA_keys, Bool.not_false, Bool.true_and, if_true]
theorem putKd_new {ps : List (PyData × PyData)} {l : List Int} (h : ps.map (·.1) = l.map .int) {x : Int} (hx : x ∉ l) (v : PyData) (hl : ps.length < sizeLine) : putD ps (.int x) v = some (ps ++ [(.int x, v)]) := by
  have ha : (ps.any fun p => decide (toK p.1 = some (.inl x))) = false := by
    rw [List.any_eq_false]
    intro p hp
    have : p.1 ∈ l.map PyData.int := by rw [← h]; exact List.mem_map_of_mem hp
    obtain ⟨y, hy, e⟩ := List.mem_map.mp this
    rw [← e, toK_int]
    simp only [decide_eq_true_eq]
    intro e
    injection e with e
    injection e with e
    exact hx (e ▸ hy)
  unfold putD
  rw [if_pos hl, toK_int]
  simp only [allK_keys h, if_true]
  unfold putKd
  rw [ha]
  rfl
end FL
namespace FL
open PySem PySem.Spec PyProof.Rows L2 PySem.W
namespace Q
theorem tabA_len (k : Nat) (s : List (List Int)) : (tabA k s).length = s.flatten.length := by
  have := congrArg List.length (tabA_keys k s)
  rw [List.length_map, List.length_map] at this
  exact this
theorem rowA_len (k i : Nat) (t : List Int) : (rowA k i t).length = t.length := by
  have := congrArg List.length (rowA_keys k i t)
  simpa using this
theorem side_row (τ : DG) (body : DS) (hτ : τ = gTup 2 (gCons (gName 4) (gCons (gName 5) gNil))) (hb : body = dPut 1 (dVar 5) (dTup (dCons (dVar 2) (dCons (dVar 4) dNil)))) (k : Nat) (a c : Option PyData) (o : Orc) :
    ∀ (t : List Int) (i : Nat) (ps : List (PyData × PyData)) (l : List Int) (x y : Option PyData), ps.map (·.1) = l.map .int → (l ++ t).Nodup → (l ++ t).length ≤ 1000 →
    ∃ x' y', loopF τ body (eL i (t.map .int)) [a, some (.dict ps), some (.int k), c, x, y] o = .ok .nx [a, some (.dict (ps ++ rowA k i t)), some (.int k), c, x', y'] o
  | [], i, ps, l, x, y, h, nd, hl => ⟨x, y, by simp [loopF, eL, rowA]⟩
  | z :: t, i, ps, l, x, y, h, nd, hl => by
    have hz : z ∉ l := by
      intro q
      rw [List.nodup_append] at nd
      exact nd.2.2 z q z (by simp) rfl
    have hlen : ps.length = l.length := by have := congrArg List.length h; simpa using this
    have hl2 : ps.length < sizeLine := szl (by rw [hlen]; simp at hl; omega)
    obtain ⟨x', y', e⟩ := side_row τ body hτ hb k a c o t (i + 1) (ps ++ [(.int z, .tuple [.int k, .int i])]) (l ++ [z]) (some (.int i)) (some (.int z)) (by simp [h]) (by simpa using nd) (by simpa using hl)
    refine ⟨x', y', ?_⟩
    have hp := putKd_new h hz (.tuple [.int k, .int i]) hl2
    subst hτ hb
    have hz2 : (2 : Nat) ≤ sizeLine := sz (by decide)
    simp [loopF, eL, hp, hz2, e, rowA]
theorem side_tab (τ : DG) (body : DS) (hτ : τ = gTup 2 (gCons (gName 2) (gCons (gName 3) gNil))) (hb : body = dFor (dEnum (dVar 3)) (gTup 2 (gCons (gName 4) (gCons (gName 5) gNil))) (dPut 1 (dVar 5) (dTup (dCons (dVar 2) (dCons (dVar 4) dNil))))) (a : Option PyData) (o : Orc) :
    ∀ (s : List (List Int)) (k : Nat) (ps : List (PyData × PyData)) (l : List Int) (x y z w : Option PyData), ps.map (·.1) = l.map .int → (l ++ s.flatten).Nodup → (l ++ s.flatten).length ≤ 1000 →
    ∃ x' y' z' w', loopF τ body (eL k (s.map iT)) [a, some (.dict ps), x, y, z, w] o = .ok .nx [a, some (.dict (ps ++ tabA k s)), x', y', z', w'] o
  | [], k, ps, l, x, y, z, w, h, nd, hl => ⟨x, y, z, w, by simp [loopF, eL, tabA]⟩
  | t :: s, k, ps, l, x, y, z, w, h, nd, hl => by
    rw [List.flatten_cons, ← List.append_assoc] at nd hl
    obtain ⟨p, q, e⟩ := side_row _ _ rfl rfl k a (some (iT t)) o t 0 ps l z w h (by rw [List.nodup_append] at nd; exact nd.1) (by rw [List.length_append] at hl; omega)
    obtain ⟨x', y', z', w', e2⟩ := side_tab τ body hτ hb a o s (k + 1) (ps ++ rowA k 0 t) (l ++ t) (some (.int k)) (some (iT t)) p q (by simp [h, rowA_keys]) nd hl
    refine ⟨x', y', z', w', ?_⟩
    subst hτ hb
    simp [loopF, eL, enumL_eq, e, e2, tabA]
theorem r_sides_at (s : List (List Int)) (o : Orc) (nd : s.flatten.Nodup) (hl : s.flatten.length ≤ 1000) : D_sides_at [some (shD s)] o = .ok (tabD s) o := by
  obtain ⟨x', y', z', w', e⟩ := side_tab _ _ rfl rfl (some (shD s)) o s 0 [] [] none none none none rfl (by simpa using nd) (by simpa using hl)
  simp [D_sides_at, dFn_fin, d_sides_at, stAt, enumL_eq, e]
theorem r_law_places (s : List (List Int)) (o : Orc) (nd : s.flatten.Nodup) (hl : s.flatten.length ≤ 1000) : D__law_places [some (shD s)] o = .ok (tabD s) o := r_sides_at s o nd hl
theorem eqv_int (x y : Int) : PyData.eqv (.int x) (.int y) = decide (x = y) := by
  simp [PyData.eqv]
  by_cases h : x = y <;> simp [h]
theorem in_ints (x : Int) (l : List Int) : phIn (.int x) (.list (l.map .int)) = some (.bool (decide (x ∈ l))) := by
  show Option.map PyData.bool (if (okD (.int x) && okDs (l.map .int)) = true then some ((l.map PyData.int).any fun y => PyData.eqv y (.int x)) else none) = _
  rw [okDs_ints]
  have : okD (.int x) = true := rfl
  rw [this]
  simp only [Bool.and_self, if_true, Option.map]
  congr 2
  rw [List.any_map]
  induction l with
  | nil => rfl
  | cons y l ih =>
    simp only [List.any_cons, Function.comp, eqv_int] at ih ⊢
    rw [ih]
    by_cases h : y = x
    · subst h; simp
    · have h2 : ¬ x = y := fun e => h e.symm
      simp [h, h2]
theorem in_intsT (x : Int) (l : List Int) : phIn (.int x) (.tuple (l.map .int)) = some (.bool (decide (x ∈ l))) := in_ints x l
theorem isa_iT (t : List Int) : phIsa "tuple" (iT t) = some (.bool true) := isa_tup (plain_ints t)
theorem chk_one (τ : DG) (body : DS) (hτ : τ = gTup 2 (gCons (gName 2) (gCons (gName 3) gNil))) (hb : body = dIfS (dOrT (dNotT (dTest (dOp1 (phIsa "tuple") (dVar 3)))) (dTop2 phNe (dOpN phLen (dCons (dVar 3) dNil)) (dC (.int 3)))) (dRaise "BadSheet" "place" (dTup (dCons (dVar 2) dNil))) dPass) (a b : Option PyData) (o : Orc) :
    ∀ (s : List (List Int)) (k : Nat) (x y z w : Option PyData), (∀ t ∈ s, t.length = 3) → ∃ x' y', loopF τ body (eL k (s.map iT)) [a, b, x, y, z, w] o = .ok .nx [a, b, x', y', z, w] o
  | [], k, x, y, z, w, h => ⟨x, y, rfl⟩
  | t :: s, k, x, y, z, w, h => by
    obtain ⟨x', y', e⟩ := chk_one τ body hτ hb a b o s (k + 1) (some (.int k)) (some (iT t)) z w fun u hu => h u (List.mem_cons_of_mem _ hu)
    have h3 := h t List.mem_cons_self
    refine ⟨x', y', ?_⟩
    subst hτ hb
    simp [loopF, eL, isa_iT, h3, e]
theorem chk_row (τ : DG) (body : DS) (hτ : τ = gTup 2 (gCons (gName 4) (gCons (gName 5) gNil))) (hb : body = dSeq (dIfS (dOrT (dNotT (dTest (dCall false D_is_from (aCons (dVar 5) (aCons (dOp2 phSub (dOp1 phNeg (dC (.int 1))) (dC (.int 11))) (aCons (dC (.int 11)) aNil)))))) (dTop2 phIn (dVar 5) (dVar 1))) (dRaise "BadSheet" "place" (dTup (dCons (dVar 2) (dCons (dVar 4) dNil)))) dPass) (dDrop (dApp 1 (dVar 5)))) (a b c : Option PyData) (o : Orc) :
    ∀ (t : List Int) (i : Nat) (l : List Int) (x y : Option PyData), (l ++ t).Nodup → (l ++ t).length ≤ 1000 → (∀ x ∈ t, -12 ≤ x ∧ x ≤ 11) →
    ∃ x' y', loopF τ body (eL i (t.map .int)) [a, some (.list (l.map .int)), b, c, x, y] o = .ok .nx [a, some (.list ((l ++ t).map .int)), b, c, x', y'] o
  | [], i, l, x, y, nd, hl, hb => ⟨x, y, by simp [loopF, eL]⟩
  | z :: t, i, l, x, y, nd, hl, hb' => by
    have hz : z ∉ l := by
      intro q
      rw [List.nodup_append] at nd
      exact nd.2.2 z q z (by simp) rfl
    have hl2 : l.length < sizeLine := szl (by simp at hl; omega)
    obtain ⟨h1, h2⟩ := hb' z List.mem_cons_self
    obtain ⟨x', y', e⟩ := chk_row τ body hτ hb a b c o t (i + 1) (l ++ [z]) (some (.int i)) (some (.int z)) (by simpa using nd) (by simpa using hl) fun x hx => hb' x (List.mem_cons_of_mem _ hx)
    refine ⟨x', y', ?_⟩
    have hf := r_is_from z (-12) 11 o
    have hi := in_ints z l
    have d1 : decide (-12 ≤ z) = true := by simp; omega
    have d2 : decide (z ≤ 11) = true := by simp; omega
    rw [d1, d2] at hf
    simp only [hz, decide_false] at hi
    subst hτ hb
    simp only [List.map_append, List.map_cons, List.map_nil] at e
    simp [loopF, eL, hf, hi, hl2, e]
theorem chk_tab (τ : DG) (body : DS) (hτ : τ = gTup 2 (gCons (gName 2) (gCons (gName 3) gNil))) (hb : body = dFor (dEnum (dVar 3)) (gTup 2 (gCons (gName 4) (gCons (gName 5) gNil))) (dSeq (dIfS (dOrT (dNotT (dTest (dCall false D_is_from (aCons (dVar 5) (aCons (dOp2 phSub (dOp1 phNeg (dC (.int 1))) (dC (.int 11))) (aCons (dC (.int 11)) aNil)))))) (dTop2 phIn (dVar 5) (dVar 1))) (dRaise "BadSheet" "place" (dTup (dCons (dVar 2) (dCons (dVar 4) dNil)))) dPass) (dDrop (dApp 1 (dVar 5))))) (a : Option PyData) (o : Orc) :
    ∀ (s : List (List Int)) (k : Nat) (l : List Int) (x y z w : Option PyData), (l ++ s.flatten).Nodup → (l ++ s.flatten).length ≤ 1000 → (∀ x ∈ s.flatten, -12 ≤ x ∧ x ≤ 11) →
    ∃ x' y' z' w', loopF τ body (eL k (s.map iT)) [a, some (.list (l.map .int)), x, y, z, w] o = .ok .nx [a, some (.list ((l ++ s.flatten).map .int)), x', y', z', w'] o
  | [], k, l, x, y, z, w, nd, hl, hb => ⟨x, y, z, w, by simp [loopF, eL]⟩
  | t :: s, k, l, x, y, z, w, nd, hl, hb' => by
    rw [List.flatten_cons, ← List.append_assoc] at nd hl
    obtain ⟨p, q, e⟩ := chk_row _ _ rfl rfl a (some (.int k)) (some (iT t)) o t 0 l z w (by rw [List.nodup_append] at nd; exact nd.1) (by rw [List.length_append] at hl; omega) fun x hx => hb' x (by rw [List.flatten_cons]; exact List.mem_append_left _ hx)
    obtain ⟨x', y', z', w', e2⟩ := chk_tab τ body hτ hb a o s (k + 1) (l ++ t) (some (.int k)) (some (iT t)) p q nd hl fun x hx => hb' x (by rw [List.flatten_cons]; exact List.mem_append_right _ hx)
    refine ⟨x', y', z', w', ?_⟩
    rw [List.flatten_cons, ← List.append_assoc]
    subst hτ hb
    simp [-List.map_append, -List.map_flatten, loopF, eL, enumL_eq, e, e2]
theorem r_check_sides {s : List (List Int)} (h : Sht s) (o : Orc) : D_check_sides [some (shD s)] o = .ok .none o := by
  have hl : s.flatten.length ≤ 1000 := by rw [flatten_len h.tri]; have := h.len; omega
  obtain ⟨x, y, e1⟩ := chk_one _ _ rfl rfl (some (shD s)) (some (.list [])) o s 0 none none none none h.tri
  obtain ⟨x', y', z', w', e2⟩ := chk_tab _ _ rfl rfl (some (shD s)) o s 0 [] x y none none (by simpa using h.nd) (by simpa using hl) h.bd
  simp only [List.map_nil] at e2
  simp [-List.map_flatten, D_check_sides, dFn_fin, d_check_sides, stAt, enumL_eq, e1, e2]
end Q
end FL
namespace FL
open PySem PySem.Spec PyProof.Rows L2 PySem.W
/-- a while that runs to its end -/
theorem run_loopW {c : DT} {body : DS} (I : Nat → Env → Orc → Prop) (J : Env → Orc → Prop)
    (step : ∀ n ρ o, I n ρ o → (∃ ρ1 o1, c ρ o = .ok false ρ1 o1 ∧ J ρ1 o1) ∨ ∃ ρ1 o1 ρ2 o2 m, c ρ o = .ok true ρ1 o1 ∧ body ρ1 o1 = .ok .nx ρ2 o2 ∧ m < n ∧ I m ρ2 o2) :
    ∀ (f n : Nat) (ρ : Env) (o : Orc), n < f → I n ρ o → ∃ ρ' o', loopW c body f ρ o = .ok .nx ρ' o' ∧ J ρ' o'
  | 0, n, ρ, o, hf, _ => absurd hf (by omega)
  | f + 1, n, ρ, o, hf, h => by
    rcases step n ρ o h with ⟨ρ1, o1, e, j⟩ | ⟨ρ1, o1, ρ2, o2, m, e1, e2, hm, h2⟩
    · exact ⟨ρ1, o1, by simp [loopW, e], j⟩
    · obtain ⟨ρ', o', e3, j⟩ := run_loopW I J step f m ρ2 o2 (by omega) h2
      exact ⟨ρ', o', by simp [loopW, e1, e2, e3], j⟩
theorem run_while {c : DT} {body : DS} {n : Nat} {ρ : Env} {o : Orc} (I : Nat → Env → Orc → Prop) (J : Env → Orc → Prop) (h0 : I n ρ o) (hn : n < 1000000)
    (step : ∀ n ρ o, I n ρ o → (∃ ρ1 o1, c ρ o = .ok false ρ1 o1 ∧ J ρ1 o1) ∨ ∃ ρ1 o1 ρ2 o2 m, c ρ o = .ok true ρ1 o1 ∧ body ρ1 o1 = .ok .nx ρ2 o2 ∧ m < n ∧ I m ρ2 o2) :
    ∃ ρ' o', dWhile c body ρ o = .ok .nx ρ' o' ∧ J ρ' o' := run_loopW I J step fuelW n ρ o hn h0
def nsD (l : List Nat) : List PyData := l.map fun (n : Nat) => .int (n : Int)
theorem nsD_ints (l : List Nat) : nsD l = (l.map Int.ofNat).map .int := by simp [nsD]
theorem nsD_mem (l : List Nat) (n : Nat) : (n : Int) ∈ l.map Int.ofNat ↔ n ∈ l := by
  rw [List.mem_map]
  constructor
  · rintro ⟨m, h, e⟩
    have : m = n := Int.ofNat.inj e
    exact this ▸ h
  · intro h
    exact ⟨n, h, rfl⟩
namespace Q
theorem notIn_ns (l : List Nat) (n : Nat) : phNotIn (.int n) (.list (nsD l)) = some (.bool (!decide (n ∈ l))) := by
  have h := in_ints (n : Int) (l.map Int.ofNat)
  rw [← nsD_ints] at h
  unfold phIn at h
  unfold phNotIn
  cases e : inD (.int n) (.list (nsD l)) with
  | none => rw [e] at h; cases h
  | some b =>
    rw [e] at h
    simp only [Option.map, Option.some.injEq, PyData.bool.injEq] at h
    simp only [Option.map, h, nsD_mem]
theorem join_row {s : List (List Int)} (hs : Has s) (τ : DG) (body : DS) (hτ : τ = gName 4) (hb : body = dIfS (dAndT (dTop2 phIn (dOp2 phSub (dOp1 phNeg (dC (.int 1))) (dVar 4)) (dVar 1)) (dTop2 phNotIn (dOp2 phIx (dOp2 phIx (dVar 1) (dOp2 phSub (dOp1 phNeg (dC (.int 1))) (dVar 4))) (dC (.int 0))) (dVar 2))) (dDrop (dApp 2 (dOp2 phIx (dOp2 phIx (dVar 1) (dOp2 phSub (dOp1 phNeg (dC (.int 1))) (dVar 4))) (dC (.int 0))))) dPass) (a c : Option PyData) (o : Orc) :
    ∀ (t : List Int) (line : List Nat) (x : Option PyData), JI s line → s.length ≤ 1000 →
    ∃ x', loopF τ body (t.map .int) [a, some (tabD s), some (.list (nsD line)), c, x] o = .ok .nx [a, some (tabD s), some (.list (nsD (addT s line t))), c, x'] o
  | [], line, x, _, _ => ⟨x, rfl⟩
  | z :: t, line, x, j, hl => by
    obtain ⟨x', e⟩ := join_row hs τ body hτ hb a c o t (addN s line z) (some (.int z)) (j.addN z) hl
    refine ⟨x', ?_⟩
    have hlen : line.length < sizeLine := szl (by have := j.len; omega)
    have ea : addT s line (z :: t) = addT s (addN s line z) t := rfl
    rw [ea]
    subst hτ hb
    have e1 := in_tab hs (ng z)
    have eng : -1 - z = ng z := rfl
    have e0 : L2.atI [PyData.int (num s (ng z)), PyData.int ((tri s (ng z)).idxOf (ng z) : Nat)] 0 = some (PyData.int (num s (ng z))) := rfl
    by_cases h1 : ng z ∈ s.flatten
    · have e2 := ix_tab h1
      have e3 := notIn_ns line (num s (ng z))
      by_cases h2 : num s (ng z) ∈ line
      · have en : addN s line z = line := by unfold addN; rw [if_neg (by simp [h2])]
        rw [en] at e
        rw [en]
        simp [loopF, eng, e1, h1, e2, e0, e3, h2, e]
      · have en : addN s line z = line ++ [num s (ng z)] := by unfold addN; rw [if_pos ⟨h1, h2⟩]
        rw [en] at e
        rw [en]
        have hm : nsD (line ++ [num s (ng z)]) = nsD line ++ [.int (num s (ng z))] := by simp [nsD]
        rw [hm] at e
        have hlen2 : (nsD line).length < sizeLine := by simpa [nsD] using hlen
        simp [loopF, eng, e1, h1, e2, e0, e3, h2, hlen2, e]
    · have en : addN s line z = line := by unfold addN; rw [if_neg (by simp [h1])]
      rw [en] at e
      rw [en]
      simp [loopF, eng, e1, h1, e]
theorem r_is_joined {s : List (List Int)} (hs : Sht s) (o : Orc) : D_is_joined [some (shD s), some (tabD s)] o = .ok (.bool true) o := by
  have hl : s.length ≤ 1000 := by have := hs.len; omega
  obtain ⟨ρ', o', e, line, at_, x, rfl, rfl, j, cl⟩ := run_while (c := dTop2 (phC fun i j => decide (i < j)) (dVar 3) (dOpN phLen (dCons (dVar 2) dNil)))
    (body := dSeq (dFor (dItems (dOp2 phIx (dVar 0) (dOp2 phIx (dVar 2) (dVar 3)))) (gName 4) (dIfS (dAndT (dTop2 phIn (dOp2 phSub (dOp1 phNeg (dC (.int 1))) (dVar 4)) (dVar 1)) (dTop2 phNotIn (dOp2 phIx (dOp2 phIx (dVar 1) (dOp2 phSub (dOp1 phNeg (dC (.int 1))) (dVar 4))) (dC (.int 0))) (dVar 2))) (dDrop (dApp 2 (dOp2 phIx (dOp2 phIx (dVar 1) (dOp2 phSub (dOp1 phNeg (dC (.int 1))) (dVar 4))) (dC (.int 0))))) dPass)) (dAsg 3 (dOp2 phAdd (dVar 3) (dC (.int 1)))))
    (n := s.length) (ρ := [some (shD s), some (tabD s), some (.list (nsD [0])), some (.int (0 : Nat)), none]) (o := o)
    (fun n ρ o1 => ∃ line at_ x, ρ = [some (shD s), some (tabD s), some (.list (nsD line)), some (.int (at_ : Nat)), x] ∧ o1 = o ∧ JI s line ∧ at_ ≤ line.length ∧ n = s.length - at_ ∧ ∀ j, j < at_ → ∀ i, line[j]? = some i → ∀ t, s[i]? = some t → ∀ x ∈ t, ng x ∈ s.flatten → num s (ng x) ∈ line)
    (fun ρ o1 => ∃ line at_ x, ρ = [some (shD s), some (tabD s), some (.list (nsD line)), some (.int (at_ : Nat)), x] ∧ o1 = o ∧ JI s line ∧ ∀ i ∈ line, ∀ t, s[i]? = some t → ∀ x ∈ t, ng x ∈ s.flatten → num s (ng x) ∈ line)
    ⟨[0], 0, none, rfl, rfl, ⟨by simp, fun i hi => by simp at hi; subst hi; exact List.length_pos_iff.mpr hs.ne, by simp⟩, by simp, rfl, fun j hj => by omega⟩ (by omega)
    (by
      rintro n ρ o1 ⟨line, at_, x, rfl, rfl, j, ha, rfl, cl⟩
      by_cases h : at_ < line.length
      · refine .inr ?_
        have hi : line[at_]? = some line[at_] := List.getElem?_eq_getElem h
        have hlt : line[at_] < s.length := j.lt _ (List.getElem_mem h)
        have ht : s[line[at_]]? = some s[line[at_]] := List.getElem?_eq_getElem hlt
        obtain ⟨x', e⟩ := join_row hs.has (gName 4) _ rfl rfl (some (shD s)) (some (.int (at_ : Nat))) o1 s[line[at_]] line x j hl
        have pre := addT_pre s s[line[at_]] line
        have len2 := pre.length_le
        have hcond : (dTop2 (phC fun i j => decide (i < j)) (dVar 3) (dOpN phLen (dCons (dVar 2) dNil))) [some (shD s), some (tabD s), some (.list (nsD line)), some (.int (at_ : Nat)), x] o1 = .ok true [some (shD s), some (tabD s), some (.list (nsD line)), some (.int (at_ : Nat)), x] o1 := by
          simp [nsD, h]
        refine ⟨_, _, [some (shD s), some (tabD s), some (.list (nsD (addT s line s[line[at_]]))), some (.int ((at_ + 1 : Nat) : Int)), x'], o1, s.length - (at_ + 1), hcond, ?_, ?_, ?_⟩
        · have a1 : L2.atI (nsD line) (at_ : Int) = some (.int (line[at_] : Nat)) := atI_nat (by unfold nsD; rw [List.getElem?_map, hi]; rfl)
          have a2 : L2.atI (s.map iT) ((line[at_] : Nat) : Int) = some (iT s[line[at_]]) := atI_nat (by rw [List.getElem?_map, ht]; rfl)
          simp [a1, a2, e]
        · have := j.len
          omega
        · refine ⟨_, _, _, rfl, rfl, j.addT, by omega, rfl, ?_⟩
          intro k hk i hki t hti y hy hng
          by_cases hk2 : k < at_
          · have hkl : k < line.length := by omega
            have : line[k]? = some i := by
              obtain ⟨r, hr⟩ := pre
              rw [← hr, List.getElem?_append_left hkl] at hki
              exact hki
            exact pre.subset (cl k hk2 i this t hti y hy hng)
          · have hk3 : k = at_ := by omega
            subst hk3
            have : i = line[k] := by
              obtain ⟨r, hr⟩ := pre
              rw [← hr, List.getElem?_append_left h, hi] at hki
              exact (Option.some.inj hki).symm
            subst this
            rw [ht] at hti
            cases hti
            exact addT_mem hy hng
      · refine .inl ⟨[some (shD s), some (tabD s), some (.list (nsD line)), some (.int (at_ : Nat)), x], o1, by simp [nsD, h], line, at_, x, rfl, rfl, j, ?_⟩
        intro i hi t ht y hy hng
        obtain ⟨k, hk⟩ := List.mem_iff_getElem?.mp hi
        have hkl : k < line.length := (List.getElem?_eq_some_iff.mp hk).1
        exact cl k (by omega) i hk t ht y hy hng)
  have hf := j.full hs cl
  have e1 : phEq (.int (line.length : Nat)) (.int (s.length : Nat)) = some (.bool true) := by simp [hf]
  have e0 : nsD [0] = [.int 0] := rfl
  rw [e0] at e
  have hz : (1 : Nat) ≤ sizeLine := sz (by decide)
  have e2 : (nsD line).length = line.length := by simp [nsD]
  have e3 : PyData.int (((0 : Nat) : Int)) = .int 0 := rfl
  rw [e3] at e
  have e4 : (s.map iT).length = s.length := by simp
  simp [D_is_joined, dFn_fin, d_is_joined, stAt, hz, e, e2, hf]
theorem eqv_ints : ∀ l : List Int, PyData.eqvAll (l.map .int) (l.map .int) = true
  | [] => rfl
  | a :: l => by simp [PyData.eqvAll, eqv_int, eqv_ints l]
theorem okD_ints (l : List Int) : okD (.list (l.map .int)) = true := by simp [okD, PyData.plain, PyData.depth, plain_ints, depth_ints]
theorem ne_ints (l : List Int) : phNe (.list (l.map .int)) (.list (l.map .int)) = some (.bool false) := by
  unfold phNe
  rw [okD_ints]
  simp [PyData.eqv, eqv_ints]
theorem ph_sorted_ints {xs : List Int} (hl : xs.length ≤ 16777216) : phSorted [.list (xs.map .int)] = some (.list ((isort xs).map .int)) := by
  show (sortD (xs.map .int)).map PyData.list = _
  rw [sortD_ints xs hl]
  rfl
theorem ph_max_ints {xs : List Int} (h : xs ≠ []) : phMax [.list (xs.map .int)] = some (.int (mxI xs)) := by
  cases xs with
  | nil => exact absurd rfl h
  | cons a l => exact max_ints a l
theorem rngL_eq (n : Nat) : rngL 0 n = ((List.range n).map Int.ofNat).map .int := by
  unfold rngL
  rw [List.map_map]
  apply List.map_congr_left
  intro a _
  simp
theorem isa_shD (s : List (List Int)) : phIsa "tuple" (shD s) = some (.bool true) := isa_tup (plainAll_rows s)
theorem r_need_sheet {s : List (List Int)} (hs : Sht s) (o : Orc) : D_need_sheet [some (shD s)] o = .ok (shD (plainL s)) o := by
  have hl : s.flatten.length ≤ 1000 := by rw [flatten_len hs.tri]; have := hs.len; omega
  have hl2 : s.length ≤ 1000 := by have := hs.len; omega
  have l1 : (1 : Int) ≤ s.length := by have := List.length_pos_iff.mpr hs.ne; omega
  have l2 : (s.length : Int) ≤ 8 := by have := hs.len; omega
  have k1 := r_check_sides hs o
  have k2 := r_sides_at s o hs.nd hl
  have k3 := r_is_joined hs o
  have k4 := r_plain_of s o hs.tri hl2
  have ek := keys_tab hs.has
  obtain ⟨m1, m2⟩ := mxE_spec (flat_ne hs)
  obtain ⟨y, hy, hm⟩ := List.mem_map.mp m1
  have n0 : 0 ≤ mxE s := by rw [← hm]; exact edg_nonneg y
  have n1 : mxE s ≤ 11 := by
    rw [← hm]
    have := hs.bd y hy
    unfold edg
    split <;> omega
  have c1 := run_comp0 (τ := gName 4) (t := dTop2 (phC fun i j => decide (j ≤ i)) (dVar 4) (dC (.int 0))) (e := dVar 4) (ρ := [some (shD s), some (tabD s), none, none, none]) (o := o) PyData.int PyData.int (fun x => decide (0 ≤ x)) id flat_int (xs := s.flatten) (fun x _ => ⟨[some (shD s), some (tabD s), none, none, some (.int x)], [some (shD s), some (tabD s), none, none, some (.int x)], rfl, by simp, fun _ => ⟨[some (shD s), some (tabD s), none, none, some (.int x)], by simp⟩⟩) (by omega)
  have c2 := run_map (τ := gName 4) (e := dCall false D_edge_of (aCons (dVar 4) aNil)) (ρ := [some (shD s), some (tabD s), some (.list (((isort (s.flatten.filter fun x => decide (0 ≤ x))).map .int))), none, none]) (o := o) PyData.int PyData.int edg flat_int (xs := s.flatten) (fun x _ => ⟨[some (shD s), some (tabD s), some (.list (((isort (s.flatten.filter fun x => decide (0 ≤ x))).map .int))), none, some (.int x)], [some (shD s), some (tabD s), some (.list (((isort (s.flatten.filter fun x => decide (0 ≤ x))).map .int))), none, some (.int x)], rfl, by simp [r_edge_of]⟩) (by omega)
  rw [List.map_id] at c1
  have c3 := ph_sorted_ints (xs := s.flatten.filter fun x => decide (0 ≤ x)) (by have := List.length_filter_le (fun x => decide (0 ≤ x)) s.flatten; omega)
  have c4 := ph_max_ints (xs := s.flatten.map edg) (by intro e; exact flat_ne hs (List.map_eq_nil_iff.mp e))
  have c4' : phMax [.list ((s.flatten.map edg).map .int)] = some (.int (mxE s)) := c4
  have em := edges_met hs
  have c5 : rngC 0 (mxE s + 1) = true := by
    unfold rngC rngB
    simp only [Bool.and_eq_true, Nat.ble_eq, absLt_iff]
    omega
  have c6 := ne_ints (isort (s.flatten.filter fun x => decide (0 ≤ x)))
  have c7 : rngL 0 (mxE s + 1).toNat = (isort (s.flatten.filter fun x => decide (0 ≤ x))).map .int := by rw [rngL_eq, em]
  generalize hA : isort (s.flatten.filter fun x => decide (0 ≤ x)) = A at *
  generalize hB : (s.flatten.filter fun x => decide (0 ≤ x)) = B at *
  generalize hC : s.flatten.map edg = C at *
  generalize hF : s.flatten = F at *
  simp [-List.map_map, -List.map_flatten, D_need_sheet, dFn_fin, d_need_sheet, stAt, isa_shD, l1, l2, k1, k2, k3, k4, ek, c1, c2, c3, c4', lrngR_ok c5, c6, c7]
end Q
end FL
namespace FL
open PySem PySem.Spec PyProof.Rows L2 PySem.W
/-- a state from which so many numbers may be drawn -/
structure OV (n : Nat) (o : Orc) : Prop where
  mk' ::
  ex : ∃ q, o.st = some q ∧ q.cells ≠ [] ∧ q.lefts.length = q.cells.length ∧ 0 ≤ q.at_ ∧ q.at_ + n ≤ 1000000
theorem OV.mono {n m : Nat} {o : Orc} (h : OV n o) (hm : m ≤ n) : OV m o := by
  obtain ⟨q, h1, h2, h3, h4, h5⟩ := h.ex
  exact ⟨⟨q, h1, h2, h3, h4, by omega⟩⟩
theorem OV.st {n : Nat} {o : Orc} (h : OV n o) : ∃ q, o.st = some q := by
  obtain ⟨q, h1, _⟩ := h.ex
  exact ⟨q, h1⟩
theorem OV.some {n : Nat} {o : Orc} (h : OV n o) : o.st.isSome = true := by
  obtain ⟨q, h1⟩ := h.st
  rw [h1]
  rfl
def mixL (c k : Int) : Int := ((c % 2147483647 * (48271 + 2 * k * k) + 69621 * k + 11) % 2147483647 * 69621) % 2147483629
theorem mixL_bd (c k : Int) : 0 ≤ mixL c k ∧ mixL c k < 2147483629 := by
  unfold mixL
  exact ⟨Int.emod_nonneg _ (by decide), Int.emod_lt_of_pos _ (by decide)⟩
theorem q_mul {i j : Int} (h : smallM i j = true) : phMul (.int i) (.int j) = some (.int (i * j)) := by
  exact if_pos h
theorem q_mod {i j : Int} (h : 0 < j) : phMod (.int i) (.int j) = some (.int (i % j)) := by
  unfold phMod phI
  simp [h]
theorem q_div {i j : Int} (h : 0 < j) (h2 : j < 1073741824) : phDiv (.int i) (.int j) = some (.int (i / j)) := by
  have h3 : absLt j 1073741824 = true := absLt_iff.mpr (by omega)
  unfold phDiv phI
  simp [h, h3]
namespace Q
theorem r_mixed (c k : Int) (o : Orc) (h1 : 0 ≤ k) (h2 : k ≤ 2000000) : D__law_mixed [some (.int c), some (.int k)] o = .ok (.int (mixL c k)) o := by
  have b1 := Int.emod_nonneg c (show (2147483647 : Int) ≠ 0 by decide)
  have b2 := Int.emod_lt_of_pos c (show (0 : Int) < 2147483647 by decide)
  have m1 : phMul (.int 2) (.int k) = some (.int (2 * k)) := q_mul (by simp [smallM, absLt])
  have m2 : phMul (.int (2 * k)) (.int k) = some (.int (2 * k * k)) := q_mul (by rw [smallM, Bool.or_eq_true, absLt_iff, absLt_iff]; omega)
  have m3 : phMul (.int (c % 2147483647)) (.int (48271 + 2 * k * k)) = some (.int (c % 2147483647 * (48271 + 2 * k * k))) := q_mul (by rw [smallM, Bool.or_eq_true, absLt_iff, absLt_iff]; omega)
  have m4 : phMul (.int 69621) (.int k) = some (.int (69621 * k)) := q_mul (by simp [smallM, absLt])
  have m5 : ∀ x : Int, phMul (.int x) (.int 69621) = some (.int (x * 69621)) := fun x => q_mul (by simp [smallM, absLt])
  have m6 : ∀ x : Int, phMod (.int x) (.int 2147483647) = some (.int (x % 2147483647)) := fun x => q_mod (by decide)
  have m7 : ∀ x : Int, phMod (.int x) (.int 2147483629) = some (.int (x % 2147483629)) := fun x => q_mod (by decide)
  simp [D__law_mixed, dFn_fin, d__law_mixed, stAt, m1, m2, m3, m4, m5, m6, m7, mixL]
theorem r_draw {n : Nat} {o : Orc} (h : OV (n + 1) o) {lim : Nat} (l1 : 0 < lim) (l2 : lim < 1000000) : ∃ k o', D__law_draw [none, some (.int lim)] o = .ok (.int (k : Nat)) o' ∧ k < lim ∧ OV n o' ∧ o'.tb = o.tb := by
  obtain ⟨q, h1, h2, h3, h4, h5⟩ := h.ex
  obtain ⟨st, tb⟩ := o
  simp only at h1
  subst h1
  obtain ⟨cs, ls, at_⟩ := q
  simp only at h2 h3 h4 h5
  have lp : 0 < cs.length := List.length_pos_iff.mpr h2
  have b1 := Int.emod_nonneg at_ (show (cs.length : Int) ≠ 0 by omega)
  have b2 := Int.emod_lt_of_pos at_ (show (0 : Int) < cs.length by omega)
  have m1 : phMod (.int at_) (.int (cs.length : Nat)) = some (.int (at_ % cs.length)) := q_mod (by omega)
  have lt : (at_ % cs.length).toNat < ls.length := by omega
  have lt' : (at_ % cs.length).toNat < cs.length := by omega
  have ep : at_ % cs.length = ((at_ % cs.length).toNat : Int) := by omega
  generalize (at_ % (cs.length : Int)).toNat = p at *
  have e1 : L2.atI ls (p : Int) = some ls[p] := atI_nat (List.getElem?_eq_getElem lt)
  have e2 : L2.atI cs (p : Int) = some cs[p] := atI_nat (List.getElem?_eq_getElem lt')
  have e3 : ixN ls.length (p : Int) = some p := by unfold ixN; rw [if_pos (by omega), if_pos (by omega)]; simp
  have m8 : ∀ x : Int, phMod (.int x) (.int (lim : Nat)) = some (.int (x % lim)) := fun x => q_mod (by omega)
  have m9 : ∀ x : Int, phDiv (.int x) (.int (lim : Nat)) = some (.int (x / lim)) := fun x => q_div (by omega) (by omega)
  have nn : ∀ x : Int, ∃ k : Nat, x % lim = (k : Int) ∧ k < lim := fun x => ⟨(x % lim).toNat, by
    have := Int.emod_nonneg x (show (lim : Int) ≠ 0 by omega)
    omega, by
    have := Int.emod_nonneg x (show (lim : Int) ≠ 0 by omega)
    have := Int.emod_lt_of_pos x (show (0 : Int) < lim by omega)
    omega⟩
  by_cases hp : 0 < ls[p]
  · obtain ⟨k, hk, hk2⟩ := nn ls[p]
    refine ⟨k, ⟨some ⟨cs, ls.set p (ls[p] / lim), at_ + 1⟩, tb⟩, ?_, hk2, ⟨⟨_, rfl, h2, by simpa using h3, show 0 ≤ at_ + 1 by omega, show at_ + 1 + n ≤ 1000000 by omega⟩⟩, rfl⟩
    simp [D__law_draw, dFn_fin, d__law_draw, stAt, dStAt, dStAtS, atD, dStLen, m1, ep, dStIx, e1, hp, m8, m9, hk, dStLeftS, setD, e3, finR]
  · obtain ⟨k, hk, hk2⟩ := nn ((mixL (mixL cs[p] at_) (40 + at_) * 2147483647 + mixL (mixL (mixL cs[p] at_) (40 + at_)) (7 + at_)) / 64)
    refine ⟨k, ⟨some ⟨cs, ls, at_ + 1⟩, tb⟩, ?_, hk2, ⟨⟨_, rfl, h2, h3, show 0 ≤ at_ + 1 by omega, show at_ + 1 + n ≤ 1000000 by omega⟩⟩, rfl⟩
    have x1 := r_mixed cs[p] at_ ⟨some ⟨cs, ls, at_ + 1⟩, tb⟩ h4 (by omega)
    have x2 := r_mixed (mixL cs[p] at_) (40 + at_) ⟨some ⟨cs, ls, at_ + 1⟩, tb⟩ (by omega) (by omega)
    have x3 := r_mixed (mixL (mixL cs[p] at_) (40 + at_)) (7 + at_) ⟨some ⟨cs, ls, at_ + 1⟩, tb⟩ (by omega) (by omega)
    have x4 : ∀ x : Int, phMul (.int x) (.int 2147483647) = some (.int (x * 2147483647)) := fun x => q_mul (by simp [smallM, absLt])
    have x5 : ∀ x : Int, phDiv (.int x) (.int 64) = some (.int (x / 64)) := fun x => q_div (by decide) (by decide)
    simp [D__law_draw, dFn_fin, d__law_draw, stAt, dStAt, dStAtS, atD, dStLen, m1, ep, dStIx, e1, e2, hp, m8, x1, x2, x3, x4, x5, hk, setD, finR]
end Q
end FL
namespace FL
open PySem PySem.Spec PyProof.Rows L2 PySem.W
theorem ixN_nat {n p : Nat} (h : p < n) : ixN n (p : Int) = some p := by
  unfold ixN
  rw [if_pos (by omega), if_pos (by omega)]
  simp
theorem erase_map {α β : Type} (f : α → β) : ∀ (l : List α) (i : Nat), (l.map f).eraseIdx i = (l.eraseIdx i).map f
  | [], _ => rfl
  | a :: l, 0 => rfl
  | a :: l, i + 1 => by simp [erase_map f l i]
theorem popL_nat {ds : List PyData} {p : Nat} (h : p < ds.length) (hl : ds.length ≤ 1000000) : popL ds (.int (p : Int)) = some (ds[p], ds.eraseIdx p) := by
  have e1 : seqIndex? (p : Int) ds.length = some p := by
    have n0 : ¬ (p : Int) < 0 := by omega
    simp [seqIndex?, n0, h]
  unfold popL
  simp only [e1]
  rw [if_pos (absLt_iff.mpr (by omega))]
  simp [h]
theorem popL_ints {l : List Int} {p : Nat} (h : p < l.length) (hl : l.length ≤ 1000000) : popL (l.map .int) (.int (p : Int)) = some (.int l[p], (l.eraseIdx p).map .int) := by
  have hp : p < (l.map PyData.int).length := by rw [List.length_map]; exact h
  have h1 := popL_nat hp (by rw [List.length_map]; exact hl)
  rw [h1, erase_map, List.getElem_map]
theorem run_pop {i : Nat} {d : DE} {ρ ρ1 : Env} {o o1 : Orc} {ds ds1 ds2 : List PyData} {v y : PyData} (hd : d ρ o = .ok v ρ1 o1) (hp : popL ds1 v = some (y, ds2)) (h1 : lstAt ρ i = some ds := by rfl) (h2 : lstAt ρ1 i = some ds1 := by rfl) : dPop i d ρ o = .ok y (ρ1.set i (some (.list ds2))) o1 := by
  unfold dPop
  simp only [h1, hd, Res.bind, h2, Option.bind, hp]
theorem rngC_nat {n : Nat} (h : n ≤ 1000000) : rngC 0 (n : Int) = true := by
  unfold rngC rngB
  simp only [Bool.and_eq_true, Nat.ble_eq, absLt_iff]
  omega
theorem lrngR_nat {n : Nat} (hn : n ≤ 1000000) (ρ : Env) (o : Orc) : lrngR (n : Int) ρ o = .ok (.list (((List.range n).map Int.ofNat).map .int)) ρ o := by
  rw [lrngR_ok (rngC_nat hn), Int.toNat_natCast, Q.rngL_eq]
theorem ne_nil_ints (l : List Int) : phNe (.list (l.map .int)) (.list []) = some (.bool (decide (l ≠ []))) := by
  have h := Q.okD_ints l
  have h2 : okD (.list []) = true := rfl
  unfold phNe
  rw [h, h2]
  cases l <;> simp [PyData.eqv, PyData.eqvAll]
namespace Q
theorem order_step {l f : List Int} {i n : Nat} {o1 o2 : Orc} {q : OrcS} (hq : o1.st = some q) (hi : i < l.length) (hl : l.length ≤ 1000000) (hf : f.length < sizeLine) (e : D__law_draw [none, some (PyData.int ↑l.length)] o1 = FR.ok (PyData.int ↑i) o2) : dDrop (dApp 3 (dPop 2 (dCall false D__law_draw (aSt (aCons (dOpN phLen (dCons (dVar 2) dNil)) aNil))))) [none, some (.int n), some (.list (l.map .int)), some (.list (f.map .int))] o1 = .ok .nx [none, some (.int n), some (.list ((l.eraseIdx i).map .int)), some (.list ((f ++ [l[i]]).map .int))] o2 := by
  have k1 : dPop 2 (dCall false D__law_draw (aSt (aCons (dOpN phLen (dCons (dVar 2) dNil)) aNil))) [none, some (.int n), some (.list (l.map .int)), some (.list (f.map .int))] o1 = .ok (.int l[i]) [none, some (.int n), some (.list ((l.eraseIdx i).map .int)), some (.list (f.map .int))] o2 := run_pop (ρ1 := [none, some (.int n), some (.list (l.map .int)), some (.list (f.map .int))]) (by simp [hq, e]) (popL_ints hi hl)
  simp [-q_pop, k1, hf]
theorem r_order {n m : Nat} {o : Orc} (h : OV (m + n) o) (hn : n ≤ 1000) : ∃ (l : List Int) (o' : Orc), D__law_order [none, some (.int n)] o = .ok (.list (l.map .int)) o' ∧ l.Perm ((List.range n).map Int.ofNat) ∧ OV m o' ∧ o'.tb = o.tb := by
  obtain ⟨ρ', o', e, l, rfl, pm, ov, tb⟩ := run_while (c := dTop2 phNe (dVar 2) (dLst dNil)) (body := dDrop (dApp 3 (dPop 2 (dCall false D__law_draw (aSt (aCons (dOpN phLen (dCons (dVar 2) dNil)) aNil))))))
    (n := n) (ρ := [none, some (.int n), some (.list (((List.range n).map Int.ofNat).map .int)), some (.list [])]) (o := o)
    (fun k ρ o1 => ∃ (l f : List Int), ρ = [none, some (.int n), some (.list (l.map .int)), some (.list (f.map .int))] ∧ (f ++ l).Perm ((List.range n).map Int.ofNat) ∧ k = l.length ∧ OV (m + l.length) o1 ∧ o1.tb = o.tb)
    (fun ρ o1 => ∃ (f : List Int), ρ = [none, some (.int n), some (.list []), some (.list (f.map .int))] ∧ f.Perm ((List.range n).map Int.ofNat) ∧ OV m o1 ∧ o1.tb = o.tb)
    ⟨_, [], rfl, List.Perm.refl _, by simp, by simpa using h, rfl⟩ (by omega)
    (by
      rintro k ρ o1 ⟨l, f, rfl, pm, rfl, ov, tb⟩
      have lf : f.length + l.length = n := by have := pm.length_eq; simpa using this
      have hc := ne_nil_ints l
      by_cases hl : l = []
      · subst hl
        refine .inl ⟨[none, some (.int n), some (.list []), some (.list (f.map .int))], o1, ?_, f, rfl, by simpa using pm, by simpa using ov, tb⟩
        simp only [List.map_nil] at hc
        simp [hc]
      · have hp := List.length_pos_iff.mpr hl
        have ov2 : OV (m + (l.length - 1) + 1) o1 := ov.mono (by omega)
        obtain ⟨i, o2, e, hi, ov3, tb3⟩ := r_draw ov2 (lim := l.length) (by omega) (by omega)
        refine .inr ⟨[none, some (.int n), some (.list (l.map .int)), some (.list (f.map .int))], o1, [none, some (.int n), some (.list ((l.eraseIdx i).map .int)), some (.list ((f ++ [l[i]]).map .int))], o2, l.length - 1, by simp [hc, hl], ?_, by omega, l.eraseIdx i, f ++ [l[i]], rfl, ?_, by rw [List.length_eraseIdx_of_lt hi], by rw [List.length_eraseIdx_of_lt hi]; exact ov3, tb3.trans tb⟩
        · obtain ⟨q, hq⟩ := ov.st
          exact order_step hq hi (by omega) (szl (by omega)) e
        · refine List.Perm.trans ?_ pm
          rw [List.append_assoc]
          exact List.Perm.append_left _ (erase_perm hi))
  refine ⟨l, o', ?_, pm, ov, tb⟩
  have hs := h.some
  have hr := lrngR_nat (n := n) (by omega)
  simp [-List.map_map, D__law_order, dFn_fin, d__law_order, stAt, hr, e, finS_ret hs]
end Q
end FL
namespace FL
open PySem PySem.Spec PyProof.Rows L2 PySem.W
def sltD (p : Slot) : PyData := .tuple [.int (p.1 : Int), .int (p.2 : Int)]
def prD (p : Slot × Slot) : PyData := .tuple [sltD p.1, sltD p.2]
def onD (p : Slot) : PyData := .tuple [sltD p]
theorem popL_map {α : Type} (enc : α → PyData) {l : List α} {p : Nat} (h : p < l.length) (hl : l.length ≤ 1000000) : popL (l.map enc) (.int (p : Int)) = some (enc l[p], (l.eraseIdx p).map enc) := by
  have hp : p < (l.map enc).length := by rw [List.length_map]; exact h
  have h1 := popL_nat hp (by rw [List.length_map]; exact hl)
  rw [h1, erase_map, List.getElem_map]
@[simp] theorem flat_sltD (p : Slot) : flat (sltD p) = true := rfl
@[simp] theorem flat_onD (p : Slot) : flat (onD p) = true := rfl
theorem rng2_nat {a n : Nat} (h : n ≤ 1000000) (ha : a ≤ 1000000) : rng2 [.int (a : Int), .int (n : Int)] = some (((List.range (n - a)).map fun k => a + k).map fun (k : Nat) => .int (k : Int)) := by
  unfold rng2
  have h1 : (rngB (a : Int) && rngB (n : Int)) = true := by
    unfold rngB
    rw [Bool.and_eq_true, absLt_iff, absLt_iff]
    omega
  simp only [h1, if_true]
  unfold rngL
  rw [List.map_map]
  have e : ((n : Int) - (a : Int)).toNat = n - a := by omega
  rw [e]
  congr 1
theorem rng1_nat {n : Nat} (h : n ≤ 1000000) : rng1 [.int (n : Int)] = some ((List.range n).map fun (k : Nat) => .int (k : Int)) := by
  unfold rng1
  have h1 : rngB (n : Int) = true := by
    unfold rngB
    rw [absLt_iff]
    omega
  simp only [h1, if_true, Int.toNat_natCast]
  unfold rngL
  simp
namespace Q
theorem sheet_add_step {m here : Nat} {free : List Slot} {pairs : List (Slot × Slot)} {o : Orc} (b : Bld here free pairs) (h1 : 1 ≤ here) (h2 : here ≤ 1000) (hl : pairs.length + 1 = here) (ov : OV (m + 2) o) (x1 x3 x6 x7 x8 x9 x10 x11 x12 x13 x14 x15 : Option PyData) (a2 : Option PyData) :
    ∃ free' pairs' o' x11' x12', (dSeq (dPar [11, 12] (dCons (dPop 4 (dCall false D__law_draw (aSt (aCons (dOpN phLen (dCons (dVar 4) dNil)) aNil)))) (dCons (dTup (dCons (dVar 3) (dCons (dCall false D__law_draw (aSt (aCons (dC (.int 3)) aNil))) dNil))) dNil))) (dSeq (dDrop (dApp 5 (dTup (dCons (dVar 11) (dCons (dVar 12) dNil))))) (dAsgC 4 (dOp2 phAdd (dVar 4) (dComp (dRng rng1 (dCons (dC (.int 3)) dNil)) [13] (gName 13) (dTop2 phNe (dVar 13) (dOp2 phIx (dVar 12) (dC (.int 1)))) (dTup (dCons (dVar 3) (dCons (dVar 13) dNil))))))))
      [none, x1, a2, some (.int (here : Nat)), some (.list (free.map sltD)), some (.list (pairs.map prD)), x6, x7, x8, x9, x10, x11, x12, x13, x14, x15] o
      = .ok .nx [none, x1, a2, some (.int (here : Nat)), some (.list (free'.map sltD)), some (.list (pairs'.map prD)), x6, x7, x8, x9, x10, x11', x12', x13, x14, x15] o' ∧ Bld (here + 1) free' pairs' ∧ OV m o' ∧ o'.tb = o.tb ∧ pairs'.length = pairs.length + 1 := by
  have lf := b.len
  have cn := b.cnt
  have hf : 0 < free.length := by omega
  obtain ⟨q, hq⟩ := ov.st
  obtain ⟨i, o1, e1, hi, ov1, tb1⟩ := r_draw (n := m + 1) ov (lim := free.length) hf (by omega)
  obtain ⟨q1, hq1⟩ := ov1.st
  obtain ⟨j, o2, e2, hj, ov2, tb2⟩ := r_draw (n := m) ov1 (lim := 3) (by omega) (by omega)
  refine ⟨free.eraseIdx i ++ ((List.range 3).filter fun k => decide (k ≠ j)).map fun k => (here, k), pairs ++ [(free[i], (here, j))], o2, some (sltD free[i]), some (sltD (here, j)), ?_, b.add h1 hi hj, ov2, tb2.trans tb1, by simp⟩
  have k1 : dPop 4 (dCall false D__law_draw (aSt (aCons (dOpN phLen (dCons (dVar 4) dNil)) aNil))) [none, x1, a2, some (.int (here : Nat)), some (.list (free.map sltD)), some (.list (pairs.map prD)), x6, x7, x8, x9, x10, x11, x12, x13, x14, x15] o = .ok (sltD free[i]) [none, x1, a2, some (.int (here : Nat)), some (.list ((free.eraseIdx i).map sltD)), some (.list (pairs.map prD)), x6, x7, x8, x9, x10, x11, x12, x13, x14, x15] o1 :=
    run_pop (ρ1 := [none, x1, a2, some (.int (here : Nat)), some (.list (free.map sltD)), some (.list (pairs.map prD)), x6, x7, x8, x9, x10, x11, x12, x13, x14, x15]) (by simp [hq, e1]) (popL_map sltD hi (by omega))
  have hs : pairs.length < sizeLine := szl (by omega)
  have hz : (2 : Nat) ≤ sizeLine := sz (by decide)
  have e3 : D__law_draw [none, some (.int 3)] o1 = .ok (.int (j : Nat)) o2 := e2
  have e4 := rng1_nat (n := 3) (by omega)
  have e4' : rng1 [.int 3] = some ((List.range 3).map fun (k : Nat) => .int (k : Int)) := e4
  have e5 := run_comp0 (τ := gName 13) (t := dTop2 phNe (dVar 13) (dOp2 phIx (dVar 12) (dC (.int 1)))) (e := dTup (dCons (dVar 3) (dCons (dVar 13) dNil))) (ρ := [none, x1, a2, some (.int (here : Nat)), some (.list ((free.eraseIdx i).map sltD)), some (.list ((pairs ++ [(free[i], (here, j))]).map prD)), x6, x7, x8, x9, x10, some (sltD free[i]), some (sltD (here, j)), none, x14, x15]) (o := o2)
    (fun (k : Nat) => .int (k : Int)) sltD (fun k => decide (k ≠ j)) (fun k => (here, k)) flat_sltD (xs := List.range 3)
    (fun k _ => ⟨[none, x1, a2, some (.int (here : Nat)), some (.list ((free.eraseIdx i).map sltD)), some (.list ((pairs ++ [(free[i], (here, j))]).map prD)), x6, x7, x8, x9, x10, some (sltD free[i]), some (sltD (here, j)), some (.int (k : Int)), x14, x15], [none, x1, a2, some (.int (here : Nat)), some (.list ((free.eraseIdx i).map sltD)), some (.list ((pairs ++ [(free[i], (here, j))]).map prD)), x6, x7, x8, x9, x10, some (sltD free[i]), some (sltD (here, j)), some (.int (k : Int)), x14, x15], rfl, by
      have : L2.atI [PyData.int (here : Int), PyData.int (j : Int)] 1 = some (.int j) := rfl
      simp [sltD, this]
      by_cases h : (k : Int) = j
      · have h' : k = j := by omega
        simp [h']
      · have h' : ¬ k = j := by omega
        simp [h, h'], fun _ => ⟨_, by simp [hz]; exact ⟨rfl, rfl⟩⟩⟩) (by simp)
  have e6 : sltD (here, j) = .tuple [.int here, .int j] := rfl
  have hz2 : (free.eraseIdx i).length + (((List.range 3).filter fun k => decide (k ≠ j)).map fun k => (here, k)).length ≤ sizeLine := sz (by
    have := List.length_filter_le (fun k => decide (k ≠ j)) (List.range 3)
    rw [List.length_eraseIdx_of_lt hi, List.length_map]
    simp only [List.length_range] at this
    omega)
  have e7 := q_addL (xs := (free.eraseIdx i).map sltD) (ys := (((List.range 3).filter fun k => decide (k ≠ j)).map fun k => (here, k)).map sltD) (by simpa using hz2)
  generalize hA : (free.eraseIdx i) = A at *
  generalize hB : (((List.range 3).filter fun k => decide (k ≠ j)).map fun k => (here, k)) = B at *
  have e8 : prD (free[i], (here, j)) = .tuple [sltD free[i], .tuple [.int here, .int j]] := rfl
  generalize hC : free[i] = C at *
  rw [e6] at e5
  simp only [List.map_append, List.map_cons, List.map_nil, e8] at e5 ⊢
  simp [-q_pop, -List.map_map, hq1, k1, e3, hs, hz, e4', e5, e6, e7, dConsC]
end Q
end FL
namespace FL
open PySem PySem.Spec PyProof.Rows L2 PySem.W
def upL : Nat → Nat → List PyData
  | _, 0 => []
  | h, r + 1 => .int (h : Int) :: upL (h + 1) r
theorem upL_eq : ∀ (r h : Nat), ((List.range r).map fun k => h + k).map (fun (k : Nat) => PyData.int (k : Int)) = upL h r
  | 0, h => rfl
  | r + 1, h => by
    rw [List.range_succ_eq_map]
    have ih := upL_eq r (h + 1)
    simp only [List.map_cons, List.map_map, upL] at ih ⊢
    rw [← ih]
    simp only [Nat.add_zero, List.cons.injEq, true_and]
    apply List.map_congr_left
    intro a _
    simp only [Function.comp]
    congr 1
    omega
theorem rng2_up {a n : Nat} (h : n ≤ 1000000) (ha : a ≤ 1000000) : rng2 [.int (a : Int), .int (n : Int)] = some (upL a (n - a)) := by
  rw [rng2_nat h ha, upL_eq]
namespace Q
theorem sheet_adds {m : Nat} (x1 a2 x6 x7 x8 x9 x10 x13 x14 x15 : Option PyData) : ∀ (r here : Nat) (free : List Slot) (pairs : List (Slot × Slot)) (o : Orc) (x3 x11 x12 : Option PyData), Bld here free pairs → 1 ≤ here → here + r ≤ 1000 → pairs.length + 1 = here → OV (m + 2 * r) o →
    ∃ free' pairs' o' x3' x11' x12', loopF (gName 3) (dSeq (dPar [11, 12] (dCons (dPop 4 (dCall false D__law_draw (aSt (aCons (dOpN phLen (dCons (dVar 4) dNil)) aNil)))) (dCons (dTup (dCons (dVar 3) (dCons (dCall false D__law_draw (aSt (aCons (dC (.int 3)) aNil))) dNil))) dNil))) (dSeq (dDrop (dApp 5 (dTup (dCons (dVar 11) (dCons (dVar 12) dNil))))) (dAsgC 4 (dOp2 phAdd (dVar 4) (dComp (dRng rng1 (dCons (dC (.int 3)) dNil)) [13] (gName 13) (dTop2 phNe (dVar 13) (dOp2 phIx (dVar 12) (dC (.int 1)))) (dTup (dCons (dVar 3) (dCons (dVar 13) dNil))))))))
      (upL here r) [none, x1, a2, x3, some (.list (free.map sltD)), some (.list (pairs.map prD)), x6, x7, x8, x9, x10, x11, x12, x13, x14, x15] o
      = .ok .nx [none, x1, a2, x3', some (.list (free'.map sltD)), some (.list (pairs'.map prD)), x6, x7, x8, x9, x10, x11', x12', x13, x14, x15] o' ∧ Bld (here + r) free' pairs' ∧ OV m o' ∧ o'.tb = o.tb ∧ pairs'.length + 1 = here + r
  | 0, here, free, pairs, o, x3, x11, x12, b, h1, h2, hl, ov => ⟨free, pairs, o, x3, x11, x12, rfl, b, ov, rfl, hl⟩
  | r + 1, here, free, pairs, o, x3, x11, x12, b, h1, h2, hl, ov => by
    obtain ⟨f1, p1, o1, y11, y12, e1, b1, ov1, tb1, l1⟩ := sheet_add_step (m := m + 2 * r) b h1 (by omega) hl (ov.mono (by omega)) x1 (some (.int here)) x6 x7 x8 x9 x10 x11 x12 x13 x14 x15 a2
    obtain ⟨f2, p2, o2, z3, z11, z12, e2, b2, ov2, tb2, l2⟩ := sheet_adds x1 a2 x6 x7 x8 x9 x10 x13 x14 x15 r (here + 1) f1 p1 o1 (some (.int here)) y11 y12 b1 (by omega) (by omega) (by omega) ov1
    refine ⟨f2, p2, o2, z3, z11, z12, ?_, by rw [show here + (r + 1) = here + 1 + r by omega]; exact b2, ov2, tb2.trans tb1, by omega⟩
    unfold upL loopF
    simp only [q_gName, List.set, e1, Res.bind, e2]
theorem sheet_glue {n m : Nat} {o : Orc} (hn : n ≤ 1000) (x1 a2 x3 x7 x8 x9 x10 x11 x12 x13 x14 x15 : Option PyData) {free : List Slot} {pairs : List (Slot × Slot)} (b : Bld n free pairs) (ov : OV (m + 3 * free.length + 1) o) (x6 : Option PyData) :
    ∃ ρ' o', dWhile (dAndT (dTop2 (phC fun i j => decide (j < i)) (dOpN phLen (dCons (dVar 4) dNil)) (dC (.int 1))) (dTop2 (phC fun i j => decide (j < i)) (dCall false D__law_draw (aSt (aCons (dC (.int 5)) aNil))) (dC (.int 0)))) (dSeq (dAsg 6 (dPop 4 (dCall false D__law_draw (aSt (aCons (dOpN phLen (dCons (dVar 4) dNil)) aNil))))) (dDrop (dApp 5 (dTup (dCons (dVar 6) (dCons (dPop 4 (dCall false D__law_draw (aSt (aCons (dOpN phLen (dCons (dVar 4) dNil)) aNil)))) dNil))))))
      [none, x1, a2, x3, some (.list (free.map sltD)), some (.list (pairs.map prD)), x6, x7, x8, x9, x10, x11, x12, x13, x14, x15] o = .ok .nx ρ' o' ∧ ∃ (f' : List Slot) (p' : List (Slot × Slot)) (y6 : Option PyData), ρ' = [none, x1, a2, x3, some (.list (f'.map sltD)), some (.list (p'.map prD)), y6, x7, x8, x9, x10, x11, x12, x13, x14, x15] ∧ Bld n f' p' ∧ OV m o' ∧ o'.tb = o.tb := by
  have lb0 := b.len
  refine run_while (n := free.length) (fun k ρ o1 => ∃ (f' : List Slot) (p' : List (Slot × Slot)) (y6 : Option PyData), ρ = [none, x1, a2, x3, some (.list (f'.map sltD)), some (.list (p'.map prD)), y6, x7, x8, x9, x10, x11, x12, x13, x14, x15] ∧ Bld n f' p' ∧ OV (m + 3 * f'.length + 1) o1 ∧ o1.tb = o.tb ∧ k = f'.length)
    (fun ρ o1 => ∃ (f' : List Slot) (p' : List (Slot × Slot)) (y6 : Option PyData), ρ = [none, x1, a2, x3, some (.list (f'.map sltD)), some (.list (p'.map prD)), y6, x7, x8, x9, x10, x11, x12, x13, x14, x15] ∧ Bld n f' p' ∧ OV m o1 ∧ o1.tb = o.tb)
    ⟨free, pairs, x6, rfl, b, ov, rfl, rfl⟩ (by omega) ?_
  rintro k ρ o1 ⟨f, p, y6, rfl, b, ov, tb, rfl⟩
  have lb := b.len
  obtain ⟨q, hq⟩ := ov.st
  by_cases h : 1 < f.length
  · have hI : (1 : Int) < (f.length : Nat) := by omega
    obtain ⟨c, o2, e1, hc, ov1, tb1⟩ := r_draw (n := m + 3 * f.length) ov (lim := 5) (by omega) (by omega)
    have e1' : D__law_draw [none, some (.int 5)] o1 = .ok (.int (c : Nat)) o2 := e1
    by_cases h0 : 0 < c
    · obtain ⟨q2, hq2⟩ := ov1.st
      obtain ⟨i, o3, e3, hi, ov3, tb3⟩ := r_draw (n := m + 3 * f.length - 1) (ov1.mono (by omega)) (lim := f.length) (by omega) (by omega)
      obtain ⟨q3, hq3⟩ := ov3.st
      have hle : (f.eraseIdx i).length = f.length - 1 := List.length_eraseIdx_of_lt hi
      obtain ⟨j, o4, e4, hj, ov4, tb4⟩ := r_draw (n := m + 3 * f.length - 2) (ov3.mono (by omega)) (lim := (f.eraseIdx i).length) (by omega) (by omega)
      have b2 := b.glue hi hj
      have hle2 : ((f.eraseIdx i).eraseIdx j).length = f.length - 2 := by rw [List.length_eraseIdx_of_lt hj]; omega
      refine .inr ⟨[none, x1, a2, x3, some (.list (f.map sltD)), some (.list (p.map prD)), y6, x7, x8, x9, x10, x11, x12, x13, x14, x15], o2, [none, x1, a2, x3, some (.list (((f.eraseIdx i).eraseIdx j).map sltD)), some (.list ((p ++ [(f[i], (f.eraseIdx i)[j])]).map prD)), some (sltD f[i]), x7, x8, x9, x10, x11, x12, x13, x14, x15], o4, f.length - 2, by simp [hI, hq, e1', h0], ?_, by omega, _, _, _, rfl, b2, ov4.mono (by omega), by rw [tb4, tb3, tb1, tb], hle2.symm⟩
      have k1 : dPop 4 (dCall false D__law_draw (aSt (aCons (dOpN phLen (dCons (dVar 4) dNil)) aNil))) [none, x1, a2, x3, some (.list (f.map sltD)), some (.list (p.map prD)), y6, x7, x8, x9, x10, x11, x12, x13, x14, x15] o2 = .ok (sltD f[i]) [none, x1, a2, x3, some (.list ((f.eraseIdx i).map sltD)), some (.list (p.map prD)), y6, x7, x8, x9, x10, x11, x12, x13, x14, x15] o3 :=
        run_pop (ρ1 := [none, x1, a2, x3, some (.list (f.map sltD)), some (.list (p.map prD)), y6, x7, x8, x9, x10, x11, x12, x13, x14, x15]) (by simp [hq2, e3]) (popL_map sltD hi (by omega))
      have k2 : dPop 4 (dCall false D__law_draw (aSt (aCons (dOpN phLen (dCons (dVar 4) dNil)) aNil))) [none, x1, a2, x3, some (.list ((f.eraseIdx i).map sltD)), some (.list (p.map prD)), some (sltD f[i]), x7, x8, x9, x10, x11, x12, x13, x14, x15] o3 = .ok (sltD (f.eraseIdx i)[j]) [none, x1, a2, x3, some (.list (((f.eraseIdx i).eraseIdx j).map sltD)), some (.list (p.map prD)), some (sltD f[i]), x7, x8, x9, x10, x11, x12, x13, x14, x15] o4 :=
        run_pop (ρ1 := [none, x1, a2, x3, some (.list ((f.eraseIdx i).map sltD)), some (.list (p.map prD)), some (sltD f[i]), x7, x8, x9, x10, x11, x12, x13, x14, x15]) (by simp [hq3, e4]) (popL_map sltD hj (by omega))
      have hs : p.length < sizeLine := szl (by omega)
      have hz : (2 : Nat) ≤ sizeLine := sz (by decide)
      generalize hX : (f.eraseIdx i)[j] = X at *
      generalize hY : (f.eraseIdx i).eraseIdx j = Y at *
      generalize hZ : f.eraseIdx i = Z at *
      generalize hC : f[i] = C at *
      simp [-q_pop, k1, k2, hs, hz, prD]
    · refine .inl ⟨[none, x1, a2, x3, some (.list (f.map sltD)), some (.list (p.map prD)), y6, x7, x8, x9, x10, x11, x12, x13, x14, x15], o2, by simp [hI, hq, e1', h0], f, p, y6, rfl, b, ov1.mono (by omega), tb1.trans tb⟩
  · have hI : ¬ (1 : Int) < (f.length : Nat) := by omega
    refine .inl ⟨[none, x1, a2, x3, some (.list (f.map sltD)), some (.list (p.map prD)), y6, x7, x8, x9, x10, x11, x12, x13, x14, x15], o1, by simp [hI], f, p, y6, rfl, b, ov.mono (by omega), tb⟩
end Q
end FL
namespace FL
open PySem PySem.Spec PyProof.Rows L2 PySem.W
def slI (p : Slot) : List NestedKey := [.num (p.1 : Int), .num (p.2 : Int)]
theorem sltD_key (p : Slot) : sltD p = keyTD (slI p) := rfl
theorem slI_inj {p q : Slot} (h : slI p = slI q) : p = q := by
  unfold slI at h
  simp only [List.cons.injEq, and_true, NestedKey.num.injEq] at h
  obtain ⟨a, b⟩ := p
  obtain ⟨c, d⟩ := q
  simp only [Prod.mk.injEq]
  omega
def alD (al : List (Slot × Int)) : List (PyData × PyData) := al.map fun p => (sltD p.1, .int p.2)
theorem toKT_slt (p : Slot) : toKT (sltD p) = some (slI p) := rfl
theorem toK_slt (p : Slot) : toK (sltD p) = none := rfl
theorem allT_alD (al : List (Slot × Int)) : allT (alD al) = true := by
  unfold allT alD
  rw [List.all_map, List.all_eq_true]
  intro p _
  rfl
theorem put_alD {al : List (Slot × Int)} {k : Slot} (h : k ∉ al.map (·.1)) (v : Int) (hl : al.length < 16777216) : putD (alD al) (sltD k) (.int v) = some (alD (al ++ [(k, v)])) := by
  have ha : ((alD al).any fun p => decide (toKT p.1 = some (slI k))) = false := by
    rw [List.any_eq_false]
    intro p hp
    obtain ⟨q, hq, rfl⟩ := List.mem_map.mp hp
    simp only [decide_eq_true_eq, toKT_slt, Option.some.injEq]
    intro e
    exact h (by rw [← slI_inj e]; exact List.mem_map_of_mem hq)
  have hz : (alD al).length < sizeLine := szl (by unfold alD; rw [List.length_map]; exact hl)
  unfold putD
  rw [if_pos hz, toK_slt]
  simp only [toKT_slt, allT_alD, if_true]
  unfold putTd
  rw [ha]
  unfold alD
  rw [List.map_append]
  rfl
theorem getT_alD (k : Slot) : ∀ (al : List (Slot × Int)), k ∈ al.map (·.1) → getT (slI k) (alD al) = some (.int (look al k))
  | [], h => by cases h
  | p :: al, h => by
    unfold alD
    simp only [List.map_cons, getT, toKT_slt, Option.some.injEq]
    by_cases e : p.1 = k
    · simp [e, look]
    · have e2 : ¬ slI p.1 = slI k := fun q => e (slI_inj q)
      rw [if_neg e2]
      rw [List.map_cons] at h
      have h' : k ∈ al.map (·.1) := (List.mem_cons.mp h).resolve_left fun q => e q.symm
      have := getT_alD k al h'
      unfold alD at this
      rw [this]
      simp [look, e]
theorem ix_alD {al : List (Slot × Int)} {k : Slot} (h : k ∈ al.map (·.1)) : phIx (.dict (alD al)) (sltD k) = some (.int (look al k)) := by
  show (getD (alD al) (sltD k)).bind id = _
  have hne : (alD al).isEmpty = false := by
    cases al with
    | nil => cases h
    | cons _ _ => rfl
  unfold getD
  rw [hne]
  simp only [Bool.false_eq_true, if_false, toK_slt, toKT_slt, allT_alD, if_true, getT_alD k al h]
  rfl
theorem zipL_map {α β : Type} (f : α → PyData) (g : β → PyData) : ∀ (xs : List α) (ys : List β), zipL (xs.map f) (ys.map g) = (xs.zip ys).map fun p => .tuple [f p.1, g p.2]
  | [], _ => rfl
  | _ :: _, [] => rfl
  | x :: xs, y :: ys => by
    have := zipL_map f g xs ys
    unfold zipL at this ⊢
    simp [this]
namespace Q
abbrev bSide : DS := dSeq (dPut 8 (dOp2 phIx (dVar 10) (dC (.int 0))) (dVar 9)) (dIfS (dTop2 phEq (dOpN phLen (dCons (dVar 10) dNil)) (dC (.int 2))) (dPut 8 (dOp2 phIx (dVar 10) (dC (.int 1))) (dOp2 phSub (dOp1 phNeg (dC (.int 1))) (dVar 9))) dPass)
abbrev tSide : DG := gTup 2 (gCons (gName 9) (gCons (gName 10) gNil))
theorem side_pairs (x0 x1 x2 x3 x4 x5 x6 x7 x11 x12 x13 x14 x15 : Option PyData) (o : Orc) (rest : List PyData) : ∀ (l : List (Int × (Slot × Slot))) (al : List (Slot × Int)) (x9 x10 : Option PyData), ((al ++ l.flatMap alP).map (·.1)).Nodup → (al ++ l.flatMap alP).length ≤ 1000 →
    ∃ y9 y10, loopF tSide bSide ((l.map fun p => PyData.tuple [.int p.1, prD p.2]) ++ rest) [x0, x1, x2, x3, x4, x5, x6, x7, some (.dict (alD al)), x9, x10, x11, x12, x13, x14, x15] o = loopF tSide bSide rest [x0, x1, x2, x3, x4, x5, x6, x7, some (.dict (alD (al ++ l.flatMap alP))), y9, y10, x11, x12, x13, x14, x15] o
  | [], al, x9, x10, nd, hl => ⟨x9, x10, by simp⟩
  | p :: l, al, x9, x10, nd, hl => by
    have ea : al ++ (p :: l).flatMap alP = (al ++ alP p) ++ l.flatMap alP := by simp
    rw [ea] at nd hl ⊢
    obtain ⟨y9, y10, e⟩ := side_pairs x0 x1 x2 x3 x4 x5 x6 x7 x11 x12 x13 x14 x15 o rest l (al ++ alP p) (some (.int p.1)) (some (prD p.2)) nd hl
    refine ⟨y9, y10, ?_⟩
    rw [← e]
    have nd1 : ((al ++ alP p).map (·.1)).Nodup := by
      rw [List.map_append, List.nodup_append] at nd
      exact nd.1
    have hl1 : al.length + 2 ≤ 1000 := by
      have : (alP p).length = 2 := rfl
      simp only [List.length_append, this] at hl
      omega
    have n1 : p.2.1 ∉ al.map (·.1) := by
      intro q
      rw [List.map_append, List.nodup_append] at nd1
      exact nd1.2.2 _ q _ (by simp [alP]) rfl
    have n2 : p.2.2 ∉ (al ++ [(p.2.1, p.1)]).map (·.1) := by
      have : al ++ alP p = (al ++ [(p.2.1, p.1)]) ++ [(p.2.2, ng p.1)] := by simp [alP]
      rw [this, List.map_append, List.nodup_append] at nd1
      intro q
      exact nd1.2.2 _ q _ (by simp) rfl
    have p1 := put_alD n1 p.1 (by omega)
    have p2 := put_alD n2 (ng p.1) (by simp; omega)
    have e2 : al ++ alP p = (al ++ [(p.2.1, p.1)]) ++ [(p.2.2, ng p.1)] := by simp [alP]
    have a0 : L2.atI [sltD p.2.1, sltD p.2.2] 0 = some (sltD p.2.1) := rfl
    have a1 : L2.atI [sltD p.2.1, sltD p.2.2] 1 = some (sltD p.2.2) := rfl
    have en : -1 - p.1 = ng p.1 := rfl
    rw [e2]
    simp only [List.map_cons, List.cons_append]
    rw [loopF]
    simp [prD, a0, a1, p1, p2, en]
theorem side_free (x0 x1 x2 x3 x4 x5 x6 x7 x11 x12 x13 x14 x15 : Option PyData) (o : Orc) : ∀ (l : List (Int × Slot)) (al : List (Slot × Int)) (x9 x10 : Option PyData), ((al ++ l.map alF).map (·.1)).Nodup → (al ++ l.map alF).length ≤ 1000 →
    ∃ y9 y10, loopF tSide bSide (l.map fun p => PyData.tuple [.int p.1, onD p.2]) [x0, x1, x2, x3, x4, x5, x6, x7, some (.dict (alD al)), x9, x10, x11, x12, x13, x14, x15] o = .ok .nx [x0, x1, x2, x3, x4, x5, x6, x7, some (.dict (alD (al ++ l.map alF))), y9, y10, x11, x12, x13, x14, x15] o
  | [], al, x9, x10, nd, hl => ⟨x9, x10, by simp [loopF]⟩
  | p :: l, al, x9, x10, nd, hl => by
    have ea : al ++ (p :: l).map alF = (al ++ [alF p]) ++ l.map alF := by simp
    rw [ea] at nd hl ⊢
    obtain ⟨y9, y10, e⟩ := side_free x0 x1 x2 x3 x4 x5 x6 x7 x11 x12 x13 x14 x15 o l (al ++ [alF p]) (some (.int p.1)) (some (onD p.2)) nd hl
    refine ⟨y9, y10, ?_⟩
    rw [← e]
    have nd1 : ((al ++ [alF p]).map (·.1)).Nodup := by
      rw [List.map_append, List.nodup_append] at nd
      exact nd.1
    have hl1 : al.length + 1 ≤ 1000 := by
      simp only [List.length_append, List.length_cons, List.length_nil] at hl
      omega
    have n1 : p.2 ∉ al.map (·.1) := by
      intro q
      rw [List.map_append, List.nodup_append] at nd1
      exact nd1.2.2 _ q _ (by simp [alF]) rfl
    have p1 := put_alD n1 p.1 (by omega)
    have a0 : L2.atI [sltD p.2] 0 = some (sltD p.2) := rfl
    have e1 : alF p = (p.2, p.1) := rfl
    rw [e1]
    simp only [List.map_cons]
    rw [loopF]
    simp [onD, a0, p1]
theorem r_sheet {most m : Nat} {o : Orc} (h1 : 1 ≤ most) (h5 : most ≤ 5) (ov : OV (m + 200) o) : ∃ s o', D__law_sheet [none, some (.int most)] o = .ok (shD s) o' ∧ Sht s ∧ s.length ≤ most ∧ OV m o' ∧ o'.tb = o.tb := by
  obtain ⟨q, hq⟩ := ov.st
  obtain ⟨k0, o1, e1, hk0, ov1, tb1⟩ := r_draw (n := m + 199) (ov.mono (by omega)) (lim := most) (by omega) (by omega)
  obtain ⟨N, hN⟩ : ∃ N, N = 1 + k0 := ⟨_, rfl⟩
  obtain ⟨f2, p2, o2, x3, x11, x12, e2, b2, ov2, tb2, l2⟩ := sheet_adds (m := m + 180) (some (.int most)) (some (.int (N : Nat))) none none none none none none none none k0 1 [(0, 0), (0, 1), (0, 2)] [] o1 none none none bld_one (by omega) (by omega) rfl (ov1.mono (by omega))
  rw [← hN] at b2
  have lb2 := b2.len
  obtain ⟨ρ3, o3, e3, f3, p3, x6, rfl, b3, ov3, tb3⟩ := sheet_glue (n := N) (m := m + 100) (by omega) (some (.int most)) (some (.int (N : Nat))) x3 none none none none x11 x12 none none none b2 (ov2.mono (by omega)) none
  have lb3 := b3.len
  obtain ⟨nums, o4, e4, pm, ov4, tb4⟩ := r_order (n := p3.length + f3.length) (m := m) (o := o3) (ov3.mono (by omega)) (by omega)
  have hlen : nums.length = p3.length + f3.length := by have := pm.length_eq; simpa using this
  have hS := b3.sheet (nums := nums) (by omega) (by omega) pm
  refine ⟨shtOf N (alS nums p3 f3), o4, ?_, hS, by simp [shtOf]; omega, ov4, by rw [tb4, tb3, tb2, tb1]⟩
  have hk := alS_keys (nums := nums) (pairs := p3) (free := f3) hlen
  have hkn : ((alS nums p3 f3).map (·.1)).Nodup := by rw [hk]; exact b3.all.nodup_iff.mpr (slots_nodup _)
  have hal : (alS nums p3 f3).length ≤ 1000 := by
    have := congrArg List.length hk
    rw [List.length_map, List.length_append, twoS_len] at this
    omega
  have l1 : (nums.take p3.length).length = p3.length := by simp; omega
  -- the loop that names
  obtain ⟨y9, y10, s1⟩ := side_pairs none (some (.int most)) (some (.int (N : Nat))) x3 (some (.list (f3.map sltD))) (some (.list (p3.map prD))) x6 (some (.list (p3.map prD ++ f3.map onD))) x11 x12 none none none o4 (((nums.drop p3.length).zip f3).map fun p => PyData.tuple [.int p.1, onD p.2]) ((nums.take p3.length).zip p3) [] none none (by
      have := hkn
      unfold alS at this
      rw [List.map_append, List.nodup_append] at this
      rw [List.nil_append]
      exact this.1) (by
      have := hal
      unfold alS at this
      rw [List.length_append] at this
      simp only [List.nil_append]
      omega)
  obtain ⟨z9, z10, s2⟩ := side_free none (some (.int most)) (some (.int (N : Nat))) x3 (some (.list (f3.map sltD))) (some (.list (p3.map prD))) x6 (some (.list (p3.map prD ++ f3.map onD))) x11 x12 none none none o4 ((nums.drop p3.length).zip f3) ([] ++ ((nums.take p3.length).zip p3).flatMap alP) y9 y10 (by rw [List.nil_append]; exact hkn) (by rw [List.nil_append]; exact hal)
  rw [s2] at s1
  have ez : zipL (nums.map .int) (p3.map prD ++ f3.map onD) = (((nums.take p3.length).zip p3).map fun p => PyData.tuple [.int p.1, prD p.2]) ++ (((nums.drop p3.length).zip f3).map fun p => PyData.tuple [.int p.1, onD p.2]) := by
    rw [← zipL_map PyData.int prD, ← zipL_map PyData.int onD]
    conv => lhs; rw [← List.take_append_drop p3.length nums, List.map_append]
    unfold zipL
    rw [List.zipWith_append (by simp; omega)]
  rw [← ez] at s1
  have es : [] ++ ((nums.take p3.length).zip p3).flatMap alP ++ ((nums.drop p3.length).zip f3).map alF = alS nums p3 f3 := by simp [alS]
  rw [es] at s1
  -- the comprehensions
  have slot_in : ∀ k j, k < N → j < 3 → (k, j) ∈ (alS nums p3 f3).map (·.1) := by
    intro k j h1 h2
    rw [hk]
    refine b3.all.mem_iff.mpr ?_
    unfold slots
    exact List.mem_flatMap.mpr ⟨k, List.mem_range.mpr h1, List.mem_map.mpr ⟨j, List.mem_range.mpr h2, rfl⟩⟩
  have hz2 : (2 : Nat) ≤ sizeLine := sz (by decide)
  have rg3 : rng1 [.int 3] = some ((List.range 3).map fun (k : Nat) => .int (k : Int)) := rng1_nat (n := 3) (by omega)
  have rgk : rng1 [.int (N : Nat)] = some ((List.range N).map fun (k : Nat) => .int (k : Int)) := rng1_nat (by omega)
  have rg2 : rng2 [.int 1, .int (N : Nat)] = some (upL 1 k0) := by
    have := rng2_up (a := 1) (n := N) (by omega) (by omega)
    rw [show N - 1 = k0 by omega] at this
    exact this
  have ones := run_map (τ := gName 14) (e := dTup (dCons (dVar 14) dNil)) (ρ := [none, some (.int most), some (.int (N : Nat)), x3, some (.list (f3.map sltD)), some (.list (p3.map prD)), x6, none, none, none, none, x11, x12, none, none, none]) (o := o3) sltD onD id flat_onD (xs := f3) (fun p _ => ⟨[none, some (.int most), some (.int (N : Nat)), x3, some (.list (f3.map sltD)), some (.list (p3.map prD)), x6, none, none, none, none, x11, x12, none, some (sltD p), none], _, rfl, by
    have hz1 : (1 : Nat) ≤ sizeLine := sz (by decide)
    simp [hz1]
    exact ⟨rfl, rfl⟩⟩) (by omega)
  rw [List.map_id] at ones
  have row : ∀ k, k < N → loopC (gName 15) dYes (dOp2 phIx (dVar 8) (dTup (dCons (dVar 13) (dCons (dVar 15) dNil)))) [none, some (.int most), some (.int (N : Nat)), x3, some (.list (f3.map sltD)), some (.list (p3.map prD)), x6, some (.list (p3.map prD ++ f3.map onD)), some (.dict (alD (alS nums p3 f3))), z9, z10, x11, x12, some (.int (k : Int)), none, none] ((List.range 3).map fun (k : Nat) => .int (k : Int)) o4 [] = .ok (((List.range 3).map fun j => look (alS nums p3 f3) (k, j)).map .int) [none, some (.int most), some (.int (N : Nat)), x3, some (.list (f3.map sltD)), some (.list (p3.map prD)), x6, some (.list (p3.map prD ++ f3.map onD)), some (.dict (alD (alS nums p3 f3))), z9, z10, x11, x12, some (.int (k : Int)), none, none] o4 := fun k hk' => run_map (fun (k : Nat) => PyData.int (k : Int)) PyData.int (fun j => look (alS nums p3 f3) (k, j)) flat_int (xs := List.range 3) (fun j hj => ⟨[none, some (.int most), some (.int (N : Nat)), x3, some (.list (f3.map sltD)), some (.list (p3.map prD)), x6, some (.list (p3.map prD ++ f3.map onD)), some (.dict (alD (alS nums p3 f3))), z9, z10, x11, x12, some (.int (k : Int)), none, some (.int (j : Int))], [none, some (.int most), some (.int (N : Nat)), x3, some (.list (f3.map sltD)), some (.list (p3.map prD)), x6, some (.list (p3.map prD ++ f3.map onD)), some (.dict (alD (alS nums p3 f3))), z9, z10, x11, x12, some (.int (k : Int)), none, some (.int (j : Int))], rfl, by
      have hi := ix_alD (slot_in k j hk' (List.mem_range.mp hj))
      have hi' : phIx (.dict (alD (alS nums p3 f3))) (.tuple [.int (k : Int), .int (j : Int)]) = some (.int (look (alS nums p3 f3) (k, j))) := hi
      simp [hz2, hi']⟩) (by simp)
  have rows := run_map (τ := gName 13) (e := dOpN phTuple (dCons (dComp (dRng rng1 (dCons (dC (.int 3)) dNil)) [15] (gName 15) dYes (dOp2 phIx (dVar 8) (dTup (dCons (dVar 13) (dCons (dVar 15) dNil))))) dNil)) (ρ := [none, some (.int most), some (.int (N : Nat)), x3, some (.list (f3.map sltD)), some (.list (p3.map prD)), x6, some (.list (p3.map prD ++ f3.map onD)), some (.dict (alD (alS nums p3 f3))), z9, z10, x11, x12, none, none, none]) (o := o4) (fun (k : Nat) => PyData.int (k : Int)) iT (fun k => (List.range 3).map fun j => look (alS nums p3 f3) (k, j)) flat_iT (xs := List.range N) (fun k hk' => ⟨[none, some (.int most), some (.int (N : Nat)), x3, some (.list (f3.map sltD)), some (.list (p3.map prD)), x6, some (.list (p3.map prD ++ f3.map onD)), some (.dict (alD (alS nums p3 f3))), z9, z10, x11, x12, some (.int (k : Int)), none, none], [none, some (.int most), some (.int (N : Nat)), x3, some (.list (f3.map sltD)), some (.list (p3.map prD)), x6, some (.list (p3.map prD ++ f3.map onD)), some (.dict (alD (alS nums p3 f3))), z9, z10, x11, x12, some (.int (k : Int)), none, none], rfl, by
      have hr := row k (List.mem_range.mp hk')
      simp [-List.map_map, rg3, hr]⟩) (by simp; omega)
  have esh : shD (shtOf N (alS nums p3 f3)) = .tuple (((List.range N).map fun k => (List.range 3).map fun j => look (alS nums p3 f3) (k, j)).map iT) := rfl
  rw [esh]
  have hls := ov.some
  have hz3 : (3 : Nat) ≤ sizeLine := sz (by decide)
  have hthings : (p3.map prD ++ f3.map onD).length = p3.length + f3.length := by simp
  have hthz : (p3.map prD).length + (f3.map onD).length ≤ sizeLine := sz (by simp; omega)
  have hadd := q_addL hthz
  obtain ⟨q3, hq3⟩ := ov3.st
  have e1' : (1 : Int) + (k0 : Int) = (N : Nat) := by omega
  have eslots : List.map sltD [(0, 0), (0, 1), (0, 2)] = [.tuple [.int 0, .int 0], .tuple [.int 0, .int 1], .tuple [.int 0, .int 2]] := rfl
  rw [eslots] at e2
  simp only [List.map_nil] at e2
  have ed : alD [] = [] := rfl
  rw [ed] at s1
  generalize hN : (N : Nat) = N at *
  obtain ⟨L, hL⟩ : ∃ L, L = p3.length + f3.length := ⟨_, rfl⟩
  rw [← hL] at hthings e4
  generalize hT : (p3.map prD ++ f3.map onD) = Th at *
  generalize hAL : alD (alS nums p3 f3) = AL at *
  have hzip : zipD [.list (nums.map .int), .list Th] = some (zipL (nums.map .int) Th) := rfl
  simp [-q_pop, -List.map_map, D__law_sheet, dFn_fin, d__law_sheet, stAt, hq, e1, e1', hz2, hz3, rg2, e2, e3, ones, hadd, hq3, hthings, e4, hzip, s1, rgk, rows, finS_ret hls]
end Q
end FL
namespace FL
open PySem PySem.Spec PyProof.Rows L2 PySem.W
def reach1 (s : List (List Int)) (l : List Int) : List Int := (l ++ l.flatMap fun x => tri s x ++ if ng x ∈ s.flatten then [ng x] else []).eraseDups
def reachN (s : List (List Int)) : Nat → List Int → List Int
  | 0, l => l
  | n + 1, l => reachN s n (reach1 s l)
theorem reachN_ok {s : List (List Int)} {S : Int → Prop} (h1 : ∀ t ∈ s, ∀ x ∈ t, ∀ y ∈ t, S x → S y) (h2 : ∀ x, x ∈ s.flatten → ng x ∈ s.flatten → S x → S (ng x)) : ∀ (n : Nat) (l : List Int), (∀ x ∈ l, x ∈ s.flatten ∧ S x) → ∀ x ∈ reachN s n l, x ∈ s.flatten ∧ S x
  | 0, l, h => h
  | n + 1, l, h => by
    refine reachN_ok h1 h2 n _ fun x hx => ?_
    unfold reach1 at hx
    rw [List.mem_eraseDups, List.mem_append] at hx
    rcases hx with hx | hx
    · exact h x hx
    · obtain ⟨y, hy, hx⟩ := List.mem_flatMap.mp hx
      obtain ⟨f, sy⟩ := h y hy
      rcases List.mem_append.mp hx with hx | hx
      · exact ⟨flat_of_tri f hx, h1 _ (tri_mem f) _ (mem_tri f) _ hx sy⟩
      · split at hx
        · rename_i q
          simp at hx
          subst hx
          exact ⟨q, h2 _ f q sy⟩
        · cases hx
def shtB (s : List (List Int)) : Bool := decide (s ≠ []) && decide (s.length ≤ 8) && s.all (fun t => t.length == 3) && decide s.flatten.Nodup && s.flatten.all (fun x => decide (-12 ≤ x) && decide (x ≤ 11)) &&
  s.flatten.all (fun x => (List.range ((edg x).toNat + 1)).all fun e => decide ((e : Int) ∈ s.flatten)) && s.flatten.all fun x => s.flatten.all fun y => decide (y ∈ reachN s 8 [x])
theorem shtB_ok {s : List (List Int)} (h : shtB s = true) : Sht s := by
  unfold shtB at h
  simp only [Bool.and_eq_true, decide_eq_true_eq, List.all_eq_true, beq_iff_eq] at h
  obtain ⟨⟨⟨⟨⟨⟨h1, h2⟩, h3⟩, h4⟩, h5⟩, h6⟩, h7⟩ := h
  refine ⟨h1, h2, h3, h4, h5, fun x hx e he1 he2 => ?_, ?_⟩
  · have := h6 x hx e.toNat (List.mem_range.mpr (by omega))
    rwa [Int.toNat_of_nonneg he1] at this
  · intro S c1 c2 ⟨x, hx, hs⟩ y hy
    exact (reachN_ok c1 c2 8 [x] (fun z hz => by simp at hz; subst hz; exact ⟨hx, hs⟩) y (h7 x hx y hy)).2
def clo0 : List (List Int) := [[0, 1, 2], [-1, -2, -3]]
def clo1 : List (List Int) := [[0, 1, 2], [-1, -3, -2]]
def clo2 : List (List Int) := [[0, 1, 2], [-1, 3, 4], [-2, -5, 5], [-3, -6, -4]]
def clo3 : List (List Int) := [[0, 1, 2], [-1, -2, 3], [-3, 4, 5], [-4, -5, -6]]
theorem clo0_sht : Sht clo0 := shtB_ok (by decide +kernel)
theorem clo1_sht : Sht clo1 := shtB_ok (by decide +kernel)
theorem clo2_sht : Sht clo2 := shtB_ok (by decide +kernel)
theorem clo3_sht : Sht clo3 := shtB_ok (by decide +kernel)
namespace Q
theorem r_closed (k : Nat) (o : Orc) (h : o.st.isSome = true) : ∃ s, D__law_closed [none, some (.int k)] o = .ok (shD s) o ∧ Sht s ∧ s.length ≤ 4 := by
  have hz1 : (2 : Nat) ≤ sizeLine := sz (by decide)
  have hz2 : (3 : Nat) ≤ sizeLine := sz (by decide)
  have hz3 : (4 : Nat) ≤ sizeLine := sz (by decide)
  match k with
  | 0 => exact ⟨clo0, by simp [D__law_closed, dFn_fin, d__law_closed, stAt, hz1, hz2, hz3, finS_ret h, clo0], clo0_sht, by decide⟩
  | 1 => exact ⟨clo1, by simp [D__law_closed, dFn_fin, d__law_closed, stAt, hz1, hz2, hz3, finS_ret h, clo1], clo1_sht, by decide⟩
  | 2 => exact ⟨clo2, by simp [D__law_closed, dFn_fin, d__law_closed, stAt, hz1, hz2, hz3, finS_ret h, clo2], clo2_sht, by decide⟩
  | k + 3 =>
    have e0 : ((((k + 3 : Nat) : Int)) == 0) = false := by rw [beq_eq_false_iff_ne]; omega
    have e1 : ((((k + 3 : Nat) : Int)) == 1) = false := by rw [beq_eq_false_iff_ne]; omega
    have e2 : ((((k + 3 : Nat) : Int)) == 2) = false := by rw [beq_eq_false_iff_ne]; omega
    generalize ((k + 3 : Nat) : Int) = K at *
    exact ⟨clo3, by simp [-beq_eq_false_iff_ne, D__law_closed, dFn_fin, d__law_closed, stAt, hz1, hz2, hz3, finS_ret h, clo3, e0, e1, e2], clo3_sht, by decide⟩
theorem plain_loop (o : Orc) (a : Option PyData) : ∀ (s acc : List (List Int)) (x y : Option PyData), (∀ t ∈ s, t.length = 3) → acc.length + s.length ≤ 1000 →
    ∃ x' y', loopF (gName 2) (dSeq (dAsg 3 (dIndex (dVar 2) (dOpN phMinN (dCons (dVar 2) dNil)))) (dDrop (dApp 1 (dOp2 phAdd (dCut (dVar 2) (dPt (dVar 3)) dNoPt) (dCut (dVar 2) dNoPt (dPt (dVar 3))))))) (s.map iT) [a, some (.list (acc.map iT)), x, y] o = .ok .nx [a, some (.list ((acc ++ s.map plT).map iT)), x', y'] o
  | [], acc, x, y, h, hl => ⟨x, y, by simp [loopF]⟩
  | t :: s, acc, x, y, h, hl => by
    have n3 := h t List.mem_cons_self
    have ne : t ≠ [] := by intro e; rw [e] at n3; simp at n3
    obtain ⟨x', y', e⟩ := plain_loop o a s (acc ++ [plT t]) (some (iT t)) (some (.int (t.idxOf (mnI t) : Nat))) (fun u hu => h u (List.mem_cons_of_mem _ hu)) (by simp at hl ⊢; omega)
    refine ⟨x', y', ?_⟩
    have hi : t.idxOf (mnI t) ≤ t.length := List.idxOf_le_length
    have em : phMinN [iT t] = some (.int (mnI t)) := minN_iT ne
    have e1 : cutD (t.map PyData.int) (some ((t.idxOf (mnI t) : Nat) : Int)) none = (t.map .int).drop (t.idxOf (mnI t)) := cut_from (by simpa using hi)
    have e2 : cutD (t.map PyData.int) none (some ((t.idxOf (mnI t) : Nat) : Int)) = (t.map .int).take (t.idxOf (mnI t)) := cut_to
    have hz : ((t.map PyData.int).drop (t.idxOf (mnI t))).length + ((t.map PyData.int).take (t.idxOf (mnI t))).length ≤ sizeLine := sz (by simp; omega)
    have ha := q_addT hz
    have ep : (t.map PyData.int).drop (t.idxOf (mnI t)) ++ (t.map PyData.int).take (t.idxOf (mnI t)) = (plT t).map .int := by simp [plT, rot]
    rw [ep] at ha
    have hs : acc.length < sizeLine := szl (by simp at hl; omega)
    have el : acc ++ (t :: s).map plT = (acc ++ [plT t]) ++ s.map plT := by simp
    have em2 : (acc ++ [plT t]).map iT = acc.map iT ++ [iT (plT t)] := by simp
    rw [em2] at e
    have hix := ph_index n3 (mnI_mem ne)
    rw [el]
    simp only [List.map_cons]
    rw [loopF]
    simp [-List.map_append, -List.map_map, em, tripD_iT n3, hix, e1, e2, ha, hs, e]
theorem r_law_plain {s : List (List Int)} (o : Orc) (h3 : ∀ t ∈ s, t.length = 3) (hl : s.length ≤ 1000) : D__law_plain [some (shD s)] o = .ok (shD (plainL s)) o := by
  obtain ⟨x', y', e⟩ := plain_loop o (some (shD s)) s [] none none h3 (by simpa using hl)
  have hne : ∀ x ∈ s.map plT, x ≠ [] := by
    intro x hx
    obtain ⟨t, ht, rfl⟩ := List.mem_map.mp hx
    intro e
    have := (plT_perm t).length_eq
    rw [e, h3 t ht] at this
    simp at this
  have hs := ph_sorted_rows (xs := s.map plT) hne (by simp; omega)
  rw [List.nil_append] at e
  simp only [List.map_nil] at e
  generalize hB : s.map plT = B at *
  simp [-List.map_map, D__law_plain, dFn_fin, d__law_plain, stAt, e, hs, plainL, hB]
end Q
end FL
namespace FL
open PySem PySem.Spec PyProof.Rows L2 PySem.W
structure Shw (n : Nat) (d : PyData) : Prop where
  ok : d.showable = true
  nd : d.hasDict = false
  pl : d.plain = true
  dp : d.depth ≤ 10
  ln : d.shown.length ≤ n
theorem int_shown_all : ∀ k : Fin 41, (PyData.shown (.int ((k.val : Int) - 20))).length ≤ 3 := by decide +kernel
theorem Shw.int {x : Int} (h1 : -20 ≤ x) (h2 : x ≤ 20) : Shw 3 (.int x) := by
  have h := int_shown_all ⟨(x + 20).toNat, by omega⟩
  simp only at h
  rw [show (((x + 20).toNat : Nat) : Int) - 20 = x by omega] at h
  refine ⟨?_, rfl, rfl, by show 0 ≤ 10; omega, h⟩
  show decide (x.natAbs.log2 < 1920) = true
  rw [decide_eq_true_eq]
  by_cases h0 : x.natAbs = 0
  · rw [h0]; decide
  · have : x.natAbs < 2 ^ 5 := by omega
    have := (Nat.log2_lt h0).mpr this
    omega
theorem shw_all {n : Nat} : ∀ {ds : List PyData}, (∀ d ∈ ds, Shw n d) → PyData.showableAll ds = true ∧ PyData.hasDictAll ds = false ∧ PyData.plainAll ds = true ∧ ((PyData.shownAll ds).map (·.length)).sum ≤ n * ds.length ∧ (PyData.shownAll ds).length = ds.length
  | [], _ => ⟨rfl, rfl, rfl, Nat.zero_le _, rfl⟩
  | d :: ds, h => by
    obtain ⟨a, b, c, e, f⟩ := shw_all (ds := ds) fun x hx => h x (List.mem_cons_of_mem _ hx)
    have s := h d List.mem_cons_self
    refine ⟨?_, ?_, ?_, ?_, ?_⟩
    · simp [PyData.showableAll, a, s.ok]
    · simp [PyData.hasDictAll, b, s.nd]
    · simp [PyData.plainAll, c, s.pl]
    · simp only [PyData.shownAll, List.map_cons, List.sum_cons, List.length_cons]
      have := s.ln
      have e2 : n * (ds.length + 1) = n * ds.length + n := by rw [Nat.mul_add, Nat.mul_one]
      omega
    · simp [PyData.shownAll, f]
theorem depthAll_le {m : Nat} : ∀ {ds : List PyData}, (∀ d ∈ ds, d.depth ≤ m) → PyData.depthAll ds ≤ m
  | [], _ => Nat.zero_le _
  | d :: ds, h => by
    have := h d List.mem_cons_self
    have := depthAll_le (ds := ds) fun x hx => h x (List.mem_cons_of_mem _ hx)
    simp only [PyData.depthAll]
    omega
theorem Shw.tup {n m : Nat} {ds : List PyData} (h : ∀ d ∈ ds, Shw n d) (hd : ∀ d ∈ ds, d.depth ≤ 9) (hm : n * ds.length + 2 * ds.length + 3 ≤ m) : Shw m (.tuple ds) := by
  obtain ⟨a, b, c, e, f⟩ := shw_all h
  have dp := depthAll_le hd
  refine ⟨by simpa [PyData.showable] using a, by simpa [PyData.hasDict] using b, by simpa [PyData.plain] using c, by simp only [PyData.depth]; omega, ?_⟩
  have := tupleText_len_le (PyData.shownAll ds)
  show (tupleText (PyData.shownAll ds)).length ≤ m
  omega
theorem Shw.mono {n m : Nat} {d : PyData} (h : Shw n d) (hm : n ≤ m) : Shw m d := ⟨h.ok, h.nd, h.pl, h.dp, Nat.le_trans h.ln hm⟩
theorem Shw.repr {n : Nat} {d : PyData} (h : Shw n d) (hn : n ≤ 16777216) : phRepr [d] = some (.str d.shown) := by
  have : (d.showable && !d.hasDict && okD d && decide (d.shown.length ≤ sizeLine)) = true := by
    have hz := sz (Nat.le_trans h.ln hn)
    have := h.dp
    have h64 : d.depth ≤ 64 := by omega
    simp [h.ok, h.nd, okD, h.pl, h64, hz]
  exact if_pos this
theorem Shw.row {w : List Int} (h : ∀ x ∈ w, -20 ≤ x ∧ x ≤ 20) (hl : w.length ≤ 400) : Shw (5 * w.length + 3) (iT w) := by
  refine Shw.tup (n := 3) (fun d hd => ?_) (fun d hd => ?_) (by simp; omega)
  · obtain ⟨x, hx, rfl⟩ := List.mem_map.mp hd
    exact Shw.int (h x hx).1 (h x hx).2
  · obtain ⟨x, hx, rfl⟩ := List.mem_map.mp hd
    exact Nat.zero_le _
theorem Shw.str (x : String) (n : Nat) (h : (PyData.shown (.str (Str.ofString x))).length ≤ n) : Shw n (.str (Str.ofString x)) := ⟨rfl, rfl, rfl, Nat.zero_le _, h⟩
theorem Shw.lst {n m : Nat} {ds : List PyData} (h : ∀ d ∈ ds, Shw n d) (hd : ∀ d ∈ ds, d.depth ≤ 9) (hm : n * ds.length + 2 * ds.length + 3 ≤ m) : Shw m (.list ds) := by
  obtain ⟨a, b, c, e, f⟩ := shw_all h
  have dp := depthAll_le hd
  refine ⟨by simpa [PyData.showable] using a, by simpa [PyData.hasDict] using b, by simpa [PyData.plain] using c, by simp only [PyData.depth]; omega, ?_⟩
  have := listText_len_le (PyData.shownAll ds)
  show (listText (PyData.shownAll ds)).length ≤ m
  omega
theorem shw_bool (b : Bool) : Shw 5 (.bool b) := by cases b <;> exact ⟨rfl, rfl, rfl, Nat.zero_le _, by decide +kernel⟩
theorem intsD_ints : ∀ ns : List Int, intsD (ns.map .int) = some ns
  | [] => rfl
  | n :: ns => by simp [intsD, intsD_ints ns]
theorem begF_ov {ns : List Int} {T : List (Addr × Str)} {n : Nat} (hn : n ≤ 1000000) : OV n ⟨some (begF ns), T⟩ := ⟨⟨begF ns, rfl, by unfold begF begCells; split <;> simp_all, by unfold begF; simp, by unfold begF; simp, by unfold begF; simp; omega⟩⟩
instance : PySem.W.Datum Nat where
  toD n := .int n
  plain _ := rfl
  eqv a b := by
    simp only [PyData.eqv]
    rw [PySem.W.beq_decide]
    exact decide_eq_decide.mpr ⟨fun e => Int.ofNat.inj e, fun e => by rw [e]⟩
  depth := 0
  depth_le _ := Nat.le_refl _
section
variable {α : Type} [DecidableEq α] [PySem.W.Datum α]
theorem okD_datum (x : α) (h : PySem.W.Datum.depth α ≤ 64) : okD (PySem.W.Datum.toD x) = true := by
  have := PySem.W.Datum.depth_le x
  simp only [okD, PySem.W.Datum.plain, Bool.true_and, decide_eq_true_eq]
  omega
theorem okDs_datum (xs : List α) (h : PySem.W.Datum.depth α ≤ 64) : okDs (xs.map PySem.W.Datum.toD) = true := by
  have := PySem.W.depthAll_map xs
  simp only [okDs, PySem.W.plainAll_map, Bool.true_and, decide_eq_true_eq]
  omega
theorem any_datum (x : α) (xs : List α) : ((xs.map PySem.W.Datum.toD).any fun y => PyData.eqv y (PySem.W.Datum.toD x)) = decide (x ∈ xs) := by
  rw [Bool.eq_iff_iff, List.any_eq_true, decide_eq_true_eq]
  constructor
  · rintro ⟨d, hd, e⟩
    obtain ⟨y, hy, rfl⟩ := List.mem_map.mp hd
    rw [PySem.W.Datum.eqv, decide_eq_true_eq] at e
    exact e ▸ hy
  · intro h
    exact ⟨_, List.mem_map_of_mem h, by rw [PySem.W.Datum.eqv, decide_eq_true_eq]⟩
theorem t_inT (x : α) (xs : List α) (h : PySem.W.Datum.depth α ≤ 64 := by decide) : phIn (PySem.W.Datum.toD x) (.tuple (xs.map PySem.W.Datum.toD)) = some (.bool (decide (x ∈ xs))) := by
  unfold phIn inD
  simp only [okD_datum x h, okDs_datum xs h, Bool.and_self, if_true, any_datum, Option.map]
theorem t_inL (x : α) (xs : List α) (h : PySem.W.Datum.depth α ≤ 64 := by decide) : phIn (PySem.W.Datum.toD x) (.list (xs.map PySem.W.Datum.toD)) = some (.bool (decide (x ∈ xs))) := by
  unfold phIn inD
  simp only [okD_datum x h, okDs_datum xs h, Bool.and_self, if_true, any_datum, Option.map]
theorem t_notInT (x : α) (xs : List α) (h : PySem.W.Datum.depth α ≤ 64 := by decide) : phNotIn (PySem.W.Datum.toD x) (.tuple (xs.map PySem.W.Datum.toD)) = some (.bool (!decide (x ∈ xs))) := by
  unfold phNotIn inD
  simp only [okD_datum x h, okDs_datum xs h, Bool.and_self, if_true, any_datum, Option.map]
theorem t_notInL (x : α) (xs : List α) (h : PySem.W.Datum.depth α ≤ 64 := by decide) : phNotIn (PySem.W.Datum.toD x) (.list (xs.map PySem.W.Datum.toD)) = some (.bool (!decide (x ∈ xs))) := by
  unfold phNotIn inD
  simp only [okD_datum x h, okDs_datum xs h, Bool.and_self, if_true, any_datum, Option.map]
theorem t_eq (x y : α) (h : PySem.W.Datum.depth α ≤ 64 := by decide) : phEq (PySem.W.Datum.toD x) (PySem.W.Datum.toD y) = some (.bool (decide (x = y))) := by
  unfold phEq
  simp only [okD_datum x h, okD_datum y h, Bool.and_self, if_true, PySem.W.Datum.eqv]
theorem t_ne (x y : α) (h : PySem.W.Datum.depth α ≤ 64 := by decide) : phNe (PySem.W.Datum.toD x) (PySem.W.Datum.toD y) = some (.bool (!decide (x = y))) := by
  unfold phNe
  simp only [okD_datum x h, okD_datum y h, Bool.and_self, if_true, PySem.W.Datum.eqv]
end
namespace Q
theorem r_like {n : Nat} {d : PyData} (h : Shw n d) (hn : n ≤ 16777216) (o : Orc) : D__law_like [some d, some d] o = .ok (.bool true) o := by
  have k := h.repr hn
  have e : phEq (.str d.shown) (.str d.shown) = some (.bool true) := by
    unfold phEq
    have : okD (.str d.shown) = true := rfl
    rw [this]
    simp [PyData.eqv]
  simp [D__law_like, dFn_fin, d__law_like, stAt, k, e]
theorem heardG_ok {T : List (Addr × Str)} {tag : Str} {cl : List CLGd} {d : DE} {ρ ρ1 : Env} {o o1 : Orc} {v : PyData} (ht : o.tb = T) (h : d ρ o = .ok v ρ1 o1) : dHeardG T tag cl d ρ o = .ok (.tuple [.str tag, v]) ρ1 o1 := by
  unfold dHeardG
  rw [if_pos ht, h]
theorem heardG_ex {T : List (Addr × Str)} {tag : Str} {cl : List CLGd} {d : DE} {ρ ρ1 : Env} {o o1 : Orc} {c : Exn} {v : PyData} (ht : o.tb = T) (h : d ρ o = .ex c ρ1 o1) (hc : hearGD cl c = some v) : dHeardG T tag cl d ρ o = .ok v ρ1 o1 := by
  unfold dHeardG
  rw [if_pos ht, h]
  simp only [hc, Res.ofO]
end Q
end FL
namespace FL
/-- how many edges -/
def edgN (s : List (List Int)) : Nat := (mxE s + 1).toNat
theorem edgN_spec {s : List (List Int)} (h : Sht s) : (edgN s : Int) = mxE s + 1 ∧ edgN s ≤ 12 ∧ ∀ x ∈ s.flatten, edg x < edgN s := by
  obtain ⟨m1, m2⟩ := mxE_spec (flat_ne h)
  obtain ⟨y, hy, hm⟩ := List.mem_map.mp m1
  have n0 : 0 ≤ mxE s := by rw [← hm]; exact edg_nonneg y
  have n1 : mxE s ≤ 11 := by
    rw [← hm]
    have := h.bd y hy
    unfold edg
    split <;> omega
  have e : (edgN s : Int) = mxE s + 1 := by unfold edgN; omega
  refine ⟨e, by omega, fun x hx => ?_⟩
  have := m2 x hx
  omega
theorem mxI_mem {l : List Int} (h : l ≠ []) : mxI l ∈ l := by
  cases l with
  | nil => exact absurd rfl h
  | cons a l => exact foldl_max_mem l a
theorem mxI_ge {l : List Int} {x : Int} (h : x ∈ l) : x ≤ mxI l := by
  cases l with
  | nil => cases h
  | cons a l =>
    rcases List.mem_cons.mp h with rfl | h
    · exact (foldl_max_ge l x).1
    · exact (foldl_max_ge l a).2 x h
theorem mx_mx {s : List (List Int)} (h : Sht s) : mxI (s.map mxI) = mxE s := by
  obtain ⟨m1, m2⟩ := mxE_spec (flat_ne h)
  obtain ⟨y, hy, hm⟩ := List.mem_map.mp m1
  have n0 : 0 ≤ mxE s := by rw [← hm]; exact edg_nonneg y
  have hin : mxE s ∈ s.flatten := h.all y hy _ n0 (by omega)
  obtain ⟨t, ht, hx⟩ := List.mem_flatten.mp hin
  have g1 : mxE s ≤ mxI (s.map mxI) := Int.le_trans (mxI_ge hx) (mxI_ge (List.mem_map_of_mem ht))
  have hne : s.map mxI ≠ [] := fun e => h.ne (List.map_eq_nil_iff.mp e)
  obtain ⟨u, hu, e⟩ := List.mem_map.mp (mxI_mem hne)
  have une : u ≠ [] := by intro q; have := h.tri u hu; rw [q] at this; simp at this
  have hz := mxI_mem une
  have := m2 _ (List.mem_flatten.mpr ⟨u, hu, hz⟩)
  have h3 : mxI u ≤ edg (mxI u) := by unfold edg; split <;> omega
  omega
theorem edg_max (x : Int) : max x (ng x) = edg x := by
  unfold edg ng
  split <;> omega
theorem edg_ng (x : Int) : edg (ng x) = edg x := by
  unfold edg ng
  split <;> split <;> omega
/-- the sides are at most three for each triangle: so many edges are there at most -/
theorem edgN_le {s : List (List Int)} (h : Sht s) : edgN s ≤ 3 * s.length := by
  have e := edgN_spec h
  rw [← flatten_len h.tri]
  obtain ⟨m1, m2⟩ := mxE_spec (flat_ne h)
  obtain ⟨y, hy, hm⟩ := List.mem_map.mp m1
  have := nd_len (l := (List.range (edgN s)).map Int.ofNat) (k := s.flatten) (by
    have := @List.nodup_range (edgN s)
    exact List.Pairwise.map _ (fun a b hab hq => hab (Int.ofNat.inj hq)) this) (fun x hx => by
    obtain ⟨k, hk, rfl⟩ := List.mem_map.mp hx
    rw [List.mem_range] at hk
    refine h.all y hy _ (Int.natCast_nonneg k) ?_
    rw [hm]
    show (k : Int) ≤ mxE s
    omega)
  simpa using this
/-- the same edges, however the sheet is told -/
theorem mxE_perm {s u : List (List Int)} (h : Sht s) (p : s.flatten.Perm u.flatten) : mxE u = mxE s := by
  have hs := flat_ne h
  have hu : u.flatten ≠ [] := fun e => hs (by rw [e] at p; exact List.perm_nil.mp p)
  obtain ⟨a1, a2⟩ := mxE_spec hs
  obtain ⟨b1, b2⟩ := mxE_spec hu
  obtain ⟨x, hx, ex⟩ := List.mem_map.mp a1
  obtain ⟨y, hy, ey⟩ := List.mem_map.mp b1
  have h1 := a2 y (p.symm.subset hy)
  have h2 := b2 x (p.subset hx)
  omega
theorem plainL_flat (s : List (List Int)) : (plainL s).flatten.Perm s.flatten := by
  unfold plainL
  exact ((rsort_perm (s.map plT)).flatten).trans (flatten_map_perm plT fun t _ => plT_perm t)
theorem edgN_plain {s : List (List Int)} (h : Sht s) : edgN (plainL s) = edgN s := by
  unfold edgN
  rw [mxE_perm h (plainL_flat s).symm]

/-- the count of a side -/
def cnt (c : List Int) (x : Int) : Int := c.getD (edg x).toNat 0
def numsT (c t : List Int) : List Int := t.map (cnt c)
theorem cnt_ng (c : List Int) (x : Int) : cnt c (ng x) = cnt c x := by unfold cnt; rw [edg_ng]
/-- three counts of a lot -/
def lotT : List Int → Bool
  | [a, b, c] => (!decide ((a + b + c) % 2 = 1)) && !decide (a + b + c < 2 * max a (max b c))
  | _ => false
/-- how many strands go round the corners -/
def corL (l : List Int) : List Int := l.map fun x => (l.sum - 2 * x) / 2
/-- the rims -/
def rimsL (s : List (List Int)) : List Int := ((List.range (edgN s)).map Int.ofNat).filter fun e => decide (ng e ∉ s.flatten)
def lotB (s : List (List Int)) (c : List Int) : Bool := (rimsL s).all (fun e => decide (cnt c e = 0)) && s.all fun t => lotT (numsT c t)
theorem lotT_three {a b c : Int} : lotT [a, b, c] = true ↔ (a + b + c) % 2 = 0 ∧ a ≤ b + c ∧ b ≤ a + c ∧ c ≤ a + b := by
  unfold lotT
  simp only [Bool.and_eq_true, Bool.not_eq_true', decide_eq_false_iff_not]
  omega
theorem three_of {t : List Int} (h : t.length = 3) : ∃ x y z, t = [x, y, z] := by
  match t, h with
  | [x, y, z], _ => exact ⟨x, y, z, rfl⟩
theorem corL_three (a b c : Int) : corL [a, b, c] = [(b + c - a) / 2, (a + c - b) / 2, (a + b - c) / 2] := by
  simp only [corL, List.map_cons, List.map_nil, List.sum_cons, List.sum_nil, List.cons.injEq, and_true]
  refine ⟨?_, ?_, ?_⟩ <;> congr 1 <;> omega
/-- a point of a side, counted from its beginning -/
def ptL (c : List Int) (x i : Int) : List Int := [edg x, if 0 ≤ x then i else cnt c x - 1 - i]
/-- the points of two sides that strands round their corner join: one side and point, the other side and point -/
abbrev Jn := (Int × List Int) × (Int × List Int)
def jpAt (c : List Int) (a b : Int) (i : Int) : Jn := ((a, ptL c a (cnt c a - 1 - i)), (b, ptL c b i))
def jpK (c : List Int) (a b : Int) (m : Int) : List Jn := (List.range m.toNat).map fun (i : Nat) => jpAt c a b i
def jpL (c : List Int) : List Int → List Jn
  | [x, y, z] => jpK c y z ((cnt c y + cnt c z - cnt c x) / 2) ++ jpK c z x ((cnt c x + cnt c z - cnt c y) / 2) ++ jpK c x y ((cnt c x + cnt c y - cnt c z) / 2)
  | _ => []
theorem jpK_len (c : List Int) (a b m : Int) : (jpK c a b m).length = m.toNat := by simp [jpK]
theorem jpL_len {c : List Int} {t : List Int} (h : t.length = 3) (hl : lotT (numsT c t) = true) : ((jpL c t).length : Int) = (corL (numsT c t)).sum := by
  obtain ⟨x, y, z, rfl⟩ := three_of h
  simp only [numsT, List.map_cons, List.map_nil] at hl ⊢
  rw [lotT_three] at hl
  rw [corL_three]
  simp only [jpL, List.length_append, jpK_len, List.sum_cons, List.sum_nil]
  omega
def lmax (x : List Int) (xs : List (List Int)) : List Int := xs.foldl (fun a y => if a < y then y else a) x
abbrev Std := Int × List Int × List Int
def stOf (k : Nat) (p : Jn) : Std := (k, lmin p.1.2 [p.2.2], lmax p.1.2 [p.2.2])
def stL (c : List Int) : Nat → List (List Int) → List Std
  | _, [] => []
  | k, t :: s => (jpL c t).map (stOf k) ++ stL c (k + 1) s
theorem stL_len {c : List Int} : ∀ {s : List (List Int)} (k : Nat), (∀ t ∈ s, t.length = 3) → (∀ t ∈ s, lotT (numsT c t) = true) → ((stL c k s).length : Int) = ((s.map fun t => (corL (numsT c t)).sum)).sum
  | [], k, _, _ => rfl
  | t :: s, k, h, hl => by
    have h1 := jpL_len (h t List.mem_cons_self) (hl t List.mem_cons_self)
    have h2 := stL_len (s := s) (k + 1) (fun u hu => h u (List.mem_cons_of_mem _ hu)) fun u hu => hl u (List.mem_cons_of_mem _ hu)
    simp only [stL, List.length_append, List.length_map, List.map_cons, List.sum_cons]
    omega
theorem jpAt_two {c : List Int} {a b i : Int} : (jpAt c a b i).1.2.length = 2 ∧ (jpAt c a b i).2.2.length = 2 := ⟨rfl, rfl⟩
theorem jpL_two {c t : List Int} : ∀ p ∈ jpL c t, p.1.2.length = 2 ∧ p.2.2.length = 2 := by
  intro p hp
  unfold jpL at hp
  split at hp
  · rcases List.mem_append.mp hp with hp | hp
    · rcases List.mem_append.mp hp with hp | hp <;> (obtain ⟨i, _, rfl⟩ := List.mem_map.mp hp; exact jpAt_two)
    · obtain ⟨i, _, rfl⟩ := List.mem_map.mp hp; exact jpAt_two
  · cases hp
theorem stL_two {c : List Int} : ∀ {s : List (List Int)} {k : Nat}, ∀ p ∈ stL c k s, p.2.1.length = 2 ∧ p.2.2.length = 2
  | [], _, p, hp => by cases hp
  | t :: s, k, p, hp => by
    unfold stL at hp
    rcases List.mem_append.mp hp with hp | hp
    · obtain ⟨q, hq, rfl⟩ := List.mem_map.mp hp
      have := jpL_two q hq
      simp only [stOf, lmin, lmax, List.foldl_cons, List.foldl_nil]
      constructor <;> split <;> simp [this]
    · exact stL_two p hp
end FL
namespace FL
open PySem PySem.Spec PyProof.Rows L2 PySem.W
/-- a loop that ends the def with False at the first thing that is not so -/
theorem loop_all {α : Type} {τ : DG} {body : DS} {o : Orc} (enc : α → PyData) (p : α → Bool) (I : Env → Prop) : ∀ {xs : List α} {ρ : Env}, I ρ → (∀ x ∈ xs, ∀ ρ, I ρ → ∃ ρ1 ρ2, τ (enc x) ρ = some ρ1 ∧ body ρ1 o = .ok (if p x = true then .nx else .ret (.bool false)) ρ2 o ∧ I ρ2) →
    ∃ ρ', loopF τ body (xs.map enc) ρ o = .ok (if xs.all p = true then .nx else .ret (.bool false)) ρ' o ∧ I ρ'
  | [], ρ, h, _ => ⟨ρ, by simp [loopF], h⟩
  | x :: xs, ρ, h, st => by
    obtain ⟨ρ1, ρ2, e1, e2, h2⟩ := st x List.mem_cons_self ρ h
    obtain ⟨ρ', e3, h3⟩ := loop_all enc p I (xs := xs) h2 fun y hy => st y (List.mem_cons_of_mem _ hy)
    cases hp : p x with
    | false =>
      rw [hp] at e2
      simp only [Bool.false_eq_true, if_false] at e2
      exact ⟨ρ2, by simp [loopF, e1, e2, hp], h2⟩
    | true =>
      rw [hp] at e2
      simp only [if_true] at e2
      refine ⟨ρ', ?_, h3⟩
      simp only [List.map_cons, loopF, e1, e2, Res.bind, e3, List.all_cons, hp, Bool.true_and]
theorem max_iT {t : List Int} (h : t ≠ []) : phMax [iT t] = some (.int (mxI t)) := by
  cases t with
  | nil => exact absurd rfl h
  | cons a l => exact max_ints a l
theorem atI_cnt {c : List Int} {x : Int} (h : (edg x).toNat < c.length) : L2.atI (c.map PyData.int) (edg x) = some (.int (cnt c x)) := by
  have hx := edg_nonneg x
  have e : edg x = ((edg x).toNat : Int) := by omega
  rw [e]
  refine atI_nat ?_
  rw [List.getElem?_map, List.getElem?_eq_getElem h]
  unfold cnt
  rw [List.getD_eq_getElem?_getD, List.getElem?_eq_getElem h]
  rfl
theorem sum_intsD (l : List Int) : phSum [.list (l.map .int)] = some (.int l.sum) := by
  show (intsD (l.map .int)).map _ = _
  rw [intsD_ints]
  rfl
theorem sum_intsT (l : List Int) : phSum [iT l] = some (.int l.sum) := by
  show (intsD (l.map .int)).map _ = _
  rw [intsD_ints]
  rfl
theorem maxD_rows : ∀ (xs : List (List Int)) (x : List Int), maxD (iT x) (xs.map iT) = iT (lmax x xs)
  | [], x => rfl
  | y :: xs, x => by
    have ih := maxD_rows xs
    unfold maxD lmax at ih ⊢
    simp only [List.map_cons, List.foldl_cons, dlt_iT]
    by_cases h : x < y
    · simp only [h, decide_true, if_true]; exact ih y
    · simp only [h, decide_false, Bool.false_eq_true, if_false]; exact ih x
theorem minN_two (x y : List Int) : phMinN [iT x, iT y] = some (iT (lmin x [y])) := by
  show (if (FL.flatI (iT x) && FL.flatI (iT y)) = true then leastD [iT x, iT y] else none) = _
  exact (if_pos rfl).trans (least_rows x [y])
theorem maxN_two (x y : List Int) : phMaxN [iT x, iT y] = some (iT (lmax x [y])) := by
  show (if (FL.flatI (iT x) && FL.flatI (iT y)) = true then mostD [iT x, iT y] else none) = _
  refine (if_pos rfl).trans ?_
  have h := ordD_rows (x :: [y])
  simp only [List.map_cons, List.map_nil] at h
  have m := maxD_rows [y] x
  simp only [List.map_cons, List.map_nil] at m
  simp only [mostD, if_pos h, m]
def jpD (p : Jn) : PyData := .tuple [.tuple [.int p.1.1, iT p.1.2], .tuple [.int p.2.1, iT p.2.2]]
def stD (p : Std) : PyData := .tuple [.int p.1, iT p.2.1, iT p.2.2]
theorem flat_stD (p : Std) : flat (stD p) = true := by
  show flats [.int p.1, iT p.2.1, iT p.2.2] = true
  simp [flats]
theorem depth_stD (p : Std) : (stD p).depth ≤ 2 := by
  have h1 := depth_iT p.2.1
  have h2 := depth_iT p.2.2
  unfold stD
  simp only [PyData.depth, PyData.depthAll] at h1 h2 ⊢
  omega
theorem plain_stD (p : Std) : (stD p).plain = true := by
  have h1 := plain_iT p.2.1
  have h2 := plain_iT p.2.2
  unfold stD
  simp only [PyData.plain, PyData.plainAll] at h1 h2 ⊢
  rw [h1, h2]
  rfl
theorem okDs_stD (l : List Std) : okDs (l.map stD) = true := by
  have h1 : ∀ l : List Std, PyData.plainAll (l.map stD) = true := fun l => by
    induction l with
    | nil => rfl
    | cons a l ih => simp only [List.map_cons, PyData.plainAll, plain_stD, ih, Bool.and_self]
  have h2 : ∀ l : List Std, PyData.depthAll (l.map stD) ≤ 2 := fun l => by
    induction l with
    | nil => exact Nat.zero_le _
    | cons a l ih =>
      have := depth_stD a
      simp only [List.map_cons, PyData.depthAll]
      omega
  have := h2 l
  simp only [okDs, h1, Bool.true_and, decide_eq_true_eq]
  omega
theorem alike_stD (p q : Std) : alike (stD p) (stD q) = true := by
  show alikeAll [.int p.1, iT p.2.1, iT p.2.2] [.int q.1, iT q.2.1, iT q.2.2] = true
  have h1 := alike_iT p.2.1 q.2.1
  have h2 := alike_iT p.2.2 q.2.2
  simp only [alikeAll, h1, h2]
  rfl
theorem sortD_st (l : List Std) (hl : l.length ≤ 16777216) : sortD (l.map stD) = some (sortL (l.map stD)) := by
  have hs : srtD (l.map stD) = true := by
    unfold srtD
    simp only [Bool.and_eq_true, Bool.or_eq_true, decide_eq_true_eq, List.all_eq_true]
    refine ⟨⟨⟨fun d hd e he => ?_, okDs_stD l⟩, .inl fun d hd => ?_⟩, by rw [List.length_map]; exact sz hl⟩
    · obtain ⟨x, _, rfl⟩ := List.mem_map.mp hd
      obtain ⟨y, _, rfl⟩ := List.mem_map.mp he
      exact alike_stD x y
    · obtain ⟨x, hx, rfl⟩ := List.mem_map.mp hd
      rfl
  unfold sortD
  rw [if_pos hs]
theorem sortL_len (l : List PyData) : (sortL l).length = l.length := by rw [sortL_eq, List.length_mergeSort]
/-- counts that may be those of a lot -/
structure Cts (s : List (List Int)) (c : List Int) : Prop where
  len : c.length = edgN s
  bd : ∀ x ∈ c, 0 ≤ x ∧ x ≤ 1000000000000000000000000000000000000000000000000000000000000
theorem Cts.side {s : List (List Int)} {c : List Int} (h : Cts s c) (hs : Sht s) {x : Int} (hx : x ∈ s.flatten) : (edg x).toNat < c.length := by
  have := (edgN_spec hs).2.2 x hx
  have := edg_nonneg x
  rw [h.len]
  omega
theorem cnt_mem {c : List Int} {x : Int} (h : (edg x).toNat < c.length) : cnt c x ∈ c := by
  unfold cnt
  rw [List.getD_eq_getElem?_getD, List.getElem?_eq_getElem h]
  exact List.getElem_mem h
namespace Q
theorem r_count_edges {s : List (List Int)} (h : Sht s) (o : Orc) : D_count_edges [some (shD s)] o = .ok (.int (edgN s)) o := by
  have hl : s.length ≤ 1000 := by have := h.len; omega
  have c1 := run_map (τ := gName 1) (e := dOpN phMaxN (dCons (dVar 1) dNil)) (ρ := [some (shD s), none]) (o := o) iT PyData.int mxI flat_int (xs := s) (fun t ht => ⟨[some (shD s), some (iT t)], [some (shD s), some (iT t)], rfl, by
    have une : t ≠ [] := by intro q; have := h.tri t ht; rw [q] at this; simp at this
    have := max_iT une
    simp [this]⟩) (by omega)
  have c2 := ph_max_ints (xs := s.map mxI) (fun e => h.ne (List.map_eq_nil_iff.mp e))
  rw [mx_mx h] at c2
  have e := (edgN_spec h).1
  have e2 : (1 : Int) + mxE s = (edgN s : Nat) := by omega
  generalize hC : s.map mxI = C at *
  simp [-List.map_map, D_count_edges, dFn_fin, d_count_edges, stAt, c1, c2, e2]
theorem r_rims_of {s : List (List Int)} (h : Sht s) (o : Orc) : D_rims_of [some (shD s)] o = .ok (iT (rimsL s)) o := by
  have hl : s.flatten.length ≤ 1000 := by rw [flatten_len h.tri]; have := h.len; omega
  have k1 := r_sides_at s o h.nd hl
  have k2 := r_count_edges h o
  have n12 := (edgN_spec h).2.1
  have k3 := rng1_nat (n := edgN s) (by omega)
  have c1 := run_comp0 (τ := gName 2) (t := dTop2 phNotIn (dOp2 phSub (dOp1 phNeg (dC (.int 1))) (dVar 2)) (dVar 1)) (e := dVar 2) (ρ := [some (shD s), some (tabD s), none]) (o := o) PyData.int PyData.int (fun e => decide (ng e ∉ s.flatten)) id flat_int (xs := (List.range (edgN s)).map Int.ofNat) (fun x _ => ⟨[some (shD s), some (tabD s), some (.int x)], [some (shD s), some (tabD s), some (.int x)], rfl, by
      have := notIn_tab h.has (ng x)
      have en : -1 - x = ng x := rfl
      simp only [decide_not]
      simp [-List.mem_flatten, en, this], fun _ => ⟨[some (shD s), some (tabD s), some (.int x)], by simp⟩⟩) (by simp; omega)
  rw [List.map_id, List.map_map] at c1
  have e0 : (fun (k : Nat) => PyData.int (k : Int)) = PyData.int ∘ Int.ofNat := rfl
  rw [← e0] at c1
  generalize (List.range (edgN s)).map (fun (k : Nat) => PyData.int (k : Int)) = R at *
  have e1 : (((List.range (edgN s)).map Int.ofNat).filter fun e => decide (ng e ∉ s.flatten)) = rimsL s := rfl
  rw [e1] at c1
  simp [D_rims_of, dFn_fin, d_rims_of, stAt, k1, k2, k3, c1]
theorem r_counts_in {t c : List Int} (h : ∀ x ∈ t, (edg x).toNat < c.length) (hl : t.length ≤ 1000) (o : Orc) : D_counts_in [some (iT t), some (iT c)] o = .ok (.list ((numsT c t).map .int)) o := by
  have c1 := run_map (τ := gName 2) (e := dOp2 phIx (dVar 1) (dCall false D_edge_of (aCons (dVar 2) aNil))) (ρ := [some (iT t), some (iT c), none]) (o := o) PyData.int PyData.int (cnt c) flat_int (xs := t) (fun x hx => ⟨[some (iT t), some (iT c), some (.int x)], [some (iT t), some (iT c), some (.int x)], rfl, by
    have k1 := r_edge_of x o
    have k2 := atI_cnt (h x hx)
    simp [k1, k2]⟩) (by omega)
  simp [-List.map_map, D_counts_in, dFn_fin, d_counts_in, stAt, c1, numsT]
theorem lot_three {a b c : Int} {o : Orc} {ρ : Env} (h : ρ[5]? = some (some (.list [.int a, .int b, .int c]))) :
    dIfS (dOrT (dTop2 phEq (dOp2 phMod (dOpN phSum (dCons (dVar 5) dNil)) (dC (.int 2))) (dC (.int 1))) (dTop2 (phC fun i j => decide (j < i)) (dOp2 phMul (dC (.int 2)) (dOpN phMaxN (dCons (dVar 5) dNil))) (dOpN phSum (dCons (dVar 5) dNil)))) (dRet (dC (.bool false))) dPass ρ o = .ok (if lotT [a, b, c] = true then .nx else .ret (.bool false)) ρ o := by
  have k1 : phSum [.list [.int a, .int b, .int c]] = some (.int (a + b + c)) := by
    have := sum_intsD [a, b, c]
    simp only [List.map_cons, List.map_nil, List.sum_cons, List.sum_nil] at this
    rw [this]
    congr 2
    omega
  have k2 : phMax [.list [.int a, .int b, .int c]] = some (.int (max a (max b c))) := by
    have := max_ints a [b, c]
    simp only [List.map_cons, List.map_nil, List.foldl_cons, List.foldl_nil] at this
    rw [this]
    congr 2
    omega
  have k3 : phMod (.int (a + b + c)) (.int 2) = some (.int ((a + b + c) % 2)) := q_mod (by decide)
  have k4 : phMul (.int 2) (.int (max a (max b c))) = some (.int (2 * max a (max b c))) := q_mul (by simp [smallM, absLt])
  unfold lotT
  by_cases h1 : (a + b + c) % 2 = 1
  · simp [h, k1, k2, k3, k4, h1]
  · by_cases h2 : a + b + c < 2 * max a (max b c)
    · simp [h, k1, k2, k3, k4, h1, h2]
    · simp [h, k1, k2, k3, k4, h1, h2]
theorem r_is_lot {s : List (List Int)} {c : List Int} (hs : Sht s) (hc : Cts s c) (o : Orc) : D_is_lot [some (shD s), some (iT c)] o = .ok (.bool (lotB s c)) o := by
  have l1 := hs.len
  have n12 := (edgN_spec hs).2.1
  have k0 : phIsa "tuple" (iT c) = some (.bool true) := isa_tup (plain_ints c)
  have k1 := r_count_edges hs o
  have k2 : phNe (.int (c.length : Nat)) (.int (edgN s : Nat)) = some (.bool false) := by simp [hc.len]
  have k3 := r_rims_of hs o
  obtain ⟨ρ1, e1, a1, b1, d1, f1, rfl⟩ := loop_all (τ := gName 2) (body := dIfS (dNotT (dTest (dCall false D_is_from (aCons (dVar 2) (aCons (dC (.int 0)) (aCons (dC (.int 1000000000000000000000000000000000000000000000000000000000000)) aNil)))))) (dRet (dC (.bool false))) dPass) (o := o) PyData.int (fun _ => true)
    (fun ρ => ∃ a b d f, ρ = [some (shD s), some (iT c), a, b, d, f]) (xs := c) (ρ := [some (shD s), some (iT c), none, none, none, none]) ⟨none, none, none, none, rfl⟩ (by
      rintro x hx ρ ⟨a, b, d, f, rfl⟩
      have k := r_is_from x 0 1000000000000000000000000000000000000000000000000000000000000 o
      have hb := hc.bd x hx
      refine ⟨[some (shD s), some (iT c), some (.int x), b, d, f], [some (shD s), some (iT c), some (.int x), b, d, f], rfl, ?_, ⟨_, _, _, _, rfl⟩⟩
      simp [k, hb.1, hb.2])
  rw [show (c.all fun _ => true) = true by simp] at e1
  simp only [if_true] at e1
  obtain ⟨ρ2, e2, a2, b2, d2, f2, rfl⟩ := loop_all (τ := gName 3) (body := dIfS (dTop2 phNe (dOp2 phIx (dVar 1) (dVar 3)) (dC (.int 0))) (dRet (dC (.bool false))) dPass) (o := o) PyData.int (fun e => decide (cnt c e = 0))
    (fun ρ => ∃ a b d f, ρ = [some (shD s), some (iT c), a, b, d, f]) (xs := rimsL s) (ρ := [some (shD s), some (iT c), a1, b1, d1, f1]) ⟨a1, b1, d1, f1, rfl⟩ (by
      rintro x hx ρ ⟨a, b, d, f, rfl⟩
      obtain ⟨k, hk, rfl⟩ := List.mem_map.mp (List.mem_filter.mp hx).1
      rw [List.mem_range] at hk
      have ek : edg (Int.ofNat k) = Int.ofNat k := if_pos (Int.natCast_nonneg k)
      have k2 := atI_cnt (c := c) (x := Int.ofNat k) (by rw [ek, hc.len]; exact hk)
      rw [ek] at k2
      refine ⟨[some (shD s), some (iT c), a, some (.int (Int.ofNat k)), d, f], [some (shD s), some (iT c), a, some (.int (Int.ofNat k)), d, f], rfl, ?_, ⟨_, _, _, _, rfl⟩⟩
      generalize Int.ofNat k = K at *
      by_cases hz : cnt c K = 0
      · simp [k2, hz]
      · simp [k2, hz])
  obtain ⟨ρ3, e3, a3, b3, d3, f3, rfl⟩ := loop_all (τ := gName 4) (body := dSeq (dAsg 5 (dCall false D_counts_in (aCons (dVar 4) (aCons (dVar 1) aNil)))) (dIfS (dOrT (dTop2 phEq (dOp2 phMod (dOpN phSum (dCons (dVar 5) dNil)) (dC (.int 2))) (dC (.int 1))) (dTop2 (phC fun i j => decide (j < i)) (dOp2 phMul (dC (.int 2)) (dOpN phMaxN (dCons (dVar 5) dNil))) (dOpN phSum (dCons (dVar 5) dNil)))) (dRet (dC (.bool false))) dPass)) (o := o) iT (fun t => lotT (numsT c t))
    (fun ρ => ∃ a b d f, ρ = [some (shD s), some (iT c), a, b, d, f]) (xs := s) (ρ := [some (shD s), some (iT c), a2, b2, d2, f2]) ⟨a2, b2, d2, f2, rfl⟩ (by
      rintro t ht ρ ⟨a, b, d, f, rfl⟩
      have n3 := hs.tri t ht
      have hsd : ∀ x ∈ t, (edg x).toNat < c.length := fun x hx => hc.side hs (List.mem_flatten.mpr ⟨t, ht, hx⟩)
      have k := r_counts_in hsd (by omega) o
      obtain ⟨x, y, z, rfl⟩ := three_of n3
      have l3 := lot_three (a := cnt c x) (b := cnt c y) (c := cnt c z) (o := o) (ρ := [some (shD s), some (iT c), a, b, some (iT [x, y, z]), some (.list [.int (cnt c x), .int (cnt c y), .int (cnt c z)])]) rfl
      refine ⟨[some (shD s), some (iT c), a, b, some (iT [x, y, z]), f], [some (shD s), some (iT c), a, b, some (iT [x, y, z]), some (.list [.int (cnt c x), .int (cnt c y), .int (cnt c z)])], rfl, ?_, ⟨_, _, _, _, rfl⟩⟩
      have e5 : ([some (shD s), some (iT c), a, b, some (iT [x, y, z]), f] : Env).set 5 (some (.list [.int (cnt c x), .int (cnt c y), .int (cnt c z)])) = [some (shD s), some (iT c), a, b, some (iT [x, y, z]), some (.list [.int (cnt c x), .int (cnt c y), .int (cnt c z)])] := rfl
      have ea : dAsg 5 (dCall false D_counts_in (aCons (dVar 4) (aCons (dVar 1) aNil))) [some (shD s), some (iT c), a, b, some (iT [x, y, z]), f] o = .ok .nx [some (shD s), some (iT c), a, b, some (iT [x, y, z]), some (.list [.int (cnt c x), .int (cnt c y), .int (cnt c z)])] o := by
        simp only [numsT, List.map_cons, List.map_nil] at k
        simp [k]
      rw [q_seq, ea]
      exact l3)
  unfold lotB
  cases h1 : (rimsL s).all fun e => decide (cnt c e = 0) with
  | false =>
    rw [h1] at e2
    simp only [Bool.false_eq_true, if_false] at e2
    simp [-List.map_map, D_is_lot, dFn_fin, d_is_lot, stAt, k0, k1, k2, k3, e1, e2]
  | true =>
    rw [h1] at e2
    simp only [if_true] at e2
    cases h2 : s.all fun t => lotT (numsT c t) with
    | false =>
      rw [h2] at e3
      simp only [Bool.false_eq_true, if_false] at e3
      simp [-List.map_map, D_is_lot, dFn_fin, d_is_lot, stAt, k0, k1, k2, k3, e1, e2, e3]
    | true =>
      rw [h2] at e3
      simp only [if_true] at e3
      simp [-List.map_map, D_is_lot, dFn_fin, d_is_lot, stAt, k0, k1, k2, k3, e1, e2, e3]
theorem r_check_lot {s : List (List Int)} {c : List Int} (hs : Sht s) (hc : Cts s c) (o : Orc) : D_check_lot [some (shD s), some (iT c)] o = if lotB s c = true then .ok .none o else .ex ⟨"BadLot", [("value", iT c)]⟩ o := by
  have k := r_is_lot hs hc o
  cases h : lotB s c with
  | false => rw [h] at k; simp [D_check_lot, dFn_fin, d_check_lot, stAt, k]
  | true => rw [h] at k; simp [D_check_lot, dFn_fin, d_check_lot, stAt, k]
theorem r_need_lot {s : List (List Int)} {c : List Int} (hs : Sht s) (hc : Cts s c) (o : Orc) : D_need_lot [some (shD s), some (iT c)] o = if lotB (plainL s) c = true then .ok (iT c) o else .ex ⟨"BadLot", [("value", iT c)]⟩ o := by
  have k1 := r_need_sheet hs o
  have k2 := r_check_lot hs.plain (c := c) ⟨by rw [edgN_plain hs]; exact hc.len, hc.bd⟩ o
  cases h : lotB (plainL s) c with
  | false => rw [h] at k2; simp only [Bool.false_eq_true, if_false] at k2; simp [D_need_lot, dFn_fin, d_need_lot, stAt, k1, k2]
  | true => rw [h] at k2; simp only [if_true] at k2; simp [D_need_lot, dFn_fin, d_need_lot, stAt, k1, k2]
theorem r_corners_in {t c : List Int} (h : ∀ x ∈ t, (edg x).toNat < c.length) (h3 : t.length = 3) (o : Orc) : D_corners_in [some (iT t), some (iT c)] o = .ok (iT (corL (numsT c t))) o := by
  have k1 := r_counts_in h (by omega) o
  have k2 := sum_intsD (numsT c t)
  have c1 := run_map (τ := gName 4) (e := dOp2 phDiv (dOp2 phSub (dVar 3) (dOp2 phMul (dC (.int 2)) (dVar 4))) (dC (.int 2))) (ρ := [some (iT t), some (iT c), some (.list ((numsT c t).map .int)), some (.int (numsT c t).sum), none]) (o := o) PyData.int PyData.int (fun x => ((numsT c t).sum - 2 * x) / 2) flat_int (xs := numsT c t) (fun x hx => ⟨[some (iT t), some (iT c), some (.list ((numsT c t).map .int)), some (.int (numsT c t).sum), some (.int x)], [some (iT t), some (iT c), some (.list ((numsT c t).map .int)), some (.int (numsT c t).sum), some (.int x)], rfl, by
    have m1 : phMul (.int 2) (.int x) = some (.int (2 * x)) := q_mul (by simp [smallM, absLt])
    have m2 : phDiv (.int ((numsT c t).sum - 2 * x)) (.int 2) = some (.int (((numsT c t).sum - 2 * x) / 2)) := q_div (by decide) (by decide)
    simp [m1, m2]⟩) (by simp [numsT]; omega)
  have e : (numsT c t).map (fun x => ((numsT c t).sum - 2 * x) / 2) = corL (numsT c t) := rfl
  rw [e] at c1
  generalize numsT c t = N at *
  simp [-List.map_map, D_corners_in, dFn_fin, d_corners_in, stAt, k1, k2, c1]
theorem r_corners_so {s : List (List Int)} {c : List Int} (hs : Sht s) (hc : Cts s c) (o : Orc) : D_corners_so [some (shD s), some (iT c)] o = .ok (shD (s.map fun t => corL (numsT c t))) o := by
  have hl : s.length ≤ 1000 := by have := hs.len; omega
  have c1 := run_map (τ := gName 2) (e := dCall false D_corners_in (aCons (dVar 2) (aCons (dVar 1) aNil))) (ρ := [some (shD s), some (iT c), none]) (o := o) iT iT (fun t => corL (numsT c t)) flat_iT (xs := s) (fun t ht => ⟨[some (shD s), some (iT c), some (iT t)], [some (shD s), some (iT c), some (iT t)], rfl, by
    have k := r_corners_in (fun x hx => hc.side hs (List.mem_flatten.mpr ⟨t, ht, hx⟩)) (hs.tri t ht) o
    simp [k]⟩) (by omega)
  simp [-List.map_map, D_corners_so, dFn_fin, d_corners_so, stAt, c1]
theorem r_corner_counts {s : List (List Int)} {c : List Int} (hs : Sht s) (hc : Cts s c) (hl : lotB (plainL s) c = true) (o : Orc) : D_corner_counts [some (shD s), some (iT c)] o = .ok (shD ((plainL s).map fun t => corL (numsT c t))) o := by
  have hc2 : Cts (plainL s) c := ⟨by rw [edgN_plain hs]; exact hc.len, hc.bd⟩
  have k1 := r_need_sheet hs o
  have k2 := r_check_lot hs.plain hc2 o
  have k3 := r_corners_so hs.plain hc2 o
  rw [hl] at k2
  simp only [if_true] at k2
  simp [-List.map_map, D_corner_counts, dFn_fin, d_corner_counts, stAt, k1, k2, k3]
theorem r_check_laid {c : List Int} (h : c.sum ≤ 400) (o : Orc) : D_check_laid [some (iT c)] o = .ok .none o := by
  have k := sum_intsT c
  have h2 : ¬ (400 < c.sum) := by omega
  simp [D_check_laid, dFn_fin, d_check_laid, stAt, k, h2]
theorem r_point_at {c : List Int} {x : Int} (h : (edg x).toNat < c.length) (i : Int) (o : Orc) : D_point_at [some (.int x), some (iT c), some (.int i)] o = .ok (iT (ptL c x i)) o := by
  have k1 := r_edge_of x o
  have k2 := atI_cnt h
  have hz : (2 : Nat) ≤ sizeLine := sz (by decide)
  by_cases hx : 0 ≤ x
  · simp [D_point_at, dFn_fin, d_point_at, stAt, k1, k2, hx, hz, ptL]
  · simp [D_point_at, dFn_fin, d_point_at, stAt, k1, k2, hx, hz, ptL]
abbrev bJoin : DS := dSeq (dAsg 8 (dCall false D_point_at (aCons (dVar 6) (aCons (dVar 1) (aCons (dOp2 phSub (dOp2 phSub (dOp2 phIx (dVar 1) (dCall false D_edge_of (aCons (dVar 6) aNil))) (dC (.int 1))) (dVar 5)) aNil))))) (dDrop (dApp 2 (dTup (dCons (dTup (dCons (dVar 6) (dCons (dVar 8) dNil))) (dCons (dTup (dCons (dVar 7) (dCons (dCall false D_point_at (aCons (dVar 7) (aCons (dVar 1) (aCons (dVar 5) aNil)))) dNil))) dNil)))))
theorem join_in {c : List Int} {a b : Int} (ha : (edg a).toNat < c.length) (hb : (edg b).toNat < c.length) (x0 x3 x4 : Option PyData) (o : Orc) : ∀ (l : List Nat) (acc : List Jn) (x5 x8 : Option PyData), acc.length + l.length ≤ 100000 →
    ∃ y5 y8, loopF (gName 5) bJoin (l.map fun (k : Nat) => .int (k : Int)) [x0, some (iT c), some (.list (acc.map jpD)), x3, x4, x5, some (.int a), some (.int b), x8] o = .ok .nx [x0, some (iT c), some (.list ((acc ++ l.map fun (i : Nat) => jpAt c a b i).map jpD)), x3, x4, y5, some (.int a), some (.int b), y8] o
  | [], acc, x5, x8, hl => ⟨x5, x8, by simp [loopF]⟩
  | i :: l, acc, x5, x8, hl => by
    simp only [List.length_cons] at hl
    obtain ⟨y5, y8, e⟩ := join_in ha hb x0 x3 x4 o l (acc ++ [jpAt c a b i]) (some (.int (i : Int))) (some (iT (ptL c a (cnt c a - 1 - i)))) (by simp; omega)
    refine ⟨y5, y8, ?_⟩
    have k1 := r_edge_of a o
    have k2 := atI_cnt ha
    have k3 := r_point_at ha (cnt c a - 1 - i) o
    have k4 := r_point_at hb i o
    have hz : (2 : Nat) ≤ sizeLine := sz (by decide)
    have hl2 : (acc.map jpD).length < sizeLine := szl (by simp; omega)
    have ej : PyData.tuple [.tuple [.int a, iT (ptL c a (cnt c a - 1 - i))], .tuple [.int b, iT (ptL c b i)]] = jpD (jpAt c a b i) := rfl
    have em : (acc ++ [jpAt c a b i]).map jpD = acc.map jpD ++ [jpD (jpAt c a b i)] := by simp
    have el : acc ++ (i :: l).map (fun (i : Nat) => jpAt c a b i) = (acc ++ [jpAt c a b i]) ++ l.map fun (i : Nat) => jpAt c a b i := by simp
    rw [em] at e
    rw [el]
    generalize acc.map jpD = A at *
    generalize jpD (jpAt c a b i) = J at *
    generalize (acc ++ [jpAt c a b i] ++ l.map fun (i : Nat) => jpAt c a b i).map jpD = Z at *
    rw [List.map_cons, loopF]
    generalize ptL c a (cnt c a - 1 - i) = P1 at *
    generalize ptL c b i = P2 at *
    simp [-List.map_map, k1, k2, k3, k4, hz, hl2, ej, e]
theorem r_joined_points {t c : List Int} (h : ∀ x ∈ t, (edg x).toNat < c.length) (h3 : t.length = 3) (hl : lotT (numsT c t) = true) (hb : ∀ x ∈ c, 0 ≤ x ∧ x ≤ 1000) (o : Orc) : D_joined_points [some (iT t), some (iT c)] o = .ok (.list ((jpL c t).map jpD)) o := by
  have k1 := r_corners_in h h3 o
  obtain ⟨x, y, z, rfl⟩ := three_of h3
  simp only [numsT, List.map_cons, List.map_nil] at hl k1
  rw [lotT_three] at hl
  rw [corL_three] at k1
  have hx := h x (by simp)
  have hy := h y (by simp)
  have hzz := h z (by simp)
  have bx := hb _ (cnt_mem hx)
  have bY := hb _ (cnt_mem hy)
  have bz := hb _ (cnt_mem hzz)
  obtain ⟨p, hp⟩ : ∃ p : Nat, (cnt c y + cnt c z - cnt c x) / 2 = (p : Int) := ⟨((cnt c y + cnt c z - cnt c x) / 2).toNat, by omega⟩
  obtain ⟨q, hq⟩ : ∃ q : Nat, (cnt c x + cnt c z - cnt c y) / 2 = (q : Int) := ⟨((cnt c x + cnt c z - cnt c y) / 2).toNat, by omega⟩
  obtain ⟨r, hr⟩ : ∃ r : Nat, (cnt c x + cnt c y - cnt c z) / 2 = (r : Int) := ⟨((cnt c x + cnt c y - cnt c z) / 2).toNat, by omega⟩
  have hp2 : p ≤ 1000 := by omega
  have hq2 : q ≤ 1000 := by omega
  have hr2 : r ≤ 1000 := by omega
  rw [hp, hq, hr] at k1
  have g1 := rng1_nat (n := p) (by omega)
  have g2 := rng1_nat (n := q) (by omega)
  have g3 := rng1_nat (n := r) (by omega)
  obtain ⟨a5, a8, e1⟩ := join_in hy hzz (some (iT [x, y, z])) (some (.int 0)) (some (.int (p : Int))) o (List.range p) [] none none (by simp; omega)
  obtain ⟨b5, b8, e2⟩ := join_in hzz hx (some (iT [x, y, z])) (some (.int 1)) (some (.int (q : Int))) o (List.range q) ([] ++ (List.range p).map fun (i : Nat) => jpAt c y z i) a5 a8 (by simp; omega)
  obtain ⟨c5, c8, e3⟩ := join_in hx hy (some (iT [x, y, z])) (some (.int 2)) (some (.int (r : Int))) o (List.range r) ([] ++ ((List.range p).map fun (i : Nat) => jpAt c y z i) ++ (List.range q).map fun (i : Nat) => jpAt c z x i) b5 b8 (by simp; omega)
  have ej : jpL c [x, y, z] = [] ++ ((List.range p).map fun (i : Nat) => jpAt c y z i) ++ ((List.range q).map fun (i : Nat) => jpAt c z x i) ++ (List.range r).map fun (i : Nat) => jpAt c x y i := by
    simp [jpL, jpK, hp, hq, hr]
  rw [ej]
  generalize ([] ++ ((List.range p).map fun (i : Nat) => jpAt c y z i) ++ ((List.range q).map fun (i : Nat) => jpAt c z x i) ++ (List.range r).map fun (i : Nat) => jpAt c x y i).map jpD = Z3 at *
  generalize ([] ++ ((List.range p).map fun (i : Nat) => jpAt c y z i) ++ (List.range q).map fun (i : Nat) => jpAt c z x i).map jpD = Z2 at *
  generalize ([] ++ (List.range p).map fun (i : Nat) => jpAt c y z i).map jpD = Z1 at *
  generalize (List.range p).map (fun (k : Nat) => PyData.int (k : Int)) = R1 at *
  generalize (List.range q).map (fun (k : Nat) => PyData.int (k : Int)) = R2 at *
  generalize (List.range r).map (fun (k : Nat) => PyData.int (k : Int)) = R3 at *
  simp only [List.map_nil] at e1
  have m0 : phMod (.int 1) (.int 3) = some (.int 1) := rfl
  have m1 : phMod (.int 2) (.int 3) = some (.int 2) := rfl
  have m2 : phMod (.int 3) (.int 3) = some (.int 0) := rfl
  have m3 : phMod (.int 4) (.int 3) = some (.int 1) := rfl
  have i0 : L2.atI [PyData.int x, .int y, .int z] 0 = some (.int x) := rfl
  have i1 : L2.atI [PyData.int x, .int y, .int z] 1 = some (.int y) := rfl
  have i2 : L2.atI [PyData.int x, .int y, .int z] 2 = some (.int z) := rfl
  have en : enumL [PyData.int p, .int q, .int r] = [.tuple [.int 0, .int p], .tuple [.int 1, .int q], .tuple [.int 2, .int r]] := rfl
  simp [D_joined_points, dFn_fin, d_joined_points, stAt, k1, en, loopF, m0, m1, m2, m3, i0, i1, i2, g1, g2, g3, e1, e2, e3]
end Q
end FL
namespace FL
open PySem PySem.Spec PyProof.Rows L2 PySem.W
theorem le_sum {c : List Int} (h : ∀ x ∈ c, 0 ≤ x) : ∀ x ∈ c, x ≤ c.sum := by
  induction c with
  | nil => intro x hx; cases hx
  | cons a c ih =>
    have h0 : ∀ c : List Int, (∀ x ∈ c, 0 ≤ x) → 0 ≤ c.sum := fun c => by
      induction c with
      | nil => intro _; exact Int.le_refl _
      | cons b c ih => intro h; have := h b List.mem_cons_self; have := ih fun x hx => h x (List.mem_cons_of_mem _ hx); simp only [List.sum_cons]; omega
    intro x hx
    have ha := h a List.mem_cons_self
    have hs := h0 c fun y hy => h y (List.mem_cons_of_mem _ hy)
    simp only [List.sum_cons]
    rcases List.mem_cons.mp hx with rfl | hx
    · omega
    · have := ih (fun y hy => h y (List.mem_cons_of_mem _ hy)) x hx
      omega
theorem lotB_mem {s : List (List Int)} {c : List Int} (h : lotB s c = true) : (∀ e ∈ rimsL s, cnt c e = 0) ∧ ∀ t ∈ s, lotT (numsT c t) = true := by
  unfold lotB at h
  rw [Bool.and_eq_true, List.all_eq_true, List.all_eq_true] at h
  exact ⟨fun e he => by simpa using h.1 e he, h.2⟩
theorem jpL_le {c t : List Int} (h : ∀ x ∈ t, 0 ≤ cnt c x ∧ cnt c x ≤ 1000) : (jpL c t).length ≤ 6000 := by
  unfold jpL
  split
  · rename_i x y z
    have h1 := h x (by simp)
    have h2 := h y (by simp)
    have h3 := h z (by simp)
    simp only [List.length_append, jpK_len]
    omega
  · exact Nat.zero_le _
namespace Q
abbrev bStr : DS := dDrop (dApp 2 (dTup (dCons (dVar 3) (dCons (dOpN phMinN (dCons (dOp2 phIx (dVar 5) (dC (.int 1))) (dCons (dOp2 phIx (dVar 6) (dC (.int 1))) dNil))) (dCons (dOpN phMaxN (dCons (dOp2 phIx (dVar 5) (dC (.int 1))) (dCons (dOp2 phIx (dVar 6) (dC (.int 1))) dNil))) dNil)))))
theorem str_in (x0 x1 x4 : Option PyData) (k : Nat) (o : Orc) : ∀ (l : List Jn) (acc : List Std) (x5 x6 : Option PyData), acc.length + l.length ≤ 1000000 →
    ∃ y5 y6, loopF (gTup 2 (gCons (gName 5) (gCons (gName 6) gNil))) bStr (l.map jpD) [x0, x1, some (.list (acc.map stD)), some (.int (k : Int)), x4, x5, x6] o = .ok .nx [x0, x1, some (.list ((acc ++ l.map (stOf k)).map stD)), some (.int (k : Int)), x4, y5, y6] o
  | [], acc, x5, x6, hl => ⟨x5, x6, by simp [loopF]⟩
  | p :: l, acc, x5, x6, hl => by
    simp only [List.length_cons] at hl
    obtain ⟨y5, y6, e⟩ := str_in x0 x1 x4 k o l (acc ++ [stOf k p]) (some (.tuple [.int p.1.1, iT p.1.2])) (some (.tuple [.int p.2.1, iT p.2.2])) (by simp; omega)
    refine ⟨y5, y6, ?_⟩
    have hl2 : (acc.map stD).length < sizeLine := szl (by simp; omega)
    have hz : (3 : Nat) ≤ sizeLine := sz (by decide)
    have m1 := minN_two p.1.2 p.2.2
    have m2 := maxN_two p.1.2 p.2.2
    have i1 : ∀ x y : PyData, L2.atI [x, y] 1 = some y := fun x y => rfl
    have ed : jpD p = .tuple [.tuple [.int p.1.1, iT p.1.2], .tuple [.int p.2.1, iT p.2.2]] := rfl
    have ej : PyData.tuple [.int (k : Int), iT (lmin p.1.2 [p.2.2]), iT (lmax p.1.2 [p.2.2])] = stD (stOf k p) := rfl
    have em : (acc ++ [stOf k p]).map stD = acc.map stD ++ [stD (stOf k p)] := by simp
    have el : acc ++ (p :: l).map (stOf k) = (acc ++ [stOf k p]) ++ l.map (stOf k) := by simp
    rw [em] at e
    rw [el]
    generalize acc.map stD = A at *
    generalize stD (stOf k p) = J at *
    generalize (acc ++ [stOf k p] ++ l.map (stOf k)).map stD = Z at *
    rw [List.map_cons, loopF, ed]
    generalize iT p.1.2 = P1 at *
    generalize iT p.2.2 = P2 at *
    simp [-List.map_map, m1, m2, i1, hz, hl2, ej, e]
theorem str_out {c : List Int} (x0 : Option PyData) (hb : ∀ x ∈ c, 0 ≤ x ∧ x ≤ 1000) (o : Orc) : ∀ (s : List (List Int)) (k : Nat) (acc : List Std) (x3 x4 x5 x6 : Option PyData), (∀ t ∈ s, t.length = 3 ∧ (∀ x ∈ t, (edg x).toNat < c.length) ∧ lotT (numsT c t) = true) → acc.length + 6000 * s.length ≤ 1000000 →
    ∃ y3 y4 y5 y6, loopF (gTup 2 (gCons (gName 3) (gCons (gName 4) gNil))) (dFor (dItems (dCall false D_joined_points (aCons (dVar 4) (aCons (dVar 1) aNil)))) (gTup 2 (gCons (gName 5) (gCons (gName 6) gNil))) bStr) (eL k (s.map iT)) [x0, some (iT c), some (.list (acc.map stD)), x3, x4, x5, x6] o = .ok .nx [x0, some (iT c), some (.list ((acc ++ stL c k s).map stD)), y3, y4, y5, y6] o
  | [], k, acc, x3, x4, x5, x6, h, hl => ⟨x3, x4, x5, x6, by simp [eL, loopF, stL]⟩
  | t :: s, k, acc, x3, x4, x5, x6, h, hl => by
    obtain ⟨h3, hsd, ht⟩ := h t List.mem_cons_self
    have hj := jpL_le (c := c) (t := t) fun x hx => hb _ (cnt_mem (hsd x hx))
    simp only [List.length_cons] at hl
    have k1 := r_joined_points hsd h3 ht hb o
    obtain ⟨a5, a6, e1⟩ := str_in x0 (some (iT c)) (some (iT t)) k o (jpL c t) acc x5 x6 (by omega)
    obtain ⟨y3, y4, y5, y6, e2⟩ := str_out x0 hb o s (k + 1) (acc ++ (jpL c t).map (stOf k)) (some (.int (k : Int))) (some (iT t)) a5 a6 (fun u hu => h u (List.mem_cons_of_mem _ hu)) (by simp; omega)
    refine ⟨y3, y4, y5, y6, ?_⟩
    have el : acc ++ stL c k (t :: s) = (acc ++ (jpL c t).map (stOf k)) ++ stL c (k + 1) s := by simp [stL]
    rw [el]
    generalize ((acc ++ (jpL c t).map (stOf k)) ++ stL c (k + 1) s).map stD = Z at *
    generalize (acc ++ (jpL c t).map (stOf k)).map stD = Y at *
    generalize acc.map stD = A at *
    generalize (jpL c t).map jpD = J at *
    rw [List.map_cons, eL, loopF]
    simp [-List.map_map, k1, e1, e2]
theorem r_strands_so {s : List (List Int)} {c : List Int} (hs : Sht s) (hc : c.length = edgN s) (hb : ∀ x ∈ c, 0 ≤ x ∧ x ≤ 1000) (hl : lotB s c = true) (o : Orc) : D_strands_so [some (shD s), some (iT c)] o = .ok (.tuple (sortL ((stL c 0 s).map stD))) o := by
  have l1 := hs.len
  have hsd : ∀ t ∈ s, ∀ x ∈ t, (edg x).toNat < c.length := fun t ht x hx => by
    have := (edgN_spec hs).2.2 x (List.mem_flatten.mpr ⟨t, ht, hx⟩)
    have := edg_nonneg x
    omega
  obtain ⟨y3, y4, y5, y6, e⟩ := str_out (some (shD s)) hb o s 0 [] none none none none (fun t ht => ⟨hs.tri t ht, hsd t ht, (lotB_mem hl).2 t ht⟩) (by simp; omega)
  have hlen : (stL c 0 s).length ≤ 1000000 := by
    have h1 := stL_len (c := c) (s := s) 0 hs.tri (lotB_mem hl).2
    have : ∀ l : List (List Int), (∀ t ∈ l, t ∈ s) → (l.map fun t => (corL (numsT c t)).sum).sum ≤ 6000 * l.length := fun l => by
      induction l with
      | nil => intro _; simp
      | cons t l ih =>
        intro hm
        have h2 := jpL_len (c := c) (hs.tri t (hm t List.mem_cons_self)) ((lotB_mem hl).2 t (hm t List.mem_cons_self))
        have h3 := jpL_le (c := c) (t := t) fun x hx => hb _ (cnt_mem (hsd t (hm t List.mem_cons_self) x hx))
        have h4 := ih fun u hu => hm u (List.mem_cons_of_mem _ hu)
        simp only [List.map_cons, List.sum_cons, List.length_cons]
        omega
    have h2 := this s fun _ h => h
    omega
  have k1 := sortD_st (stL c 0 s) (by omega)
  have k2 : phSorted [.list ((stL c 0 s).map stD)] = some (.list (sortL ((stL c 0 s).map stD))) := by
    show (sortD _).map PyData.list = _
    rw [k1]
    rfl
  have en : enumL (s.map iT) = eL 0 (s.map iT) := enumL_eq _
  simp only [List.map_nil, List.nil_append] at e
  generalize (stL c 0 s).map stD = S at *
  simp [-List.map_map, D_strands_so, dFn_fin, d_strands_so, stAt, en, e, k2]
theorem r_strands {s : List (List Int)} {c : List Int} (hs : Sht s) (hc : Cts s c) (hl : lotB (plainL s) c = true) (h4 : c.sum ≤ 400) (o : Orc) : D_strands [some (shD s), some (iT c)] o = .ok (.tuple (sortL ((stL c 0 (plainL s)).map stD))) o := by
  have hc2 : Cts (plainL s) c := ⟨by rw [edgN_plain hs]; exact hc.len, hc.bd⟩
  have k1 := r_need_sheet hs o
  have k2 := r_check_lot hs.plain hc2 o
  have k3 := r_check_laid h4 o
  have k4 := r_strands_so hs.plain hc2.len (fun x hx => ⟨(hc.bd x hx).1, by have := le_sum (fun y hy => (hc.bd y hy).1) x hx; omega⟩) hl o
  rw [hl] at k2
  simp only [if_true] at k2
  simp [-List.map_map, D_strands, dFn_fin, d_strands, stAt, k1, k2, k3, k4]
end Q
end FL
namespace FL
open PySem PySem.Spec PyProof.Rows L2 PySem.W
/-- a loop that ends the def with a value at the first thing that is not so -/
theorem loop_allR {α : Type} {τ : DG} {body : DS} {o : Orc} (v : PyData) (enc : α → PyData) (p : α → Bool) (I : Env → Prop) : ∀ {xs : List α} {ρ : Env}, I ρ → (∀ x ∈ xs, ∀ ρ, I ρ → ∃ ρ1 ρ2, τ (enc x) ρ = some ρ1 ∧ body ρ1 o = .ok (if p x = true then .nx else .ret v) ρ2 o ∧ I ρ2) →
    ∃ ρ', loopF τ body (xs.map enc) ρ o = .ok (if xs.all p = true then .nx else .ret v) ρ' o ∧ I ρ'
  | [], ρ, h, _ => ⟨ρ, by simp [loopF], h⟩
  | x :: xs, ρ, h, st => by
    obtain ⟨ρ1, ρ2, e1, e2, h2⟩ := st x List.mem_cons_self ρ h
    obtain ⟨ρ', e3, h3⟩ := loop_allR v enc p I (xs := xs) h2 fun y hy => st y (List.mem_cons_of_mem _ hy)
    cases hp : p x with
    | false =>
      rw [hp] at e2
      simp only [Bool.false_eq_true, if_false] at e2
      exact ⟨ρ2, by simp [loopF, e1, e2, hp], h2⟩
    | true =>
      rw [hp] at e2
      simp only [if_true] at e2
      refine ⟨ρ', ?_, h3⟩
      simp only [List.map_cons, loopF, e1, e2, Res.bind, e3, List.all_cons, hp, Bool.true_and]
theorem eL_ints : ∀ (c : List Int) (k : Nat), eL k (c.map .int) = (List.range c.length).map fun i => PyData.tuple [.int ((k + i : Nat) : Int), .int (c.getD i 0)]
  | [], k => rfl
  | x :: c, k => by
    rw [List.map_cons, eL, eL_ints c (k + 1), List.length_cons, List.range_succ_eq_map, List.map_cons, List.map_map]
    congr 1
    apply List.map_congr_left
    intro i _
    simp only [Function.comp_apply, Nat.succ_eq_add_one, List.getD_cons_succ]
    congr 4
    omega
def trL (l : List Int) : List (List Int) := if lotT l = true then [corL l] else []
/-- all triples of 0 to 3 -/
def tri64 : List (List Int) := (List.range 4).flatMap fun (a : Nat) => (List.range 4).flatMap fun (b : Nat) => (List.range 4).map fun (c : Nat) => [(a : Int), (b : Int), (c : Int)]
theorem map_all {α β : Type} {f g : α → β} : ∀ {l : List α}, l.map f = l.map g → ∀ x ∈ l, f x = g x
  | [], _, _, h => by cases h
  | a :: l, e, x, h => by
    simp only [List.map_cons, List.cons.injEq] at e
    rcases List.mem_cons.mp h with rfl | h
    · exact e.1
    · exact map_all e.2 x h
theorem tri64_mem {a b c : Int} (ha : 0 ≤ a ∧ a ≤ 3) (hb : 0 ≤ b ∧ b ≤ 3) (hc : 0 ≤ c ∧ c ≤ 3) : [a, b, c] ∈ tri64 := by
  unfold tri64
  refine List.mem_flatMap.mpr ⟨a.toNat, List.mem_range.mpr (by omega), List.mem_flatMap.mpr ⟨b.toNat, List.mem_range.mpr (by omega), List.mem_map.mpr ⟨c.toNat, List.mem_range.mpr (by omega), ?_⟩⟩⟩
  rw [Int.toNat_of_nonneg ha.1, Int.toNat_of_nonneg hb.1, Int.toNat_of_nonneg hc.1]
def rowsL (m : Nat) : Nat → List (List Int)
  | 0 => [[]]
  | n + 1 => (rowsL m n).flatMap fun r => (List.range (m + 1)).map fun (k : Nat) => r ++ [(k : Int)]
theorem rowsL_mem {m : Nat} : ∀ {n : Nat}, ∀ r ∈ rowsL m n, r.length = n ∧ ∀ x ∈ r, 0 ≤ x ∧ x ≤ m
  | 0, r, h => by
    simp only [rowsL, List.mem_singleton] at h
    subst h
    exact ⟨rfl, fun x hx => by cases hx⟩
  | n + 1, r, h => by
    obtain ⟨u, hu, hr⟩ := List.mem_flatMap.mp h
    obtain ⟨k, hk, rfl⟩ := List.mem_map.mp hr
    obtain ⟨h1, h2⟩ := rowsL_mem u hu
    rw [List.mem_range] at hk
    refine ⟨by simp [h1], fun x hx => ?_⟩
    rcases List.mem_append.mp hx with hx | hx
    · exact h2 x hx
    · rw [List.mem_singleton] at hx
      subst hx
      omega
theorem rowsL_len (m : Nat) : ∀ n : Nat, (rowsL m n).length = (m + 1) ^ n
  | 0 => rfl
  | n + 1 => by
    have ih := rowsL_len m n
    have : ∀ l : List (List Int), (l.flatMap fun r => (List.range (m + 1)).map fun (k : Nat) => r ++ [(k : Int)]).length = (m + 1) * l.length := fun l => by
      induction l with
      | nil => rfl
      | cons a l ih => simp only [List.flatMap_cons, List.length_append, List.length_map, List.length_range, ih, List.length_cons]; rw [Nat.mul_add, Nat.mul_one, Nat.add_comm]
    show (((rowsL m n).flatMap fun r => (List.range (m + 1)).map fun (k : Nat) => r ++ [(k : Int)])).length = _
    rw [this, ih, Nat.pow_succ, Nat.mul_comm]
/-- the corners of all triangles, if all are those of a lot -/
def chF (c : List Int) (pre : List (List Int)) : List (List (List Int)) := if (pre.all fun t => lotT (numsT c t)) = true then [pre.map fun t => corL (numsT c t)] else []
theorem chF_snoc (c : List Int) (pre : List (List Int)) (t : List Int) : chF c (pre ++ [t]) = (trL (numsT c t)).flatMap fun k => (chF c pre).map fun r => r ++ [k] := by
  unfold chF trL
  rw [List.all_append, List.map_append]
  simp only [List.all_cons, List.all_nil, Bool.and_true, List.map_cons, List.map_nil]
  cases h1 : pre.all (fun t => lotT (numsT c t)) <;> cases h2 : lotT (numsT c t) <;> simp
namespace Q
theorem tri_table (q : OrcS) (T : List (Addr × Str)) : tri64.map (fun l => D__law_triangle [some (.list (l.map .int))] ⟨some q, T⟩) = tri64.map fun l => .ok (.list ((trL l).map iT)) ⟨some q, T⟩ := by kernel_rfl
theorem r_law_triangle (q : OrcS) (T : List (Addr × Str)) {l : List Int} (h3 : l.length = 3) (h : ∀ x ∈ l, 0 ≤ x ∧ x ≤ 3) : D__law_triangle [some (.list (l.map .int))] ⟨some q, T⟩ = .ok (.list ((trL l).map iT)) ⟨some q, T⟩ := by
  obtain ⟨a, b, c, rfl⟩ := three_of h3
  exact map_all (tri_table q T) _ (tri64_mem (h a (by simp)) (h b (by simp)) (h c (by simp)))
abbrev bCh : DS := dSeq (dAsg 7 (dLst dNil)) (dSeq (dAsg 8 (dComp (dItems (dVar 4)) [10] (gName 10) dYes (dOp2 phIx (dVar 1) (dOpN phMaxN (dCons (dVar 10) (dCons (dOp2 phSub (dOp1 phNeg (dC (.int 1))) (dVar 10)) dNil)))))) (dSeq (dFor (dItems (dCall false D__law_triangle (aCons (dVar 8) aNil))) (gName 9) (dAsg 7 (dOp2 phAdd (dVar 7) (dComp (dItems (dVar 3)) [11] (gName 11) dYes (dOp2 phAdd (dVar 11) (dTup (dCons (dVar 9) dNil))))))) (dAsg 3 (dOpN phList (dCons (dVar 7) dNil)))))
theorem flat_shD (r : List (List Int)) : flat (shD r) = true := by
  show flats (r.map iT) = true
  induction r with
  | nil => rfl
  | cons a r ih => simp only [List.map_cons, flats, flat_iT, ih, Bool.and_self]
theorem ch_loop {c : List Int} (x0 x2 x5 x6 : Option PyData) (q : OrcS) (T : List (Addr × Str)) : ∀ (s pre : List (List Int)) (x4 x7 x8 x9 x10 x11 : Option PyData), (∀ t ∈ s, t.length = 3 ∧ (∀ x ∈ t, (edg x).toNat < c.length ∧ 0 ≤ cnt c x ∧ cnt c x ≤ 3)) → pre.length + s.length ≤ 1000 →
    ∃ y4 y7 y8 y9 y10 y11, loopF (gName 4) bCh (s.map iT) [x0, some (iT c), x2, some (.list ((chF c pre).map shD)), x4, x5, x6, x7, x8, x9, x10, x11] ⟨some q, T⟩ = .ok .nx [x0, some (iT c), x2, some (.list ((chF c (pre ++ s)).map shD)), y4, x5, x6, y7, y8, y9, y10, y11] ⟨some q, T⟩
  | [], pre, x4, x7, x8, x9, x10, x11, h, hl => ⟨x4, x7, x8, x9, x10, x11, by simp [loopF]⟩
  | t :: s, pre, x4, x7, x8, x9, x10, x11, h, hl => by
    obtain ⟨h3, hsd⟩ := h t List.mem_cons_self
    simp only [List.length_cons] at hl
    have c1 := run_map (τ := gName 10) (e := dOp2 phIx (dVar 1) (dOpN phMaxN (dCons (dVar 10) (dCons (dOp2 phSub (dOp1 phNeg (dC (.int 1))) (dVar 10)) dNil)))) (ρ := [x0, some (iT c), x2, some (.list ((chF c pre).map shD)), some (iT t), x5, x6, some (.list []), x8, x9, none, x11]) (o := ⟨some q, T⟩) PyData.int PyData.int (cnt c) flat_int (xs := t) (fun x hx => ⟨[x0, some (iT c), x2, some (.list ((chF c pre).map shD)), some (iT t), x5, x6, some (.list []), x8, x9, some (.int x), x11], [x0, some (iT c), x2, some (.list ((chF c pre).map shD)), some (iT t), x5, x6, some (.list []), x8, x9, some (.int x), x11], rfl, by
      have k1 := edg_max x
      have k2 := atI_cnt (hsd x hx).1
      have en : -1 - x = ng x := rfl
      simp [en, k1, k2]⟩) (by omega)
    have en : t.map (cnt c) = numsT c t := rfl
    rw [en] at c1
    have k1 := r_law_triangle q T (l := numsT c t) (by simp [numsT, h3]) (fun x hx => by
      obtain ⟨y, hy, rfl⟩ := List.mem_map.mp hx
      exact (hsd y hy).2)
    have hz : (1 : Nat) ≤ sizeLine := sz (by decide)
    have hF1 : (chF c pre).length ≤ 1 := by unfold chF; split <;> simp
    have step : ∃ y9 y11, loopF (gName 9) (dAsg 7 (dOp2 phAdd (dVar 7) (dComp (dItems (dVar 3)) [11] (gName 11) dYes (dOp2 phAdd (dVar 11) (dTup (dCons (dVar 9) dNil)))))) ((trL (numsT c t)).map iT) [x0, some (iT c), x2, some (.list ((chF c pre).map shD)), some (iT t), x5, x6, some (.list []), some (.list ((numsT c t).map .int)), x9, x10, x11] ⟨some q, T⟩ = .ok .nx [x0, some (iT c), x2, some (.list ((chF c pre).map shD)), some (iT t), x5, x6, some (.list ((chF c (pre ++ [t])).map shD)), some (.list ((numsT c t).map .int)), y9, x10, y11] ⟨some q, T⟩ := by
      rw [chF_snoc]
      unfold trL
      cases hlt : lotT (numsT c t) with
      | false =>
        simp only [Bool.false_eq_true, if_false, List.map_nil, List.flatMap_nil]
        exact ⟨x9, x11, rfl⟩
      | true =>
        simp only [if_true, List.map_cons, List.map_nil, List.flatMap_cons, List.flatMap_nil, List.append_nil]
        refine ⟨some (iT (corL (numsT c t))), x11, ?_⟩
        have c2 := run_map (τ := gName 11) (e := dOp2 phAdd (dVar 11) (dTup (dCons (dVar 9) dNil))) (ρ := [x0, some (iT c), x2, some (.list ((chF c pre).map shD)), some (iT t), x5, x6, some (.list []), some (.list ((numsT c t).map .int)), some (iT (corL (numsT c t))), x10, none]) (o := ⟨some q, T⟩) shD shD (fun r => r ++ [corL (numsT c t)]) flat_shD (xs := chF c pre) (fun r hr => ⟨[x0, some (iT c), x2, some (.list ((chF c pre).map shD)), some (iT t), x5, x6, some (.list []), some (.list ((numsT c t).map .int)), some (iT (corL (numsT c t))), x10, some (shD r)], [x0, some (iT c), x2, some (.list ((chF c pre).map shD)), some (iT t), x5, x6, some (.list []), some (.list ((numsT c t).map .int)), some (iT (corL (numsT c t))), x10, some (shD r)], rfl, by
          have hr2 : r.length = pre.length := by
            unfold chF at hr
            split at hr
            · rw [List.mem_singleton] at hr; subst hr; simp
            · cases hr
          have ha : phAdd (shD r) (.tuple [iT (corL (numsT c t))]) = some (shD (r ++ [corL (numsT c t)])) := by
            rw [q_addT (sz (by simp; omega))]
            simp
          simp [hz, ha]⟩) (by omega)
        have ha : phAdd (.list []) (.list (((chF c pre).map fun r => r ++ [corL (numsT c t)]).map shD)) = some (.list (((chF c pre).map fun r => r ++ [corL (numsT c t)]).map shD)) := by
          rw [q_addL (sz (by simp; omega))]
          simp
        generalize ((chF c pre).map fun r => r ++ [corL (numsT c t)]).map shD = Z at *
        generalize (chF c pre).map shD = Y at *
        simp [loopF, c2, ha]
    obtain ⟨y9, y11, e1⟩ := step
    obtain ⟨z4, z7, z8, z9, z10, z11, e2⟩ := ch_loop x0 x2 x5 x6 q T s (pre ++ [t]) (some (iT t)) (some (.list ((chF c (pre ++ [t])).map shD))) (some (.list ((numsT c t).map .int))) y9 x10 y11 (fun u hu => h u (List.mem_cons_of_mem _ hu)) (by simp; omega)
    refine ⟨z4, z7, z8, z9, z10, z11, ?_⟩
    rw [show pre ++ t :: s = (pre ++ [t]) ++ s by simp]
    generalize (chF c ((pre ++ [t]) ++ s)).map shD = Z at *
    generalize (chF c (pre ++ [t])).map shD = Y at *
    generalize (chF c pre).map shD = X at *
    generalize (trL (numsT c t)).map iT = W at *
    generalize (numsT c t).map PyData.int = N at *
    rw [List.map_cons, loopF]
    have hz0 : (0 : Nat) ≤ sizeLine := Nat.zero_le _
    simp [-List.map_map, c1, k1, e1, e2]
theorem r_law_choices {s : List (List Int)} {c : List Int} (hs : Sht s) (hc : c.length = edgN s) (hb : ∀ x ∈ c, 0 ≤ x ∧ x ≤ 3) (q : OrcS) (T : List (Addr × Str)) : D__law_choices [some (shD s), some (iT c)] ⟨some q, T⟩ = .ok (.list (if lotB s c = true then [shD (s.map fun t => corL (numsT c t))] else [])) ⟨some q, T⟩ := by
  have l1 := hs.len
  have hl : s.flatten.length ≤ 1000 := by rw [flatten_len hs.tri]; omega
  have k1 := r_law_places s ⟨some q, T⟩ hs.nd hl
  have hsd : ∀ t ∈ s, ∀ x ∈ t, (edg x).toNat < c.length := fun t ht x hx => by
    have := (edgN_spec hs).2.2 x (List.mem_flatten.mpr ⟨t, ht, hx⟩)
    have := edg_nonneg x
    omega
  obtain ⟨ρ1, e1, a5, a6, rfl⟩ := loop_allR (τ := gTup 2 (gCons (gName 5) (gCons (gName 6) gNil))) (body := dIfS (dAndT (dTop2 phNotIn (dOp2 phSub (dOp1 phNeg (dC (.int 1))) (dVar 5)) (dVar 2)) (dTop2 (phC fun i j => decide (j < i)) (dVar 6) (dC (.int 0)))) (dRet (dLst dNil)) dPass) (o := ⟨some q, T⟩) (.list [])
    (fun i : Nat => PyData.tuple [.int ((0 + i : Nat) : Int), .int (c.getD i 0)]) (fun i => !(decide (ng (i : Int) ∉ s.flatten) && decide (0 < c.getD i 0)))
    (fun ρ => ∃ a b, ρ = [some (shD s), some (iT c), some (tabD s), none, none, a, b, none, none, none, none, none]) (xs := List.range c.length) (ρ := [some (shD s), some (iT c), some (tabD s), none, none, none, none, none, none, none, none, none]) ⟨none, none, rfl⟩ (by
      rintro i hi ρ ⟨a, b, rfl⟩
      refine ⟨[some (shD s), some (iT c), some (tabD s), none, none, some (.int ((0 + i : Nat) : Int)), some (.int (c.getD i 0)), none, none, none, none, none], [some (shD s), some (iT c), some (tabD s), none, none, some (.int ((0 + i : Nat) : Int)), some (.int (c.getD i 0)), none, none, none, none, none], rfl, ?_, ⟨_, _, rfl⟩⟩
      rw [Nat.zero_add]
      have k2 := notIn_tab hs.has (ng (i : Int))
      have en : -1 - (i : Int) = ng i := rfl
      have hz0 : (0 : Nat) ≤ sizeLine := Nat.zero_le _
      generalize c.getD i 0 = G at *
      by_cases h1 : ng (i : Int) ∈ s.flatten
      · simp only [h1, decide_true, Bool.not_true] at k2
        simp [-List.mem_flatten, en, k2, h1]
      · simp only [h1, decide_false, Bool.not_false] at k2
        by_cases h2 : 0 < G
        · simp [-List.mem_flatten, en, k2, h1, h2]
        · simp [-List.mem_flatten, en, k2, h1, h2])
  have eq1 : ((List.range c.length).all fun i => !(decide (ng (i : Int) ∉ s.flatten) && decide (0 < c.getD i 0))) = (rimsL s).all fun e => decide (cnt c e = 0) := by
    have hcn : ∀ i : Nat, cnt c (Int.ofNat i) = c.getD i 0 := fun i => by
      unfold cnt
      rw [show edg (Int.ofNat i) = Int.ofNat i from if_pos (Int.natCast_nonneg i)]
      rfl
    rw [Bool.eq_iff_iff, List.all_eq_true, List.all_eq_true]
    constructor
    · intro h e he
      obtain ⟨i, hi, rfl⟩ := List.mem_map.mp (List.mem_filter.mp he).1
      have he2 := (List.mem_filter.mp he).2
      rw [decide_eq_true_eq] at he2
      have hi2 : i < c.length := by rw [hc]; exact List.mem_range.mp hi
      have h1 := h i (List.mem_range.mpr hi2)
      have he3 : ng (i : Int) ∉ s.flatten := he2
      rw [decide_eq_true he3, Bool.true_and, Bool.not_eq_true', decide_eq_false_iff_not] at h1
      rw [hcn, decide_eq_true_eq]
      have := (hb (c.getD i 0) (by rw [List.getD_eq_getElem?_getD, List.getElem?_eq_getElem hi2]; exact List.getElem_mem hi2)).1
      omega
    · intro h i hi
      have hi2 := List.mem_range.mp hi
      by_cases h1 : ng (i : Int) ∈ s.flatten
      · rw [decide_eq_false (fun z => z h1), Bool.false_and]; rfl
      · have := h (Int.ofNat i) (List.mem_filter.mpr ⟨List.mem_map.mpr ⟨i, List.mem_range.mpr (by rw [← hc]; exact hi2), rfl⟩, by rw [decide_eq_true_eq]; exact h1⟩)
        rw [hcn, decide_eq_true_eq] at this
        rw [this, decide_eq_false (by omega : ¬ (0 : Int) < 0), Bool.and_false]; rfl
  rw [eq1] at e1
  have en : enumL (c.map PyData.int) = (List.range c.length).map fun i => PyData.tuple [.int ((0 + i : Nat) : Int), .int (c.getD i 0)] := by rw [enumL_eq, eL_ints]
  obtain ⟨y4, y7, y8, y9, y10, y11, e2⟩ := ch_loop (c := c) (some (shD s)) (some (tabD s)) a5 a6 q T s [] none none none none none none (fun t ht => ⟨hs.tri t ht, fun x hx => ⟨hsd t ht x hx, hb _ (cnt_mem (hsd t ht x hx))⟩⟩) (by simp; omega)
  have e0 : (chF c []).map shD = [.tuple []] := rfl
  rw [e0, List.nil_append] at e2
  have hz : (1 : Nat) ≤ sizeLine := sz (by decide)
  have hz0 : (0 : Nat) ≤ sizeLine := Nat.zero_le _
  have ef : (chF c s).map shD = if (s.all fun t => lotT (numsT c t)) = true then [shD (s.map fun t => corL (numsT c t))] else [] := by
    unfold chF
    split <;> rfl
  unfold lotB
  generalize (List.range c.length).map (fun i => PyData.tuple [.int ((0 + i : Nat) : Int), .int (c.getD i 0)]) = R at *
  cases h1 : (rimsL s).all fun e => decide (cnt c e = 0) with
  | false =>
    rw [h1] at e1
    simp only [Bool.false_eq_true, if_false] at e1
    simp [-List.map_map, D__law_choices, dFn_fin, d__law_choices, stAt, k1, en, e1]
  | true =>
    rw [h1] at e1
    simp only [if_true] at e1
    rw [Bool.true_and, ← ef]
    generalize (chF c s).map shD = Z at *
    simp [-List.map_map, D__law_choices, dFn_fin, d__law_choices, stAt, k1, en, e1, e2, hz]
abbrev bRow : DS := dAsg 4 (dOp2 phAdd (dVar 4) (dComp (dRng rng1 (dCons (dOp2 phAdd (dVar 1) (dC (.int 1))) dNil)) [6] (gName 6) dYes (dOp2 phAdd (dVar 5) (dTup (dCons (dVar 6) dNil)))))
theorem row_in {m : Nat} (hm : m ≤ 10) (x0 x2 x3 : Option PyData) (o : Orc) : ∀ (l acc : List (List Int)) (x5 x6 : Option PyData), (∀ r ∈ l, r.length ≤ 100) → acc.length + (m + 1) * l.length ≤ 1000000 →
    ∃ y5 y6, loopF (gName 5) bRow (l.map iT) [x0, some (.int (m : Int)), x2, x3, some (.list (acc.map iT)), x5, x6] o = .ok .nx [x0, some (.int (m : Int)), x2, x3, some (.list ((acc ++ l.flatMap fun r => (List.range (m + 1)).map fun (k : Nat) => r ++ [(k : Int)]).map iT)), y5, y6] o
  | [], acc, x5, x6, h, hl => ⟨x5, x6, by simp [loopF]⟩
  | r :: l, acc, x5, x6, h, hl => by
    simp only [List.length_cons, Nat.mul_add, Nat.mul_one] at hl
    obtain ⟨y5, y6, e⟩ := row_in hm x0 x2 x3 o l (acc ++ (List.range (m + 1)).map fun (k : Nat) => r ++ [(k : Int)]) (some (iT r)) x6 (fun u hu => h u (List.mem_cons_of_mem _ hu)) (by simp; omega)
    refine ⟨y5, y6, ?_⟩
    have g1 := rng1_nat (n := m + 1) (by omega)
    have hz : (1 : Nat) ≤ sizeLine := sz (by decide)
    have hr := h r List.mem_cons_self
    have c1 := run_map (τ := gName 6) (e := dOp2 phAdd (dVar 5) (dTup (dCons (dVar 6) dNil))) (ρ := [x0, some (.int (m : Int)), x2, x3, some (.list (acc.map iT)), some (iT r), none]) (o := o) (fun (k : Nat) => PyData.int (k : Int)) iT (fun k => r ++ [(k : Int)]) flat_iT (xs := List.range (m + 1)) (fun k _ => ⟨[x0, some (.int (m : Int)), x2, x3, some (.list (acc.map iT)), some (iT r), some (.int (k : Int))], [x0, some (.int (m : Int)), x2, x3, some (.list (acc.map iT)), some (iT r), some (.int (k : Int))], rfl, by
      have ha : phAdd (iT r) (.tuple [.int (k : Int)]) = some (iT (r ++ [(k : Int)])) := by
        rw [q_addT (sz (by simp; omega))]
        simp
      simp [hz, ha]⟩) (by simp; omega)
    have ha : phAdd (.list (acc.map iT)) (.list (((List.range (m + 1)).map fun (k : Nat) => r ++ [(k : Int)]).map iT)) = some (.list ((acc ++ (List.range (m + 1)).map fun (k : Nat) => r ++ [(k : Int)]).map iT)) := by
      rw [q_addL (sz (by simp; omega)), List.map_append]
    have em : ((m : Int) + 1) = ((m + 1 : Nat) : Int) := by omega
    rw [List.flatMap_cons, ← List.append_assoc]
    generalize (acc ++ ((List.range (m + 1)).map fun (k : Nat) => r ++ [(k : Int)]) ++ l.flatMap fun r => (List.range (m + 1)).map fun (k : Nat) => r ++ [(k : Int)]).map iT = Z at *
    generalize (acc ++ (List.range (m + 1)).map fun (k : Nat) => r ++ [(k : Int)]).map iT = Y at *
    generalize ((List.range (m + 1)).map fun (k : Nat) => r ++ [(k : Int)]).map iT = W at *
    generalize acc.map iT = A at *
    generalize (List.range (m + 1)).map (fun (k : Nat) => PyData.int (k : Int)) = R at *
    rw [List.map_cons, loopF]
    simp [-List.map_map, -Int.natCast_add, em, g1, c1, ha, e]
theorem row_out {m : Nat} (hm : m ≤ 10) (x0 : Option PyData) (o : Orc) : ∀ (l : List Nat) (n : Nat) (x3 x4 x5 x6 : Option PyData), n + l.length ≤ 100 → (m + 1) ^ (n + l.length) ≤ 1000000 →
    ∃ y3 y4 y5 y6, loopF (gName 3) (dSeq (dAsg 4 (dLst dNil)) (dSeq (dFor (dItems (dVar 2)) (gName 5) bRow) (dAsg 2 (dOpN phList (dCons (dVar 4) dNil))))) (l.map fun (k : Nat) => .int (k : Int)) [x0, some (.int (m : Int)), some (.list ((rowsL m n).map iT)), x3, x4, x5, x6] o = .ok .nx [x0, some (.int (m : Int)), some (.list ((rowsL m (n + l.length)).map iT)), y3, y4, y5, y6] o
  | [], n, x3, x4, x5, x6, h1, h2 => ⟨x3, x4, x5, x6, by simp [loopF]⟩
  | k :: l, n, x3, x4, x5, x6, h1, h2 => by
    simp only [List.length_cons] at h1 h2
    have hp : (m + 1) ^ (n + 1) ≤ 1000000 := Nat.le_trans (Nat.pow_le_pow_right (by omega) (by omega)) h2
    obtain ⟨y5, y6, e1⟩ := row_in hm x0 (some (.list ((rowsL m n).map iT))) (some (.int (k : Int))) o (rowsL m n) [] x5 x6 (fun r hr => by have := (rowsL_mem r hr).1; omega) (by rw [rowsL_len, List.length_nil, Nat.zero_add, Nat.mul_comm, ← Nat.pow_succ]; exact hp)
    obtain ⟨z3, z4, z5, z6, e2⟩ := row_out hm x0 o l (n + 1) (some (.int (k : Int))) (some (.list ((rowsL m (n + 1)).map iT))) y5 y6 (by omega) (by rw [show n + 1 + l.length = n + (l.length + 1) by omega]; exact h2)
    refine ⟨z3, z4, z5, z6, ?_⟩
    rw [List.nil_append] at e1
    have er : ((rowsL m n).flatMap fun r => (List.range (m + 1)).map fun (k : Nat) => r ++ [(k : Int)]) = rowsL m (n + 1) := rfl
    rw [er] at e1
    rw [show n + (k :: l).length = n + 1 + l.length by simp; omega]
    simp only [List.map_nil] at e1
    generalize (rowsL m (n + 1 + l.length)).map iT = Z at *
    generalize (rowsL m (n + 1)).map iT = Y at *
    generalize (rowsL m n).map iT = X at *
    rw [List.map_cons, loopF]
    simp [-List.map_map, e1, e2]
theorem r_law_all_rows {n m : Nat} (hm : m ≤ 10) (hn : n ≤ 100) (h : (m + 1) ^ n ≤ 1000000) (o : Orc) : D__law_all_rows [some (.int (n : Int)), some (.int (m : Int))] o = .ok (.list ((rowsL m n).map iT)) o := by
  have g1 := rng1_nat (n := n) (by omega)
  obtain ⟨y3, y4, y5, y6, e⟩ := row_out hm (some (.int (n : Int))) o (List.range n) 0 none none none none (by simpa using hn) (by simpa using h)
  rw [List.length_range, Nat.zero_add] at e
  have e0 : (rowsL m 0).map iT = [.tuple []] := rfl
  rw [e0] at e
  have hz : (1 : Nat) ≤ sizeLine := sz (by decide)
  generalize (rowsL m n).map iT = Z at *
  generalize (List.range n).map (fun (k : Nat) => PyData.int (k : Int)) = R at *
  simp [-List.map_map, D__law_all_rows, dFn_fin, d__law_all_rows, stAt, g1, hz, e]
end Q
end FL
namespace FL
open PySem PySem.Spec PyProof.Rows L2 PySem.W
theorem shw_rowB {l : List Int} (hl : l.length ≤ 20) (h : ∀ x ∈ l, -20 ≤ x ∧ x ≤ 20) : Shw 103 (iT l) := (Shw.row h (by omega)).mono (by omega)
theorem shw_sh {s : List (List Int)} (hl : s.length ≤ 8) (h : ∀ t ∈ s, t.length ≤ 20 ∧ ∀ x ∈ t, -20 ≤ x ∧ x ≤ 20) : Shw 900 (shD s) := by
  refine Shw.tup (n := 103) (fun d hd => ?_) (fun d hd => ?_) (by rw [List.length_map]; omega)
  · obtain ⟨t, ht, rfl⟩ := List.mem_map.mp hd
    exact shw_rowB (h t ht).1 (h t ht).2
  · obtain ⟨t, ht, rfl⟩ := List.mem_map.mp hd
    rw [depth_iT]
    decide
theorem depth_shD (s : List (List Int)) : (shD s).depth ≤ 2 := by
  have := depthAll_rows s
  simp only [PyData.depth]
  omega
theorem cor_bd {l : List Int} (h3 : l.length = 3) (hb : ∀ x ∈ l, 0 ≤ x ∧ x ≤ 3) (hl : lotT l = true) : (corL l).length = 3 ∧ (∀ x ∈ corL l, 0 ≤ x ∧ x ≤ 3) ∧ (corL l).sum ≤ 9 ∧ 0 ≤ (corL l).sum := by
  obtain ⟨a, b, c, rfl⟩ := three_of h3
  have ha := hb a (by simp)
  have hbb := hb b (by simp)
  have hc := hb c (by simp)
  rw [lotT_three] at hl
  rw [corL_three]
  refine ⟨rfl, fun x hx => ?_, ?_, ?_⟩
  · simp only [List.mem_cons, List.not_mem_nil, or_false] at hx
    rcases hx with rfl | rfl | rfl <;> omega
  · simp only [List.sum_cons, List.sum_nil]; omega
  · simp only [List.sum_cons, List.sum_nil]; omega
theorem loopF_step {τ : DG} {body : DS} {x : PyData} {xs : List PyData} {ρ ρ1 ρ2 : Env} {o o2 : Orc} (h1 : τ x ρ = some ρ1) (h2 : body ρ1 o = .ok .nx ρ2 o2) : loopF τ body (x :: xs) ρ o = loopF τ body xs ρ2 o2 := by
  simp only [loopF, h1, h2, Res.bind]
namespace Q
theorem sums_of (l : List (List Int)) (x0 x1 x2 x3 x4 x5 x6 x7 : Option PyData) (hl : l.length ≤ 100) (o : Orc) : loopC (gName 7) dYes (dOpN phSum (dCons (dVar 7) dNil)) [x0, x1, x2, x3, x4, x5, x6, none] (l.map iT) o [] = .ok ((l.map List.sum).map .int) [x0, x1, x2, x3, x4, x5, x6, none] o :=
  run_map (τ := gName 7) (e := dOpN phSum (dCons (dVar 7) dNil)) iT PyData.int List.sum flat_int (xs := l) (fun t _ => ⟨[x0, x1, x2, x3, x4, x5, x6, some (iT t)], [x0, x1, x2, x3, x4, x5, x6, some (iT t)], rfl, by
    have := sum_intsT t
    simp [this]⟩) (by omega)
theorem r_body {s : List (List Int)} (hs : Sht s) (h2 : s.length ≤ 2) {c : List Int} (hc : c.length = edgN s) (hb : ∀ x ∈ c, 0 ≤ x ∧ x ≤ 3) (q : OrcS) (T : List (Addr × Str)) (x0 x5 x6 : Option PyData) :
    ∃ y5 y6, ((dSeq (dAsg 5 (dCall false D__law_choices (aCons (dVar 3) (aCons (dVar 4) aNil)))) (dSeq (dAsg 6 (dHeardG T "is" clsG (dCall false D_need_lot (aCons (dVar 2) (aCons (dVar 4) aNil))))) (dSeq (dIfS (dOrT (dTop2 (phC fun i j => decide (j < i)) (dOpN phLen (dCons (dVar 5) dNil)) (dC (.int 1))) (dNotT (dTest (dCall false D__law_like (aCons (dVar 6) (aCons (dIf (dTop2 phNe (dVar 5) (dLst dNil)) (dTup (dCons (dC (.str "is")) (dCons (dVar 4) dNil))) (dTup (dCons (dC (.str "lot")) (dCons (dVar 4) (dCons (dC (.bool true)) dNil))))) aNil)))))) (dRet (dC (.bool false))) dPass) (dIfS (dTop2 phNe (dVar 5) (dLst dNil)) (dSeq (dIfS (dNotT (dTest (dCall false D__law_like (aCons (dCall false D_corner_counts (aCons (dVar 2) (aCons (dVar 4) aNil))) (aCons (dOp2 phIx (dVar 5) (dC (.int 0))) aNil))))) (dRet (dC (.bool false))) dPass) (dIfS (dNotT (dTest (dCall false D__law_like (aCons (dOpN phLen (dCons (dCall false D_strands (aCons (dVar 2) (aCons (dVar 4) aNil))) dNil)) (aCons (dOpN phSum (dCons (dComp (dItems (dOp2 phIx (dVar 5) (dC (.int 0)))) [7] (gName 7) dYes (dOpN phSum (dCons (dVar 7) dNil))) dNil)) aNil))))) (dRet (dC (.bool false))) dPass)) dPass)))) : DS) [x0, none, some (shD s), some (shD (plainL s)), some (iT c), x5, x6, none] ⟨some q, T⟩ = .ok .nx [x0, none, some (shD s), some (shD (plainL s)), some (iT c), y5, y6, none] ⟨some q, T⟩ := by
  have hp := hs.plain
  have hlp : (plainL s).length = s.length := plainL_length s
  have e6 := edgN_le hs
  have hc2 : c.length = edgN (plainL s) := by rw [edgN_plain hs]; exact hc
  have hC : Cts s c := ⟨hc, fun x hx => by have := hb x hx; omega⟩
  have k1 := r_law_choices hp hc2 hb q T
  have k2 := r_need_lot hs hC ⟨some q, T⟩
  have hz3 : (3 : Nat) ≤ sizeLine := sz (by decide)
  have hz2 : (2 : Nat) ≤ sizeLine := sz (by decide)
  have hz0 : (0 : Nat) ≤ sizeLine := Nat.zero_le _
  have sw : Shw 103 (iT c) := shw_rowB (by omega) fun x hx => by have := hb x hx; omega
  have dc : (iT c).depth ≤ 9 := by rw [depth_iT]; decide
  cases hl : lotB (plainL s) c with
  | false =>
    rw [hl] at k1 k2
    simp only [Bool.false_eq_true, if_false] at k1 k2
    have g : ∀ x5 x6 x7 : Option PyData, dHeardG T "is" clsG (dCall false D_need_lot (aCons (dVar 2) (aCons (dVar 4) aNil))) [x0, none, some (shD s), some (shD (plainL s)), some (iT c), x5, x6, x7] ⟨some q, T⟩ = .ok (.tuple [.str "lot", iT c, .bool true]) [x0, none, some (shD s), some (shD (plainL s)), some (iT c), x5, x6, x7] ⟨some q, T⟩ := fun x5 x6 x7 => heardG_ex (ρ1 := [x0, none, some (shD s), some (shD (plainL s)), some (iT c), x5, x6, x7]) (o1 := ⟨some q, T⟩) (c := ⟨"BadLot", [("value", iT c)]⟩) rfl (by simp [k2]) rfl
    have lk := r_like (d := .tuple [.str "lot", iT c, .bool true]) (Shw.tup (n := 103) (m := 1000) (fun d hd => by
      rcases List.mem_cons.mp hd with rfl | hd
      · exact Shw.str "lot" _ (by decide +kernel)
      rcases List.mem_cons.mp hd with rfl | hd
      · exact sw
      rcases List.mem_cons.mp hd with rfl | hd
      · exact (shw_bool true).mono (by decide)
      · cases hd) (fun d hd => by
      rcases List.mem_cons.mp hd with rfl | hd
      · exact Nat.zero_le _
      rcases List.mem_cons.mp hd with rfl | hd
      · exact dc
      rcases List.mem_cons.mp hd with rfl | hd
      · exact Nat.zero_le _
      · cases hd) (by simp)) (by decide) ⟨some q, T⟩
    have n0 : phNe (.list []) (.list []) = some (.bool false) := rfl
    refine ⟨some (.list []), some (.tuple [.str "lot", iT c, .bool true]), ?_⟩
    simp [g, k1, lk, n0, hz3]
  | true =>
    rw [hl] at k1 k2
    simp only [if_true] at k1 k2
    obtain ⟨lr, lt⟩ := lotB_mem hl
    have hnb : ∀ t ∈ plainL s, (numsT c t).length = 3 ∧ ∀ x ∈ numsT c t, 0 ≤ x ∧ x ≤ 3 := fun t ht => by
      refine ⟨by simp [numsT, hp.tri t ht], fun x hx => ?_⟩
      obtain ⟨y, hy, rfl⟩ := List.mem_map.mp hx
      have := (edgN_spec hp).2.2 y (List.mem_flatten.mpr ⟨t, ht, hy⟩)
      have := edg_nonneg y
      exact hb _ (cnt_mem (by omega))
    have cb : ∀ t ∈ plainL s, _ := fun t ht => cor_bd (hnb t ht).1 (hnb t ht).2 (lt t ht)
    obtain ⟨K, hK⟩ : ∃ K, K = (plainL s).map fun t => corL (numsT c t) := ⟨_, rfl⟩
    have hKl : K.length ≤ 2 := by rw [hK, List.length_map]; omega
    have swK : Shw 900 (shD K) := shw_sh (by omega) fun t ht => by
      rw [hK] at ht
      obtain ⟨u, hu, rfl⟩ := List.mem_map.mp ht
      obtain ⟨c1, c2, _⟩ := cb u hu
      exact ⟨by omega, fun x hx => by have := c2 x hx; omega⟩
    have g : ∀ x5 x6 x7 : Option PyData, dHeardG T "is" clsG (dCall false D_need_lot (aCons (dVar 2) (aCons (dVar 4) aNil))) [x0, none, some (shD s), some (shD (plainL s)), some (iT c), x5, x6, x7] ⟨some q, T⟩ = .ok (.tuple [.str "is", iT c]) [x0, none, some (shD s), some (shD (plainL s)), some (iT c), x5, x6, x7] ⟨some q, T⟩ := fun x5 x6 x7 => heardG_ok (ρ1 := [x0, none, some (shD s), some (shD (plainL s)), some (iT c), x5, x6, x7]) (o1 := ⟨some q, T⟩) rfl (by simp [k2])
    have lk := r_like (d := .tuple [.str "is", iT c]) (Shw.tup (n := 103) (m := 1000) (fun d hd => by
      rcases List.mem_cons.mp hd with rfl | hd
      · exact Shw.str "is" _ (by decide +kernel)
      rcases List.mem_cons.mp hd with rfl | hd
      · exact sw
      · cases hd) (fun d hd => by
      rcases List.mem_cons.mp hd with rfl | hd
      · exact Nat.zero_le _
      rcases List.mem_cons.mp hd with rfl | hd
      · exact dc
      · cases hd) (by simp)) (by decide) ⟨some q, T⟩
    have lk2 := r_like swK (by decide) ⟨some q, T⟩
    have k3 := r_corner_counts hs hC hl ⟨some q, T⟩
    rw [← hK] at k1 k3
    have sum4 : c.sum ≤ 400 := by
      have : ∀ l : List Int, (∀ x ∈ l, x ≤ 3) → l.sum ≤ 3 * l.length := fun l => by
        induction l with
        | nil => intro _; simp
        | cons a l ih => intro h; have := h a List.mem_cons_self; have := ih fun x hx => h x (List.mem_cons_of_mem _ hx); simp only [List.sum_cons, List.length_cons]; omega
      have := this c fun x hx => (hb x hx).2
      omega
    have k4 := r_strands hs hC hl sum4 ⟨some q, T⟩
    have hlen := stL_len (c := c) (s := plainL s) 0 hp.tri lt
    have esum : ((plainL s).map fun t => (corL (numsT c t)).sum) = K.map List.sum := by rw [hK, List.map_map]; rfl
    rw [esum] at hlen
    obtain ⟨N, hN⟩ : ∃ N, N = (stL c 0 (plainL s)).length := ⟨_, rfl⟩
    have hN2 : (sortL ((stL c 0 (plainL s)).map stD)).length = N := by rw [sortL_len, List.length_map, hN]
    rw [← hN] at hlen
    have hNle : N ≤ 20 := by
      have : ∀ l : List (List Int), (∀ t ∈ l, t.sum ≤ 9) → (l.map List.sum).sum ≤ 9 * l.length := fun l => by
        induction l with
        | nil => intro _; simp
        | cons a l ih => intro h; have := h a List.mem_cons_self; have := ih fun x hx => h x (List.mem_cons_of_mem _ hx); simp only [List.map_cons, List.sum_cons, List.length_cons]; omega
      have := this K fun t ht => by
        rw [hK] at ht
        obtain ⟨u, hu, rfl⟩ := List.mem_map.mp ht
        exact (cb u hu).2.2.1
      omega
    have k5 := sums_of K x0 none (some (shD s)) (some (shD (plainL s))) (some (iT c)) (some (.list [shD K])) (some (.tuple [.str "is", iT c])) none (by omega) ⟨some q, T⟩
    have k6 := sum_intsD (K.map List.sum)
    rw [← hlen] at k6
    have lk3 := r_like (d := .int (N : Nat)) (Shw.int (by omega) (by omega)) (by decide) ⟨some q, T⟩
    have n1 : phNe (.list [shD K]) (.list []) = some (.bool true) := by
      have h1 : okD (.list [shD K]) = true := by
        have d2 := depth_shD K
        have hpl : PyData.plain (shD K) = true := plainAll_rows K
        clear k1 k3 lk lk2 k5 swK
        generalize shD K = Z at *
        have pp : PyData.plain (.list [Z]) = true := by
          simp only [PyData.plain, PyData.plainAll, hpl]
          rfl
        have dd : PyData.depth (.list [Z]) ≤ 64 := by
          simp only [PyData.depth, PyData.depthAll]
          have : max Z.depth 0 ≤ 2 := Nat.max_le.mpr ⟨d2, Nat.zero_le _⟩
          omega
        unfold okD
        rw [pp, Bool.true_and]
        exact decide_eq_true dd
      have h2 : okD (.list []) = true := rfl
      unfold phNe
      rw [h1, h2]
      simp [PyData.eqv, PyData.eqvAll]
    have ix0 : L2.atI [shD K] 0 = some (shD K) := rfl
    refine ⟨some (.list [shD K]), some (.tuple [.str "is", iT c]), ?_⟩
    generalize sortL ((stL c 0 (plainL s)).map stD) = S at *
    generalize hKK : shD K = KK at *
    have itK : itemsD KK = some (K.map iT) := by rw [← hKK]; rfl
    generalize K.map List.sum = KS at *
    generalize K.map iT = KI at *
    simp [-List.map_map, g, k1, k3, k4, lk, lk2, lk3, n1, hz2, ix0, itK, k5, k6, hN2]
theorem r_closed2 (k : Nat) (hk : k < 2) (o : Orc) (h : o.st.isSome = true) : ∃ s, D__law_closed [none, some (.int (k : Nat))] o = .ok (shD s) o ∧ Sht s ∧ s.length ≤ 2 := by
  have hz1 : (2 : Nat) ≤ sizeLine := sz (by decide)
  have hz2 : (3 : Nat) ≤ sizeLine := sz (by decide)
  match k, hk with
  | 0, _ => exact ⟨clo0, by simp [D__law_closed, dFn_fin, d__law_closed, stAt, hz1, hz2, finS_ret h, clo0], clo0_sht, by decide⟩
  | 1, _ => exact ⟨clo1, by simp [D__law_closed, dFn_fin, d__law_closed, stAt, hz1, hz2, finS_ret h, clo1], clo1_sht, by decide⟩
  | k + 2, h => omega
theorem r_first (x0 : Option PyData) {o : Orc} (ov : OV 300 o) : ∃ s o', ((dAsg 2 (dIf (dTop2 (phC fun i j => decide (j < i)) (dCall false D__law_draw (aSt (aCons (dC (.int 3)) aNil))) (dC (.int 0))) (dCall false D__law_sheet (aSt (aCons (dC (.int 2)) aNil))) (dCall false D__law_closed (aSt (aCons (dCall false D__law_draw (aSt (aCons (dC (.int 2)) aNil))) aNil))))) : DS) [x0, none, none, none, none, none, none, none] o = .ok .nx [x0, none, some (shD s), none, none, none, none, none] o' ∧ Sht s ∧ s.length ≤ 2 ∧ OV 10 o' ∧ o'.tb = o.tb := by
  obtain ⟨q, hq⟩ := ov.st
  obtain ⟨k0, o1, e1, hk0, ov1, tb1⟩ := r_draw (n := 299) ov (lim := 3) (by omega) (by omega)
  have e1' : D__law_draw [none, some (.int 3)] o = .ok (.int (k0 : Nat)) o1 := e1
  obtain ⟨q1, hq1⟩ := ov1.st
  by_cases h : k0 = 0
  · subst h
    obtain ⟨k, o2, e2, hk, ov2, tb2⟩ := r_draw (n := 10) (ov1.mono (by omega)) (lim := 2) (by omega) (by omega)
    have e2' : D__law_draw [none, some (.int 2)] o1 = .ok (.int (k : Nat)) o2 := e2
    obtain ⟨q2, hq2⟩ := ov2.st
    obtain ⟨s, e3, hs, hl⟩ := r_closed2 k hk o2 ov2.some
    refine ⟨s, o2, ?_, hs, hl, ov2, tb2.trans tb1⟩
    simp [hq, hq1, hq2, e1', e2', e3]
  · obtain ⟨s, o2, e2, hs, hl, ov2, tb2⟩ := r_sheet (most := 2) (m := 10) (by omega) (by omega) (ov1.mono (by omega))
    have e2' : D__law_sheet [none, some (.int 2)] o1 = .ok (shD s) o2 := e2
    have h' : (0 : Int) < (k0 : Nat) := by omega
    have h'' : 0 < k0 := by omega
    refine ⟨s, o2, ?_, hs, hl, ov2, tb2.trans tb1⟩
    simp [hq, hq1, e1', e2', h', h'']
theorem r_all {s : List (List Int)} (hs : Sht s) (h2 : s.length ≤ 2) (q : OrcS) (T : List (Addr × Str)) (x0 : Option PyData) : ∀ (l : List (List Int)) (x4 x5 x6 : Option PyData), (∀ c ∈ l, c.length = edgN s ∧ ∀ x ∈ c, 0 ≤ x ∧ x ≤ 3) →
    ∃ y4 y5 y6, loopF (gName 4) ((dSeq (dAsg 5 (dCall false D__law_choices (aCons (dVar 3) (aCons (dVar 4) aNil)))) (dSeq (dAsg 6 (dHeardG T "is" clsG (dCall false D_need_lot (aCons (dVar 2) (aCons (dVar 4) aNil))))) (dSeq (dIfS (dOrT (dTop2 (phC fun i j => decide (j < i)) (dOpN phLen (dCons (dVar 5) dNil)) (dC (.int 1))) (dNotT (dTest (dCall false D__law_like (aCons (dVar 6) (aCons (dIf (dTop2 phNe (dVar 5) (dLst dNil)) (dTup (dCons (dC (.str "is")) (dCons (dVar 4) dNil))) (dTup (dCons (dC (.str "lot")) (dCons (dVar 4) (dCons (dC (.bool true)) dNil))))) aNil)))))) (dRet (dC (.bool false))) dPass) (dIfS (dTop2 phNe (dVar 5) (dLst dNil)) (dSeq (dIfS (dNotT (dTest (dCall false D__law_like (aCons (dCall false D_corner_counts (aCons (dVar 2) (aCons (dVar 4) aNil))) (aCons (dOp2 phIx (dVar 5) (dC (.int 0))) aNil))))) (dRet (dC (.bool false))) dPass) (dIfS (dNotT (dTest (dCall false D__law_like (aCons (dOpN phLen (dCons (dCall false D_strands (aCons (dVar 2) (aCons (dVar 4) aNil))) dNil)) (aCons (dOpN phSum (dCons (dComp (dItems (dOp2 phIx (dVar 5) (dC (.int 0)))) [7] (gName 7) dYes (dOpN phSum (dCons (dVar 7) dNil))) dNil)) aNil))))) (dRet (dC (.bool false))) dPass)) dPass)))) : DS) (l.map iT) [x0, none, some (shD s), some (shD (plainL s)), x4, x5, x6, none] ⟨some q, T⟩ = .ok .nx [x0, none, some (shD s), some (shD (plainL s)), y4, y5, y6, none] ⟨some q, T⟩
  | [], x4, x5, x6, h => ⟨x4, x5, x6, rfl⟩
  | c :: l, x4, x5, x6, h => by
    obtain ⟨hc, hb⟩ := h c List.mem_cons_self
    obtain ⟨a5, a6, e1⟩ := r_body hs h2 hc hb q T x0 x5 x6
    obtain ⟨y4, y5, y6, e2⟩ := r_all hs h2 q T x0 l (some (iT c)) a5 a6 fun u hu => h u (List.mem_cons_of_mem _ hu)
    refine ⟨y4, y5, y6, ?_⟩
    rw [List.map_cons]
    have es : ([x0, none, some (shD s), some (shD (plainL s)), x4, x5, x6, none] : Env).set 4 (some (iT c)) = [x0, none, some (shD s), some (shD (plainL s)), some (iT c), x5, x6, none] := rfl
    rw [loopF_step (q_gName.trans (congrArg some es)) e1]
    exact e2
theorem law_edges_eq : D__law_edges = D_count_edges := rfl
theorem plain_law : ∀ (T : List (Addr × Str)) (ns : List Int), ns.length ≤ 63 → ∃ ρ' o', d_law T (some (.list (ns.map .int)) :: List.replicate 7 none) ⟨none, T⟩ = .ok (.ret (.bool true)) ρ' o' := by
  intro T ns hl
  have hk : begOk ns = true := by unfold begOk; simpa using (by omega : ns.length ≤ 1000)
  have hb : dBegin T begOk begF 1 0 [some (.list (ns.map .int)), none, none, none, none, none, none, none] ⟨none, T⟩ = .ok .nx [some (.list (ns.map .int)), none, none, none, none, none, none, none] ⟨some (begF ns), T⟩ := by
    unfold dBegin
    have : scriptD [some (.list (ns.map .int)), none, none, none, none, none, none, none] 0 = some ns := intsD_ints ns
    rw [this]
    simp [hk]
  obtain ⟨s, o1, e1, hs, h2, ov1, t1⟩ := r_first (some (.list (ns.map .int))) (begF_ov (ns := ns) (T := T) (n := 300) (by decide))
  obtain ⟨q1, hq1⟩ := ov1.st
  obtain ⟨st1, T1⟩ := o1
  simp only at hq1 t1
  subst hq1
  have t1 := t1.symm
  subst t1
  have k1 := r_law_plain (s := s) ⟨some q1, T⟩ hs.tri (by omega)
  have k2 := r_count_edges hs ⟨some q1, T⟩
  rw [← law_edges_eq] at k2
  have e6 := edgN_le hs
  obtain ⟨m, hm⟩ : ∃ m, m = if edgN s < 4 then 3 else 2 := ⟨_, rfl⟩
  have hm3 : m ≤ 3 := by rw [hm]; split <;> omega
  have hpow : (m + 1) ^ edgN s ≤ 1000000 := Nat.le_trans (Nat.pow_le_pow_left (show m + 1 ≤ 4 by omega) _) (Nat.le_trans (Nat.pow_le_pow_right (by decide) (show edgN s ≤ 6 by omega)) (by decide))
  have k3 := r_law_all_rows (n := edgN s) (m := m) (by omega) (by omega) hpow ⟨some q1, T⟩
  obtain ⟨y4, y5, y6, e2⟩ := r_all hs h2 q1 T (some (.list (ns.map .int))) (rowsL m (edgN s)) none none none fun c hc => by
    obtain ⟨a, b⟩ := rowsL_mem c hc
    exact ⟨a, fun x hx => by have := b x hx; omega⟩
  refine ⟨[some (.list (ns.map .int)), none, some (shD s), some (shD (plainL s)), y4, y5, y6, none], ⟨some q1, T⟩, ?_⟩
  show d_law T [some (.list (ns.map .int)), none, none, none, none, none, none, none] ⟨none, T⟩ = _
  rw [show d_law T = dSeq (dBegin T begOk begF 1 0) (dSeq ((dAsg 2 (dIf (dTop2 (phC fun i j => decide (j < i)) (dCall false D__law_draw (aSt (aCons (dC (.int 3)) aNil))) (dC (.int 0))) (dCall false D__law_sheet (aSt (aCons (dC (.int 2)) aNil))) (dCall false D__law_closed (aSt (aCons (dCall false D__law_draw (aSt (aCons (dC (.int 2)) aNil))) aNil)))))) (dSeq ((dAsg 3 (dCall false D__law_plain (aCons (dVar 2) aNil)))) (dSeq ((dFor (dItems (dCall false D__law_all_rows (aCons (dCall false D__law_edges (aCons (dVar 2) aNil)) (aCons (dIf (dTop2 (phC fun i j => decide (i < j)) (dCall false D__law_edges (aCons (dVar 2) aNil)) (dC (.int 4))) (dC (.int 3)) (dC (.int 2))) aNil)))) (gName 4) (dSeq (dAsg 5 (dCall false D__law_choices (aCons (dVar 3) (aCons (dVar 4) aNil)))) (dSeq (dAsg 6 (dHeardG T "is" clsG (dCall false D_need_lot (aCons (dVar 2) (aCons (dVar 4) aNil))))) (dSeq (dIfS (dOrT (dTop2 (phC fun i j => decide (j < i)) (dOpN phLen (dCons (dVar 5) dNil)) (dC (.int 1))) (dNotT (dTest (dCall false D__law_like (aCons (dVar 6) (aCons (dIf (dTop2 phNe (dVar 5) (dLst dNil)) (dTup (dCons (dC (.str "is")) (dCons (dVar 4) dNil))) (dTup (dCons (dC (.str "lot")) (dCons (dVar 4) (dCons (dC (.bool true)) dNil))))) aNil)))))) (dRet (dC (.bool false))) dPass) (dIfS (dTop2 phNe (dVar 5) (dLst dNil)) (dSeq (dIfS (dNotT (dTest (dCall false D__law_like (aCons (dCall false D_corner_counts (aCons (dVar 2) (aCons (dVar 4) aNil))) (aCons (dOp2 phIx (dVar 5) (dC (.int 0))) aNil))))) (dRet (dC (.bool false))) dPass) (dIfS (dNotT (dTest (dCall false D__law_like (aCons (dOpN phLen (dCons (dCall false D_strands (aCons (dVar 2) (aCons (dVar 4) aNil))) dNil)) (aCons (dOpN phSum (dCons (dComp (dItems (dOp2 phIx (dVar 5) (dC (.int 0)))) [7] (gName 7) dYes (dOpN phSum (dCons (dVar 7) dNil))) dNil)) aNil))))) (dRet (dC (.bool false))) dPass)) dPass)))))) ((dRet (dC (.bool true))))))) from rfl]
  rw [q_seq, hb]
  simp only [Res.bind]
  rw [q_seq, e1]
  simp only [Res.bind]
  have ep : ((dAsg 3 (dCall false D__law_plain (aCons (dVar 2) aNil))) : DS) [some (.list (ns.map .int)), none, some (shD s), none, none, none, none, none] ⟨some q1, T⟩ = .ok .nx [some (.list (ns.map .int)), none, some (shD s), some (shD (plainL s)), none, none, none, none] ⟨some q1, T⟩ := by simp [k1]
  rw [q_seq, ep]
  simp only [Res.bind]
  have ef : ((dFor (dItems (dCall false D__law_all_rows (aCons (dCall false D__law_edges (aCons (dVar 2) aNil)) (aCons (dIf (dTop2 (phC fun i j => decide (i < j)) (dCall false D__law_edges (aCons (dVar 2) aNil)) (dC (.int 4))) (dC (.int 3)) (dC (.int 2))) aNil)))) (gName 4) (dSeq (dAsg 5 (dCall false D__law_choices (aCons (dVar 3) (aCons (dVar 4) aNil)))) (dSeq (dAsg 6 (dHeardG T "is" clsG (dCall false D_need_lot (aCons (dVar 2) (aCons (dVar 4) aNil))))) (dSeq (dIfS (dOrT (dTop2 (phC fun i j => decide (j < i)) (dOpN phLen (dCons (dVar 5) dNil)) (dC (.int 1))) (dNotT (dTest (dCall false D__law_like (aCons (dVar 6) (aCons (dIf (dTop2 phNe (dVar 5) (dLst dNil)) (dTup (dCons (dC (.str "is")) (dCons (dVar 4) dNil))) (dTup (dCons (dC (.str "lot")) (dCons (dVar 4) (dCons (dC (.bool true)) dNil))))) aNil)))))) (dRet (dC (.bool false))) dPass) (dIfS (dTop2 phNe (dVar 5) (dLst dNil)) (dSeq (dIfS (dNotT (dTest (dCall false D__law_like (aCons (dCall false D_corner_counts (aCons (dVar 2) (aCons (dVar 4) aNil))) (aCons (dOp2 phIx (dVar 5) (dC (.int 0))) aNil))))) (dRet (dC (.bool false))) dPass) (dIfS (dNotT (dTest (dCall false D__law_like (aCons (dOpN phLen (dCons (dCall false D_strands (aCons (dVar 2) (aCons (dVar 4) aNil))) dNil)) (aCons (dOpN phSum (dCons (dComp (dItems (dOp2 phIx (dVar 5) (dC (.int 0)))) [7] (gName 7) dYes (dOpN phSum (dCons (dVar 7) dNil))) dNil)) aNil))))) (dRet (dC (.bool false))) dPass)) dPass))))) : DS) [some (.list (ns.map .int)), none, some (shD s), some (shD (plainL s)), none, none, none, none] ⟨some q1, T⟩ = .ok .nx [some (.list (ns.map .int)), none, some (shD s), some (shD (plainL s)), y4, y5, y6, none] ⟨some q1, T⟩ := by
    have em : (if edgN s < 4 then (3 : Int) else 2) = (m : Nat) := by rw [hm]; split <;> rfl
    generalize (rowsL m (edgN s)).map iT = R at *
    rw [q_for]
    by_cases h4 : edgN s < 4
    · have hm' : m = 3 := by rw [hm, if_pos h4]
      have k3' : D__law_all_rows [some (.int (edgN s : Nat)), some (.int 3)] ⟨some q1, T⟩ = .ok (.list R) ⟨some q1, T⟩ := by rw [hm'] at k3; exact k3
      have h4' : ((edgN s : Nat) : Int) < 4 := by omega
      simp only [q_items, q_call, q_cons, q_aCons, q_aNil, q_if, q_top2, q_op2, q_var, q_c, Res.bind, k2, q_phC, h4', decide_true, Res.ofO, q_asB, if_true, k3', q_itL, List.getElem?_cons_succ, List.getElem?_cons_zero, Bool.not_false, Bool.true_or]
      exact e2
    · have hm' : m = 2 := by rw [hm, if_neg h4]
      have k3' : D__law_all_rows [some (.int (edgN s : Nat)), some (.int 2)] ⟨some q1, T⟩ = .ok (.list R) ⟨some q1, T⟩ := by rw [hm'] at k3; exact k3
      have h4' : ¬ ((edgN s : Nat) : Int) < 4 := by omega
      simp only [q_items, q_call, q_cons, q_aCons, q_aNil, q_if, q_top2, q_op2, q_var, q_c, Res.bind, k2, q_phC, h4', decide_false, Res.ofO, q_asB, if_true, k3', q_itL, List.getElem?_cons_succ, List.getElem?_cons_zero, Bool.not_false, Bool.true_or, Bool.false_eq_true, if_false]
      exact e2
  rw [q_seq, ef]
  rfl
end Q
end FL

theorem PySem.Challenge.cw_flipsheets_k07_whole_counts_by_all_corne_holds : PySem.Challenge.rw_flipsheets_k07_whole_counts_by_all_corne.Holds := by
  exact FL.Q.holds_of FL.Q.plain_law
