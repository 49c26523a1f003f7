import PyProof.Rows.All
import Wide.All
import OpenK.AllK
import Wide.FinOn
import PySem.Challenge.RW_clauseshrink_k25_logs_as_texts
import HandS.ForMost
import HandS.TupAny
import HandS.Deep
import HandS.IsInst
import HandS.SortInts
import PyProof.Rows.InDataRows
import HandS.Zip
import HandS.Rev
import KE.GoesEnum
import HandS.Style
import HandS.SortKw
import HandS.Defaults
import KE.DataMinMax
import KE.KRevSl
import HandS.Words
import HandS.WordsExc
import HandS.HeadEnd
import HandS.HeadHook2
import HandS.Head2
import HandS.SetKeys
import HandS.HeadHook1
import HandS.ExcCtx
import HandS.WordsDict
import HandS.Wide
import HandS.DictComp
import HandS.SetBool
import KE.SortData
import KE.SortKeyHeap
import KE.KDictSum
import KE.KDictCopyH
import PyProof.TupleOfSeq
import HandS.Conv
import HandS.More
import HandS.Flow
import KE.KUnpackStar
import KE.DataFind
import HandS.MakeKw
import PyProof.ReprRoads
import PyProof.CallFns
import HandS.RevRange
import HandS.SetFor
import HandS.ExcInit
import HandS.ExcField
import HandS.ExcIs
import KE.KTryMore
import KE.KExcIs
import KE.KExcInit
import PyProof.ExcBaseAll.ArithmeticError
import HandS.TupMul
import HandS.RaiseMore
import HandS.NoneIn
import PyProof.ReprLen
import PyProof.StrLawsRepr
import HandS.HotCalls
import HandS.FStr
import HandS.Text
import PyProof.StrCalls
set_option Elab.async false
set_option linter.all false
set_option maxRecDepth 100000
set_option maxHeartbeats 4000000
/-! Ab: a store of objects by number, and data without addresses, over the hand layer. -/
namespace Ab
open PySem L2

inductive Tg where
  | non | bl | int | str | tup | lst | dic
  deriving DecidableEq
def Tg.name : Tg → String
  | .non => "NoneType" | .bl => "bool" | .int => "int" | .str => "str" | .tup => "tuple" | .lst => "list" | .dic => "dict"
inductive D where
  | non | bl (b : Bool) | int (i : Int) | str (s : Str) | tup (l : List D) | ktp (l : List D) | rol (l : List D) | obj (n : Nat) | cls (c : Str) | tg (t : Tg) | exc (C : Str) (ns : List Str) (ds : List D)
inductive O where
  | lst (l : List D)
  | dK (l : List (Key × D))
  | dT (l : List (List Key × D))
  | ins (C : Str) (fs : List (Str × D))
  | set (l : List Key)
  | lT (od : PySem.Obj) (ws : List (List Key × V)) (l : List (List Key × D))
abbrev Sto := List O
abbrev AS := List (Option D)

/-- the written part, the program, the world -/
structure KX where
  f : PySem.W.Frag
  P : Program
  w : World
abbrev kx (X : Cx) : KX := ⟨X.K, X.prog, X.w⟩
/-- a list that is never written -/
def RoL (K : KX) (H : Hp) (a : Addr) (xs : List V) : Prop := (∃ o, H a = some (.frz o (.lst xs))) ∨
    ∃ (o : Obj) (its : Array Value) (n : Nat), K.f.lookup a = some o ∧ o.cls = .type "list" ∧ o.dict = none ∧ o.data = .seq its n ∧ its.size ≤ sizeLine ∧ Vals xs its.toList
theorem RoL.sq {K : KX} {H : Hp} {a : Addr} {xs : List V} (h : RoL K H a xs) : SqL K.f H a xs := by
  rcases h with ⟨o, h⟩ | h
  · exact .inl (.inr ⟨o, h⟩)
  · exact .inr h

/-- a tuple that stands in the written part -/
def KTu (K : KX) (a : Addr) (xs : List V) : Prop := ∃ (o : Obj) (its : Array Value) (n : Nat), K.f.lookup a = some o ∧ o.cls = .type "tuple" ∧ o.data = .seq its n ∧ its.size ≤ sizeLine ∧ Vals xs its.toList
theorem KTu.sq {K : KX} {H : Hp} {a : Addr} {xs : List V} (h : KTu K a xs) : SqT K.f H a xs := .inr h

/-- objects that are never written: a caught exception, an exception's dict -/
def XO : HO → Bool
  | .xd _ => true
  | .frz _ (.ext _) => true
  | _ => false
/-- the object of a caught exception -/
def XObj (K : KX) (C : Str) (dd : Addr) (oe : PySem.Obj) : Prop := L2N.Zn (.ref (He.ga K.f C)) (some dd) oe ∧ ∃ vs, oe.data = .fields vs
mutual
inductive VR (K : KX) (ι : List Addr) (H : Hp) : V → D → Prop
  | non : VR K ι H .non .non
  | bl (b : Bool) : VR K ι H (.bl b) (.bl b)
  | int (i : Int) : VR K ι H (.int i) (.int i)
  | str (s : Str) : VR K ι H (.str s) (.str s)
  | tg (t : Tg) : VR K ι H (.ty t.name) (.tg t)
  | tup {a : Addr} {xs : List V} {ds : List D} : H a = some (.tup xs) → VRs K ι H xs ds → VR K ι H (.ref a) (.tup ds)
  | ktp {a : Addr} {xs : List V} {ds : List D} : KTu K a xs → VRs K ι H xs ds → VR K ι H (.ref a) (.ktp ds)
  | rol {a : Addr} {xs : List V} {ds : List D} : RoL K H a xs → VRs K ι H xs ds → VR K ι H (.ref a) (.rol ds)
  | obj {n : Nat} {a : Addr} : ι[n]? = some a → VR K ι H (.ref a) (.obj n)
  | cls (c : Str) : VR K ι H (.ref (He.ga K.f c)) (.cls c)
  | exc {a dd : Addr} {oe : PySem.Obj} {C : Str} {ws : List (Str × V)} {ns : List Str} {ds : List D} : H a = some (.frz oe (.ext fun _ => True)) → XObj K C dd oe → H dd = some (.xd ws) → ws.map (·.1) = ns → VRs K ι H (ws.map (·.2)) ds → VR K ι H (.ref a) (.exc C ns ds)
inductive VRs (K : KX) (ι : List Addr) (H : Hp) : List V → List D → Prop
  | nil : VRs K ι H [] []
  | cons {v : V} {d : D} {vs : List V} {ds : List D} : VR K ι H v d → VRs K ι H vs ds → VRs K ι H (v :: vs) (d :: ds)
end

/-- the heap goes on from (ι, H) to (ι', H') -/
structure Ext (K : KX) (ι : List Addr) (H : Hp) (ι' : List Addr) (H' : Hp) : Prop where
  pre : ∀ (n : Nat) (a : Addr), ι[n]? = some a → ι'[n]? = some a
  fresh : ∀ a, a ∈ ι' → a ∉ ι → H a = none
  frame : ∀ a o, a ∉ ι → H a = some o → H' a = some o
  tup : ∀ a xs, H a = some (.tup xs) → H' a = some (.tup xs)
  rol : ∀ a xs, RoL K H a xs → RoL K H' a xs
  exc : ∀ a o, XO o = true → H a = some o → H' a = some o
section
variable {K : KX} {ι ι' ι1 ι2 : List Addr} {H H' H1 H2 : Hp}
theorem Ext.refl : Ext K ι H ι H := ⟨fun _ _ h => h, fun _ h h' => absurd h h', fun _ _ _ h => h, fun _ _ h => h, fun _ _ h => h, fun _ _ _ h => h⟩
theorem Ext.mem (e : Ext K ι H ι1 H1) {a : Addr} (h : a ∈ ι) : a ∈ ι1 := by
  obtain ⟨n, hn⟩ := List.getElem?_of_mem h
  exact List.mem_of_getElem? (e.pre n a hn)
theorem Ext.trans (e : Ext K ι H ι1 H1) (f : Ext K ι1 H1 ι2 H2) : Ext K ι H ι2 H2 where
  pre := fun n a h => f.pre n a (e.pre n a h)
  fresh := fun a h h' => by
    by_cases q : a ∈ ι1
    · exact e.fresh a q h'
    · have z := f.fresh a h q
      cases r : H a with
      | none => rfl
      | some o =>
        rw [e.frame a o h' r] at z
        cases z
  frame := fun a o h r => by
    have r1 := e.frame a o h r
    by_cases q : a ∈ ι1
    · have z := e.fresh a q h
      rw [r] at z
      cases z
    · exact f.frame a o q r1
  tup := fun a xs h => f.tup a xs (e.tup a xs h)
  rol := fun a xs h => f.rol a xs (e.rol a xs h)
  exc := fun a o x h => f.exc a o x (e.exc a o x h)

mutual
theorem VR.ext (e : Ext K ι H ι' H') : ∀ (d : D) (v : V), VR K ι H v d → VR K ι' H' v d
  | .non, _, h => by cases h; exact .non
  | .bl b, _, h => by cases h; exact .bl b
  | .int b, _, h => by cases h; exact .int b
  | .str b, _, h => by cases h; exact .str b
  | .tg b, _, h => by cases h; exact .tg b
  | .tup ds, _, h => by
    cases h with
    | tup h1 h2 => exact .tup (e.tup _ _ h1) (VRs.ext e ds _ h2)
  | .ktp ds, _, h => by
    cases h with
    | ktp h1 h2 => exact .ktp h1 (VRs.ext e ds _ h2)
  | .rol ds, _, h => by
    cases h with
    | rol h1 h2 => exact .rol (e.rol _ _ h1) (VRs.ext e ds _ h2)
  | .obj n, _, h => by
    cases h with
    | obj h1 => exact .obj (e.pre _ _ h1)
  | .cls c, _, h => by cases h; exact .cls c
  | .exc C ns ds, _, h => by
    cases h with
    | exc h1 h2 h3 h4 h5 => exact .exc (e.exc _ _ rfl h1) h2 (e.exc _ _ rfl h3) h4 (VRs.ext e ds _ h5)
theorem VRs.ext (e : Ext K ι H ι' H') : ∀ (ds : List D) (vs : List V), VRs K ι H vs ds → VRs K ι' H' vs ds
  | [], _, h => by cases h; exact .nil
  | d :: ds, _, h => by
    cases h with
    | cons h1 h2 => exact .cons (VR.ext e d _ h1) (VRs.ext e ds _ h2)
end
/-! ### what items need -/
/-- what is read stays, whatever else changes -/
structure Ex0 (K : KX) (ι : List Addr) (H : Hp) (ι' : List Addr) (H' : Hp) : Prop where
  pre : ∀ (n : Nat) (a : Addr), ι[n]? = some a → ι'[n]? = some a
  tup : ∀ a xs, H a = some (.tup xs) → H' a = some (.tup xs)
  rol : ∀ a xs, RoL K H a xs → RoL K H' a xs
  exc : ∀ a o, XO o = true → H a = some o → H' a = some o
mutual
theorem VR.ex0 (e : Ex0 K ι H ι' H') : ∀ (d : D) (v : V), VR K ι H v d → VR K ι' H' v d
  | .non, _, h => by cases h; exact .non
  | .bl b, _, h => by cases h; exact .bl b
  | .int b, _, h => by cases h; exact .int b
  | .str b, _, h => by cases h; exact .str b
  | .tg b, _, h => by cases h; exact .tg b
  | .tup ds, _, h => by
    cases h with
    | tup h1 h2 => exact .tup (e.tup _ _ h1) (VRs.ex0 e ds _ h2)
  | .ktp ds, _, h => by
    cases h with
    | ktp h1 h2 => exact .ktp h1 (VRs.ex0 e ds _ h2)
  | .rol ds, _, h => by
    cases h with
    | rol h1 h2 => exact .rol (e.rol _ _ h1) (VRs.ex0 e ds _ h2)
  | .obj n, _, h => by
    cases h with
    | obj h1 => exact .obj (e.pre _ _ h1)
  | .cls c, _, h => by cases h; exact .cls c
  | .exc C ns ds, _, h => by
    cases h with
    | exc h1 h2 h3 h4 h5 => exact .exc (e.exc _ _ rfl h1) h2 (e.exc _ _ rfl h3) h4 (VRs.ex0 e ds _ h5)
theorem VRs.ex0 (e : Ex0 K ι H ι' H') : ∀ (ds : List D) (vs : List V), VRs K ι H vs ds → VRs K ι' H' vs ds
  | [], _, h => by cases h; exact .nil
  | d :: ds, _, h => by
    cases h with
    | cons h1 h2 => exact .cons (VR.ex0 e d _ h1) (VRs.ex0 e ds _ h2)
end
theorem VR.up0 {v : V} {d : D} (h : VR K ι H v d) (e : Ex0 K ι H ι' H') : VR K ι' H' v d := VR.ex0 e d v h
theorem VRs.up0 {vs : List V} {ds : List D} (h : VRs K ι H vs ds) (e : Ex0 K ι H ι' H') : VRs K ι' H' vs ds := VRs.ex0 e ds vs h
theorem Ext.to0 (e : Ext K ι H ι' H') : Ex0 K ι H ι' H' := ⟨e.pre, e.tup, e.rol, e.exc⟩
theorem Ex0.trans (e : Ex0 K ι H ι1 H1) (f : Ex0 K ι1 H1 ι2 H2) : Ex0 K ι H ι2 H2 := ⟨fun n a h => f.pre n a (e.pre n a h), fun a xs h => f.tup a xs (e.tup a xs h), fun a xs h => f.rol a xs (e.rol a xs h), fun a o x h => f.exc a o x (e.exc a o x h)⟩
theorem VR.up {v : V} {d : D} (h : VR K ι H v d) (e : Ext K ι H ι' H') : VR K ι' H' v d := VR.ext e d v h
theorem VRs.up {vs : List V} {ds : List D} (h : VRs K ι H vs ds) (e : Ext K ι H ι' H') : VRs K ι' H' vs ds := VRs.ext e ds vs h
theorem VRs.length : ∀ {ds : List D} {vs : List V}, VRs K ι H vs ds → vs.length = ds.length
  | [], _, h => by cases h; rfl
  | _ :: _, _, h => by
    cases h with
    | cons _ h2 => simp [VRs.length h2]
theorem VRs.get : ∀ {ds : List D} {vs : List V}, VRs K ι H vs ds → ∀ {i : Nat} {d : D}, ds[i]? = some d → ∃ v, vs[i]? = some v ∧ VR K ι H v d
  | [], _, h, i, d, e => by simp at e
  | d0 :: ds, _, h, 0, d, e => by
    cases h with
    | cons h1 h2 =>
      simp at e
      subst e
      exact ⟨_, rfl, h1⟩
  | d0 :: ds, _, h, i + 1, d, e => by
    cases h with
    | cons h1 h2 =>
      obtain ⟨v, q, r⟩ := VRs.get h2 (i := i) (d := d) (by simpa using e)
      exact ⟨v, by simpa using q, r⟩
theorem VRs.append : ∀ {ds es : List D} {vs ws : List V}, VRs K ι H vs ds → VRs K ι H ws es → VRs K ι H (vs ++ ws) (ds ++ es)
  | [], _, _, _, h, g => by cases h; exact g
  | _ :: _, _, _, _, h, g => by
    cases h with
    | cons h1 h2 => exact .cons h1 (VRs.append h2 g)
theorem VRs.take : ∀ {ds : List D} {vs : List V} (n : Nat), VRs K ι H vs ds → VRs K ι H (vs.take n) (ds.take n)
  | _, _, 0, _ => by simp; exact .nil
  | [], _, _ + 1, h => by cases h; exact .nil
  | _ :: _, _, n + 1, h => by
    cases h with
    | cons h1 h2 => exact .cons h1 (VRs.take n h2)
theorem VRs.drop : ∀ {ds : List D} {vs : List V} (n : Nat), VRs K ι H vs ds → VRs K ι H (vs.drop n) (ds.drop n)
  | _, _, 0, h => by simpa using h
  | [], _, _ + 1, h => by cases h; exact .nil
  | _ :: _, _, n + 1, h => by
    cases h with
    | cons h1 h2 => exact VRs.drop n h2
theorem VRs.set : ∀ {ds : List D} {vs : List V} {v : V} {d : D} (n : Nat), VRs K ι H vs ds → VR K ι H v d → VRs K ι H (vs.set n v) (ds.set n d)
  | [], _, _, _, _, h, _ => by cases h; exact .nil
  | _ :: _, _, _, _, 0, h, g => by
    cases h with
    | cons h1 h2 => exact .cons g h2
  | _ :: _, _, _, _, n + 1, h, g => by
    cases h with
    | cons h1 h2 => exact .cons h1 (VRs.set n h2 g)
theorem VRs.eraseIdx : ∀ {ds : List D} {vs : List V} (n : Nat), VRs K ι H vs ds → VRs K ι H (vs.eraseIdx n) (ds.eraseIdx n)
  | [], _, _, h => by cases h; exact .nil
  | _ :: _, _, 0, h => by
    cases h with
    | cons h1 h2 => exact h2
  | _ :: _, _, n + 1, h => by
    cases h with
    | cons h1 h2 => exact .cons h1 (VRs.eraseIdx n h2)
theorem VRs.reverse {ds : List D} {vs : List V} (h : VRs K ι H vs ds) : VRs K ι H vs.reverse ds.reverse := by
  induction ds generalizing vs with
  | nil => cases h; exact .nil
  | cons d ds ih =>
    cases h with
    | cons h1 h2 =>
      rw [List.reverse_cons, List.reverse_cons]
      exact (ih h2).append (.cons h1 .nil)
theorem VRs.mem {ds : List D} {vs : List V} (h : VRs K ι H vs ds) {v : V} (m : v ∈ vs) : ∃ d ∈ ds, VR K ι H v d := by
  induction ds generalizing vs with
  | nil => cases h; simp at m
  | cons d ds ih =>
    cases h with
    | cons h1 h2 =>
      rcases List.mem_cons.mp m with rfl | m
      · exact ⟨d, by simp, h1⟩
      · obtain ⟨e, q, r⟩ := ih h2 m
        exact ⟨e, by simp [q], r⟩

/-! ### objects -/
def inK (k : Key) (l : List Key) : Bool := l.any fun j => decide (j = k)
def OR (K : KX) (ι : List Addr) (H : Hp) (a : Addr) : O → Prop
  | .lst ds => ∃ vs, H a = some (.lst vs) ∧ VRs K ι H vs ds
  | .dK kvs => ∃ ws, H a = some (.dK ws) ∧ ws.map (·.1) = kvs.map (·.1) ∧ VRs K ι H (ws.map (·.2)) (kvs.map (·.2))
  | .dT kvs => ∃ ws, H a = some (.dT ws) ∧ ws.map (·.1) = kvs.map (·.1) ∧ VRs K ι H (ws.map (·.2)) (kvs.map (·.2))
  | .ins C fs => ∃ dx ws, H a = some (.ins (He.ga K.f C) dx ws) ∧ ws.map (·.1) = fs.map (·.1) ∧ VRs K ι H (ws.map (·.2)) (fs.map (·.2))
  | .set l => H a = some (SetK K.P K.w a (fun k => inK k l) l.length) ∧ l.Nodup
  | .lT od ws kvs => H a = some (.frz od (.dT ws)) ∧ ws.map (·.1) = kvs.map (·.1) ∧ VRs K ι H (ws.map (·.2)) (kvs.map (·.2))
theorem OR.up {a : Addr} {o : O} (h : OR K ι H a o) (e : Ext K ι H ι' H') (k : H' a = H a) : OR K ι' H' a o := by
  cases o with
  | lst ds => obtain ⟨vs, q, r⟩ := h; exact ⟨vs, k.trans q, r.up e⟩
  | dK ds => obtain ⟨vs, q, r1, r⟩ := h; exact ⟨vs, k.trans q, r1, r.up e⟩
  | dT ds => obtain ⟨vs, q, r1, r⟩ := h; exact ⟨vs, k.trans q, r1, r.up e⟩
  | ins C fs => obtain ⟨dx, vs, q, r1, r⟩ := h; exact ⟨dx, vs, k.trans q, r1, r.up e⟩
  | set l => exact ⟨k.trans h.1, h.2⟩
  | lT od ws kvs => obtain ⟨q, r1, r⟩ := h; exact ⟨k.trans q, r1, r.up e⟩
theorem OR.live {a : Addr} {o : O} (h : OR K ι H a o) : H a ≠ none := by
  cases o with
  | lst ds => obtain ⟨vs, q, _⟩ := h; rw [q]; simp
  | dK ds => obtain ⟨vs, q, _⟩ := h; rw [q]; simp
  | dT ds => obtain ⟨vs, q, _⟩ := h; rw [q]; simp
  | ins C fs => obtain ⟨dx, vs, q, _⟩ := h; rw [q]; simp
  | set l => rw [h.1]; simp
  | lT od ws kvs => rw [h.1]; simp
/-- the store as the heap has it -/
structure RS (K : KX) (ι : List Addr) (H : Hp) (S : Sto) : Prop where
  len : ι.length = S.length
  nd : ∀ (n m : Nat) (a : Addr), ι[n]? = some a → ι[m]? = some a → n = m
  ob : ∀ (n : Nat) (a : Addr) (o : O), ι[n]? = some a → S[n]? = some o → OR K ι H a o
theorem RS.at {S : Sto} (R : RS K ι H S) {n : Nat} {o : O} (h : S[n]? = some o) : ∃ a, ι[n]? = some a ∧ OR K ι H a o := by
  have hn : n < ι.length := by
    rw [R.len]
    exact (List.getElem?_eq_some_iff.mp h).1
  exact ⟨ι[n], List.getElem?_eq_getElem hn, R.ob n _ o (List.getElem?_eq_getElem hn) h⟩
theorem RS.out {S : Sto} (R : RS K ι H S) {p : Addr} (h : H p = none) : p ∉ ι := fun m => by
  obtain ⟨n, hn⟩ := List.getElem?_of_mem m
  have hs : n < S.length := by
    rw [← R.len]
    exact (List.getElem?_eq_some_iff.mp hn).1
  exact (R.ob n p S[n] hn (List.getElem?_eq_getElem hs)).live h
/-- a fresh address is written: nothing that is read changes -/
theorem ext_fresh {p : Addr} {o : HO} (hp : H p = none) (hn : p ∉ ι) : Ext K ι H ι (upd H p o) where
  pre := fun _ _ h => h
  fresh := fun _ h h' => absurd h h'
  frame := fun a u _ h => by rw [upd_ne (ne_of_none h hp)]; exact h
  tup := fun a xs h => by rw [upd_ne (ne_of_none h hp)]; exact h
  rol := fun a xs h => by
    rcases h with ⟨u, h⟩ | h
    · exact .inl ⟨u, by rw [upd_ne (ne_of_none h hp)]; exact h⟩
    · exact .inr h
  exc := fun a u _ h => by rw [upd_ne (ne_of_none h hp)]; exact h
/-- .. and it gets a number -/
theorem ext_new {p : Addr} {o : HO} (hp : H p = none) (hn : p ∉ ι) : Ext K ι H (ι ++ [p]) (upd H p o) where
  pre := fun n a h => by rw [List.getElem?_append_left (List.getElem?_eq_some_iff.mp h).1]; exact h
  fresh := fun a h h' => by
    rcases List.mem_append.mp h with h | h
    · exact absurd h h'
    · rw [List.mem_singleton.mp h]; exact hp
  frame := (ext_fresh (K := K) (o := o) hp hn).frame
  tup := (ext_fresh (K := K) (o := o) hp hn).tup
  rol := (ext_fresh (o := o) hp hn).rol
  exc := (ext_fresh (K := K) (o := o) hp hn).exc
theorem RS.fresh {S : Sto} (R : RS K ι H S) {p : Addr} {o : HO} (hp : H p = none) : RS K ι (upd H p o) S where
  len := R.len
  nd := R.nd
  ob := fun n a u h1 h2 => (R.ob n a u h1 h2).up (ext_fresh hp (R.out hp)) (upd_ne fun z => R.out hp (z ▸ List.mem_of_getElem? h1))
theorem RS.new {S : Sto} (R : RS K ι H S) {p : Addr} {o : HO} {u : O} (hp : H p = none) (h : OR K (ι ++ [p]) (upd H p o) p u) : RS K (ι ++ [p]) (upd H p o) (S ++ [u]) where
  len := by simp [R.len]
  nd := fun n m a h1 h2 => by
    have out := R.out hp
    rw [List.getElem?_append] at h1 h2
    split at h1 <;> split at h2
    · exact R.nd n m a h1 h2
    · rename_i l1 l2
      have : a = p := by
        have z : m - ι.length = 0 := by
          have := (List.getElem?_eq_some_iff.mp h2).1
          simp at this; omega
        rw [z] at h2; simp at h2; exact h2.symm
      exact absurd (this ▸ List.mem_of_getElem? h1) out
    · rename_i l1 l2
      have : a = p := by
        have z : n - ι.length = 0 := by
          have := (List.getElem?_eq_some_iff.mp h1).1
          simp at this; omega
        rw [z] at h1; simp at h1; exact h1.symm
      exact absurd (this ▸ List.mem_of_getElem? h2) out
    · have z1 := (List.getElem?_eq_some_iff.mp h1).1
      have z2 := (List.getElem?_eq_some_iff.mp h2).1
      simp at z1 z2
      omega
  ob := fun n a v h1 h2 => by
    have out := R.out hp
    by_cases hn : n < ι.length
    · rw [List.getElem?_append_left hn] at h1
      rw [List.getElem?_append_left (by rw [← R.len]; exact hn)] at h2
      exact (R.ob n a v h1 h2).up (ext_new hp out) (upd_ne fun z => out (z ▸ List.mem_of_getElem? h1))
    · have z1 := (List.getElem?_eq_some_iff.mp h1).1
      have e : n = ι.length := by simp at z1; omega
      subst e
      rw [List.getElem?_append_right (Nat.le_refl _)] at h1
      rw [R.len, List.getElem?_append_right (Nat.le_refl _)] at h2
      simp at h1 h2
      subst h1 h2
      exact h
theorem VR.new {p : Addr} {H' : Hp} : VR K (ι ++ [p]) H' (.ref p) (.obj ι.length) := .obj (by simp)
/-- an object of the store is changed -/
theorem ext_write {n : Nat} {a : Addr} {o : HO} (hn : ι[n]? = some a) (h1 : ∀ xs, H a ≠ some (.tup xs)) (h2 : ∀ u v, H a ≠ some (.frz u v)) (h3 : ∀ u, H a ≠ some (.xd u)) : Ext K ι H ι (upd H a o) where
  pre := fun _ _ h => h
  fresh := fun _ h h' => absurd h h'
  frame := fun b u hb h => by
    have : b ≠ a := fun z => hb (z ▸ List.mem_of_getElem? hn)
    rw [upd_ne this]; exact h
  tup := fun b xs h => by rw [upd_ne (fun z => h1 xs (by rw [← z]; exact h))]; exact h
  rol := fun b xs h => by
    rcases h with ⟨u, h⟩ | h
    · exact .inl ⟨u, by rw [upd_ne (fun z => h2 _ _ (by rw [← z]; exact h))]; exact h⟩
    · exact .inr h
  exc := fun b u x h => by
    rw [upd_ne (fun z => ?_)]
    · exact h
    · rw [z] at h
      cases u with
      | xd fs => exact h3 _ h
      | frz o v => exact h2 _ _ h
      | _ => cases x
theorem RS.write {S : Sto} (R : RS K ι H S) {n : Nat} {a : Addr} {o : HO} {u : O} (hn : ι[n]? = some a) (h1 : ∀ xs, H a ≠ some (.tup xs)) (h2 : ∀ u v, H a ≠ some (.frz u v)) (h3 : ∀ u, H a ≠ some (.xd u)) (h : OR K ι (upd H a o) a u) : RS K ι (upd H a o) (S.set n u) where
  len := by simp [R.len]
  nd := R.nd
  ob := fun m b v e1 e2 => by
    by_cases hm : m = n
    · subst hm
      have : b = a := Option.some.inj (e1.symm.trans hn)
      subst this
      have hl : m < S.length := by
        have := (List.getElem?_eq_some_iff.mp e2).1
        simpa using this
      rw [List.getElem?_set_self hl] at e2
      cases e2
      exact h
    · rw [List.getElem?_set_ne (Ne.symm hm)] at e2
      have hb : b ≠ a := fun z => hm (R.nd m n a (z ▸ e1) hn)
      exact (R.ob m b v e1 e2).up (ext_write hn h1 h2 h3) (upd_ne hb)
end

/-! ### slots -/
inductive SR (K : KX) (ι : List Addr) (H : Hp) : St → AS → Prop
  | nil : SR K ι H [] []
  | any {x : Option V} {σ : St} {a : AS} : SR K ι H σ a → SR K ι H (x :: σ) (none :: a)
  | val {v : V} {d : D} {σ : St} {a : AS} : VR K ι H v d → SR K ι H σ a → SR K ι H (some v :: σ) (some d :: a)
section
variable {K : KX} {ι ι' : List Addr} {H H' : Hp}
theorem SR.up {σ : St} {a : AS} (h : SR K ι H σ a) (e : Ext K ι H ι' H') : SR K ι' H' σ a := by
  induction h with
  | nil => exact .nil
  | any _ ih => exact .any ih
  | val h1 _ ih => exact .val (h1.up e) ih
theorem SR.get {σ : St} {a : AS} (h : SR K ι H σ a) : ∀ {i : Nat} {d : D}, a[i]? = some (some d) → ∃ v, σ[i]? = some (some v) ∧ VR K ι H v d := by
  induction h with
  | nil => intro i d e; simp at e
  | any _ ih =>
    intro i d e
    cases i with
    | zero => simp at e
    | succ i => obtain ⟨v, q, r⟩ := ih (by simpa using e); exact ⟨v, by simpa using q, r⟩
  | val h1 _ ih =>
    intro i d e
    cases i with
    | zero => simp at e; subst e; exact ⟨_, by simp, h1⟩
    | succ i => obtain ⟨v, q, r⟩ := ih (by simpa using e); exact ⟨v, by simpa using q, r⟩
theorem SR.set {σ : St} {a : AS} {v : V} {d : D} (h : SR K ι H σ a) (r : VR K ι H v d) (i : Nat) : SR K ι H (σ.set i (some v)) (a.set i (some d)) := by
  induction h generalizing i with
  | nil => exact .nil
  | any g ih =>
    cases i with
    | zero => exact .val r g
    | succ i => exact .any (ih i)
  | val h1 g ih =>
    cases i with
    | zero => exact .val r g
    | succ i => exact .val h1 (ih i)
theorem SR.unset {σ : St} {a : AS} (h : SR K ι H σ a) (i : Nat) (x : Option V) : SR K ι H (σ.set i x) (a.set i none) := by
  induction h generalizing i with
  | nil => exact .nil
  | any g ih =>
    cases i with
    | zero => exact .any g
    | succ i => exact .any (ih i)
  | val h1 g ih =>
    cases i with
    | zero => exact .any g
    | succ i => exact .val h1 (ih i)
theorem SR.forget {σ : St} {a : AS} (h : SR K ι H σ a) (i : Nat) : SR K ι H σ (a.set i none) := by
  induction h generalizing i with
  | nil => exact .nil
  | any g ih =>
    cases i with
    | zero => exact .any g
    | succ i => exact .any (ih i)
  | val h1 g ih =>
    cases i with
    | zero => exact .any g
    | succ i => exact .val h1 (ih i)
end

/-! ### the abstract readings -/
abbrev AE := AS → Sto → (D → Sto → Prop) → Prop
abbrev AT := AS → Sto → (Bool → Sto → Prop) → Prop
abbrev AA := AS → Sto → (List D → Sto → Prop) → Prop
structure AEnds where
  nx : AS → Sto → Prop
  rt : D → Sto → Prop
  bk : AS → Sto → Prop := fun _ _ => False
  ct : AS → Sto → Prop := fun _ _ => False
  ex : Str → List Str → List D → AS → Sto → Prop := fun _ _ _ _ _ => False
abbrev AX := AEnds → AS → Sto → Prop
abbrev AG := D → AS → Sto → (AS → Sto → Prop) → Prop
/-- where the def was entered -/
structure Bs where
  i : List Addr
  H : Hp
  W : WX
structure Good (K : KX) (B : Bs) (ι : List Addr) (σ : St) (H : Hp) (a : AS) (S : Sto) : Prop where
  ext : Ext K B.i B.H ι H
  rs : RS K ι H S
  sr : SR K ι H σ a
theorem Good.go {K : KX} {B : Bs} {ι ι' : List Addr} {σ : St} {H H' : Hp} {a : AS} {S S' : Sto} (g : Good K B ι σ H a S) (e : Ext K ι H ι' H') (r : RS K ι' H' S') : Good K B ι' σ H' a S' := ⟨g.ext.trans e, r, g.sr.up e⟩

/-- an exception in the air: its class and its fields -/
def XR (K : KX) (ι : List Addr) (H : Hp) (cls : Value) (d : Option Addr) (C : Str) (ns : List Str) (ds : List D) : Prop := cls = .ref (He.ga K.f C) ∧ ∃ dd ws, d = some dd ∧ H dd = some (.xd ws) ∧ ws.map (·.1) = ns ∧ VRs K ι H (ws.map (·.2)) ds
theorem XR.up {K : KX} {ι ι' : List Addr} {H H' : Hp} {cls : Value} {d : Option Addr} {C : Str} {ns : List Str} {ds : List D} (h : XR K ι H cls d C ns ds) (e : Ext K ι H ι' H') : XR K ι' H' cls d C ns ds := by
  obtain ⟨h1, dd, ws, h2, h3, h4, h5⟩ := h
  exact ⟨h1, dd, ws, h2, e.exc _ _ rfl h3, h4, h5.up e⟩
def eOf (K : KX) (B : Bs) (ae : AE) : TE := fun σ H Q => ∃ ι a S P, Good K B ι σ H a S ∧ ae a S P ∧
  ∀ ι' H' v d S', Ext K ι H ι' H' → RS K ι' H' S' → VR K ι' H' v d → P d S' → Q v H'
def tOf (K : KX) (B : Bs) (at_ : AT) : TT := fun σ H Q => ∃ ι a S P, Good K B ι σ H a S ∧ at_ a S P ∧
  ∀ ι' H' b S', Ext K ι H ι' H' → RS K ι' H' S' → P b S' → Q b H'
def aOf (K : KX) (B : Bs) (aa : AA) : TA := fun σ H Q => ∃ ι a S P, Good K B ι σ H a S ∧ aa a S P ∧
  ∀ ι' H' vs ds S', Ext K ι H ι' H' → RS K ι' H' S' → VRs K ι' H' vs ds → P ds S' → Q vs H'
def gOf (K : KX) (B : Bs) (ag : AG) : TG := fun v σ H Q => ∃ ι d a S P, Good K B ι σ H a S ∧ VR K ι H v d ∧ ag d a S P ∧
  ∀ ι' H' σ' a' S', Ext K ι H ι' H' → RS K ι' H' S' → SR K ι' H' σ' a' → P a' S' → Q σ' H'
structure EndsR (K : KX) (B : Bs) (ι : List Addr) (H : Hp) (AD : AEnds) (D : Ends) : Prop where
  nx : ∀ ι' H' σ' a' S', Ext K ι H ι' H' → RS K ι' H' S' → SR K ι' H' σ' a' → AD.nx a' S' → D.nx σ' H'
  rt : ∀ ι' H' v d S', Ext K ι H ι' H' → RS K ι' H' S' → VR K ι' H' v d → AD.rt d S' → D.rt v H'
  bk : ∀ ι' H' σ' a' S', Ext K ι H ι' H' → RS K ι' H' S' → SR K ι' H' σ' a' → AD.bk a' S' → D.bk σ' H'
  ct : ∀ ι' H' σ' a' S', Ext K ι H ι' H' → RS K ι' H' S' → SR K ι' H' σ' a' → AD.ct a' S' → D.ct σ' H'
  ex : ∀ ι' H' σ' a' S' cls d C ns ds, Ext K ι H ι' H' → RS K ι' H' S' → SR K ι' H' σ' a' → XR K ι' H' cls d C ns ds → AD.ex C ns ds a' S' → B.W cls d σ' H'
theorem EndsR.up {K : KX} {B : Bs} {ι ι1 : List Addr} {H H1 : Hp} {AD : AEnds} {D : Ends} (h : EndsR K B ι H AD D) (e : Ext K ι H ι1 H1) : EndsR K B ι1 H1 AD D :=
  ⟨fun _ _ _ _ _ f => h.nx _ _ _ _ _ (e.trans f), fun _ _ _ _ _ f => h.rt _ _ _ _ _ (e.trans f), fun _ _ _ _ _ f => h.bk _ _ _ _ _ (e.trans f), fun _ _ _ _ _ f => h.ct _ _ _ _ _ (e.trans f), fun _ _ _ _ _ _ _ _ _ _ f => h.ex _ _ _ _ _ _ _ _ _ _ (e.trans f)⟩
def sOf (K : KX) (B : Bs) (as : AX) : TS := fun D σ H => ∃ ι a S AD, Good K B ι σ H a S ∧ as AD a S ∧ EndsR K B ι H AD D

theorem PE.imp {X : Cx} {e : Expr} {t t' : TE} (h : PE X e t) (k : ∀ σ H Q, t' σ H Q → t σ H Q) : PE X e t' := ⟨fun pins s σ H Q I q => h.run pins s σ H Q I (k σ H Q q)⟩
theorem PT.imp {X : Cx} {e : Expr} {t t' : TT} (h : PT X e t) (k : ∀ σ H Q, t' σ H Q → t σ H Q) : PT X e t' := ⟨fun pins s σ H Q I q => h.run pins s σ H Q I (k σ H Q q)⟩
theorem PW.imp {X : Cx} {e : Expr} {t t' : TT} (h : PW X e t) (k : ∀ σ H Q, t' σ H Q → t σ H Q) : PW X e t' := ⟨fun w pins s σ H Q I q => h.run w pins s σ H Q I (k σ H Q q)⟩
theorem PA.imp {X : Cx} {e : List Expr} {t t' : TA} (h : PA X e t) (k : ∀ σ H Q, t' σ H Q → t σ H Q) : PA X e t' := ⟨fun pos pins s σ H Q I q => h.run pos pins s σ H Q I (k σ H Q q)⟩
theorem PS.imp {X : Cx} {e : Stmt} {t t' : TS} (h : PS X e t) (k : ∀ D σ H, t' D σ H → t D σ H) : PS X e t' := ⟨fun pins s σ H D I q => h.run pins s σ H D I (k D σ H q)⟩
theorem PSs.imp {X : Cx} {e : List Stmt} {t t' : TS} (h : PSs X e t) (k : ∀ D σ H, t' D σ H → t D σ H) : PSs X e t' := ⟨fun pins s σ H D I q => h.run pins s σ H D I (k D σ H q)⟩
theorem PG.imp {X : Cx} {e : Expr} {t t' : TG} (h : PG X e t) (k : ∀ v σ H Q, t' v σ H Q → t v σ H Q) : PG X e t' := ⟨fun pins s σ H v u Q I r q => h.run pins s σ H v u Q I r (k v σ H Q q)⟩
theorem PI.imp {X : Cx} {tg e : Expr} {t t' : TI} (h : PI X tg e t) (k : ∀ σ H Q, t' σ H Q → t σ H Q) : PI X tg e t' := ⟨fun pins s σ H Q I q => h.run pins s σ H Q I (k σ H Q q)⟩
end Ab

/-- how many units are free; nothing is said of what is handled -/
structure Ab.RmU (k : Nat) (A : PySem.Around) : Prop where
  un : A.units + 16 * k + 200 < PySem.cLine
theorem L2.Room.u {k : Nat} {A : PySem.Around} (r : L2.Room k A) : Ab.RmU k A := ⟨r.un⟩
namespace Ab
open PySem L2

/-! ### small words -/
def slot : AS → Nat → Option D
  | [], _ => none
  | x :: _, 0 => x
  | _ :: r, n + 1 => slot r n
theorem slot_get : ∀ {a : AS} {i : Nat} {d : D}, slot a i = some d → a[i]? = some (some d)
  | [], _, _, h => by cases h
  | x :: r, 0, d, h => by simp [slot] at h; simp [h]
  | x :: r, n + 1, d, h => by simpa using slot_get (a := r) (i := n) h
@[irreducible] def iteP (b : Bool) (A C : Prop) : Prop := if b = true then A else C
section
variable {b : Bool} {A C : Prop}
theorem iteP_def : iteP b A C = if b = true then A else C := by unfold iteP; rfl
theorem iteP_of (h : b = true → A) (g : b = false → C) : iteP b A C := by
  rw [iteP_def]
  cases b with
  | true => rw [if_pos rfl]; exact h rfl
  | false => rw [if_neg Bool.false_ne_true]; exact g rfl
theorem iteP_t (e : b = true) (h : A) : iteP b A C := iteP_of (fun _ => h) fun z => by rw [e] at z; cases z
theorem iteP_f (e : b = false) (h : C) : iteP b A C := iteP_of (fun z => by rw [e] at z; cases z) fun _ => h
theorem iteP_T (h : A) : iteP true A C := iteP_t rfl h
theorem iteP_F (h : C) : iteP false A C := iteP_f rfl h
end
/-- an object of the store -/
@[irreducible] def rdO (S : Sto) (n : Nat) (k : O → Prop) : Prop := ∃ o, S[n]? = some o ∧ k o
theorem rdO_of {S : Sto} {n : Nat} {k : O → Prop} {o : O} (h : S[n]? = some o) (q : k o) : rdO S n k := by unfold rdO; exact ⟨o, h, q⟩
theorem rdO_out {S : Sto} {n : Nat} {k : O → Prop} (h : rdO S n k) : ∃ o, S[n]? = some o ∧ k o := by unfold rdO at h; exact h
def isLst (o : O) (k : List D → Prop) : Prop := match o with
  | .lst l => k l
  | _ => False
def rdL (S : Sto) (n : Nat) (k : List D → Prop) : Prop := rdO S n fun o => isLst o k
theorem rdL_out {S : Sto} {n : Nat} {k : List D → Prop} (h : rdL S n k) : ∃ l, S[n]? = some (.lst l) ∧ k l := by
  obtain ⟨o, e, h⟩ := rdO_out h
  cases o with
  | lst l => exact ⟨l, e, h⟩
  | _ => exact h.elim
/-- the items of a list -/
def lstP (d : D) (S : Sto) (k : List D → Prop) : Prop := match d with
  | .obj n => rdL S n k
  | .rol l => k l
  | _ => False
/-- .. of a list or tuple -/
def seqP (d : D) (S : Sto) (k : List D → Prop) : Prop := match d with
  | .obj n => rdL S n k
  | .rol l => k l
  | .tup l => k l
  | .ktp l => k l
  | _ => False

section
variable {K : KX} {ι ι' : List Addr} {H H' : Hp} {S : Sto}
theorem lstP_out {v : V} {d : D} {k : List D → Prop} (R : RS K ι H S) (r : VR K ι H v d) (h : lstP d S k) : ∃ a vs ds, v = .ref a ∧ SqL K.f H a vs ∧ VRs K ι H vs ds ∧ k ds := by
  cases r with
  | obj e =>
    obtain ⟨l, q, h⟩ := rdL_out h
    obtain ⟨vs, q1, q2⟩ := R.ob _ _ _ e q
    exact ⟨_, vs, l, rfl, .of q1, q2, h⟩
  | rol h1 h2 => exact ⟨_, _, _, rfl, h1.sq, h2, h⟩
  | _ => exact h.elim
theorem seqP_out {v : V} {d : D} {k : List D → Prop} (R : RS K ι H S) (r : VR K ι H v d) (h : seqP d S k) : ∃ a vs ds, v = .ref a ∧ (SqL K.f H a vs ∨ SqT K.f H a vs) ∧ VRs K ι H vs ds ∧ k ds := by
  cases r with
  | obj e =>
    obtain ⟨l, q, h⟩ := rdL_out h
    obtain ⟨vs, q1, q2⟩ := R.ob _ _ _ e q
    exact ⟨_, vs, l, rfl, .inl (.of q1), q2, h⟩
  | rol h1 h2 => exact ⟨_, _, _, rfl, .inl h1.sq, h2, h⟩
  | tup h1 h2 => exact ⟨_, _, _, rfl, .inr (.of h1), h2, h⟩
  | ktp h1 h2 => exact ⟨_, _, _, rfl, .inr h1.sq, h2, h⟩
  | _ => exact h.elim
end

/-! ### readings: expressions -/
def aVar (i : Nat) : AE := fun a S P => match slot a i with | some d => P d S | none => False
def aC (d : D) : AE := fun _ S P => P d S
abbrev F2 := D → D → Sto → (D → Sto → Prop) → Prop
abbrev F1 := D → Sto → (D → Sto → Prop) → Prop
abbrev FN := List D → Sto → (D → Sto → Prop) → Prop
def aOp (f : F2) (x y : AE) : AE := fun a S P => x a S fun d S1 => y a S1 fun e S2 => f d e S2 P
def aUn (f : F1) (x : AE) : AE := fun a S P => x a S fun d S1 => f d S1 P
def aB (x : AE) : AT := fun a S P => x a S fun d S1 => match d with | .bl b => P b S1 | _ => False
def aAnd (t u : AT) : AT := fun a S P => t a S fun b S1 => iteP b (u a S1 P) (P false S1)
def aOr (t u : AT) : AT := fun a S P => t a S fun b S1 => iteP b (P true S1) (u a S1 P)
def aNot (t : AT) : AT := fun a S P => t a S fun b S1 => P (!b) S1
def aAndV (x y : AE) : AE := fun a S P => x a S fun d S1 => match d with | .bl b => iteP b (y a S1 P) (P (.bl false) S1) | _ => False
def aOrV (x y : AE) : AE := fun a S P => x a S fun d S1 => match d with | .bl b => iteP b (P (.bl true) S1) (y a S1 P) | _ => False
def aNotV (x : AE) : AE := fun a S P => x a S fun d S1 => match d with | .bl b => P (.bl (!b)) S1 | _ => False
def aIf (t : AT) (x y : AE) : AE := fun a S P => t a S fun b S1 => iteP b (x a S1 P) (y a S1 P)
def aNil : AA := fun _ S P => P [] S
def aCons (x : AE) (r : AA) : AA := fun a S P => x a S fun d S1 => r a S1 fun ds S2 => P (d :: ds) S2
def aTup (r : AA) : AE := fun a S P => r a S fun ds S1 => ds.length ≤ sizeLine ∧ P (.tup ds) S1
def aLst (r : AA) : AE := fun a S P => r a S fun ds S1 => ds.length ≤ sizeLine ∧ P (.obj S1.length) (S1 ++ [.lst ds])
def aCall (f : FN) (r : AA) : AE := fun a S P => r a S fun ds S1 => f ds S1 P

/-- what a rule by values becomes -/
def OpA (K : KX) (r : R2) (f : F2) : Prop := ∀ (ι : List Addr) (H : Hp) (S : Sto) (x y : V) (d e : D) (P : D → Sto → Prop) (Q : VK), RS K ι H S → VR K ι H x d → VR K ι H y e → f d e S P →
  (∀ ι' H' v d S', Ext K ι H ι' H' → RS K ι' H' S' → VR K ι' H' v d → P d S' → Q v H') → r x y H Q
def UnA (K : KX) (r : V → Hp → VK → Prop) (f : F1) : Prop := ∀ (ι : List Addr) (H : Hp) (S : Sto) (x : V) (d : D) (P : D → Sto → Prop) (Q : VK), RS K ι H S → VR K ι H x d → f d S P →
  (∀ ι' H' v d S', Ext K ι H ι' H' → RS K ι' H' S' → VR K ι' H' v d → P d S' → Q v H') → r x H Q
def CallA (K : KX) (r : List V → Hp → VK → Prop) (f : FN) : Prop := ∀ (ι : List Addr) (H : Hp) (S : Sto) (xs : List V) (ds : List D) (P : D → Sto → Prop) (Q : VK), RS K ι H S → VRs K ι H xs ds → f ds S P →
  (∀ ι' H' v d S', Ext K ι H ι' H' → RS K ι' H' S' → VR K ι' H' v d → P d S' → Q v H') → r xs H Q

section
variable {X : Cx} {B : Bs} {a b : Expr} {pos : Pos} {x y : AE}
theorem av (i : Nat) {n : Str} {pos : Pos} (hN : X.N[i]? = some n := by rfl) (hv : Vis X.env.scope n := by first | exact Or.inl rfl | exact Or.inr (Or.inl rfl) | exact Or.inr (Or.inr rfl)) (hd : (n == ("__debug__" : Str)) = false := by decide)
    (hcd : (n == ("__classdict__" : Str)) = false := by decide) : PE X (.Name n pos) (eOf (kx X) B (aVar i)) := by
  refine PE.imp (pe_var hN hv hd hcd) fun σ H Q h => ?_
  obtain ⟨ι, a, S, P, g, h, k⟩ := h
  unfold aVar at h
  split at h
  · rename_i d e
    obtain ⟨v, q, r⟩ := g.sr.get (slot_get e)
    exact ⟨v, q, k ι H v d S .refl g.rs r h⟩
  · exact h.elim
theorem a_c {e : Expr} {v : V} {d : D} (h : PE X e (tC v)) (r : ∀ ι H, VR (kx X) ι H v d) : PE X e (eOf (kx X) B (aC d)) := PE.imp h fun σ H Q ⟨ι, a, S, P, g, h, k⟩ => k ι H v d S .refl g.rs (r ι H) h
theorem a_int {i j pos} : PE X (.Constant (.int i) j pos) (eOf (kx X) B (aC (.int i))) := a_c pe_int fun _ _ => .int i
theorem a_bl {i j pos} : PE X (.Constant (.bool i) j pos) (eOf (kx X) B (aC (.bl i))) := a_c pe_bl fun _ _ => .bl i
theorem a_non {j pos} : PE X (.Constant .none j pos) (eOf (kx X) B (aC .non)) := a_c pe_non fun _ _ => .non
theorem a_str {i j pos} : PE X (.Constant (.str i) j pos) (eOf (kx X) B (aC (.str i))) := a_c pe_str fun _ _ => .str i

/-- two readings in a row -/
theorem two {σ : L2.St} {H : Hp} {Q : VK} {r : R2} {f : F2} (ho : OpA (kx X) r f) (h : eOf (kx X) B (aOp f x y) σ H Q) : tOp r (eOf (kx X) B x) (eOf (kx X) B y) σ H Q := by
  obtain ⟨ι, a, S, P, g, h, k⟩ := h
  refine ⟨ι, a, S, _, g, h, fun ι1 H1 v d S1 e1 r1 v1 h1 => ?_⟩
  refine ⟨ι1, a, S1, _, g.go e1 r1, h1, fun ι2 H2 w e S2 e2 r2 v2 h2 => ?_⟩
  exact ho ι2 H2 S2 v w d e P Q r2 (v1.up e2) v2 h2 fun ι3 H3 u z S3 e3 r3 v3 h3 => k ι3 H3 u z S3 ((e1.trans e2).trans e3) r3 v3 h3
theorem a_op {op : Operator} {r : R2} {f : F2} (ho : OpR X (binaryOp op) r) (hf : OpA (kx X) r f) (ha : PE X a (eOf (kx X) B x)) (hb : PE X b (eOf (kx X) B y)) : PE X (.BinOp a op b pos) (eOf (kx X) B (aOp f x y)) :=
  PE.imp (pe_op ho ha hb) fun _ _ _ h => two hf h
theorem a_un {op : UnaryOp} {r : V → Hp → VK → Prop} {f : F1} (ho : UnR X (unaryOp op) r) (hf : UnA (kx X) r f) (ha : PE X a (eOf (kx X) B x)) : PE X (.UnaryOp op a pos) (eOf (kx X) B (aUn f x)) := by
  refine PE.imp (pe_un ho ha) fun σ H Q h => ?_
  obtain ⟨ι, a, S, P, g, h, k⟩ := h
  refine ⟨ι, a, S, _, g, h, fun ι1 H1 v d S1 e1 r1 v1 h1 => ?_⟩
  exact hf ι1 H1 S1 v d P Q r1 v1 h1 fun ι3 H3 u z S3 e3 r3 v3 h3 => k ι3 H3 u z S3 (e1.trans e3) r3 v3 h3
theorem a_cmp {op : CmpOp} {r : R2} {f : F2} (ho : OpR X (compareOp op) r) (hf : OpA (kx X) r f) (ha : PE X a (eOf (kx X) B x)) (hb : PE X b (eOf (kx X) B y)) (hm : behindInMarks op b = false := by first | exact nomark _ | rfl) : PE X (.Compare a [op] [b] pos) (eOf (kx X) B (aOp f x y)) :=
  PE.imp (pe_cmpR ho ha hb hm) fun _ _ _ h => two hf h
theorem q_cmp {op : CmpOp} {r : R2} {f : F2} (ho : OpR X (compareOp op) r) (hf : OpA (kx X) r f) (ha : PE X a (eOf (kx X) B x)) (hb : PE X b (eOf (kx X) B y)) (hm : behindInMarks op b = false := by first | exact nomark _ | rfl) : PT X (.Compare a [op] [b] pos) (tOf (kx X) B (aB (aOp f x y))) := by
  refine PT.imp (pt_cmpR ho ha hb hm) fun σ H Q h => ?_
  obtain ⟨ι, a, S, P, g, h, k⟩ := h
  refine two (x := x) (y := y) hf ⟨ι, a, S, _, g, h, fun ι1 H1 v d S1 e1 r1 v1 h1 => ?_⟩
  cases v1 with
  | bl b => exact ⟨b, rfl, k ι1 H1 b S1 e1 r1 h1⟩
  | _ => exact h1.elim
/-- a value that is True or False, as a test -/
theorem q_val {e : Expr} (h : PE X e (eOf (kx X) B x)) (he : ∀ whole, isTrue e X.env whole = (do let v ← whole; standAt e.pos; holding [v] (truthy v)) := by intro _; rfl) : PT X e (tOf (kx X) B (aB x)) := by
  refine PT.imp (pt_val h he) fun σ H Q h => ?_
  obtain ⟨ι, a, S, P, g, h, k⟩ := h
  refine ⟨ι, a, S, _, g, h, fun ι1 H1 v d S1 e1 r1 v1 h1 => ?_⟩
  cases v1 with
  | bl b => exact ⟨b, rfl, k ι1 H1 b S1 e1 r1 h1⟩
  | _ => exact h1.elim
variable {t u : AT} {rest : List Expr}
theorem qw_and1 (ha : PT X a (tOf (kx X) B t)) : PW X (.BoolOp .And [a] pos) (tOf (kx X) B t) := pw_and1 ha
theorem qw_or1 (ha : PT X a (tOf (kx X) B t)) : PW X (.BoolOp .Or [a] pos) (tOf (kx X) B t) := pw_or1 ha
theorem qw_and (ha : PT X a (tOf (kx X) B t)) (hb : PW X (.BoolOp .And (b :: rest) pos) (tOf (kx X) B u)) : PW X (.BoolOp .And (a :: b :: rest) pos) (tOf (kx X) B (aAnd t u)) := by
  refine PW.imp (pw_and ha hb) fun σ H Q h => ?_
  obtain ⟨ι, a, S, P, g, h, k⟩ := h
  refine ⟨ι, a, S, _, g, h, fun ι1 H1 c S1 e1 r1 h1 => ?_⟩
  rw [iteP_def] at h1
  cases c with
  | true =>
    rw [if_pos rfl] at h1 ⊢
    exact ⟨ι1, a, S1, P, g.go e1 r1, h1, fun ι2 H2 c S2 e2 r2 h2 => k ι2 H2 c S2 (e1.trans e2) r2 h2⟩
  | false =>
    rw [if_neg Bool.false_ne_true] at h1 ⊢
    exact k ι1 H1 false S1 e1 r1 h1
theorem qw_or (ha : PT X a (tOf (kx X) B t)) (hb : PW X (.BoolOp .Or (b :: rest) pos) (tOf (kx X) B u)) : PW X (.BoolOp .Or (a :: b :: rest) pos) (tOf (kx X) B (aOr t u)) := by
  refine PW.imp (pw_or ha hb) fun σ H Q h => ?_
  obtain ⟨ι, a, S, P, g, h, k⟩ := h
  refine ⟨ι, a, S, _, g, h, fun ι1 H1 c S1 e1 r1 h1 => ?_⟩
  rw [iteP_def] at h1
  cases c with
  | false =>
    rw [if_neg Bool.false_ne_true] at h1 ⊢
    exact ⟨ι1, a, S1, P, g.go e1 r1, h1, fun ι2 H2 c S2 e2 r2 h2 => k ι2 H2 c S2 (e1.trans e2) r2 h2⟩
  | true =>
    rw [if_pos rfl] at h1 ⊢
    exact k ι1 H1 true S1 e1 r1 h1
theorem q_not (ha : PT X a (tOf (kx X) B t)) : PT X (.UnaryOp .Not a pos) (tOf (kx X) B (aNot t)) := by
  refine PT.imp (pt_not ha) fun σ H Q h => ?_
  obtain ⟨ι, a, S, P, g, h, k⟩ := h
  exact ⟨ι, a, S, _, g, h, fun ι1 H1 c S1 e1 r1 h1 => k ι1 H1 (!c) S1 e1 r1 h1⟩
theorem a_one {op} (h : PE X a (eOf (kx X) B x)) : PE X (.BoolOp op [a] pos) (eOf (kx X) B x) := pe_one h
theorem a_and (ha : PE X a (eOf (kx X) B x)) (hb : PE X (.BoolOp .And (b :: rest) pos) (eOf (kx X) B y)) : PE X (.BoolOp .And (a :: b :: rest) pos) (eOf (kx X) B (aAndV x y)) := by
  refine PE.imp (pe_and ha hb) fun σ H Q h => ?_
  obtain ⟨ι, a, S, P, g, h, k⟩ := h
  refine ⟨ι, a, S, _, g, h, fun ι1 H1 v d S1 e1 r1 v1 h1 => ?_⟩
  cases v1 with
  | bl c =>
    refine ⟨c, rfl, ?_⟩
    have h1 : iteP c _ _ := h1
    rw [iteP_def] at h1
    cases c with
    | true =>
      rw [if_pos rfl] at h1 ⊢
      exact ⟨ι1, a, S1, P, g.go e1 r1, h1, fun ι2 H2 c d S2 e2 r2 v2 h2 => k ι2 H2 c d S2 (e1.trans e2) r2 v2 h2⟩
    | false =>
      rw [if_neg Bool.false_ne_true] at h1 ⊢
      exact k ι1 H1 _ _ S1 e1 r1 (.bl false) h1
  | _ => exact h1.elim
theorem a_or (ha : PE X a (eOf (kx X) B x)) (hb : PE X (.BoolOp .Or (b :: rest) pos) (eOf (kx X) B y)) : PE X (.BoolOp .Or (a :: b :: rest) pos) (eOf (kx X) B (aOrV x y)) := by
  refine PE.imp (pe_or ha hb) fun σ H Q h => ?_
  obtain ⟨ι, a, S, P, g, h, k⟩ := h
  refine ⟨ι, a, S, _, g, h, fun ι1 H1 v d S1 e1 r1 v1 h1 => ?_⟩
  cases v1 with
  | bl c =>
    refine ⟨c, rfl, ?_⟩
    have h1 : iteP c _ _ := h1
    rw [iteP_def] at h1
    cases c with
    | false =>
      rw [if_neg Bool.false_ne_true] at h1 ⊢
      exact ⟨ι1, a, S1, P, g.go e1 r1, h1, fun ι2 H2 c d S2 e2 r2 v2 h2 => k ι2 H2 c d S2 (e1.trans e2) r2 v2 h2⟩
    | true =>
      rw [if_pos rfl] at h1 ⊢
      exact k ι1 H1 _ _ S1 e1 r1 (.bl true) h1
  | _ => exact h1.elim
theorem a_not (ha : PE X a (eOf (kx X) B x)) : PE X (.UnaryOp .Not a pos) (eOf (kx X) B (aNotV x)) := by
  refine PE.imp (pe_not ha) fun σ H Q h => ?_
  obtain ⟨ι, a, S, P, g, h, k⟩ := h
  refine ⟨ι, a, S, _, g, h, fun ι1 H1 v d S1 e1 r1 v1 h1 => ?_⟩
  cases v1 with
  | bl c => exact ⟨c, rfl, k ι1 H1 _ _ S1 e1 r1 (.bl (!c)) h1⟩
  | _ => exact h1.elim
theorem a_if {c : Expr} (hc : PT X c (tOf (kx X) B t)) (ha : PE X a (eOf (kx X) B x)) (hb : PE X b (eOf (kx X) B y)) : PE X (.IfExp c a b pos) (eOf (kx X) B (aIf t x y)) := by
  refine PE.imp (pe_ifExp hc ha hb) fun σ H Q h => ?_
  obtain ⟨ι, a, S, P, g, h, k⟩ := h
  refine ⟨ι, a, S, _, g, h, fun ι1 H1 c S1 e1 r1 h1 => ?_⟩
  rw [iteP_def] at h1
  cases c with
  | true =>
    rw [if_pos rfl] at h1 ⊢
    exact ⟨ι1, a, S1, P, g.go e1 r1, h1, fun ι2 H2 c d S2 e2 r2 v2 h2 => k ι2 H2 c d S2 (e1.trans e2) r2 v2 h2⟩
  | false =>
    rw [if_neg Bool.false_ne_true] at h1 ⊢
    exact ⟨ι1, a, S1, P, g.go e1 r1, h1, fun ι2 H2 c d S2 e2 r2 v2 h2 => k ι2 H2 c d S2 (e1.trans e2) r2 v2 h2⟩

/-! ### argument lists, displays, calls -/
variable {es : List Expr} {e : Expr} {z : AA}
theorem l_nil : PA X [] (aOf (kx X) B aNil) := PA.imp pa_nil fun σ H Q ⟨ι, a, S, P, g, h, k⟩ => k ι H [] [] S .refl g.rs .nil h
theorem l_cons (ha : PE X e (eOf (kx X) B x)) (hr : PA X es (aOf (kx X) B z)) (hs : starEach (e :: es) X.env = (false, eval e X.env) :: starEach es X.env := by rfl) : PA X (e :: es) (aOf (kx X) B (aCons x z)) := by
  refine PA.imp (pa_cons ha hr hs) fun σ H Q h => ?_
  obtain ⟨ι, a, S, P, g, h, k⟩ := h
  refine ⟨ι, a, S, _, g, h, fun ι1 H1 v d S1 e1 r1 v1 h1 => ?_⟩
  refine ⟨ι1, a, S1, _, g.go e1 r1, h1, fun ι2 H2 vs ds S2 e2 r2 v2 h2 => ?_⟩
  exact k ι2 H2 _ _ S2 (e1.trans e2) r2 (.cons (v1.up e2) v2) h2
theorem new_tup {K : KX} {ι : List Addr} {H : Hp} {S : Sto} {vs : List V} {ds : List D} {p : Addr} (r : RS K ι H S) (hp : H p = none) (v : VRs K ι H vs ds) :
    Ext K ι H ι (upd H p (.tup vs)) ∧ RS K ι (upd H p (.tup vs)) S ∧ VR K ι (upd H p (.tup vs)) (.ref p) (.tup ds) :=
  have e := ext_fresh (K := K) (o := .tup vs) hp (r.out hp)
  ⟨e, r.fresh hp, .tup upd_same (v.up e)⟩
theorem new_lst {K : KX} {ι : List Addr} {H : Hp} {S : Sto} {vs : List V} {ds : List D} {p : Addr} (r : RS K ι H S) (hp : H p = none) (v : VRs K ι H vs ds) :
    Ext K ι H (ι ++ [p]) (upd H p (.lst vs)) ∧ RS K (ι ++ [p]) (upd H p (.lst vs)) (S ++ [.lst ds]) ∧ VR K (ι ++ [p]) (upd H p (.lst vs)) (.ref p) (.obj S.length) :=
  have e := ext_new (K := K) (o := .lst vs) hp (r.out hp)
  ⟨e, r.new hp ⟨vs, upd_same, v.up e⟩, by rw [← r.len]; exact VR.new⟩
theorem a_tup {x1} (h : PA X es (aOf (kx X) B z)) : PE X (.Tuple es x1 pos) (eOf (kx X) B (aTup z)) := by
  refine PE.imp (pe_tup h) fun σ H Q h => ?_
  obtain ⟨ι, a, S, P, g, h, k⟩ := h
  refine ⟨ι, a, S, _, g, h, fun ι1 H1 vs ds S1 e1 r1 v1 h1 => ⟨by rw [v1.length]; exact h1.1, fun p hp => ?_⟩⟩
  obtain ⟨e2, r2, v2⟩ := new_tup r1 hp v1
  exact k _ _ _ _ _ (e1.trans e2) r2 v2 h1.2
theorem a_lst (h : PA X es (aOf (kx X) B z)) : PE X (.List es pos) (eOf (kx X) B (aLst z)) := by
  refine PE.imp (pe_lst h) fun σ H Q h => ?_
  obtain ⟨ι, a, S, P, g, h, k⟩ := h
  refine ⟨ι, a, S, _, g, h, fun ι1 H1 vs ds S1 e1 r1 v1 h1 => ⟨by rw [v1.length]; exact h1.1, fun p hp => ?_⟩⟩
  obtain ⟨e2, r2, v2⟩ := new_lst r1 hp v1
  exact k _ _ _ _ _ (e1.trans e2) r2 v2 h1.2
theorem two_call {σ : L2.St} {H : Hp} {Q : VK} {r : List V → Hp → VK → Prop} {f : FN} (ho : CallA (kx X) r f) (h : eOf (kx X) B (aCall f z) σ H Q) : tCB r (aOf (kx X) B z) σ H Q := by
  obtain ⟨ι, a, S, P, g, h, k⟩ := h
  refine ⟨ι, a, S, _, g, h, fun ι1 H1 vs ds S1 e1 r1 v1 h1 => ?_⟩
  exact ho ι1 H1 S1 vs ds P Q r1 v1 h1 fun ι3 H3 u z S3 e3 r3 v3 h3 => k ι3 H3 u z S3 (e1.trans e3) r3 v3 h3
theorem a_callB {id : String} {n : Str} {p : Pos} {r : List V → Hp → VK → Prop} {f : FN} (hc : CallR X (.builtin id) r) (hf : CallA (kx X) r f) (hm : X.mg n = none) (ha : PA X (e :: es) (aOf (kx X) B z)) (hg : Gl X n := by rfl) (hv : bootBuiltins n = some (.builtin id) := by decide +kernel)
    (hn : n ≠ "__name__" := by decide) (hdb : (n == ("__debug__" : Str)) = false := by decide) (he : starEach (e :: es) X.env = (false, eval e X.env) :: starEach es X.env := by rfl) (hpl : (backTo pos (starEach es X.env)).any (·.1) = false := by rfl) :
    PE X (.Call (.Name n p) (e :: es) [] pos) (eOf (kx X) B (aCall f z)) := PE.imp (pe_callB hc hg hm hv ha hn hdb he hpl) fun _ _ _ h => two_call hf h
theorem a_callTy {T : String} {n : Str} {p : Pos} {r : List V → Hp → VK → Prop} {f : FN} (hc : CallR X (.type T) r) (hf : CallA (kx X) r f) (hm : X.mg n = none) (ha : PA X (e :: es) (aOf (kx X) B z)) (hg : Gl X n := by rfl) (hv : bootBuiltins n = some (.type T) := by decide +kernel)
    (hn : n ≠ "__name__" := by decide) (hdb : (n == ("__debug__" : Str)) = false := by decide) (he : starEach (e :: es) X.env = (false, eval e X.env) :: starEach es X.env := by rfl) (hpl : (backTo pos (starEach es X.env)).any (·.1) = false := by rfl) :
    PE X (.Call (.Name n p) (e :: es) [] pos) (eOf (kx X) B (aCall f z)) := PE.imp (pe_callTy hc hg hm hv ha hn hdb he hpl) fun _ _ _ h => two_call hf h
end

/-! ### a def's promise -/
def ar0 (f : Sto → (D → Sto → Prop) → Prop) : FN := fun ds S P => match ds with | [] => f S P | _ => False
def ar1 (f : D → Sto → (D → Sto → Prop) → Prop) : FN := fun ds S P => match ds with | [x] => f x S P | _ => False
def ar2 (f : D → D → Sto → (D → Sto → Prop) → Prop) : FN := fun ds S P => match ds with | [x, y] => f x y S P | _ => False
def ar3 (f : D → D → D → Sto → (D → Sto → Prop) → Prop) : FN := fun ds S P => match ds with | [x, y, z] => f x y z S P | _ => False
def ar4 (f : D → D → D → D → Sto → (D → Sto → Prop) → Prop) : FN := fun ds S P => match ds with | [x, y, z, u] => f x y z u S P | _ => False
def ar5 (f : D → D → D → D → D → Sto → (D → Sto → Prop) → Prop) : FN := fun ds S P => match ds with | [x, y, z, u, v] => f x y z u v S P | _ => False
def Ar (n : Nat) (f : FN) : Prop := ∀ ds S P, f ds S P → ds.length = n
theorem ar0_len {f} : Ar 0 (ar0 f) := fun ds S P h => by match ds, h with | [], _ => rfl
theorem ar1_len {f} : Ar 1 (ar1 f) := fun ds S P h => by match ds, h with | [_], _ => rfl
theorem ar2_len {f} : Ar 2 (ar2 f) := fun ds S P h => by match ds, h with | [_, _], _ => rfl
theorem ar3_len {f} : Ar 3 (ar3 f) := fun ds S P h => by match ds, h with | [_, _, _], _ => rfl
theorem ar4_len {f} : Ar 4 (ar4 f) := fun ds S P h => by match ds, h with | [_, _, _, _], _ => rfl
theorem ar5_len {f} : Ar 5 (ar5 f) := fun ds S P h => by match ds, h with | [_, _, _, _, _], _ => rfl
def spOf (K : KX) (f : FN) : Sp := fun vs H Q _ => ∃ ι ds S P, RS K ι H S ∧ VRs K ι H vs ds ∧ f ds S P ∧
  ∀ ι' H' v d S', Ext K ι H ι' H' → RS K ι' H' S' → VR K ι' H' v d → P d S' → Q v H'
section
variable {P : Program} {w : World} {K : PySem.W.Frag} {mg : Str → Option Value} {base : Heap}
/-- the def at f keeps the promise -/
abbrev AOk (P : Program) (w : World) (K : PySem.W.Frag) (mg : Str → Option Value) (base : Heap) (k : Nat) (f : Addr) (fd : FuncData) (ps : List Str) (sp : FN) : Prop := FnOk P w K mg base CX0 k f fd ps (spOf ⟨K, P, w⟩ sp)
theorem sr_start {K : KX} {ι : List Addr} {H : Hp} : ∀ {vs : List V} {ds : List D} (n : Nat), VRs K ι H vs ds → SR K ι H (vs.map some ++ List.replicate n none) (ds.map some ++ List.replicate n none)
  | _, [], n, h => by
    cases h
    induction n with
    | zero => exact .nil
    | succ n ih => exact .any ih
  | _, _ :: _, n, h => by
    cases h with
    | cons h1 h2 => exact .val h1 (sr_start n h2)
def aStart (n : Nat) (ds : List D) : AS := ds.map some ++ List.replicate (n - ds.length) none
theorem aok {x qual : Str} {st : Stmt} {f : Addr} {fd : FuncData} {N ps : List Str} {k n : Nat} {sp : FN} {as : AX} (F : Fun K x qual st f fd) (C : FnScope N ps (defScope st)) (len : Ar ps.length sp) (hn : N.length = n)
    (hbody : ∀ (cdv : Value) (A : Around) (outer : List Env) (s : Shared) (H : Hp) (E : XK) (B : Bs), Room k (A.deeper (PyProof.Rows.envOfC qual (defScope st) s.heap.objs.size f cdv)) →
      PSs (cxOf CX0 P w K mg base N qual (defScope st) f cdv A outer s H E).nox (defBody st) (sOf ⟨K, P, w⟩ B as))
    (hsem : ∀ ds S P, sp ds S P → as { nx := fun _ S' => P .non S', rt := P } (aStart n ds) S) : AOk P w K mg base (k + 1) f fd ps sp := by
  refine F.ok C (fun vs H Q E h => ?_) (fun cdv A outer s H vs Q E hr h => ?_)
  · obtain ⟨ι, ds, S, P, _, v, h, _⟩ := h
    rw [v.length]
    exact len _ _ _ h
  · obtain ⟨ι, ds, S, Pq, r, v, h, k⟩ := h
    refine ⟨_, hbody cdv A outer s H E ⟨ι, H, fun _ _ _ _ => False⟩ hr, ?_⟩
    refine ⟨ι, aStart n ds, S, _, ⟨.refl, r, ?_⟩, hsem ds S Pq h, ⟨fun ι' H' σ' a' S' e1 r1 _ h1 => k _ _ _ _ _ e1 r1 .non h1, fun ι' H' v d S' e1 r1 v1 h1 => k _ _ _ _ _ e1 r1 v1 h1, fun _ _ _ _ _ _ _ _ h1 => h1, fun _ _ _ _ _ _ _ _ h1 => h1, fun _ _ _ _ _ _ _ _ _ _ _ _ _ _ h1 => h1⟩⟩
    show SR ⟨K, P, w⟩ ι H (vs.map some ++ List.replicate (N.length - vs.length) none) (aStart n ds)
    unfold aStart
    rw [v.length, hn]
    exact sr_start _ v
end
section
variable {X : Cx} {B : Bs} {f : Addr} {fd : FuncData} {ps : List Str} {sp : FN} {n : Str} {p pos : Pos} {e : Expr} {es : List Expr} {z : AA} {k : Nat}
theorem spOf_call {σ : L2.St} {H : Hp} {Q : VK} {dvs : List V} {dds : List D} (hd : ∀ ι H, VRs (kx X) ι H dvs dds) (h : eOf (kx X) B (aCall (fun ds => sp (ds ++ dds)) z) σ H Q) : tCall (spOf (kx X) sp) dvs E0 (aOf (kx X) B z) σ H Q := by
  obtain ⟨ι, a, S, P, g, h, k⟩ := h
  refine ⟨ι, a, S, _, g, h, fun ι1 H1 vs ds S1 e1 r1 v1 h1 => ?_⟩
  exact ⟨ι1, ds ++ dds, S1, P, r1, v1.append (hd _ _), h1, fun ι' H' v d S' e2 r2 v2 h2 => k _ _ _ _ _ (e1.trans e2) r2 v2 h2⟩
/-- f(e, ..) with every parameter given -/
theorem a_call (F : AOk X.prog X.w X.K X.mg X.base k f fd ps sp) (hr : Room k X.A) (hm : X.mg n = some (.ref f)) (hk : PySem.W.keepIn X.K (.ref f) = true) (hb : Binds X.K fd ps []) (ha : PA X (e :: es) (aOf (kx X) B z)) (hg : Gl X n := by rfl)
    (hdb : (n == ("__debug__" : Str)) = false := by decide) (he : starEach (e :: es) X.env = (false, eval e X.env) :: starEach es X.env := by rfl) (hpl : (backTo pos (starEach es X.env)).any (·.1) = false := by rfl) :
    PE X (.Call (.Name n p) (e :: es) [] pos) (eOf (kx X) B (aCall sp z)) := by
  refine PE.imp (pe_call F hr hg hm hk hb .nil pass0 ha hdb he hpl) fun σ H Q h => ?_
  refine spOf_call (dds := []) (fun _ _ => .nil) ?_
  obtain ⟨ι, a, S, P, g, h, k⟩ := h
  exact ⟨ι, a, S, P, g, by simpa using h, k⟩
end

/-! ### statements -/
def aNext : AX := fun D a S => D.nx a S
def aSeq (t u : AX) : AX := fun D a S => t { D with nx := u D } a S
def aBreak : AX := fun D a S => D.bk a S
def aCont : AX := fun D a S => D.ct a S
def aDrop (x : AE) : AX := fun D a S => x a S fun _ S1 => D.nx a S1
def aRet (x : AE) : AX := fun D a S => x a S D.rt
def aRetN : AX := fun D _ S => D.rt .non S
def aIfS (t : AT) (x y : AX) : AX := fun D a S => t a S fun b S1 => iteP b (x D a S1) (y D a S1)
def aNever : AX := fun _ _ _ => False
def aAsg (x : AE) (g : AG) : AX := fun D a S => x a S fun d S1 => g d a S1 D.nx
def gN (i : Nat) : AG := fun d a S P => P (a.set i (some d)) S
def gU (i j : Nat) : D → AS → Sto → (AS → Sto → Prop) → Prop := fun d a S P => match d with | .tup [x, y] => P ((a.set i (some x)).set j (some y)) S | _ => False
def aAug (i : Nat) (x : AE) (f : F2) : AX := fun D a S => match slot a i with | some d => x a S fun e S1 => f d e S1 fun z S2 => D.nx (a.set i (some z)) S2 | none => False
def aPar (i j : Nat) (z : AA) : AX := fun D a S => z a S fun ds S1 => match ds with | [x, y] => D.nx ((a.set i (some x)).set j (some y)) S1 | _ => False
section
variable {X : Cx} {B : Bs} {st : Stmt} {rs : List Stmt} {e : Expr} {x : AE} {t u : AX} {c : AT} {pos : Pos}
theorem ss_nil : PSs X [] (sOf (kx X) B aNext) := PSs.imp pss_nil fun D σ H ⟨ι, a, S, AD, g, h, k⟩ => k.nx _ _ _ _ _ .refl g.rs g.sr h
theorem seq_of {σ : L2.St} {H : Hp} {D : Ends} (h : sOf (kx X) B (aSeq t u) D σ H) : tSeq (sOf (kx X) B t) (sOf (kx X) B u) D σ H := by
  obtain ⟨ι, a, S, AD, g, h, k⟩ := h
  exact ⟨ι, a, S, { AD with nx := u AD }, g, h, ⟨fun ι1 H1 σ1 a1 S1 e1 r1 s1 h1 => ⟨ι1, a1, S1, AD, ⟨g.ext.trans e1, r1, s1⟩, h1, k.up e1⟩, k.rt, k.bk, k.ct, k.ex⟩⟩
theorem ss_cons (h1 : PS X st (sOf (kx X) B t)) (h2 : PSs X rs (sOf (kx X) B u)) : PSs X (st :: rs) (sOf (kx X) B (aSeq t u)) := PSs.imp (pss_cons h1 h2) fun _ _ _ h => seq_of h
theorem ss_one (h1 : PS X st (sOf (kx X) B t)) : PSs X [st] (sOf (kx X) B t) := pss_one h1
theorem s_pass : PS X (.Pass pos) (sOf (kx X) B aNext) := PS.imp ps_pass fun D σ H ⟨ι, a, S, AD, g, h, k⟩ => k.nx _ _ _ _ _ .refl g.rs g.sr h
theorem s_break : PS X (.Break pos) (sOf (kx X) B aBreak) := PS.imp ps_break fun D σ H ⟨ι, a, S, AD, g, h, k⟩ => k.bk _ _ _ _ _ .refl g.rs g.sr h
theorem s_cont : PS X (.Continue pos) (sOf (kx X) B aCont) := PS.imp ps_continue fun D σ H ⟨ι, a, S, AD, g, h, k⟩ => k.ct _ _ _ _ _ .refl g.rs g.sr h
theorem s_doc {y j pos pos'} : PS X (.Expr (.Constant (.str y) j pos) pos') (sOf (kx X) B aNext) := PS.imp ps_doc fun D σ H ⟨ι, a, S, AD, g, h, k⟩ => k.nx _ _ _ _ _ .refl g.rs g.sr h
theorem s_expr (he : PE X e (eOf (kx X) B x)) (hs : swapsWith e none pos.line X.env = pure false := by rfl) : PS X (.Expr e pos) (sOf (kx X) B (aDrop x)) := by
  refine PS.imp (ps_expr he hs) fun D σ H h => ?_
  obtain ⟨ι, a, S, AD, g, h, k⟩ := h
  exact ⟨ι, a, S, _, g, h, fun ι1 H1 v d S1 e1 r1 v1 h1 => k.nx _ _ _ _ _ e1 r1 (g.sr.up e1) h1⟩
theorem s_ret (he : PE X e (eOf (kx X) B x)) : PS X (.Return (some e) pos) (sOf (kx X) B (aRet x)) := by
  refine PS.imp (ps_ret he) fun D σ H h => ?_
  obtain ⟨ι, a, S, AD, g, h, k⟩ := h
  exact ⟨ι, a, S, _, g, h, fun ι1 H1 v d S1 e1 r1 v1 h1 => k.rt _ _ _ _ _ e1 r1 v1 h1⟩
theorem s_retN : PS X (.Return none pos) (sOf (kx X) B aRetN) := PS.imp ps_retN fun D σ H ⟨ι, a, S, AD, g, h, k⟩ => k.rt _ _ _ _ _ .refl g.rs .non h
theorem s_if {ce : Expr} {l m : List Stmt} (hc : PT X ce (tOf (kx X) B c)) (ha : PSs X l (sOf (kx X) B t)) (hb : PSs X m (sOf (kx X) B u)) : PS X (.If ce l m pos) (sOf (kx X) B (aIfS c t u)) := by
  refine PS.imp (ps_if hc ha hb) fun D σ H h => ?_
  obtain ⟨ι, a, S, AD, g, h, k⟩ := h
  refine ⟨ι, a, S, _, g, h, fun ι1 H1 b S1 e1 r1 h1 => ?_⟩
  rw [iteP_def] at h1
  cases b with
  | true =>
    rw [if_pos rfl] at h1 ⊢
    exact ⟨ι1, a, S1, AD, g.go e1 r1, h1, k.up e1⟩
  | false =>
    rw [if_neg Bool.false_ne_true] at h1 ⊢
    exact ⟨ι1, a, S1, AD, g.go e1 r1, h1, k.up e1⟩
theorem s_never : PS X st (sOf (kx X) B aNever) := PS.imp (t' := sOf (kx X) B aNever) ps_never fun D σ H ⟨ι, a, S, AD, g, h, k⟩ => h
theorem s_set {i : Nat} {n : Str} {pos' : Pos} (hN : X.N.Nodup) (he : PE X e (eOf (kx X) B x)) (hi : X.N[i]? = some n := by rfl) (hx : Loc X.env.scope n := by first | exact Or.inl rfl | exact Or.inr rfl) (hs : swapsWith e (some (.Name n pos')) pos.line X.env = pure false := by rfl) (hf : X.fn n = true ∨ X.env.scope.names.lookup n = some .local := by first | exact .inl rfl | exact .inr rfl | assumption) :
    PS X (.Assign [.Name n pos'] e pos) (sOf (kx X) B (aAsg x (gN i))) := by
  refine PS.imp (ps_set hN hi hx he hs hf) fun D σ H h => ?_
  obtain ⟨ι, a, S, AD, g, h, k⟩ := h
  exact ⟨ι, a, S, _, g, h, fun ι1 H1 v d S1 e1 r1 v1 h1 => k.nx _ _ _ _ _ e1 r1 ((g.sr.up e1).set v1 i) h1⟩
theorem s_asg {tg : Expr} {ag : AG} (he : PE X e (eOf (kx X) B x)) (hg : PG X tg (gOf (kx X) B ag)) (hs : swapsWithSole [tg] e pos.line X.env = pure false := by rfl) (hw : swappedStores [tg] e X.env = pure none := by rfl)
    (h1 : (assignEach [tg] X.env).map (·.2) = [assign tg X.env] := by rfl) : PS X (.Assign [tg] e pos) (sOf (kx X) B (aAsg x ag)) := by
  refine PS.imp (ps_asg he hg hs hw h1) fun D σ H h => ?_
  obtain ⟨ι, a, S, AD, g, h, k⟩ := h
  exact ⟨ι, a, S, _, g, h, fun ι1 H1 v d S1 e1 r1 v1 h1 => ⟨ι1, d, a, S1, _, g.go e1 r1, v1, h1, fun ι2 H2 σ2 a2 S2 e2 r2 s2 h2 => k.nx _ _ _ _ _ (e1.trans e2) r2 s2 h2⟩⟩
theorem g_name {i : Nat} {n : Str} {pos : Pos} (hN : X.N.Nodup) (hi : X.N[i]? = some n := by rfl) (hx : Loc X.env.scope n := by first | exact Or.inl rfl | exact Or.inr rfl) (hf : X.fn n = true ∨ X.env.scope.names.lookup n = some .local := by first | exact .inl rfl | exact .inr rfl | assumption) : PG X (.Name n pos) (gOf (kx X) B (gN i)) := by
  refine PG.imp (pg_name hN hi hx hf) fun v σ H Q h => ?_
  obtain ⟨ι, d, a, S, P, g, r, h, k⟩ := h
  exact k _ _ _ _ _ .refl g.rs (g.sr.set r i) h
/-! targets of several names -/
abbrev AGs := List D → AS → Sto → (AS → Sto → Prop) → Prop
def gsOf (K : KX) (B : Bs) (ag : AGs) : TGs := fun vs σ H Q => ∃ ι ds a S P, Good K B ι σ H a S ∧ VRs K ι H vs ds ∧ ag ds a S P ∧
  ∀ ι' H' σ' a' S', Ext K ι H ι' H' → RS K ι' H' S' → SR K ι' H' σ' a' → P a' S' → Q σ' H'
def gNil' : AGs := fun ds a S P => match ds with | [] => P a S | _ => False
def gCons' (g : AG) (r : AGs) : AGs := fun ds a S P => match ds with | d :: ds => g d a S fun a1 S1 => r ds a1 S1 P | _ => False
def gTup' (n : Nat) (r : AGs) : AG := fun d a S P => match d with | .tup ds => ds.length = n ∧ r ds a S P | _ => False
theorem PGs.imp {X : Cx} {es : List Expr} {t t' : TGs} (h : PGs X es t) (k : ∀ v σ H Q, t' v σ H Q → t v σ H Q) : PGs X es t' := ⟨fun pins s σ H v u Q I r q => h.run pins s σ H v u Q I r (k v σ H Q q)⟩
theorem gs_nil : PGs X [] (gsOf (kx X) B gNil') := by
  refine PGs.imp pgs_nil fun vs σ H Q h => ?_
  obtain ⟨ι, ds, a, S, P, g, r, h, k⟩ := h
  cases ds with
  | nil =>
    cases r
    exact ⟨rfl, k _ _ _ _ _ .refl g.rs g.sr h⟩
  | cons _ _ => exact h.elim
theorem gs_cons {e : Expr} {es : List Expr} {g : AG} {r : AGs} (h1 : PG X e (gOf (kx X) B g)) (h2 : PGs X es (gsOf (kx X) B r)) (hs : (assignEach (e :: es) X.env).map (·.2) = assign e X.env :: (assignEach es X.env).map (·.2) := by rfl) : PGs X (e :: es) (gsOf (kx X) B (gCons' g r)) := by
  refine PGs.imp (pgs_cons h1 h2 hs) fun vs σ H Q h => ?_
  obtain ⟨ι, ds, a, S, P, gd, r, h, k⟩ := h
  cases ds with
  | nil => exact h.elim
  | cons d ds =>
    cases r with
    | cons r1 r2 =>
      refine ⟨_, _, rfl, ι, d, a, S, _, gd, r1, h, fun ι1 H1 σ1 a1 S1 e1 q1 s1 h1 => ?_⟩
      exact ⟨ι1, ds, a1, S1, P, ⟨gd.ext.trans e1, q1, s1⟩, r2.up e1, h1, fun ι2 H2 σ2 a2 S2 e2 q2 s2 h2 => k _ _ _ _ _ (e1.trans e2) q2 s2 h2⟩
theorem g_tup {es : List Expr} {j : Nat} {r : AGs} {n : Nat} (hc : X.calm = true) (h : PGs X es (gsOf (kx X) B r)) (hn : (assignEach es X.env).length = n := by rfl) (hst : (assignEach es X.env).findIdx? (·.1) = none := by rfl) : PG X (.Tuple es j pos) (gOf (kx X) B (gTup' n r)) := by
  refine PG.imp (pg_tup hc h hn hst) fun v σ H Q h => ?_
  obtain ⟨ι, d, a, S, P, g, rv, h, k⟩ := h
  cases rv with
  | tup h1 h2 => exact ⟨_, _, rfl, .of h1, h2.length.trans h.1, ι, _, a, S, P, g, h2, h.2, k⟩
  | _ => exact h.elim
theorem s_par {i j : Nat} {n m : Str} {a b : Expr} {z : AA} {px py pt : Pos} {kt k2 pt2} (hN : X.N.Nodup) (ha : PA X [a, b] (aOf (kx X) B z)) (hc : X.calm = true := by rfl) (hi : X.N[i]? = some n := by rfl) (hj : X.N[j]? = some m := by rfl) (hij : i ≠ j := by decide)
    (hx : X.env.scope.names.lookup n = some .local := by rfl) (hy : X.env.scope.names.lookup m = some .local := by rfl)
    (hw : swappedStores [.Tuple [.Name n px, .Name m py] kt pt] (.Tuple [a, b] k2 pt2) X.env = pure (some [n, m]) := by rfl)
    (hs : swapsWithSole [.Tuple [.Name n px, .Name m py] kt pt] (.Tuple [a, b] k2 pt2) pos.line X.env = pure false := by rfl) :
    PS X (.Assign [.Tuple [.Name n px, .Name m py] kt pt] (.Tuple [a, b] k2 pt2) pos) (sOf (kx X) B (aPar i j z)) := by
  refine PS.imp (ps_par hc hN hi hj hij hx hy ha hw hs) fun D σ H h => ?_
  obtain ⟨ι, a, S, AD, g, h, k⟩ := h
  refine ⟨ι, a, S, _, g, h, fun ι1 H1 vs ds S1 e1 r1 v1 h1 => ?_⟩
  match ds, v1, h1 with
  | [d1, d2], .cons w1 (.cons w2 .nil), h1 => exact ⟨_, _, rfl, k.nx _ _ _ _ _ e1 r1 (((g.sr.up e1).set w1 i).set w2 j) h1⟩
end
end Ab

namespace Ab
open PySem L2
variable {K : KX}

/-! ### numbers, texts, tuples, lists by + -/
def addD : F2 := fun x y S P => match x with
  | .int i => (match y with | .int j => P (.int (i + j)) S | _ => False)
  | .str i => (match y with | .str j => i.length + j.length ≤ sizeLine ∧ P (.str (i ++ j)) S | _ => False)
  | .tup l => (match y with | .tup m => l.length + m.length ≤ sizeLine ∧ P (.tup (l ++ m)) S | _ => False)
  | .obj n => (match y with | .obj m => rdL S n fun l => rdL S m fun k => l.length + k.length ≤ sizeLine ∧ P (.obj S.length) (S ++ [.lst (l ++ k)]) | _ => False)
  | _ => False
def rAddS : R2 := fun x y H Q => ∃ i j, x = .str i ∧ y = .str j ∧ i.length + j.length ≤ sizeLine ∧ Q (.str (i ++ j)) H
def rAddAll (K : PySem.W.Frag) : R2 := fun x y H Q => rI0 (fun i j => .int (i + j)) x y H Q ∨ rAddS x y H Q ∨ rCatA K x y H Q ∨ rCat x y H Q
theorem o_add {X : Cx} : OpR X (binaryOp .Add) (rAddAll X.K) := op_add.or (OpR.or (r := rAddS) op_add_str (op_catA.or op_cat))
theorem addA : OpA K (rAddAll K.f) addD := by
  intro ι H S x y d e P Q R rx ry h k
  cases rx with
  | int i =>
    cases ry with
    | int j => exact .inl ⟨i, j, rfl, rfl, k ι H _ _ S .refl R (.int _) h⟩
    | _ => exact h.elim
  | str i =>
    cases ry with
    | str j => exact .inr (.inl ⟨i, j, rfl, rfl, h.1, k ι H _ _ S .refl R (.str _) h.2⟩)
    | _ => exact h.elim
  | tup h1 h2 =>
    cases ry with
    | tup h3 h4 =>
      rename_i a xs l b ys m
      obtain ⟨hz, h⟩ : l.length + m.length ≤ sizeLine ∧ P (.tup (l ++ m)) S := h
      refine .inr (.inr (.inl ⟨a, b, xs, ys, rfl, rfl, .of h1, .of h3, by rw [h2.length, h4.length]; exact hz, fun e => ?_, fun _ e => ?_, fun _ _ p hp => ?_⟩))
      · subst e
        cases h2
        exact k ι H _ _ S .refl R (.tup h3 h4) (by simpa using h)
      · subst e
        cases h4
        exact k ι H _ _ S .refl R (.tup h1 h2) (by simpa using h)
      · obtain ⟨e2, r2, v2⟩ := new_tup R hp (h2.append h4)
        exact k _ _ _ _ _ e2 r2 v2 h
    | _ => exact h.elim
  | obj h1 =>
    cases ry with
    | obj h3 =>
      obtain ⟨l, q1, h⟩ := rdL_out h
      obtain ⟨m, q2, hz, h⟩ := rdL_out h
      obtain ⟨vs, a1, a2⟩ := R.ob _ _ _ h1 q1
      obtain ⟨ws, b1, b2⟩ := R.ob _ _ _ h3 q2
      refine .inr (.inr (.inr ⟨_, _, vs, ws, rfl, rfl, a1, b1, by rw [a2.length, b2.length]; exact hz, fun p hp => ?_⟩))
      obtain ⟨e2, r2, v2⟩ := new_lst R hp (a2.append b2)
      exact k _ _ _ _ _ e2 r2 v2 h
    | _ => exact h.elim
  | _ => exact h.elim
def intD (C : Int → Int → Prop) (g : Int → Int → D) : F2 := fun x y S P => match x with
  | .int i => (match y with | .int j => C i j ∧ P (g i j) S | _ => False)
  | _ => False
def intD0 (g : Int → Int → D) : F2 := fun x y S P => match x with
  | .int i => (match y with | .int j => P (g i j) S | _ => False)
  | _ => False
theorem intA {C : Int → Int → Prop} {g : Int → Int → D} {gv : Int → Int → V} (hg : ∀ ι H i j, VR K ι H (gv i j) (g i j)) : OpA K (rI C gv) (intD C g) := by
  intro ι H S x y d e P Q R rx ry h k
  cases rx with
  | int i =>
    cases ry with
    | int j => exact ⟨i, j, rfl, rfl, h.1, k ι H _ _ S .refl R (hg _ _ i j) h.2⟩
    | _ => exact h.elim
  | _ => exact h.elim
theorem intA0 {g : Int → Int → D} {gv : Int → Int → V} (hg : ∀ ι H i j, VR K ι H (gv i j) (g i j)) : OpA K (rI0 gv) (intD0 g) := by
  intro ι H S x y d e P Q R rx ry h k
  cases rx with
  | int i =>
    cases ry with
    | int j => exact ⟨i, j, rfl, rfl, k ι H _ _ S .refl R (hg _ _ i j) h⟩
    | _ => exact h.elim
  | _ => exact h.elim
abbrev subD : F2 := intD0 fun i j => .int (i - j)
abbrev mulD : F2 := intD CMul fun i j => .int (i * j)
abbrev divD : F2 := intD CDiv fun i j => .int (i / j)
abbrev modD : F2 := intD (fun _ j => 0 < j) fun i j => .int (i % j)
abbrev powD : F2 := intD CPow fun i j => .int (i ^ j.toNat)
abbrev ltD : F2 := intD0 fun i j => .bl (decide (i < j))
abbrev leD : F2 := intD0 fun i j => .bl (decide (i ≤ j))
abbrev gtD : F2 := intD0 fun i j => .bl (decide (j < i))
abbrev geD : F2 := intD0 fun i j => .bl (decide (j ≤ i))
theorem subA : OpA K (rI0 fun i j => .int (i - j)) subD := intA0 fun _ _ _ _ => .int _
theorem mulA : OpA K (rI CMul fun i j => .int (i * j)) mulD := intA fun _ _ _ _ => .int _
theorem divA : OpA K (rI CDiv fun i j => .int (i / j)) divD := intA fun _ _ _ _ => .int _
theorem modA : OpA K (rI (fun _ j => 0 < j) fun i j => .int (i % j)) modD := intA fun _ _ _ _ => .int _
theorem powA : OpA K (rI CPow fun i j => .int (i ^ j.toNat)) powD := intA fun _ _ _ _ => .int _
theorem ltA : OpA K (rI0 fun i j => .bl (decide (i < j))) ltD := intA0 fun _ _ _ _ => .bl _
theorem leA : OpA K (rI0 fun i j => .bl (decide (i ≤ j))) leD := intA0 fun _ _ _ _ => .bl _
theorem gtA : OpA K (rI0 fun i j => .bl (decide (j < i))) gtD := intA0 fun _ _ _ _ => .bl _
theorem geA : OpA K (rI0 fun i j => .bl (decide (j ≤ i))) geD := intA0 fun _ _ _ _ => .bl _
def negD : F1 := fun x S P => match x with | .int i => P (.int (-i)) S | _ => False
theorem negA : UnA K (rU fun i => .int (-i)) negD := by
  intro ι H S x d P Q R rx h k
  cases rx with
  | int i => exact ⟨i, rfl, k ι H _ _ S .refl R (.int _) h⟩
  | _ => exact h.elim

/-! ### is None -/
def isNon : D → Bool
  | .non => true
  | _ => false
def isND : F2 := fun x y S P => match y with | .non => P (.bl (isNon x)) S | _ => False
def notND : F2 := fun x y S P => match y with | .non => P (.bl (!isNon x)) S | _ => False
theorem VR.isNon {ι : List Addr} {H : Hp} {v : V} {d : D} (r : VR K ι H v d) : decide (v = .non) = isNon d := by
  cases r <;> simp [Ab.isNon]
theorem isNA : OpA K (fun x y H Q => y = .non ∧ Q (.bl (decide (x = .non))) H) isND := by
  intro ι H S x y d e P Q R rx ry h k
  cases ry with
  | non => exact ⟨rfl, by rw [rx.isNon]; exact k ι H _ _ S .refl R (.bl _) h⟩
  | _ => exact h.elim
theorem notNA : OpA K (fun x y H Q => y = .non ∧ Q (.bl (!decide (x = .non))) H) notND := by
  intro ι H S x y d e P Q R rx ry h k
  cases ry with
  | non => exact ⟨rfl, by rw [rx.isNon]; exact k ι H _ _ S .refl R (.bl _) h⟩
  | _ => exact h.elim

/-! ### == -/
mutual
inductive Py (S : Sto) : D → PyData → Prop
  | non : Py S .non .none
  | bl (b : Bool) : Py S (.bl b) (.bool b)
  | int (i : Int) : Py S (.int i) (.int i)
  | str (s : Str) : Py S (.str s) (.str s)
  | tup {l : List D} {p : List PyData} : Pys S l p → Py S (.tup l) (.tuple p)
  | ktp {l : List D} {p : List PyData} : Pys S l p → Py S (.ktp l) (.tuple p)
  | rol {l : List D} {p : List PyData} : Pys S l p → Py S (.rol l) (.list p)
  | obj {n : Nat} {l : List D} {p : List PyData} : S[n]? = some (.lst l) → Pys S l p → Py S (.obj n) (.list p)
inductive Pys (S : Sto) : List D → List PyData → Prop
  | nil : Pys S [] []
  | cons {d : D} {q : PyData} {l : List D} {p : List PyData} : Py S d q → Pys S l p → Pys S (d :: l) (q :: p)
end
section
variable {ι : List Addr} {H : Hp} {S : Sto}
mutual
theorem Py.dp (R : RS K ι H S) : ∀ (p : PyData) (d : D) (v : V), Py S d p → VR K ι H v d → Dp K.f H v p
  | .none, _, _, h, r => by cases h; cases r; exact .non
  | .bool _, _, _, h, r => by cases h; cases r; exact .bl _
  | .int _, _, _, h, r => by cases h; cases r; exact .int _
  | .str _, _, _, h, r => by cases h; cases r; exact .str _
  | .tuple p, _, _, h, r => by
    cases h with
    | tup h1 =>
      cases r with
      | tup r1 r2 => exact .tup (.of r1) (Pys.dp R p _ _ h1 r2)
    | ktp h1 =>
      cases r with
      | ktp r1 r2 => exact .tup r1.sq (Pys.dp R p _ _ h1 r2)
  | .list p, _, _, h, r => by
    cases h with
    | rol h1 =>
      cases r with
      | rol r1 r2 => exact .lst r1.sq (Pys.dp R p _ _ h1 r2)
    | obj h0 h1 =>
      cases r with
      | obj e =>
        obtain ⟨vs, q1, q2⟩ := R.ob _ _ _ e h0
        exact .lst (.of q1) (Pys.dp R p _ _ h1 q2)
  | .dict _, _, _, h, _ => by cases h
theorem Pys.dp (R : RS K ι H S) : ∀ (p : List PyData) (d : List D) (v : List V), Pys S d p → VRs K ι H v d → DpAll K.f H v p
  | [], _, _, h, r => by cases h; cases r; exact .nil
  | q :: p, _, _, h, r => by
    cases h with
    | cons h1 h2 =>
      cases r with
      | cons r1 r2 => exact .cons (Py.dp R q _ _ h1 r1) (Pys.dp R p _ _ h2 r2)
end
end
@[irreducible] def eqPy (neg : Bool) (x y : D) (S : Sto) (P : D → Sto → Prop) : Prop := ∃ p q, Py S x p ∧ Py S y q ∧ SeqAt.shaped p = true ∧ SeqAt.shaped q = true ∧ P (.bl (if neg then !PyData.eqv p q else PyData.eqv p q)) S
theorem eqPy_of {x y : D} {S : Sto} {P : D → Sto → Prop} {p q : PyData} (neg : Bool) (h1 : Py S x p) (h2 : Py S y q) (s1 : SeqAt.shaped p = true) (s2 : SeqAt.shaped q = true) (h : P (.bl (if neg then !PyData.eqv p q else PyData.eqv p q)) S) : eqPy neg x y S P := by
  unfold eqPy; exact ⟨p, q, h1, h2, s1, s2, h⟩
def eqD : F2 := fun x y S P => match x with
  | .int i => (match y with | .int j => P (.bl (decide (i = j))) S | _ => eqPy false x y S P)
  | _ => eqPy false x y S P
def neD : F2 := fun x y S P => match x with
  | .int i => (match y with | .int j => P (.bl (!decide (i = j))) S | _ => eqPy true x y S P)
  | _ => eqPy true x y S P
theorem shaped_int {i : Int} : SeqAt.shaped (.int i) = true := rfl
theorem eqv_int {i j : Int} : PyData.eqv (.int i) (.int j) = decide (i = j) := by
  simp only [PyData.eqv]
  rw [Bool.eq_iff_iff]
  simp
theorem eqA : OpA K (rEqD K.f) eqD := by
  intro ι H S x y d e P Q R rx ry h k
  have gen : ∀ {d e}, VR K ι H x d → VR K ι H y e → eqPy false d e S P → rEqD K.f x y H Q := fun rx ry h => by
    unfold eqPy at h
    obtain ⟨p, q, h1, h2, s1, s2, h⟩ := h
    exact ⟨p, q, Py.dp R p _ _ h1 rx, Py.dp R q _ _ h2 ry, s1, s2, k ι H _ _ S .refl R (.bl _) h⟩
  cases d with
  | int i =>
    cases e with
    | int j =>
      cases rx
      cases ry
      exact ⟨_, _, .int i, .int j, shaped_int, shaped_int, by rw [eqv_int]; exact k ι H _ _ S .refl R (.bl _) h⟩
    | _ => exact gen rx ry h
  | _ => exact gen rx ry h
theorem neA : OpA K (rNeD K.f) neD := by
  intro ι H S x y d e P Q R rx ry h k
  have gen : ∀ {d e}, VR K ι H x d → VR K ι H y e → eqPy true d e S P → rNeD K.f x y H Q := fun rx ry h => by
    unfold eqPy at h
    obtain ⟨p, q, h1, h2, s1, s2, h⟩ := h
    exact ⟨p, q, Py.dp R p _ _ h1 rx, Py.dp R q _ _ h2 ry, s1, s2, k ι H _ _ S .refl R (.bl _) h⟩
  cases d with
  | int i =>
    cases e with
    | int j =>
      cases rx
      cases ry
      exact ⟨_, _, .int i, .int j, shaped_int, shaped_int, by rw [eqv_int]; exact k ι H _ _ S .refl R (.bl _) h⟩
    | _ => exact gen rx ry h
  | _ => exact gen rx ry h

/-! ### in, not in: of lists and tuples -/
section
variable {X : Cx}
def rInDT (K : PySem.W.Frag) (neg : Bool) : R2 := fun x y H Q => ∃ d ds, Dp K H x d ∧ Dp K H y (.tuple ds) ∧ SeqAt.shaped d = true ∧ SeqAt.shaped (.tuple ds) = true ∧ Q (.bl (if neg then !ds.any fun z => PyData.eqv z d else ds.any fun z => PyData.eqv z d)) H
theorem op_inDT (hu : X.A.units + 65 < cLine) : OpR X (compareOp .In) (rInDT X.K false) := by
  intro pins s σ H x y v u Q I rx ry h
  obtain ⟨d, ds, hd, he, sd, se, q⟩ := h
  obtain ⟨bs, r1⟩ := Dp.reads I d x v hd rx
  obtain ⟨cs, r2⟩ := Dp.reads I (.tuple ds) y u he ry
  refine SeqAt.in_tuple_reads r2 r1 (SeqAt.canLay_of_shaped se) (SeqAt.canLay_of_shaped sd) (PyProof.Rows.room_in_shaped sd hu) ?_
  exact ⟨.bl _, H, I, rfl, q⟩
theorem op_notInDT (hu : X.A.units + 65 < cLine) : OpR X (compareOp .NotIn) (rInDT X.K true) := by
  intro pins s σ H x y v u Q I rx ry h
  obtain ⟨d, ds, hd, he, sd, se, q⟩ := h
  obtain ⟨bs, r1⟩ := Dp.reads I d x v hd rx
  obtain ⟨cs, r2⟩ := Dp.reads I (.tuple ds) y u he ry
  refine SeqAt.notIn_tuple_reads r2 r1 (SeqAt.canLay_of_shaped se) (SeqAt.canLay_of_shaped sd) (PyProof.Rows.room_in_shaped sd hu) ?_
  exact ⟨.bl _, H, I, rfl, q⟩
end
end Ab

namespace Ab
open PySem L2
variable {K : KX}

/-! ### dicts -/
section
variable {κ : Type} [DecidableEq κ]
def valD (kvs : List (κ × D)) (k : κ) : Option D := (kvs.find? fun kv => decide (kv.1 = k)).map (·.2)
def putD (kvs : List (κ × D)) (k : κ) (v : D) : List (κ × D) := if kvs.any (fun kv => decide (kv.1 = k)) then kvs.map (fun kv => if kv.1 = k then (kv.1, v) else kv) else kvs ++ [(k, v)]
end
def keyD : D → Option Key
  | .int i => some (.inl i)
  | .str s => some (.inr s)
  | _ => none
def keysD : List D → Option (List Key)
  | [] => some []
  | d :: ds => match keyD d with
    | some k => (match keysD ds with | some ks => some (k :: ks) | none => none)
    | none => none
theorem keyD_kV {ι : List Addr} {H : Hp} {v : V} {d : D} {k : Key} (r : VR K ι H v d) (h : keyD d = some k) : v = kV k := by
  cases r <;> simp [keyD] at h <;> subst h <;> rfl
theorem keysD_kV {ι : List Addr} {H : Hp} : ∀ {ds : List D} {vs : List V} {ks : List Key}, VRs K ι H vs ds → keysD ds = some ks → vs = ks.map kV
  | [], _, ks, r, h => by
    cases r
    simp [keysD] at h
    subst h
    rfl
  | d :: ds, _, ks, r, h => by
    cases r with
    | cons r1 r2 =>
      unfold keysD at h
      split at h
      · rename_i k e1
        split at h
        · rename_i ks' e2
          cases h
          rw [keyD_kV r1 e1, keysD_kV r2 e2]
          rfl
        · cases h
      · cases h
/-- the two lists of pairs belong together -/
def Prs (K : KX) (ι : List Addr) (H : Hp) {κ : Type} (ws : List (κ × V)) (kvs : List (κ × D)) : Prop := ws.map (·.1) = kvs.map (·.1) ∧ VRs K ι H (ws.map (·.2)) (kvs.map (·.2))
theorem Prs.nil {ι : List Addr} {H : Hp} {κ : Type} : Prs K ι H ([] : List (κ × V)) [] := ⟨rfl, .nil⟩
theorem Prs.cons_inv {ι : List Addr} {H : Hp} {κ : Type} {w : κ × V} {ws : List (κ × V)} {kv : κ × D} {kvs : List (κ × D)} (h : Prs K ι H (w :: ws) (kv :: kvs)) : w.1 = kv.1 ∧ VR K ι H w.2 kv.2 ∧ Prs K ι H ws kvs := by
  obtain ⟨h1, h2⟩ := h
  simp at h1 h2
  cases h2 with
  | cons r1 r2 => exact ⟨h1.1, r1, h1.2, r2⟩
theorem Prs.length {ι : List Addr} {H : Hp} {κ : Type} {ws : List (κ × V)} {kvs : List (κ × D)} (h : Prs K ι H ws kvs) : ws.length = kvs.length := by
  have := congrArg List.length h.1
  simpa using this
theorem Prs.append {ι : List Addr} {H : Hp} {κ : Type} {ws us : List (κ × V)} {kvs lvs : List (κ × D)} (h : Prs K ι H ws kvs) (g : Prs K ι H us lvs) : Prs K ι H (ws ++ us) (kvs ++ lvs) :=
  ⟨by simp [h.1, g.1], by simpa using h.2.append g.2⟩
section
variable {κ : Type} [DecidableEq κ] {ι : List Addr} {H : Hp}
theorem Prs.val : ∀ {ws : List (κ × V)} {kvs : List (κ × D)} (_ : Prs K ι H ws kvs) (k : κ), (∃ v d, valV ws k = some v ∧ valD kvs k = some d ∧ VR K ι H v d) ∨ (valV ws k = none ∧ valD kvs k = none)
  | [], [], _, k => .inr ⟨rfl, rfl⟩
  | [], _ :: _, h, _ => by have := h.length; simp at this
  | _ :: _, [], h, _ => by have := h.length; simp at this
  | w :: ws, kv :: kvs, h, k => by
    obtain ⟨e, r, t⟩ := h.cons_inv
    by_cases q : kv.1 = k
    · refine .inl ⟨w.2, kv.2, valV_pos (e.trans q), ?_, r⟩
      simp [valD, List.find?_cons, q]
    · rw [valV_neg (fun z => q (e.symm.trans z))]
      have : valD (kv :: kvs) k = valD kvs k := by simp [valD, List.find?_cons, q]
      rw [this]
      exact Prs.val t k
theorem Prs.any : ∀ {ws : List (κ × V)} {kvs : List (κ × D)} (_ : Prs K ι H ws kvs) (k : κ), (ws.any fun kv => decide (kv.1 = k)) = kvs.any fun kv => decide (kv.1 = k)
  | [], [], _, k => rfl
  | [], _ :: _, h, _ => by have := h.length; simp at this
  | _ :: _, [], h, _ => by have := h.length; simp at this
  | w :: ws, kv :: kvs, h, k => by
    obtain ⟨e, r, t⟩ := h.cons_inv
    rw [List.any_cons, List.any_cons, Prs.any t k, e]
theorem Prs.repl {k : κ} {v : V} {d : D} (r0 : VR K ι H v d) : ∀ {ws : List (κ × V)} {kvs : List (κ × D)} (_ : Prs K ι H ws kvs), Prs K ι H (ws.map fun kv => if kv.1 = k then (kv.1, v) else kv) (kvs.map fun kv => if kv.1 = k then (kv.1, d) else kv)
  | [], [], _ => .nil
  | [], _ :: _, h => by have := h.length; simp at this
  | _ :: _, [], h => by have := h.length; simp at this
  | w :: ws, kv :: kvs, h => by
    obtain ⟨e, r, t⟩ := h.cons_inv
    obtain ⟨t1, t2⟩ := Prs.repl (k := k) r0 t
    by_cases q : kv.1 = k
    · refine ⟨?_, ?_⟩
      · simp only [List.map_cons, if_pos q, if_pos (e.trans q), e, t1]
      · simp only [List.map_cons, if_pos q, if_pos (e.trans q)]
        exact .cons r0 t2
    · have q' : ¬ w.1 = k := fun z => q (e.symm.trans z)
      refine ⟨?_, ?_⟩
      · simp only [List.map_cons, if_neg q, if_neg q', e, t1]
      · simp only [List.map_cons, if_neg q, if_neg q']
        exact .cons r t2
theorem Prs.put {ws : List (κ × V)} {kvs : List (κ × D)} (h : Prs K ι H ws kvs) (k : κ) {v : V} {d : D} (r : VR K ι H v d) : Prs K ι H (putK ws k v) (putD kvs k d) := by
  unfold putK putD
  rw [h.any k]
  split
  · exact Prs.repl r h
  · exact h.append ⟨rfl, .cons r .nil⟩
theorem Prs.up {ws : List (κ × V)} {kvs : List (κ × D)} (h : Prs K ι H ws kvs) {ι' : List Addr} {H' : Hp} (e : Ext K ι H ι' H') : Prs K ι' H' ws kvs := ⟨h.1, h.2.up e⟩
end

/-! ### in -/
@[irreducible] def inPy (neg : Bool) (x : D) (l : List D) (S : Sto) (P : D → Sto → Prop) : Prop := ∃ p ps, Py S x p ∧ Pys S l ps ∧ SeqAt.shaped p = true ∧ SeqAt.shaped (.list ps) = true ∧ P (.bl (if neg then !ps.any fun z => PyData.eqv z p else ps.any fun z => PyData.eqv z p)) S
theorem inPy_of (neg : Bool) {x : D} {l : List D} {S : Sto} {P : D → Sto → Prop} {p : PyData} {ps : List PyData} (h1 : Py S x p) (h2 : Pys S l ps) (s1 : SeqAt.shaped p = true) (s2 : SeqAt.shaped (.list ps) = true)
    (h : P (.bl (if neg then !ps.any fun z => PyData.eqv z p else ps.any fun z => PyData.eqv z p)) S) : inPy neg x l S P := by unfold inPy; exact ⟨p, ps, h1, h2, s1, s2, h⟩
def bN (neg : Bool) (b : Bool) : Bool := match neg with
  | true => !b
  | false => b
def inD (neg : Bool) : F2 := fun x y S P => match y with
  | .tup l => inPy neg x l S P
  | .ktp l => inPy neg x l S P
  | .rol l => inPy neg x l S P
  | .obj n => rdO S n fun o => match o with
    | .lst l => inPy neg x l S P
    | .dK kvs => (match keyD x with | some k => P (.bl (bN neg (valD kvs k).isSome)) S | none => False)
    | .dT kvs => (match x with | .tup l => (match keysD l with | some k => P (.bl (bN neg (valD kvs k).isSome)) S | none => False) | _ => False)
    | .set l => (match keyD x with | some k => P (.bl (bN neg (inK k l))) S | none => False)
    | _ => False
  | _ => False
def rInAll (K : KX) (neg : Bool) : R2 := fun x y H Q => (if neg then rNotInD K.f x y H Q else rInD K.f x y H Q) ∨ rInDT K.f neg x y H Q ∨ (∃ a o, y = .ref a ∧ DGet H a x o ∧ Q (.bl (bN neg o.isSome)) H) ∨ rSInK K.P K.w neg x y H Q
theorem shaped_tl {ps : List PyData} : SeqAt.shaped (.tuple ps) = SeqAt.shaped (.list ps) := by simp [SeqAt.shaped, PyData.canLay0, PyData.depth]
theorem o_in {X : Cx} {k : Nat} (hr : RmU k X.A) : OpR X (compareOp .In) (rInAll (kx X) false) := by
  have hu : X.A.units + 65 < cLine := by have := hr.un; omega
  intro pins s σ H x y v u Q I rx ry h
  rcases h with h | h | ⟨a, o, rfl, g, q⟩ | h
  · exact op_inD hu pins s σ H x y v u Q I rx ry h
  · exact op_inDT hu pins s σ H x y v u Q I rx ry h
  · cases ry
    exact d_in (by omega) I g rx fun s' I' => ⟨.bl _, H, I', rfl, q⟩
  · exact or_sinK pins s σ H x y v u Q I rx ry h
theorem o_notIn {X : Cx} {k : Nat} (hr : RmU k X.A) : OpR X (compareOp .NotIn) (rInAll (kx X) true) := by
  have hu : X.A.units + 65 < cLine := by have := hr.un; omega
  intro pins s σ H x y v u Q I rx ry h
  rcases h with h | h | ⟨a, o, rfl, g, q⟩ | h
  · exact op_notInD hu pins s σ H x y v u Q I rx ry h
  · exact op_notInDT hu pins s σ H x y v u Q I rx ry h
  · cases ry
    exact d_notIn (by omega) I g rx fun s' I' => ⟨.bl _, H, I', rfl, q⟩
  · exact or_snotinK pins s σ H x y v u Q I rx ry h
theorem inA {neg : Bool} : OpA K (rInAll K neg) (inD neg) := by
  intro ι H S x y d e P Q R rx ry h k
  have py : ∀ {l : List D} {a : Addr} {vs : List V}, y = .ref a → SqL K.f H a vs → VRs K ι H vs l → inPy neg d l S P → rInAll K neg x y H Q := fun ey hs hv h => by
    subst ey
    unfold inPy at h
    obtain ⟨p, ps, h1, h2, s1, s2, h⟩ := h
    have a1 := Py.dp R p _ _ h1 rx
    have a2 : Dp K.f H (.ref _) (.list ps) := .lst hs (Pys.dp R ps _ _ h2 hv)
    cases neg with
    | true => exact .inl ⟨p, ps, a1, a2, s1, s2, k ι H _ _ S .refl R (.bl _) h⟩
    | false => exact .inl ⟨p, ps, a1, a2, s1, s2, k ι H _ _ S .refl R (.bl _) h⟩
  cases ry with
  | tup h1 h2 =>
    have h : inPy neg d _ S P := h
    unfold inPy at h
    obtain ⟨p, ps, g1, g2, s1, s2, h⟩ := h
    exact .inr (.inl ⟨p, ps, Py.dp R p _ _ g1 rx, .tup (.of h1) (Pys.dp R ps _ _ g2 h2), s1, by rw [shaped_tl]; exact s2, k ι H _ _ S .refl R (.bl _) h⟩)
  | ktp h1 h2 =>
    have h : inPy neg d _ S P := h
    unfold inPy at h
    obtain ⟨p, ps, g1, g2, s1, s2, h⟩ := h
    exact .inr (.inl ⟨p, ps, Py.dp R p _ _ g1 rx, .tup h1.sq (Pys.dp R ps _ _ g2 h2), s1, by rw [shaped_tl]; exact s2, k ι H _ _ S .refl R (.bl _) h⟩)
  | rol h1 h2 => exact py rfl h1.sq h2 h
  | obj e1 =>
    obtain ⟨o, e2, h⟩ := rdO_out h
    have ho := R.ob _ _ _ e1 e2
    cases o with
    | lst l =>
      obtain ⟨vs, q1, q2⟩ := ho
      exact py rfl (.of q1) q2 h
    | dK kvs =>
      obtain ⟨ws, q1, q2⟩ := ho
      have q2 : Prs K ι H ws kvs := q2
      simp only at h
      split at h
      · rename_i key ek
        obtain rfl := keyD_kV rx ek
        refine .inr (.inr (.inl ⟨_, valV ws key, rfl, .k q1, k ι H _ _ S .refl R ?_ h⟩))
        rcases q2.val key with ⟨v1, d1, z1, z2, _⟩ | ⟨z1, z2⟩
        · rw [z1, z2]; exact .bl _
        · rw [z1, z2]; exact .bl _
      · exact h.elim
    | dT kvs =>
      obtain ⟨ws, q1, q2⟩ := ho
      have q2 : Prs K ι H ws kvs := q2
      cases rx with
      | tup t1 t2 =>
        simp only at h
        split at h
        · rename_i key ek
          obtain rfl := keysD_kV t2 ek
          refine .inr (.inr (.inl ⟨_, valV ws key, rfl, .t q1 t1, k ι H _ _ S .refl R ?_ h⟩))
          rcases q2.val key with ⟨v1, d1, z1, z2, _⟩ | ⟨z1, z2⟩
          · rw [z1, z2]; exact .bl _
          · rw [z1, z2]; exact .bl _
        · exact h.elim
      | _ => exact h.elim
    | ins C fs => exact h.elim
    | lT od ws kvs => exact h.elim
    | set l =>
      simp only at h
      split at h
      · rename_i key ek
        obtain rfl := keyD_kV rx ek
        refine .inr (.inr (.inr ⟨key, _, _, _, rfl, rfl, ho.1, k ι H _ _ S .refl R ?_ h⟩))
        cases neg with
        | true => exact .bl _
        | false => exact .bl _
      · exact h.elim
  | _ => exact h.elim
end Ab

namespace Ab
open PySem L2
variable {K : KX}

/-! ### x[i] -/
@[irreducible] def ixP (l : List D) (i : Int) (k : D → Prop) : Prop := ∃ d, atI l i = some d ∧ k d
theorem ixP_of {l : List D} {i : Int} {k : D → Prop} {d : D} (h : atI l i = some d) (q : k d) : ixP l i k := by unfold ixP; exact ⟨d, h, q⟩
theorem ixP_nat {l : List D} {j : Nat} {i : Int} {k : D → Prop} {d : D} (h : l[j]? = some d) (q : k d) (e : i = (j : Int) := by rfl) : ixP l i k := by
  subst e
  exact ixP_of (atI_nat h) q
theorem ixP_last {l : List D} {k : D → Prop} {d : D} (q : k d) : ixP (l ++ [d]) (-1) k := ixP_of (atI_last l d) q
theorem VRs.at {ι : List Addr} {H : Hp} {ds : List D} {vs : List V} (h : VRs K ι H vs ds) {i : Int} {d : D} (e : atI ds i = some d) : ∃ v, atI vs i = some v ∧ VR K ι H v d := by
  unfold atI at e ⊢
  rw [h.length]
  cases q : ixN ds.length i with
  | none => rw [q] at e; cases e
  | some j =>
    rw [q] at e
    exact h.get e
@[irreducible] def chP (s : Str) (i : Int) (k : Nat → Prop) : Prop := ∃ c, s.length ≤ sizeLine ∧ atI s.cps.toList i = some c ∧ k c
theorem chP_of {s : Str} {i : Int} {k : Nat → Prop} {c : Nat} (hz : s.length ≤ sizeLine) (h : atI s.cps.toList i = some c) (q : k c) : chP s i k := by unfold chP; exact ⟨c, hz, h, q⟩
@[irreducible] def vaP {κ : Type} [DecidableEq κ] (kvs : List (κ × D)) (k : κ) (q : D → Prop) : Prop := ∃ d, valD kvs k = some d ∧ q d
theorem vaP_of {κ : Type} [DecidableEq κ] {kvs : List (κ × D)} {k : κ} {q : D → Prop} {d : D} (h : valD kvs k = some d) (r : q d) : vaP kvs k q := by unfold vaP; exact ⟨d, h, r⟩
def ixI (l : List D) (y : D) (k : D → Prop) : Prop := match y with
  | .int i => ixP l i k
  | _ => False
def getD : F2 := fun x y S P => match x with
  | .tup l => ixI l y fun d => P d S
  | .ktp l => ixI l y fun d => P d S
  | .rol l => ixI l y fun d => P d S
  | .str s => (match y with | .int i => chP s i fun c => P (.str ⟨#[c]⟩) S | _ => False)
  | .obj n => rdO S n fun o => match o with
    | .lst l => ixI l y fun d => P d S
    | .dK kvs => (match keyD y with | some k => vaP kvs k fun d => P d S | none => False)
    | .dT kvs => (match y with | .tup l => (match keysD l with | some k => vaP kvs k fun d => P d S | none => False) | _ => False)
    | _ => False
  | _ => False
def rGetAll (K : PySem.W.Frag) : R2 := fun x y H Q => rIx K x y H Q ∨ ∃ a v, x = .ref a ∧ DGet H a y (some v) ∧ Q v H
theorem i_get {X : Cx} {k : Nat} (hr : RmU k X.A) : IxR X (rGetAll X.K) := by
  have hu : X.A.units + 1 < cLine := by have := hr.un; omega
  intro value slice pins s σ H x y v u Q I rx ry h hs
  rcases h with h | ⟨a, z, rfl, g, q⟩
  · exact ix_seq value slice pins s σ H x y v u Q I rx ry h hs
  · cases rx
    exact PyProof.Rows.tail_any (dict_typeIs I g) PySem.F.slot_dict_getitem.lookup (d_getItem hu I g ry fun w' s3 I3 rw' => ⟨z, H, I3, rw', q⟩) hs
theorem getA : OpA K (rGetAll K.f) getD := by
  intro ι H S x y d e P Q R rx ry h k
  have ixi : ∀ {l : List D} {a : Addr} {vs : List V}, x = .ref a → (SqL K.f H a vs ∨ SqT K.f H a vs) → VRs K ι H vs l → (ixI l e fun d => P d S) → rGetAll K.f x y H Q := fun ex hs hv h => by
    subst ex
    cases ry with
    | int i =>
      have h : ixP _ i _ := h
      unfold ixP at h
      obtain ⟨d, e1, h⟩ := h
      obtain ⟨v, e2, rv⟩ := hv.at e1
      rcases hs with hs | hs
      · exact .inl (.inl ⟨_, _, i, v, rfl, rfl, hs, e2, k ι H _ _ S .refl R rv h⟩)
      · exact .inl (.inr (.inl ⟨_, _, i, v, rfl, rfl, hs, e2, k ι H _ _ S .refl R rv h⟩))
    | _ => exact h.elim
  cases rx with
  | tup h1 h2 => exact ixi rfl (.inr (.of h1)) h2 h
  | ktp h1 h2 => exact ixi rfl (.inr h1.sq) h2 h
  | rol h1 h2 => exact ixi rfl (.inl h1.sq) h2 h
  | str s =>
    cases ry with
    | int i =>
      have h : chP s i _ := h
      unfold chP at h
      obtain ⟨c, z, e1, h⟩ := h
      exact .inl (.inr (.inr ⟨s, i, c, rfl, rfl, z, e1, k ι H _ _ S .refl R (.str _) h⟩))
    | _ => exact h.elim
  | obj e1 =>
    obtain ⟨o, e2, h⟩ := rdO_out h
    have ho := R.ob _ _ _ e1 e2
    cases o with
    | lst l =>
      obtain ⟨vs, q1, q2⟩ := ho
      exact ixi rfl (.inl (.of q1)) q2 h
    | dK kvs =>
      obtain ⟨ws, q1, q2⟩ := ho
      have q2 : Prs K ι H ws kvs := q2
      simp only at h
      split at h
      · rename_i key ek
        obtain rfl := keyD_kV ry ek
        unfold vaP at h
        obtain ⟨d, z, h⟩ := h
        rcases q2.val key with ⟨v1, d1, z1, z2, rv⟩ | ⟨z1, z2⟩
        · rw [z] at z2
          cases z2
          exact .inr ⟨_, v1, rfl, by rw [← z1]; exact .k q1, k ι H _ _ S .refl R rv h⟩
        · rw [z] at z2; cases z2
      · exact h.elim
    | dT kvs =>
      obtain ⟨ws, q1, q2⟩ := ho
      have q2 : Prs K ι H ws kvs := q2
      cases ry with
      | tup t1 t2 =>
        simp only at h
        split at h
        · rename_i key ek
          obtain rfl := keysD_kV t2 ek
          unfold vaP at h
          obtain ⟨d, z, h⟩ := h
          rcases q2.val key with ⟨v1, d1, z1, z2, rv⟩ | ⟨z1, z2⟩
          · rw [z] at z2
            cases z2
            exact .inr ⟨_, v1, rfl, by rw [← z1]; exact .t q1 t1, k ι H _ _ S .refl R rv h⟩
          · rw [z] at z2; cases z2
        · exact h.elim
      | _ => exact h.elim
    | ins C fs => exact h.elim
    | lT od ws kvs => exact h.elim
    | set l => exact h.elim
  | _ => exact h.elim
section
variable {X : Cx} {B : Bs} {a b : Expr} {pos : Pos} {x y : AE}
theorem a_get {k : Nat} (hr : RmU k X.A) (ha : PE X a (eOf (kx X) B x)) (hb : PE X b (eOf (kx X) B y)) (hs : PlainIx b := by exact fun _ _ => rfl) : PE X (.Subscript a b pos) (eOf (kx X) B (aOp getD x y)) :=
  PE.imp (pe_ix (i_get hr) ha hb hs) fun _ _ _ h => two getA h
end

/-! ### x[i] = v -/
def setD (o i v : D) (S : Sto) (P : Sto → Prop) : Prop := match o with
  | .obj n => rdO S n fun u => match u with
    | .lst l => (match i with | .int i => ∃ j, ixN l.length i = some j ∧ P (S.set n (.lst (l.set j v))) | _ => False)
    | .dK kvs => (match keyD i with | some k => kvs.length < sizeLine ∧ P (S.set n (.dK (putD kvs k v))) | none => False)
    | .dT kvs => (match i with | .tup l => (match keysD l with | some k => kvs.length < sizeLine ∧ P (S.set n (.dT (putD kvs k v))) | none => False) | _ => False)
    | _ => False
  | _ => False
def rSetAll : V → V → V → Hp → (Hp → Prop) → Prop := fun o i v H Q => rSetL o i v H Q ∨ ∃ a H', o = .ref a ∧ DPut H a i v H' ∧ Q H'
theorem p_set {X : Cx} {k : Nat} (hr : Room k X.A) : PSet X rSetAll := by
  have hu : X.A.units + 1 < cLine := by have := hr.un; omega
  intro pins s σ H o i v ov iv u Q I ro ri rv h
  rcases h with h | ⟨a, H', rfl, g, q⟩
  · exact set_list pins s σ H o i v ov iv u Q I ro ri rv h
  · cases ro
    exact d_setItem hu I g ri rv fun s' I' => ⟨H', I', q⟩
theorem not_tf {H : Hp} {a : Addr} {o : HO} (h : H a = some o) (h1 : ∀ xs, o ≠ .tup xs) (h2 : ∀ u v, o ≠ .frz u v) (h3 : ∀ u, o ≠ .xd u) : (∀ xs, H a ≠ some (.tup xs)) ∧ (∀ u v, H a ≠ some (.frz u v)) ∧ ∀ u, H a ≠ some (.xd u) :=
  ⟨fun xs z => h1 xs (Option.some.inj (h.symm.trans z)), fun u v z => h2 u v (Option.some.inj (h.symm.trans z)), fun u z => h3 u (Option.some.inj (h.symm.trans z))⟩
theorem put_lst {ι : List Addr} {H : Hp} {S : Sto} {n : Nat} {a : Addr} {vs ws : List V} {ds : List D} (R : RS K ι H S) (hn : ι[n]? = some a) (h : H a = some (.lst vs)) (r : VRs K ι H ws ds) :
    Ext K ι H ι (upd H a (.lst ws)) ∧ RS K ι (upd H a (.lst ws)) (S.set n (.lst ds)) := by
  obtain ⟨h1, h2, h3⟩ := not_tf h (fun _ z => nomatch z) (fun _ _ z => nomatch z) (fun _ z => nomatch z)
  have e := ext_write (K := K) (o := .lst ws) hn h1 h2 h3
  exact ⟨e, R.write hn h1 h2 h3 ⟨ws, upd_same, r.up e⟩⟩
theorem put_dK {ι : List Addr} {H : Hp} {S : Sto} {n : Nat} {a : Addr} {vs ws : List (Key × V)} {ds : List (Key × D)} (R : RS K ι H S) (hn : ι[n]? = some a) (h : H a = some (.dK vs)) (r : Prs K ι H ws ds) :
    Ext K ι H ι (upd H a (.dK ws)) ∧ RS K ι (upd H a (.dK ws)) (S.set n (.dK ds)) := by
  obtain ⟨h1, h2, h3⟩ := not_tf h (fun _ z => nomatch z) (fun _ _ z => nomatch z) (fun _ z => nomatch z)
  have e := ext_write (K := K) (o := .dK ws) hn h1 h2 h3
  exact ⟨e, R.write hn h1 h2 h3 ⟨ws, upd_same, r.up e⟩⟩
theorem put_dT {ι : List Addr} {H : Hp} {S : Sto} {n : Nat} {a : Addr} {vs ws : List (List Key × V)} {ds : List (List Key × D)} (R : RS K ι H S) (hn : ι[n]? = some a) (h : H a = some (.dT vs)) (r : Prs K ι H ws ds) :
    Ext K ι H ι (upd H a (.dT ws)) ∧ RS K ι (upd H a (.dT ws)) (S.set n (.dT ds)) := by
  obtain ⟨h1, h2, h3⟩ := not_tf h (fun _ z => nomatch z) (fun _ _ z => nomatch z) (fun _ z => nomatch z)
  have e := ext_write (K := K) (o := .dT ws) hn h1 h2 h3
  exact ⟨e, R.write hn h1 h2 h3 ⟨ws, upd_same, r.up e⟩⟩
theorem setA {ι : List Addr} {H : Hp} {S : Sto} {o i v : V} {od id vd : D} {P : Sto → Prop} {Q : Hp → Prop} (R : RS K ι H S) (ro : VR K ι H o od) (ri : VR K ι H i id) (rv : VR K ι H v vd) (h : setD od id vd S P)
    (k : ∀ H' S', Ext K ι H ι H' → RS K ι H' S' → P S' → Q H') : rSetAll o i v H Q := by
  cases ro with
  | obj e1 =>
    obtain ⟨u, e2, h⟩ := rdO_out h
    have ho := R.ob _ _ _ e1 e2
    cases u with
    | lst l =>
      obtain ⟨vs, q1, q2⟩ := ho
      cases ri with
      | int i =>
        obtain ⟨j, hj, h⟩ := h
        obtain ⟨e3, r3⟩ := put_lst R e1 q1 (q2.set j rv)
        exact .inl ⟨_, _, _, j, rfl, rfl, q1, by rw [q2.length]; exact hj, k _ _ e3 r3 h⟩
      | _ => exact h.elim
    | dK kvs =>
      obtain ⟨ws, q1, q2⟩ := ho
      have q2 : Prs K ι H ws kvs := q2
      simp only at h
      split at h
      · rename_i key ek
        obtain rfl := keyD_kV ri ek
        obtain ⟨e3, r3⟩ := put_dK R e1 q1 (q2.put key rv)
        exact .inr ⟨_, _, rfl, .k q1 (by rw [q2.length]; exact h.1), k _ _ e3 r3 h.2⟩
      · exact h.elim
    | dT kvs =>
      obtain ⟨ws, q1, q2⟩ := ho
      have q2 : Prs K ι H ws kvs := q2
      cases ri with
      | tup t1 t2 =>
        simp only at h
        split at h
        · rename_i key ek
          obtain rfl := keysD_kV t2 ek
          obtain ⟨e3, r3⟩ := put_dT R e1 q1 (q2.put key rv)
          exact .inr ⟨_, _, rfl, .t q1 t1 (by rw [q2.length]; exact h.1), k _ _ e3 r3 h.2⟩
        · exact h.elim
      | _ => exact h.elim
    | ins C fs => exact h.elim
    | lT od ws kvs => exact h.elim
    | set l => exact h.elim
  | _ => exact h.elim
def gSet (x y : AE) : AG := fun d a S P => x a S fun o S1 => y a S1 fun i S2 => setD o i d S2 fun S3 => P a S3
section
variable {X : Cx} {B : Bs} {a b : Expr} {pos : Pos} {x y : AE}
theorem g_set {k : Nat} (hr : Room k X.A) (ho : PE X a (eOf (kx X) B x)) (hi : PE X b (eOf (kx X) B y))
    (ha : ∀ v, assign (.Subscript a b pos) X.env v = (do
      let ov ← holding [v] (eval a X.env)
      let iv ← holding [v, ov] (eval b X.env)
      standAt pos
      holding [v, ov, iv] (setItem ov iv v)
      release [v, ov, iv] []) := by intro _; rfl) : PG X (.Subscript a b pos) (gOf (kx X) B (gSet x y)) := by
  refine PG.imp (pg_sub ho hi (p_set hr) ha) fun v σ H Q h => ?_
  obtain ⟨ι, d, a, S, P, g, r, h, k⟩ := h
  refine ⟨ι, a, S, _, g, h, fun ι1 H1 o od S1 e1 r1 v1 h1 => ?_⟩
  refine ⟨ι1, a, S1, _, g.go e1 r1, h1, fun ι2 H2 i id S2 e2 r2 v2 h2 => ?_⟩
  exact setA r2 (v1.up e2) v2 ((r.up e1).up e2) h2 fun H3 S3 e3 r3 h3 => k ι2 H3 σ a S3 ((e1.trans e2).trans e3) r3 (g.sr.up ((e1.trans e2).trans e3)) h3
end

/-! ### x[a:b] -/
def cutD (l : List D) (lo hi : Option Int) : List D := (l.drop (HT.sIx l.length 0 lo)).take (HT.sIx l.length l.length hi - HT.sIx l.length 0 lo)
theorem VRs.cut {ι : List Addr} {H : Hp} {ds : List D} {vs : List V} (h : VRs K ι H vs ds) (lo hi : Option Int) : VRs K ι H (cutV vs lo hi) (cutD ds lo hi) := by
  unfold cutV cutD
  rw [h.length]
  exact (h.drop _).take _
abbrev APart := AS → Sto → (Option Int → Sto → Prop) → Prop
def oOf (K : KX) (B : Bs) (ap : APart) : TO := fun σ H Q => ∃ ι a S P, Good K B ι σ H a S ∧ ap a S P ∧
  ∀ ι' H' i S', Ext K ι H ι' H' → RS K ι' H' S' → P i S' → Q i H'
theorem PO.imp {X : Cx} {e : Option Expr} {t t' : TO} (h : PO X e t) (k : ∀ σ H Q, t' σ H Q → t σ H Q) : PO X e t' := ⟨fun pins s σ H Q I q => h.run pins s σ H Q I (k σ H Q q)⟩
def aNo : APart := fun _ S P => P none S
def aPt (x : AE) : APart := fun a S P => x a S fun d S1 => match d with | .int i => P (some i) S1 | _ => False
def cutP (x : D) (lo hi : Option Int) (S : Sto) (P : D → Sto → Prop) : Prop := match x with
  | .tup l => P (.tup (cutD l lo hi)) S
  | .rol l => P (.obj S.length) (S ++ [.lst (cutD l lo hi)])
  | .obj n => rdL S n fun l => P (.obj S.length) (S ++ [.lst (cutD l lo hi)])
  | .str s => s.length ≤ sizeLine ∧ P (.str (cutS s lo hi)) S
  | _ => False
def aSl (x : AE) (l h : APart) : AE := fun a S P => x a S fun d S1 => l a S1 fun i S2 => h a S2 fun j S3 => cutP d i j S3 P
section
variable {X : Cx} {B : Bs} {a e : Expr} {lo hi : Option Expr} {pos p2 : Pos} {x : AE} {l h : APart}
theorem o_no : PO X none (oOf (kx X) B aNo) := PO.imp po_none fun σ H Q ⟨ι, a, S, P, g, h, k⟩ => k ι H none S .refl g.rs h
theorem o_pt (ha : PE X e (eOf (kx X) B x)) : PO X (some e) (oOf (kx X) B (aPt x)) := by
  refine PO.imp (po_some ha) fun σ H Q h => ?_
  obtain ⟨ι, a, S, P, g, h, k⟩ := h
  refine ⟨ι, a, S, _, g, h, fun ι1 H1 v d S1 e1 r1 v1 h1 => ?_⟩
  cases v1 with
  | int i => exact ⟨i, rfl, k ι1 H1 _ S1 e1 r1 h1⟩
  | _ => exact h1.elim
theorem a_sl (ha : PE X a (eOf (kx X) B x)) (hl : PO X lo (oOf (kx X) B l)) (hh : PO X hi (oOf (kx X) B h)) : PE X (.Subscript a (.Slice lo hi none p2) pos) (eOf (kx X) B (aSl x l h)) := by
  refine PE.imp (pe_slice (r := fun x lo hi H Q => rSlA X.K x lo hi H Q ∨ rSlL X.K x lo hi H Q ∨ rSlS x lo hi H Q) (sl_tupA.or (sl_list.or (SlR.or (r := rSlS) (r' := rSlS) sl_str sl_str)) |> fun z => by
      intro pins s σ H x v vl vu lo hi sl Q I rx hs pl pu q
      refine z pins s σ H x v vl vu lo hi sl Q I rx hs pl pu ?_
      rcases q with q | q | q
      · exact .inl q
      · exact .inr (.inl q)
      · exact .inr (.inr (.inl q))) ha hl hh) fun σ H Q h => ?_
  obtain ⟨ι, a, S, P, g, h, k⟩ := h
  refine ⟨ι, a, S, _, g, h, fun ι1 H1 v d S1 e1 r1 v1 h1 => ?_⟩
  refine ⟨ι1, a, S1, _, g.go e1 r1, h1, fun ι2 H2 i S2 e2 r2 h2 => ?_⟩
  refine ⟨ι2, a, S2, _, g.go (e1.trans e2) r2, h2, fun ι3 H3 j S3 e3 r3 h3 => ?_⟩
  have v1 := (v1.up e2).up e3
  have E := (e1.trans e2).trans e3
  cases v1 with
  | tup h4 h5 =>
    refine .inl ⟨_, _, rfl, .of h4, fun w => ?_, fun w p hp => ?_⟩
    · refine k ι3 H3 _ _ S3 E r3 (.tup h4 ?_) h3
      have := h5.cut i j
      unfold cutV at this
      rw [w.1, w.2] at this
      simpa using this
    · obtain ⟨e6, r6, v6⟩ := new_tup r3 hp (h5.cut i j)
      exact k _ _ _ _ _ (E.trans e6) r6 v6 h3
  | rol h4 h5 =>
    refine .inr (.inl ⟨_, _, rfl, h4.sq, fun p hp => ?_⟩)
    obtain ⟨e6, r6, v6⟩ := new_lst r3 hp (h5.cut i j)
    exact k _ _ _ _ _ (E.trans e6) r6 v6 h3
  | obj h4 =>
    obtain ⟨l, q1, h3⟩ := rdL_out h3
    obtain ⟨vs, q2, h5⟩ := r3.ob _ _ _ h4 q1
    refine .inr (.inl ⟨_, _, rfl, .of q2, fun p hp => ?_⟩)
    obtain ⟨e6, r6, v6⟩ := new_lst r3 hp (h5.cut i j)
    exact k _ _ _ _ _ (E.trans e6) r6 v6 h3
  | str s => exact .inr (.inr ⟨s, rfl, h3.1, k _ _ _ _ _ E r3 (.str _) h3.2⟩)
  | _ => exact h3.elim
end
end Ab

namespace Ab
open PySem L2
variable {K : KX}

theorem VRs.one {ι : List Addr} {H : Hp} {vs : List V} {d : D} (h : VRs K ι H vs [d]) : ∃ v, vs = [v] ∧ VR K ι H v d := by
  cases h with
  | cons h1 h2 => cases h2; exact ⟨_, rfl, h1⟩
theorem VRs.two {ι : List Addr} {H : Hp} {vs : List V} {d e : D} (h : VRs K ι H vs [d, e]) : ∃ v u, vs = [v, u] ∧ VR K ι H v d ∧ VR K ι H u e := by
  cases h with
  | cons h1 h2 =>
    obtain ⟨u, rfl, h3⟩ := h2.one
    exact ⟨_, u, rfl, h1, h3⟩
theorem callA1 {r : List V → Hp → VK → Prop} {f : F1} (h : ∀ (ι : List Addr) (H : Hp) (S : Sto) (x : V) (d : D) (P : D → Sto → Prop) (Q : VK), RS K ι H S → VR K ι H x d → f d S P →
    (∀ ι' H' v d S', Ext K ι H ι' H' → RS K ι' H' S' → VR K ι' H' v d → P d S' → Q v H') → r [x] H Q) : CallA K r (ar1 f) := by
  intro ι H S xs ds P Q R rs g k
  match ds, rs, g with
  | [d], rs, g =>
    obtain ⟨v, rfl, rv⟩ := rs.one
    exact h ι H S v d P Q R rv g k
theorem callA2 {r : List V → Hp → VK → Prop} {f : F2} (h : ∀ (ι : List Addr) (H : Hp) (S : Sto) (x y : V) (d e : D) (P : D → Sto → Prop) (Q : VK), RS K ι H S → VR K ι H x d → VR K ι H y e → f d e S P →
    (∀ ι' H' v d S', Ext K ι H ι' H' → RS K ι' H' S' → VR K ι' H' v d → P d S' → Q v H') → r [x, y] H Q) : CallA K r (ar2 f) := by
  intro ι H S xs ds P Q R rs g k
  match ds, rs, g with
  | [d, e], rs, g =>
    obtain ⟨v, u, rfl, rv, ru⟩ := rs.two
    exact h ι H S v u d e P Q R rv ru g k
/-! ### len -/
def lenD : F1 := fun x S P => match x with
  | .str s => s.length ≤ sizeLine ∧ P (.int s.length) S
  | .tup l => P (.int l.length) S
  | .ktp l => P (.int l.length) S
  | .rol l => P (.int l.length) S
  | .obj n => rdO S n fun o => match o with
    | .lst l => P (.int l.length) S
    | .dK l => P (.int l.length) S
    | _ => False
  | _ => False
def rLenAll (K : PySem.W.Frag) : List V → Hp → VK → Prop := fun xs H Q => (∃ p ys, xs = [V.ref p] ∧ (SqL K H p ys ∨ SqT K H p ys) ∧ Q (.int ys.length) H) ∨ (∃ z : Str, xs = [V.str z] ∧ z.length ≤ sizeLine ∧ Q (.int z.length) H) ∨ ∃ a kvs, xs = [V.ref a] ∧ H a = some (.dK kvs) ∧ Q (.int kvs.length) H
theorem c_len {X : Cx} : CallR X (.builtin "len") (rLenAll X.K) := CallR.or (r := fun xs H Q => ∃ p ys, xs = [V.ref p] ∧ (SqL X.K H p ys ∨ SqT X.K H p ys) ∧ Q (.int ys.length) H) call_len_seq (CallR.or (r := fun xs H Q => ∃ z : Str, xs = [V.str z] ∧ z.length ≤ sizeLine ∧ Q (.int z.length) H) call_len_str call_lenD)
theorem lenA : CallA K (rLenAll K.f) (ar1 lenD) := callA1 fun ι H S x d P Q R rx h k => by
  cases rx with
  | str s => exact .inr (.inl ⟨s, rfl, h.1, k ι H _ _ S .refl R (.int _) h.2⟩)
  | tup h1 h2 => exact .inl ⟨_, _, rfl, .inr (.of h1), k ι H _ _ S .refl R (by rw [h2.length]; exact .int _) h⟩
  | ktp h1 h2 => exact .inl ⟨_, _, rfl, .inr h1.sq, k ι H _ _ S .refl R (by rw [h2.length]; exact .int _) h⟩
  | rol h1 h2 => exact .inl ⟨_, _, rfl, .inl h1.sq, k ι H _ _ S .refl R (by rw [h2.length]; exact .int _) h⟩
  | obj e1 =>
    obtain ⟨o, e2, h⟩ := rdO_out h
    have ho := R.ob _ _ _ e1 e2
    cases o with
    | lst l =>
      obtain ⟨vs, q1, q2⟩ := ho
      exact .inl ⟨_, _, rfl, .inl (.of q1), k ι H _ _ S .refl R (by rw [q2.length]; exact .int _) h⟩
    | dK l =>
      obtain ⟨ws, q1, q2⟩ := ho
      have q2 : Prs K ι H ws l := q2
      exact .inr (.inr ⟨_, _, rfl, q1, k ι H _ _ S .refl R (by rw [q2.length]; exact .int _) h⟩)
    | _ => exact h.elim
  | _ => exact h.elim
/-! ### tuple(x), list(x) -/
def tupD : F1 := fun x S P => match x with
  | .tup l => P (.tup l) S
  | .rol l => P (.tup l) S
  | .obj n => rdL S n fun l => P (.tup l) S
  | _ => False
def rTupAll (K : PySem.W.Frag) : List V → Hp → VK → Prop := fun xs H Q => ∃ p ys, xs = [V.ref p] ∧ ((SqL K H p ys ∧ ∀ l, H l = none → Q (.ref l) (upd H l (.tup ys))) ∨ (SqT K H p ys ∧ Q (.ref p) H))
theorem c_tup {X : Cx} : CallR X (.type "tuple") (rTupAll X.K) := call_tuple_of
theorem tupA : CallA K (rTupAll K.f) (ar1 tupD) := callA1 fun ι H S x d P Q R rx h k => by
  cases rx with
  | tup h1 h2 => exact ⟨_, _, rfl, .inr ⟨.of h1, k ι H _ _ S .refl R (.tup h1 h2) h⟩⟩
  | rol h1 h2 =>
    refine ⟨_, _, rfl, .inl ⟨h1.sq, fun p hp => ?_⟩⟩
    obtain ⟨e2, r2, v2⟩ := new_tup R hp h2
    exact k _ _ _ _ _ e2 r2 v2 h
  | obj e1 =>
    obtain ⟨l, e2, h⟩ := rdL_out h
    obtain ⟨vs, q1, q2⟩ := R.ob _ _ _ e1 e2
    refine ⟨_, _, rfl, .inl ⟨.of q1, fun p hp => ?_⟩⟩
    obtain ⟨e2, r2, v2⟩ := new_tup R hp q2
    exact k _ _ _ _ _ e2 r2 v2 h
  | _ => exact h.elim
def lstD : F1 := fun x S P => seqP x S fun l => P (.obj S.length) (S ++ [.lst l])
def rLstAll (K : PySem.W.Frag) : List V → Hp → VK → Prop := fun xs H Q => ∃ p ys, xs = [V.ref p] ∧ (SqL K H p ys ∨ SqT K H p ys) ∧ ∀ l, H l = none → Q (.ref l) (upd H l (.lst ys))
theorem c_lst {X : Cx} : CallR X (.type "list") (rLstAll X.K) := call_list_of
theorem lstA : CallA K (rLstAll K.f) (ar1 lstD) := callA1 fun ι H S x d P Q R rx h k => by
  obtain ⟨a, vs, ds, rfl, hs, hv, h⟩ := seqP_out R rx h
  refine ⟨_, _, rfl, hs, fun p hp => ?_⟩
  obtain ⟨e2, r2, v2⟩ := new_lst R hp hv
  exact k _ _ _ _ _ e2 r2 v2 h
/-! ### abs, int, min, max -/
def absD : F1 := fun x S P => match x with | .int i => P (.int (if i < 0 then -i else i)) S | _ => False
def rAbs : List V → Hp → VK → Prop := fun xs H Q => ∃ i, xs = [V.int i] ∧ Q (.int (if i < 0 then -i else i)) H
theorem c_abs {X : Cx} : CallR X (.builtin "abs") rAbs := call_abs
theorem absA : CallA K rAbs (ar1 absD) := callA1 fun ι H S x d P Q R rx h k => by
  cases rx with
  | int i => exact ⟨i, rfl, k ι H _ _ S .refl R (.int _) h⟩
  | _ => exact h.elim
def intCD : F1 := fun x S P => match x with
  | .int i => P (.int i) S
  | .bl b => P (.int (if b then 1 else 0)) S
  | _ => False
def rInt1 : List V → Hp → VK → Prop := fun xs H Q => (∃ i, xs = [V.int i] ∧ Q (.int i) H) ∨ ∃ k, xs = [V.bl k] ∧ Q (.int (if k then 1 else 0)) H
theorem c_int {X : Cx} : CallR X (.type "int") rInt1 := call_int1
theorem intCA : CallA K rInt1 (ar1 intCD) := callA1 fun ι H S x d P Q R rx h k => by
  cases rx with
  | int i => exact .inl ⟨i, rfl, k ι H _ _ S .refl R (.int _) h⟩
  | bl i => exact .inr ⟨i, rfl, k ι H _ _ S .refl R (.int _) h⟩
  | _ => exact h.elim
def rMax2 : List V → Hp → VK → Prop := fun xs H Q => ∃ i j, xs = [V.int i, V.int j] ∧ Q (.int (if j > i then j else i)) H
def rMin2 : List V → Hp → VK → Prop := fun xs H Q => ∃ i j, xs = [V.int i, V.int j] ∧ Q (.int (if j < i then j else i)) H
theorem c_max2 {X : Cx} (hc : X.calm = true) : CallR X (.builtin "max") rMax2 := call_max2 hc
theorem c_min2 {X : Cx} (hc : X.calm = true) : CallR X (.builtin "min") rMin2 := call_min2 hc
abbrev max2D : F2 := intD0 fun i j => .int (if j > i then j else i)
abbrev min2D : F2 := intD0 fun i j => .int (if j < i then j else i)
theorem max2A : CallA K rMax2 (ar2 max2D) := callA2 fun ι H S x y d e P Q R rx ry h k => by
  cases rx with
  | int i =>
    cases ry with
    | int j => exact ⟨i, j, rfl, k ι H _ _ S .refl R (.int _) h⟩
    | _ => exact h.elim
  | _ => exact h.elim
theorem min2A : CallA K rMin2 (ar2 min2D) := callA2 fun ι H S x y d e P Q R rx ry h k => by
  cases rx with
  | int i =>
    cases ry with
    | int j => exact ⟨i, j, rfl, k ι H _ _ S .refl R (.int _) h⟩
    | _ => exact h.elim
  | _ => exact h.elim
/-! ### all, any of a list of truths; sorted of whole numbers -/
@[irreducible] def blsP (l : List D) (k : List Bool → Prop) : Prop := ∃ bs, l = bs.map D.bl ∧ k bs
theorem blsP_of {l : List D} {k : List Bool → Prop} {bs : List Bool} (e : l = bs.map D.bl) (h : k bs) : blsP l k := by unfold blsP; exact ⟨bs, e, h⟩
theorem blsP_map {α : Type} {xs : List α} {f : α → Bool} {k : List Bool → Prop} (h : k (xs.map f)) : blsP (xs.map fun x => D.bl (f x)) k := blsP_of (by rw [List.map_map]; rfl) h
@[irreducible] def intsP (l : List D) (k : List Int → Prop) : Prop := ∃ ns, l = ns.map D.int ∧ k ns
theorem intsP_of {l : List D} {k : List Int → Prop} {ns : List Int} (e : l = ns.map D.int) (h : k ns) : intsP l k := by unfold intsP; exact ⟨ns, e, h⟩
theorem VRs.bls {ι : List Addr} {H : Hp} : ∀ {bs : List Bool} {vs : List V}, VRs K ι H vs (bs.map D.bl) → vs = bs.map V.bl
  | [], _, h => by cases h; rfl
  | b :: bs, _, h => by
    cases h with
    | cons h1 h2 =>
      cases h1
      rw [VRs.bls h2]
      rfl
theorem VRs.ints {ι : List Addr} {H : Hp} : ∀ {bs : List Int} {vs : List V}, VRs K ι H vs (bs.map D.int) → vs = bs.map V.int
  | [], _, h => by cases h; rfl
  | b :: bs, _, h => by
    cases h with
    | cons h1 h2 =>
      cases h1
      rw [VRs.ints h2]
      rfl
theorem VRs.of_ints {ι : List Addr} {H : Hp} : ∀ (ns : List Int), VRs K ι H (ns.map V.int) (ns.map D.int)
  | [] => .nil
  | n :: ns => .cons (.int n) (VRs.of_ints ns)
def allD : F1 := fun x S P => lstP x S fun l => blsP l fun bs => P (.bl (bs.all id)) S
def anyD : F1 := fun x S P => lstP x S fun l => blsP l fun bs => P (.bl (bs.any id)) S
theorem allA : CallA K (rAll K.f) (ar1 allD) := callA1 fun ι H S x d P Q R rx h k => by
  obtain ⟨a, vs, ds, rfl, hs, hv, h⟩ := lstP_out R rx h
  unfold blsP at h
  obtain ⟨bs, rfl, h⟩ := h
  rw [hv.bls] at hs
  exact ⟨a, bs, rfl, hs, k ι H _ _ S .refl R (.bl _) h⟩
theorem anyA : CallA K (rAny K.f) (ar1 anyD) := callA1 fun ι H S x d P Q R rx h k => by
  obtain ⟨a, vs, ds, rfl, hs, hv, h⟩ := lstP_out R rx h
  unfold blsP at h
  obtain ⟨bs, rfl, h⟩ := h
  rw [hv.bls] at hs
  exact ⟨a, bs, rfl, hs, k ι H _ _ S .refl R (.bl _) h⟩
def sortI (ns : List Int) : List Int := ns.mergeSort fun a b => decide (a ≤ b)
theorem sortI_perm (ns : List Int) : (sortI ns).Perm ns := List.mergeSort_perm ns _
theorem sortI_sorted (ns : List Int) : (sortI ns).Pairwise (· ≤ ·) := by
  have h : (sortI ns).Pairwise (fun a b => decide (a ≤ b) = true) := List.pairwise_mergeSort (by intro a b c; simp; omega) (by intro a b; simp; omega) ns
  exact h.imp (by intro a b h; simpa using h)
theorem sorted_uniq : ∀ {l m : List Int}, l.Perm m → l.Pairwise (· ≤ ·) → m.Pairwise (· ≤ ·) → l = m := fun p h1 h2 => List.Perm.eq_of_pairwise (le := (· ≤ ·)) (by intro a b _ _ h1 h2; omega) h1 h2 p
def sortedD : F1 := fun x S P => lstP x S fun l => intsP l fun ns => P (.obj S.length) (S ++ [.lst ((sortI ns).map D.int)])
theorem sortedA : CallA K (rSortedI K.f) (ar1 sortedD) := callA1 fun ι H S x d P Q R rx h k => by
  obtain ⟨a, vs, ds, rfl, hs, hv, h⟩ := lstP_out R rx h
  unfold intsP at h
  obtain ⟨ns, rfl, h⟩ := h
  rw [hv.ints] at hs
  refine ⟨a, ns, rfl, hs, fun ns' p p1 p2 hp => ?_⟩
  have e : ns' = sortI ns := sorted_uniq (p1.trans (sortI_perm ns).symm) p2 (sortI_sorted ns)
  subst e
  obtain ⟨e2, r2, v2⟩ := new_lst R hp (VRs.of_ints (sortI ns))
  exact k _ _ _ _ _ e2 r2 v2 h
/-! ### isinstance with a built-in class -/
def isTg : Tg → Tg → Bool
  | .bl, .int => true
  | a, b => decide (a = b)
theorem kit_tab : ∀ t ∈ [Tg.non, .bl, .int, .str, .tup, .lst, .dic], ∀ n ∈ [Tg.bl, .int, .str, .tup, .lst, .dic], kitB t.name n.name = some (isTg t n) := by decide +kernel
def isiD : F2 := fun x c S P => match c with
  | .tg n => n ≠ .non ∧ (match x with
    | .non => P (.bl (isTg .non n)) S
    | .bl _ => P (.bl (isTg .bl n)) S
    | .int _ => P (.bl (isTg .int n)) S
    | .str _ => P (.bl (isTg .str n)) S
    | .tup _ => P (.bl (isTg .tup n)) S
    | .ktp _ => P (.bl (isTg .tup n)) S
    | .rol _ => P (.bl (isTg .lst n)) S
    | .obj m => rdO S m fun o => match o with
      | .lst _ => P (.bl (isTg .lst n)) S
      | .dK _ => P (.bl (isTg .dic n)) S
      | .dT _ => P (.bl (isTg .dic n)) S
      | _ => False
    | _ => False)
  | _ => False
theorem kit_of' {t n : Tg} (hn : n ≠ .non) : PySem.W.kitOne K.f (.type t.name) (.type n.name) = some (isTg t n) :=
  kit_ty (kit_tab t (by cases t <;> simp) n (by cases n <;> simp at hn ⊢))
theorem isiA : CallA K (rIsi K.f) (ar2 isiD) := callA2 fun ι H S x y d e P Q R rx ry h k => by
  have fin : ∀ {t n : Tg}, n ≠ .non → e = .tg n → TyX K.f H x (.type t.name) → P (.bl (isTg t n)) S → rIsi K.f [x, y] H Q := fun {t n} hn en ty hq => by
    subst en
    cases ry
    exact ⟨x, _, _, _, isTg t n, rfl, .ty _, ty, kit_of' hn, k ι H _ _ S .refl R (.bl _) hq⟩
  cases e with
  | tg n =>
    obtain ⟨hn, h⟩ := h
    cases rx with
    | non => exact fin (t := .non) hn rfl (.base .non) h
    | bl b => exact fin (t := .bl) hn rfl (.base (.bl b)) h
    | int b => exact fin (t := .int) hn rfl (.base (.int b)) h
    | str b => exact fin (t := .str) hn rfl (.base (.str b)) h
    | tup h1 h2 => exact fin (t := .tup) hn rfl (.base (.tup h1)) h
    | ktp h1 h2 =>
      obtain ⟨o, its, m, a1, a2, _⟩ := h1
      exact fin (t := .tup) hn rfl (.kTuple a1 a2) h
    | rol h1 h2 =>
      rcases h1 with ⟨o, h1⟩ | ⟨o, its, m, a1, a2, _⟩
      · exact fin (t := .lst) hn rfl (.base (.frz h1)) h
      · exact fin (t := .lst) hn rfl (.kList a1 a2) h
    | obj e1 =>
      obtain ⟨o, e2, h⟩ := rdO_out h
      have ho := R.ob _ _ _ e1 e2
      cases o with
      | lst l =>
        obtain ⟨vs, q1, q2⟩ := ho
        exact fin (t := .lst) hn rfl (.base (.lst q1)) h
      | dK l =>
        obtain ⟨vs, q1, q2⟩ := ho
        exact fin (t := .dic) hn rfl (.base (.dK q1)) h
      | dT l =>
        obtain ⟨vs, q1, q2⟩ := ho
        exact fin (t := .dic) hn rfl (.base (.dT q1)) h
      | _ => exact h.elim
    | _ => exact h.elim
  | _ => exact h.elim
section
variable {X : Cx} {B : Bs}
theorem a_tg {n : Str} {t : Tg} {pos : Pos} (hm : X.mg n = none) (hv : bootBuiltins n = some (.type t.name)) (hg : Gl X n := by rfl) (hn : n ≠ "__name__" := by decide) (hd : (n == ("__debug__" : Str)) = false := by decide) : PE X (.Name n pos) (eOf (kx X) B (aC (.tg t))) :=
  a_c (pe_bltn (v := .ty t.name) hg hm hv rfl hn hd) fun _ _ => .tg t
/-- a module's constant -/
theorem a_glob {n : Str} {v : V} {d : D} {u : Value} {pos : Pos} (hm : X.mg n = some u) (r : RelV v u) (q : ∀ ι H, VR (kx X) ι H v d) (hg : Gl X n := by rfl) (hd : (n == ("__debug__" : Str)) = false := by decide) : PE X (.Name n pos) (eOf (kx X) B (aC d)) := a_c (pe_glob hg hm r hd) q
end
/-! ### methods of lists -/
abbrev FM := D → List D → Sto → (D → Sto → Prop) → Prop
def MtA (K : KX) (r : V → List V → Hp → VK → Prop) (f : FM) : Prop := ∀ (ι : List Addr) (H : Hp) (S : Sto) (x : V) (xs : List V) (d : D) (ds : List D) (P : D → Sto → Prop) (Q : VK), RS K ι H S → VR K ι H x d → VRs K ι H xs ds → f d ds S P →
  (∀ ι' H' v d S', Ext K ι H ι' H' → RS K ι' H' S' → VR K ι' H' v d → P d S' → Q v H') → r x xs H Q
def aMtL (f : FM) (x : AE) (z : AA) : AE := fun a S P => x a S fun d S1 => lstP d S1 fun _ => z a S1 fun ds S2 => f d ds S2 P
def appD : FM := fun x ds S P => match x with
  | .obj n => (match ds with | [d] => rdL S n fun l => l.length < sizeLine ∧ P .non (S.set n (.lst (l ++ [d]))) | _ => False)
  | _ => False
theorem appA : MtA K rAppend appD := by
  intro ι H S x xs d ds P Q R rx rs h k
  cases rx with
  | obj e1 =>
    match ds, rs, h with
    | [d], rs, h =>
      obtain ⟨v, rfl, rv⟩ := rs.one
      obtain ⟨l, e2, hz, h⟩ := rdL_out h
      obtain ⟨vs, q1, q2⟩ := R.ob _ _ _ e1 e2
      obtain ⟨e3, r3⟩ := put_lst R e1 q1 (q2.append (.cons rv .nil))
      exact ⟨_, vs, v, rfl, rfl, q1, by rw [q2.length]; exact hz, k _ _ _ _ _ e3 r3 .non h⟩
  | _ => exact h.elim
def popD : FM := fun x ds S P => match x with
  | .obj n => (match ds with
    | [.int i] => rdL S n fun l => (0 ≤ i ∧ i < 2 ^ 63 ∧ i < l.length) ∧ ixP l i fun d => P d (S.set n (.lst (l.eraseIdx i.toNat)))
    | [] => rdL S n fun l => ixP l (-1) fun d => P d (S.set n (.lst l.dropLast))
    | _ => False)
  | _ => False
section
variable {X : Cx} {B : Bs} {o e : Expr} {es : List Expr} {x : AE} {z : AA} {name : Str} {apos cpos : Pos} {id : String} {r : V → List V → Hp → VK → Prop} {f : FM}
theorem a_mtL (slot : Slot "list" name id) (hty : typeOf (.builtin id) = pure (.type "method_descriptor")) (hm : MtR X id r) (hf : MtA (kx X) r f) (ho : PE X o (eOf (kx X) B x)) (ha : PA X (e :: es) (aOf (kx X) B z))
    (hbase : attributeBase o name X.env (eval o X.env) = eval o X.env := by rfl)
    (hfew : ((backTo cpos (starEach (e :: es) X.env)).all (fun x => !x.1) && (backToKw cpos (keywordEach [] X.env)).all (fun x => x.1.isSome)
      && decide ((e :: es).length + ([] : List Keyword).length + (if ([] : List Keyword).isEmpty then 0 else 1) < 30)) = true := by rfl)
    (hline : (apos.endLine == cpos.line) = true := by rfl) (hs : starEach (e :: es) X.env = (false, eval e X.env) :: starEach es X.env := by rfl) (hplain : (backTo cpos (starEach es X.env)).any (·.1) = false := by rfl) :
    PE X (.Call (.Attribute o name apos) (e :: es) [] cpos) (eOf (kx X) B (aMtL f x z)) := by
  refine PE.imp (pe_bm PySem.F.plainAttrs_list slot hty hm ho ha hbase hfew hline hs hplain) fun σ H Q h => ?_
  obtain ⟨ι, a, S, P, g, h, k⟩ := h
  refine ⟨ι, a, S, _, g, h, fun ι1 H1 v d S1 e1 r1 v1 h1 => ?_⟩
  obtain ⟨c, vs, ds, rfl, hs', hv, h1⟩ := lstP_out r1 v1 h1
  refine ⟨.inl ⟨rfl, _, hs'⟩, ι1, a, S1, _, g.go e1 r1, h1, fun ι2 H2 ws es S2 e2 r2 v2 h2 => ?_⟩
  exact hf ι2 H2 S2 _ ws d es P Q r2 (v1.up e2) v2 h2 fun ι3 H3 u z S3 e3 r3 v3 h3 => k ι3 H3 u z S3 ((e1.trans e2).trans e3) r3 v3 h3
end
end Ab

namespace Ab
open PySem L2

/-! ### what is walked -/
structure IT where
  chk : Sto → Prop
  items : List D
abbrev AI := AS → Sto → (IT → Sto → Prop) → Prop
def ItR (K : KX) (ι0 : List Addr) (H0 : Hp) (J : It) (I : IT) : Prop := ∀ ι H S, Ex0 K ι0 H0 ι H → RS K ι H S → I.chk S →
  (∀ i, i < I.items.length → J.go i H ∧ ∀ x H', J.yld i H x H' → ∃ d, I.items[i]? = some d ∧ Ext K ι H ι H' ∧ RS K ι H' S ∧ VR K ι H' x d) ∧ J.stop I.items.length H
def iOf (K : KX) (B : Bs) (ai : AI) : TI := fun σ H R => ∃ ι a S P, Good K B ι σ H a S ∧ ai a S P ∧
  ∀ ι' H' S' J I, Ext K ι H ι' H' → RS K ι' H' S' → ItR K ι' H' J I → P I S' → R J H'
def always : Sto → Prop := fun _ => True
def isAt (n : Nat) (l : List D) : Sto → Prop := fun S => S[n]? = some (.lst l)

/-! ### for -/
def aLoop (chk : Sto → Prop) (g : AG) (body : AX) (AD : AEnds) : List D → AS → Sto → Prop
  | [], a, S => chk S ∧ AD.nx a S
  | d :: ds, a, S => chk S ∧ g d a S fun a1 S1 => body { AD with nx := aLoop chk g body AD ds, ct := aLoop chk g body AD ds, bk := AD.nx } a1 S1
def aFor (it : AI) (g : AG) (body : AX) : AX := fun AD a S => it a S fun I S1 => aLoop I.chk g body AD I.items a S1
section
variable {X : Cx} {B : Bs} {tg iter : Expr} {body : List Stmt} {it : AI} {g : AG} {t : AX} {pos : Pos}
theorem s_for (hi : PI X tg iter (iOf (kx X) B it)) (hg : PG X tg (gOf (kx X) B g)) (hb : PSs X body (sOf (kx X) B t)) (hp : PySem.PassesOwn (model X.prog X.w) X.A X.env X.xe := by exact PySem.PassesOwn.never) (hc : X.calm = true := by rfl)
    (hs : ∀ x, foldedSetIterable iter X.env x = pure x := by intro _; rfl) : PS X (.For tg iter body [] pos) (sOf (kx X) B (aFor it g t)) := by
  refine PS.imp (ps_for hp hc hi hg hb hs) fun D σ H h => ?_
  obtain ⟨ι, a, S, AD, gd, h, k⟩ := h
  refine ⟨ι, a, S, _, gd, h, fun ι1 H1 S1 J I e1 r1 J1 h1 => ?_⟩
  refine ⟨fun i m σ H => m = I.items.length - i ∧ i ≤ I.items.length ∧ ∃ ι a S, Ext (kx X) ι1 H1 ι H ∧ RS (kx X) ι H S ∧ SR (kx X) ι H σ a ∧ aLoop I.chk g t AD (I.items.drop i) a S,
    ⟨I.items.length, by simp, Nat.zero_le _, ι1, a, S1, .refl, r1, gd.sr.up e1, by simpa using h1⟩, ?_⟩
  rintro i m σ2 H2 ⟨rfl, hi, ι2, a2, S2, e2, r2, s2, h2⟩
  by_cases hl : i < I.items.length
  · rw [List.drop_eq_getElem_cons hl] at h2
    obtain ⟨hc, h2⟩ : I.chk S2 ∧ _ := h2
    obtain ⟨go, yl⟩ := (J1 ι2 H2 S2 e2.to0 r2 hc).1 i hl
    refine .inr ⟨go, fun σ H => ∃ ι a S, Ext (kx X) ι1 H1 ι H ∧ RS (kx X) ι H S ∧ SR (kx X) ι H σ a ∧ aLoop I.chk g t AD (I.items.drop (i + 1)) a S, fun σ' H' n => ⟨_, by omega, rfl, hl, n⟩, fun x H' y => ?_⟩
    obtain ⟨d, hd, e3, r3, v3⟩ := yl x H' y
    have ed : I.items[i] = d := Option.some.inj ((List.getElem?_eq_getElem hl).symm.trans hd)
    rw [ed] at h2
    refine ⟨ι2, d, a2, S2, _, ⟨((gd.ext.trans e1).trans e2).trans e3, r3, s2.up e3⟩, v3, h2, fun ι4 H4 σ4 a4 S4 e4 r4 s4 h4 => ?_⟩
    have E : Ext (kx X) ι1 H1 ι4 H4 := (e2.trans e3).trans e4
    refine ⟨ι4, a4, S4, _, ⟨(gd.ext.trans e1).trans E, r4, s4⟩, h4, ?_⟩
    have k4 := k.up (e1.trans E)
    exact ⟨fun ι5 H5 σ5 a5 S5 e5 r5 s5 h5 => ⟨ι5, a5, S5, E.trans e5, r5, s5, h5⟩, k4.rt, k4.nx, fun ι5 H5 σ5 a5 S5 e5 r5 s5 h5 => ⟨ι5, a5, S5, E.trans e5, r5, s5, h5⟩, k4.ex⟩
  · have ei : i = I.items.length := by omega
    subst ei
    rw [List.drop_length] at h2
    obtain ⟨hc, h2⟩ : I.chk S2 ∧ AD.nx a2 S2 := h2
    exact .inl ⟨(J1 ι2 H2 S2 e2.to0 r2 hc).2, k.nx _ _ _ _ _ (e1.trans e2) r2 s2 h2⟩
end

/-! ### sources -/
def seqI (d : D) (S1 : Sto) (P : IT → Sto → Prop) : Prop := match d with
  | .tup l => P ⟨always, l⟩ S1
  | .ktp l => P ⟨always, l⟩ S1
  | .rol l => P ⟨always, l⟩ S1
  | .obj n => rdL S1 n fun l => P ⟨isAt n l, l⟩ S1
  | _ => False
def iSeq (x : AE) : AI := fun a S P => x a S fun d S1 => seqI d S1 P
section
variable {K : KX} {ι : List Addr} {H : Hp}
theorem itr_tup {a : Addr} {vs : List V} {ds : List D} (h : ∀ ι' H', Ex0 K ι H ι' H' → SqT K.f H' a vs) (r : VRs K ι H vs ds) : ItR K ι H (Itt K.f a) ⟨always, ds⟩ := by
  intro ι1 H1 S1 e1 r1 _
  refine ⟨fun i hi => ?_, ⟨vs, h _ _ e1, Nat.le_of_eq r.length⟩⟩
  obtain ⟨v, hv, rv⟩ := r.get (List.getElem?_eq_getElem hi)
  refine ⟨⟨vs, v, h _ _ e1, hv⟩, fun x H' y => ?_⟩
  obtain ⟨rfl, y⟩ := y
  have : v = x := Option.some.inj (hv.symm.trans (y vs (h _ _ e1)))
  subst this
  exact ⟨_, List.getElem?_eq_getElem hi, .refl, r1, rv.up0 e1⟩
theorem itr_rol {a : Addr} {vs : List V} {ds : List D} (h : RoL K H a vs) (r : VRs K ι H vs ds) : ItR K ι H (Itl K.f a) ⟨always, ds⟩ := by
  intro ι1 H1 S1 e1 r1 _
  have h1 := (e1.rol _ _ h).sq
  refine ⟨fun i hi => ?_, ⟨vs, h1, Nat.le_of_eq r.length⟩⟩
  obtain ⟨v, hv, rv⟩ := r.get (List.getElem?_eq_getElem hi)
  refine ⟨⟨vs, v, h1, hv⟩, fun x H' y => ?_⟩
  obtain ⟨rfl, y⟩ := y
  have : v = x := Option.some.inj (hv.symm.trans (y vs h1))
  subst this
  exact ⟨_, List.getElem?_eq_getElem hi, .refl, r1, rv.up0 e1⟩
theorem itr_obj {a : Addr} {n : Nat} {ds : List D} (h : ι[n]? = some a) : ItR K ι H (Itl K.f a) ⟨isAt n ds, ds⟩ := by
  intro ι1 H1 S1 e1 r1 hc
  obtain ⟨vs, q1, r⟩ := r1.ob n a _ (e1.pre n a h) hc
  have h1 : SqL K.f H1 a vs := .of q1
  refine ⟨fun i hi => ?_, ⟨vs, h1, Nat.le_of_eq r.length⟩⟩
  obtain ⟨v, hv, rv⟩ := r.get (List.getElem?_eq_getElem hi)
  refine ⟨⟨vs, v, h1, hv⟩, fun x H' y => ?_⟩
  obtain ⟨rfl, y⟩ := y
  have : v = x := Option.some.inj (hv.symm.trans (y vs h1))
  subst this
  exact ⟨_, List.getElem?_eq_getElem hi, .refl, r1, rv⟩
/-- a list or tuple by its address: how it is walked -/
def iSq (K : PySem.W.Frag) (te : TE) : TI := fun σ H R => te σ H fun x H1 => ∃ a, x = .ref a ∧ (((∃ xs, SqL K H1 a xs) ∧ R (Itl K a) H1) ∨ ((∃ xs, SqT K H1 a xs) ∧ R (Itt K a) H1))
end
section
variable {X : Cx} {B : Bs} {tg e : Expr} {x : AE} {pos : Pos}
theorem pi_sq {te : TE} (he : PE X e te) : PI X tg e (iSq X.K te) := by
  refine ⟨fun pins s σ H R I h => ?_⟩
  refine thn (he.run pins s σ H _ I h) fun v s1 ⟨y, H1, I1, r1, a, ey, q1⟩ => ?_
  subst ey
  cases r1
  have new : ∀ (o : Obj) (b : Addr) (ob : Obj), s1.heap.get? b = some ob → (s1.heap.push o).get? b = some ob := fun o b ob z => Heap.get?_push_of_some _ z
  have fpo : ∀ b ∈ [s1.heap.objs.size], FpOk X pins H1 b := fun b hb => by
    obtain rfl : b = s1.heap.objs.size := by simpa using hb
    exact I1.fpOk (Nat.le_refl _) (I1.hok.fresh (Nat.le_refl _))
  rcases q1 with ⟨⟨xs, hq⟩, q⟩ | ⟨⟨xs, hq⟩, q⟩
  · obtain ⟨its, rv, p, hz⟩ := I1.list hq
    exact PySem.wpAny_pyIter_list p.isList ⟨_, [s1.heap.objs.size], _, _, H1, rfl, I1.kept (t' := s1.toks) (new _), turn_list a _, ⟨_, Heap.get?_push_size _ rfl, rfl, rfl⟩, fpo, q⟩
  · obtain ⟨its, rv, p, hz⟩ := I1.tuple hq
    exact PySem.wpAny_pyIter_tuple (show s1.heap.IsTuple a its.toArray from p) ⟨_, [s1.heap.objs.size], _, _, H1, rfl, I1.kept (t' := s1.toks) (new _), turn_tuple a _, ⟨_, Heap.get?_push_size _ rfl, rfl, rfl⟩, fpo, q⟩
theorem i_seq (he : PE X e (eOf (kx X) B x)) : PI X tg e (iOf (kx X) B (iSeq x)) := by
  refine PI.imp (pi_sq he) fun σ H R h => ?_
  obtain ⟨ι, a, S, P, g, h, k⟩ := h
  refine ⟨ι, a, S, _, g, h, fun ι1 H1 v d S1 e1 r1 v1 h1 => ?_⟩
  cases v1 with
  | tup h2 h3 => exact ⟨_, rfl, .inr ⟨⟨_, .of h2⟩, k _ _ _ _ _ e1 r1 (itr_tup (fun _ _ e => .of (e.tup _ _ h2)) h3) h1⟩⟩
  | ktp h2 h3 => exact ⟨_, rfl, .inr ⟨⟨_, h2.sq⟩, k _ _ _ _ _ e1 r1 (itr_tup (fun _ _ e => h2.sq) h3) h1⟩⟩
  | rol h2 h3 => exact ⟨_, rfl, .inl ⟨⟨_, h2.sq⟩, k _ _ _ _ _ e1 r1 (itr_rol h2 h3) h1⟩⟩
  | obj h2 =>
    obtain ⟨l, e2, h1⟩ := rdL_out h1
    obtain ⟨vs, q1, q2⟩ := r1.ob _ _ _ h2 e2
    exact ⟨_, rfl, .inl ⟨⟨_, .of q1⟩, k _ _ _ _ _ e1 r1 (itr_obj h2) h1⟩⟩
  | _ => exact h1.elim

/-! ### range -/
def rgItems (lo : Int) (n : Nat) : List D := (List.range n).map fun i => D.int (lo + (i : Nat))
theorem rgItems_get {lo : Int} {n i : Nat} (h : i < n) : (rgItems lo n)[i]? = some (.int (lo + i)) := by simp [rgItems, h]
theorem rgItems_len (lo : Int) (n : Nat) : (rgItems lo n).length = n := by simp [rgItems]
theorem itr_rg {K : KX} {ι : List Addr} {H : Hp} (lo : Int) (n : Nat) : ItR K ι H (Itr lo n) ⟨always, rgItems lo n⟩ := by
  intro ι1 H1 S1 e1 r1 _
  refine ⟨fun i hi => ?_, by show n ≤ _; rw [rgItems_len]; exact Nat.le_refl _⟩
  have hi : i < n := by simpa [rgItems_len] using hi
  refine ⟨hi, fun x H' y => ?_⟩
  obtain ⟨rfl, rfl⟩ := y
  exact ⟨_, rgItems_get hi, .refl, r1, .int _⟩
def iRg1 (z : AA) : AI := fun a S P => z a S fun ds S1 => match ds with
  | [.int j] => (-(2 ^ 62) ≤ j ∧ j < 2 ^ 62) ∧ P ⟨always, rgItems 0 j.toNat⟩ S1
  | _ => False
def iRg2 (z : AA) : AI := fun a S P => z a S fun ds S1 => match ds with
  | [.int i, .int j] => (-(2 ^ 62) ≤ i ∧ i < 2 ^ 62 ∧ -(2 ^ 62) ≤ j ∧ j < 2 ^ 62) ∧ P ⟨always, rgItems i (j - i).toNat⟩ S1
  | _ => False
variable {z : AA} {p : Pos} {a b : Expr}
theorem i_rg1 (hm : X.mg "range" = none) (ha : PA X [a] (aOf (kx X) B z)) (hg : Gl X "range" := by rfl) (hs : starEach [a] X.env = [(false, eval a X.env)] := by rfl) : PI X tg (.Call (.Name "range" p) [a] [] pos) (iOf (kx X) B (iRg1 z)) := by
  refine PI.imp (pi_range1 hg hm ha hs) fun σ H R h => ?_
  obtain ⟨ι, a, S, P, g, h, k⟩ := h
  refine ⟨ι, a, S, _, g, h, fun ι1 H1 vs ds S1 e1 r1 v1 h1 => ?_⟩
  match ds, v1, h1 with
  | [.int j], v1, ⟨⟨h2, h3⟩, h1⟩ =>
    obtain ⟨v, rfl, rv⟩ := v1.one
    cases rv
    exact ⟨j, rfl, h2, h3, k _ _ _ _ _ e1 r1 (itr_rg 0 _) h1⟩
theorem i_rg2 (hm : X.mg "range" = none) (ha : PA X [a, b] (aOf (kx X) B z)) (hg : Gl X "range" := by rfl) (hs : starEach [a, b] X.env = [(false, eval a X.env), (false, eval b X.env)] := by rfl) (hs2 : starEach [b] X.env = [(false, eval b X.env)] := by rfl) :
    PI X tg (.Call (.Name "range" p) [a, b] [] pos) (iOf (kx X) B (iRg2 z)) := by
  refine PI.imp (pi_range2 hg hm ha hs hs2) fun σ H R h => ?_
  obtain ⟨ι, a, S, P, g, h, k⟩ := h
  refine ⟨ι, a, S, _, g, h, fun ι1 H1 vs ds S1 e1 r1 v1 h1 => ?_⟩
  match ds, v1, h1 with
  | [.int i, .int j], v1, ⟨h2, h1⟩ =>
    obtain ⟨v, u, rfl, rv, ru⟩ := v1.two
    cases rv
    cases ru
    exact ⟨i, j, rfl, h2, k _ _ _ _ _ e1 r1 (itr_rg i _) h1⟩

/-! ### reversed(list or tuple) -/
def iRevS (x : AE) : AI := fun a S P => x a S fun d S1 => match d with
  | .tup l => P ⟨always, l.reverse⟩ S1
  | .obj n => rdL S1 n fun l => P ⟨isAt n l, l.reverse⟩ S1
  | _ => False
theorem i_rev (hm : X.mg "reversed" = none) (he : PE X e (eOf (kx X) B x)) (hg : Gl X "reversed" := by rfl) (hs : starEach [e] X.env = (false, eval e X.env) :: starEach [] X.env := by rfl) : PI X tg (.Call (.Name "reversed" p) [e] [] pos) (iOf (kx X) B (iRevS x)) := by
  refine PI.imp (RT.pi_revA hg hm he hs) fun σ H R h => ?_
  obtain ⟨ι, a, S, P, g, h, k⟩ := h
  refine ⟨ι, a, S, _, g, h, fun ι1 H1 v d S1 e1 r1 v1 h1 => ?_⟩
  have back : ∀ {K : KX} {ι : List Addr} {H : Hp} {vs : List V} {ds : List D} {i : Nat}, VRs K ι H vs ds → i < ds.reverse.length → ∃ v, vs[vs.length - 1 - i]? = some v ∧ ∃ d, ds.reverse[i]? = some d ∧ VR K ι H v d := fun {K ι H vs ds i} r hi => by
    obtain ⟨v, q, r'⟩ := r.reverse.get (List.getElem?_eq_getElem hi)
    rw [List.getElem?_reverse (by rw [r.length]; simpa using hi)] at q
    exact ⟨v, q, _, List.getElem?_eq_getElem hi, r'⟩
  cases v1 with
  | tup h2 h3 =>
    refine ⟨_, _, rfl, .inr ⟨.of h2, k _ _ _ _ _ e1 r1 (fun ι2 H2 S2 e2 r2 _ => ⟨fun i hi => ?_, ?_⟩) h1⟩⟩
    · obtain ⟨v, q, d, hd, rv⟩ := back h3 hi
      refine ⟨?_, fun x H' y => ?_⟩
      · exact ⟨by simp at hi; rw [h3.length]; omega, _, v, .of (e2.tup _ _ h2), q⟩
      · obtain ⟨rfl, y⟩ := y
        have : v = x := Option.some.inj (q.symm.trans (y _ (.of (e2.tup _ _ h2))))
        subst this
        exact ⟨d, hd, .refl, r2, rv.up0 e2⟩
    · show _ ≤ _; simp [h3.length]
  | obj h2 =>
    obtain ⟨l, q0, h1⟩ := rdL_out h1
    obtain ⟨vs, q1, q2⟩ := r1.ob _ _ _ h2 q0
    refine ⟨_, _, rfl, .inl ⟨.of q1, k _ _ _ _ _ e1 r1 (fun ι2 H2 S2 e2 r2 hc => ?_) h1⟩⟩
    obtain ⟨us, q3, q4⟩ := r2.ob _ _ _ (e2.pre _ _ h2) hc
    have lu : us.length = vs.length := by rw [q4.length, q2.length]
    refine ⟨fun i hi => ?_, ?_⟩
    · obtain ⟨v, q, d, hd, rv⟩ := back q4 hi
      refine ⟨?_, fun x H' y => ?_⟩
      · exact ⟨by simp at hi; rw [q2.length]; omega, us, v, .of q3, by rw [← lu]; exact q⟩
      · obtain ⟨rfl, y⟩ := y
        have y' := y us (.of q3)
        rw [← lu] at y'
        have : v = x := Option.some.inj (q.symm.trans y')
        subst this
        exact ⟨d, hd, .refl, r2, rv⟩
    · show _ ≤ _; simp [q2.length]
  | _ => exact h1.elim
end
end Ab

/-! enumerate of a tuple -/
namespace PySem
theorem ab_enum_new {v : Value} {o : Obj} {HH : Heap → Prop} (B : Begins v o HH) :
    Meets (Builtin.«enumerate.__new__» ⟨[.type "enumerate", v], []⟩) (fun _ R s => HH s.heap ∧
      R (.ok (.ret (.ref (s.heap.push o).objs.size))) { s with heap := (s.heap.push o).push { cls := .type "enumerate", data := .fields #[.none, .bool false, .ref s.heap.objs.size, rawInt 0, .none, .none] } }) :=
  .of_wp fun prog w A R s hyp => by
    obtain ⟨hp, g, d, tk, os⟩ := s
    obtain ⟨b1, fin⟩ := hyp
    have hsub := sub_enumerate
    have begin_ : ∀ {A' : Around} {E : Value → Shared → Prop} {Q : Value → Shared → Prop}, Q (.ref hp.objs.size) ⟨hp.push o, g, d, tk, os⟩ → wpAny (model prog w) A' (pyIter v) Q E ⟨hp, g, d, tk, os⟩ :=
      fun q => B.iter prog w _ _ ⟨hp, g, d, tk, os⟩ _ b1 q
    wp_walk using begin_
    refine wpAny_stack_any fun st => wpAny_pure ?_
    split
    · rename_i c _ _ _ _ _
      cases hcc : (c == Value.type "enumerate") <;> (wp_walk using begin_; exact ⟨_, rfl, fin⟩)
    · wp_walk using begin_
      exact ⟨_, rfl, fin⟩
section
variable {prog : Program} {w : World} {A : Around} {E : Value → Shared → Prop} {s : Shared}
theorem ab_enum_call {v : Value} {o : Obj} {HH : Heap → Prop} {Q : Value → Shared → Prop} (B : Begins v o HH) (b1 : HH s.heap)
    (fin : ∀ h', IsEnum h' (s.heap.objs.size + 1) s.heap.objs.size 0 .none → h'.get? s.heap.objs.size = some o → h'.objs.size = s.heap.objs.size + 2 →
      (∀ b u, s.heap.get? b = some u → h'.get? b = some u) → Q (.ref (s.heap.objs.size + 1)) { s with heap := h' }) : wpAny (model prog w) A (call (.type "enumerate") [v]) Q E s := by
  refine callType_new F.called_enumerate (by decide) (F.typeCall_enumerate_1 _) (F.newCall_enumerate_1 _) (fun obj => F.args_object_init_2 obj _) F.entry_enumerate_new (ab_enum_new B) ⟨b1, ?_⟩
  have hz : (s.heap.push o).objs.size = s.heap.objs.size + 1 := Heap.size_push ..
  show _ ∧ _
  rw [hz]
  have he : IsEnum ((s.heap.push o).push { cls := .type "enumerate", data := .fields #[.none, .bool false, .ref s.heap.objs.size, rawInt 0, .none, .none] }) (s.heap.objs.size + 1) s.heap.objs.size 0 .none := by
    have z := Heap.get?_push_size (s.heap.push o) (o := { cls := .type "enumerate", data := .fields #[.none, .bool false, .ref s.heap.objs.size, rawInt 0, .none, .none] }) rfl
    rw [hz] at z
    exact z
  exact ⟨⟨_, he, rfl⟩, fin _ he (Heap.get?_push_of_some _ (Heap.get?_push_size _ B.free)) (by rw [Heap.size_push, hz]) fun b u x => Heap.get?_push_of_some _ (Heap.get?_push_of_some _ x)⟩
end
end PySem
namespace Ab
open PySem L2
/-- the tuple at a, each item in a new pair with its number -/
def IteT (K : PySem.W.Frag) (a : Addr) : It :=
  ⟨fun i H => ∃ (xs : List V) (x : V), SqT K H a xs ∧ xs[i]? = some x, fun i H v H' => ∃ T x, v = .ref T ∧ H T = none ∧ H' = upd H T (.tup [.int (i : Nat), x]) ∧ ∀ xs, SqT K H a xs → xs[i]? = some x, fun i H => ∃ xs : List V, SqT K H a xs ∧ xs.length ≤ i⟩
theorem turn_eT {P : Program} {w : World} {K : PySem.W.Frag} {elts : List Expr} {kk : Nat} {tpos : Pos} (a e it : Addr) :
    Turn P w K (.Tuple elts kk tpos) (IteT K a) [e, it] e (fun i h => (∃ old, IsEnum h e it ((i : Nat) : Int) old) ∧ h.IsTupleIter it a i ∧ e ≠ it) where
  mem := by simp
  obj := fun i h st b hb => by
    obtain ⟨⟨old, he⟩, ⟨o, ho, hc, hd⟩, _⟩ := st
    have two : b = e ∨ b = it := by simpa using hb
    rcases two with z | z
    · rw [z]; exact ⟨_, he, fun v q => nomatch q⟩
    · rw [z]; exact ⟨o, ho, fun v q => by rw [hd] at q; cases q⟩
  keep := fun i h h' st k => by
    obtain ⟨⟨old, he⟩, hi, hne⟩ := st
    exact ⟨⟨old, k e (by simp) _ he⟩, hi.at fun o q => k it (by simp) o q, hne⟩
  item := by
    intro X hP hw hK hc i pins s σ H E I hf st hg
    subst hP hw hK
    obtain ⟨⟨old, he⟩, hit, hne⟩ := st
    obtain ⟨xs, x, hq, hx⟩ := hg
    obtain ⟨its, rv, p, hz⟩ := I.tuple hq
    obtain ⟨u, hu, ru⟩ := rv.get hx
    have hel : e < s.heap.objs.size := Heap.lt_size he
    have hil : it < s.heap.objs.size := by obtain ⟨_, q, _⟩ := hit; exact Heap.lt_size q
    have pt : s.heap.IsTuple a its.toArray := p
    have hai : a ≠ it := fun z => by
      obtain ⟨o1, q1, c1, _⟩ := hit
      obtain ⟨o2, q2, c2, _⟩ := pt
      rw [z, q1] at q2
      cases q2
      rw [c1] at c2
      exact absurd c2 (by decide)
    have hae : e ≠ a := fun z => by
      obtain ⟨o2, q2, c2, _⟩ := pt
      have he' : s.heap.get? e = _ := he
      rw [z, q2] at he'
      cases he'
      exact absurd (Value.type.inj (show Value.type "enumerate" = Value.type "tuple" from c2)) (by decide)
    have hlt : i < its.toArray.size := by
      have := (List.getElem?_eq_some_iff.mp hu).1
      simpa using this
    refine PySem.wpAny_pyNext_enum_itemD (Draws.tuple (A := X.A.in1) (I.ok.hd hc) it a hai its.toArray) he ⟨hit, pt⟩ hlt hne (by simp [hne, hae]) fun y h' tk hy ho st' hT hsz hk => ?_
    have hy' : u = y := by
      have z : its[i]? = some y := by simpa using hy
      exact Option.some.inj (hu.symm.trans z)
    subst hy'
    refine ⟨_, rfl, wpAny_letOwnedTupleGo_enum (s := { s with heap := h', toks := tk + 1 }) ho fun h'' he' sb => ?_⟩
    have hT2 : h''.get? s.heap.objs.size = some { cls := .type "tuple", data := .seq #[.int i tk, u] } := (sb.2 _ (Nat.ne_of_gt hel)).trans hT
    have new : ObjOk X.prog X.w (upd H s.heap.objs.size (.tup [.int (i : Nat), x])) h'' s.heap.objs.size (.tup [.int (i : Nat), x]) :=
      ⟨by show 2 ≤ sizeLine; decide, [.int i tk, u], .cons ⟨_, rfl⟩ (.cons ru .nil), ⟨_, hT2, rfl, _, rfl⟩⟩
    have I1 : Inv X pins σ (upd H s.heap.objs.size (.tup [.int (i : Nat), x])) { s with heap := h'', toks := tk + 1 } :=
      I.turnedNew (ch := [e, it]) (fun b ob hb q => (sb.2 b (fun z => hb (by simp [z]))).trans (hk b ob (fun z => hb (by simp [z])) (fun z => hb (by simp [z])) q)) hf (Nat.le_refl _) new
    refine ⟨.ref s.heap.objs.size, _, I1, rfl, ⟨_, x, rfl, I.hok.fresh (Nat.le_refl _), rfl, fun ys hy => by rw [I.tuple_inj hy hq]; exact hx⟩, ⟨⟨u, ?_⟩, st'.1.at fun o q => (sb.2 it (Ne.symm hne)).trans q, hne⟩, fun b hb => ?_⟩
    · have e1 : ((i + 1 : Nat) : Int) = (i : Int) + 1 := by omega
      rw [e1]; exact he'
    · have two : b = e ∨ b = it := by simpa using hb
      have small : b < s.heap.objs.size := by
        rcases two with z | z
        · rw [z]; exact hel
        · rw [z]; exact hil
      rw [upd_ne (Nat.ne_of_lt small)]
      exact (hf b hb).1
  done := by
    intro X hP hw hK hc i pins s σ H E I hf st hg
    subst hP hw hK
    obtain ⟨⟨old, he⟩, hit, hne⟩ := st
    obtain ⟨xs, hq, hx⟩ := hg
    obtain ⟨its, rv, p, hz⟩ := I.tuple hq
    obtain ⟨f0, f1, f2, f3, f4, f5⟩ := hf it (by simp)
    have hl := rv.length
    have pt : s.heap.IsTuple a its.toArray := p
    have hai : a ≠ it := fun z => by
      obtain ⟨o1, q1, c1, _⟩ := hit
      obtain ⟨o2, q2, c2, _⟩ := pt
      rw [z, q1] at q2
      cases q2
      rw [c1] at c2
      exact absurd c2 (by decide)
    have T : s.TypeIs (.ref e) "enumerate" := ⟨_, he, rfl⟩
    unfold pyNext
    refine wpAny_bind (wpAny_attempt (wpAny_callSpecial?_slot (name := Str.ofString "__next__") T F.slot_enumerate_next
      (wpAny_call_entry F.slot_enumerate_next T F.entry_enumerate_next ?_ (F.args_enumerate_next_1 _))))
    show wpAny _ _ (field (.ref e) 2 >>= _) _ _ _
    refine wpAny_bind (wpAny_field he rfl (x := .ref it) rfl ?_)
    refine wpAny_bind (wpAny_nextOf_tuple_end (i := i) (I.ok.hd hc) hit pt (by simp; omega) fun h' x he' hx' => ?_)
    obtain ⟨o, ho, hc⟩ := hx'
    refine wpAny_bind (wpAny_isInstance (T := "StopIteration") (b := true) ⟨o, ho, hc⟩ isSubtype_stop ?_)
    exact wpAny_pure ⟨rfl, I.turned (t' := s.toks) (fun b o hb q => he' b o hb q) f0 f1 f3 f4 f5⟩
  self := fun A i s Q E st h => by
    obtain ⟨⟨_, he⟩, _⟩ := st
    exact wpAny_pyIter_enum he h
def iEnA (K : PySem.W.Frag) (ta : TA) : TI := fun σ H R => ta σ H fun vs H1 => ∃ a xs, vs = [.ref a] ∧ ((SqL K H1 a xs ∧ R (Ite K a) H1) ∨ (SqT K H1 a xs ∧ R (IteT K a) H1))
theorem pi_enA {X : Cx} {e : Expr} {ta : TA} {p pos tpos : Pos} {elts : List Expr} {kk : Nat} (hg : Gl X "enumerate") (hm : X.mg "enumerate" = none) (ha : PA X [e] ta) (hs : starEach [e] X.env = [(false, eval e X.env)] := by rfl) :
    PI X (.Tuple elts kk tpos) (.Call (.Name "enumerate" p) [e] [] pos) (iEnA X.K ta) := by
  refine ⟨fun pins s σ H R I h => ?_⟩
  refine PyProof.Rows.Call_ (ld_blt I hg hm PyProof.Rows.boot_enumerate (PyProof.Rows.callWith_type1 (thn (ha.run pos pins s σ H _ I h) fun us s1 ⟨vs, H1, I1, r1, q1⟩ => ?_) hs rfl))
  obtain ⟨a, xs, ex, q1⟩ := q1
  subst ex
  obtain ⟨u, rfl, ru⟩ := vals1 r1
  cases ru
  have fpo : ∀ b ∈ [s1.heap.objs.size + 1, s1.heap.objs.size], FpOk X pins H1 b := fun b hb => by
    have hle : s1.heap.objs.size ≤ b := by
      have two : b = s1.heap.objs.size + 1 ∨ b = s1.heap.objs.size := by simpa using hb
      omega
    exact I1.fpOk hle (I1.hok.fresh hle)
  rcases q1 with ⟨hq, q⟩ | ⟨hq, q⟩
  · obtain ⟨its, rv, p', hz⟩ := I1.list hq
    refine call_enumerate_list p'.isList fun h' he hit hsz hk => wpAny_pyIter_enum he ?_
    exact ⟨s1.heap.objs.size + 1, [s1.heap.objs.size + 1, s1.heap.objs.size], _, _, H1, rfl, I1.kept (t' := s1.toks) hk, turn_enum a _ _, ⟨⟨.none, he⟩, hit, Nat.succ_ne_self _⟩, fpo, q⟩
  · obtain ⟨its, rv, p', hz⟩ := I1.tuple hq
    refine PySem.ab_enum_call (begins_tuple a its.toArray) (show s1.heap.IsTuple a its.toArray from p') fun h' he hit hsz hk => wpAny_pyIter_enum he ?_
    exact ⟨s1.heap.objs.size + 1, [s1.heap.objs.size + 1, s1.heap.objs.size], _, _, H1, rfl, I1.kept (t' := s1.toks) hk, turn_eT a _ _, ⟨⟨.none, he⟩, ⟨_, hit, rfl, rfl⟩, Nat.succ_ne_self _⟩, fpo, q⟩
/-- pairs of numbers and items -/
def enItems : Int → List D → List D
  | _, [] => []
  | k, d :: ds => .tup [.int k, d] :: enItems (k + 1) ds
theorem enItems_len : ∀ (k : Int) (l : List D), (enItems k l).length = l.length
  | _, [] => rfl
  | k, d :: ds => by simp [enItems, enItems_len (k + 1) ds]
theorem enItems_get : ∀ (k : Int) (l : List D) {i : Nat} {d : D}, l[i]? = some d → (enItems k l)[i]? = some (.tup [.int (k + i), d])
  | _, [], i, d, h => by simp at h
  | k, x :: l, 0, d, h => by simp at h; subst h; simp [enItems]
  | k, x :: l, i + 1, d, h => by
    have := enItems_get (k + 1) l (i := i) (d := d) (by simpa using h)
    simp only [enItems, List.getElem?_cons_succ, this]
    rw [show k + 1 + (i : Int) = k + ((i + 1 : Nat) : Int) by omega]
def iEnum' (z : AA) : AI := fun a S P => z a S fun ds S1 => match ds with
  | [.tup l] => P ⟨always, enItems 0 l⟩ S1
  | [.ktp l] => P ⟨always, enItems 0 l⟩ S1
  | [.obj n] => rdL S1 n fun l => P ⟨isAt n l, enItems 0 l⟩ S1
  | _ => False
section
variable {K : KX}
theorem pair_new {ι : List Addr} {H : Hp} {S : Sto} {T : Addr} {v u : V} {d e : D} (R : RS K ι H S) (hT : H T = none) (r1 : VR K ι H v d) (r2 : VR K ι H u e) :
    Ext K ι H ι (upd H T (.tup [v, u])) ∧ RS K ι (upd H T (.tup [v, u])) S ∧ VR K ι (upd H T (.tup [v, u])) (.ref T) (.tup [d, e]) := new_tup R hT (.cons r1 (.cons r2 .nil))
variable {X : Cx} {B : Bs} {e : Expr} {z : AA} {p pos tpos : Pos} {elts : List Expr} {kk : Nat}
theorem i_enum (hm : X.mg "enumerate" = none) (ha : PA X [e] (aOf (kx X) B z)) (hg : Gl X "enumerate" := by rfl) (hs : starEach [e] X.env = [(false, eval e X.env)] := by rfl) :
    PI X (.Tuple elts kk tpos) (.Call (.Name "enumerate" p) [e] [] pos) (iOf (kx X) B (iEnum' z)) := by
  refine PI.imp (pi_enA hg hm ha hs) fun σ H R h => ?_
  obtain ⟨ι, a, S, P, g, h, k⟩ := h
  refine ⟨ι, a, S, _, g, h, fun ι1 H1 vs ds S1 e1 r1 v1 h1 => ?_⟩
  match ds, v1, h1 with
  | [.tup l], v1, h1 =>
    obtain ⟨v, rfl, rv⟩ := v1.one
    cases rv with
    | tup h2 h3 =>
      refine ⟨_, _, rfl, .inr ⟨.of h2, k _ _ _ _ _ e1 r1 (fun ι2 H2 S2 e2 r2 _ => ⟨fun i hi => ?_, _, .of (e2.tup _ _ h2), ?_⟩) h1⟩⟩
      · have hi : i < l.length := by simpa [enItems_len] using hi
        obtain ⟨v, hv, rv⟩ := h3.get (List.getElem?_eq_getElem hi)
        refine ⟨⟨_, v, .of (e2.tup _ _ h2), hv⟩, fun x H' y => ?_⟩
        obtain ⟨T, x', rfl, hT, rfl, y⟩ := y
        have : v = x' := Option.some.inj (hv.symm.trans (y _ (.of (e2.tup _ _ h2))))
        subst this
        have en := enItems_get 0 l (List.getElem?_eq_getElem hi)
        rw [show (0 : Int) + (i : Int) = ((i : Nat) : Int) by omega] at en
        exact ⟨_, en, pair_new r2 hT (.int _) (rv.up0 e2)⟩
      · rw [enItems_len]; exact Nat.le_of_eq h3.length
  | [.ktp l], v1, h1 =>
    obtain ⟨v, rfl, rv⟩ := v1.one
    cases rv with
    | ktp h2 h3 =>
      refine ⟨_, _, rfl, .inr ⟨h2.sq, k _ _ _ _ _ e1 r1 (fun ι2 H2 S2 e2 r2 _ => ⟨fun i hi => ?_, _, h2.sq, ?_⟩) h1⟩⟩
      · have hi : i < l.length := by simpa [enItems_len] using hi
        obtain ⟨v, hv, rv⟩ := h3.get (List.getElem?_eq_getElem hi)
        refine ⟨⟨_, v, h2.sq, hv⟩, fun x H' y => ?_⟩
        obtain ⟨T, x', rfl, hT, rfl, y⟩ := y
        have : v = x' := Option.some.inj (hv.symm.trans (y _ (h2.sq)))
        subst this
        have en := enItems_get 0 l (List.getElem?_eq_getElem hi)
        rw [show (0 : Int) + (i : Int) = ((i : Nat) : Int) by omega] at en
        exact ⟨_, en, pair_new r2 hT (.int _) (rv.up0 e2)⟩
      · rw [enItems_len]; exact Nat.le_of_eq h3.length
  | [.obj n], v1, h1 =>
    obtain ⟨v, rfl, rv⟩ := v1.one
    cases rv with
    | obj h2 =>
      obtain ⟨l, q0, h1⟩ := rdL_out h1
      obtain ⟨vs, q1, q2⟩ := r1.ob _ _ _ h2 q0
      refine ⟨_, _, rfl, .inl ⟨.of q1, k _ _ _ _ _ e1 r1 (fun ι2 H2 S2 e2 r2 hc => ?_) h1⟩⟩
      obtain ⟨us, q3, q4⟩ := r2.ob _ _ _ (e2.pre _ _ h2) hc
      refine ⟨fun i hi => ?_, us, .of q3, by rw [enItems_len]; exact Nat.le_of_eq q4.length⟩
      have hi : i < l.length := by simpa [enItems_len] using hi
      obtain ⟨v, hv, rv⟩ := q4.get (List.getElem?_eq_getElem hi)
      refine ⟨⟨_, v, .of q3, hv⟩, fun x H' y => ?_⟩
      obtain ⟨T, x', rfl, hT, rfl, y⟩ := y
      have : v = x' := Option.some.inj (hv.symm.trans (y _ (.of q3)))
      subst this
      have en := enItems_get 0 l (List.getElem?_eq_getElem hi)
      rw [show (0 : Int) + (i : Int) = ((i : Nat) : Int) by omega] at en
      exact ⟨_, en, pair_new r2 hT (.int _) rv⟩
/-! ### zip of two tuples, of two lists -/
def zipItems : List D → List D → List D
  | d :: ds, e :: es => .tup [d, e] :: zipItems ds es
  | _, _ => []
theorem zipItems_len : ∀ l m : List D, (zipItems l m).length = min l.length m.length
  | [], _ => by simp [zipItems]
  | _ :: _, [] => by simp [zipItems]
  | _ :: l, _ :: m => by simp [zipItems, zipItems_len l m]
theorem zipItems_get : ∀ (l m : List D) {i : Nat} {d e : D}, l[i]? = some d → m[i]? = some e → (zipItems l m)[i]? = some (.tup [d, e])
  | [], _, i, d, e, h, _ => by simp at h
  | _ :: _, [], i, d, e, _, h => by simp at h
  | x :: l, y :: m, 0, d, e, h, h2 => by simp at h h2; subst h h2; simp [zipItems]
  | x :: l, y :: m, i + 1, d, e, h, h2 => by
    simpa [zipItems] using zipItems_get l m (i := i) (d := d) (e := e) (by simpa using h) (by simpa using h2)
def iZip' (z : AA) : AI := fun a S P => z a S fun ds S1 => match ds with
  | [.tup l, .tup m] => P ⟨always, zipItems l m⟩ S1
  | _ => False
variable {e2 : Expr}
theorem i_zip (hm : X.mg "zip" = none) (ha : PA X [e, e2] (aOf (kx X) B z)) (hg : Gl X "zip" := by rfl) (hs : starEach [e, e2] X.env = (false, eval e X.env) :: starEach [e2] X.env := by rfl) (hpl : (backTo pos (starEach [e2] X.env)).any (·.1) = false := by rfl) :
    PI X (.Tuple elts kk tpos) (.Call (.Name "zip" p) [e, e2] [] pos) (iOf (kx X) B (iZip' z)) := by
  refine PI.imp (RZ.pi_zipA hg hm ha hs hpl) fun σ H R h => ?_
  obtain ⟨ι, a, S, P, g, h, k⟩ := h
  refine ⟨ι, a, S, _, g, h, fun ι1 H1 vs ds S1 e1 r1 v1 h1 => ?_⟩
  match ds, v1, h1 with
  | [.tup l, .tup m], v1, h1 =>
    obtain ⟨v, u, rfl, rv, ru⟩ := v1.two
    cases rv with
    | tup h2 h3 =>
      cases ru with
      | tup h4 h5 =>
        refine ⟨_, _, _, _, rfl, .inr ⟨.of h2, .of h4, k _ _ _ _ _ e1 r1 (fun ι2 H2 S2 e2 r2 _ => ⟨fun i hi => ?_, _, _, .of (e2.tup _ _ h2), .of (e2.tup _ _ h4), ?_⟩) h1⟩⟩
        · have hi : i < min l.length m.length := by simpa [zipItems_len] using hi
          have hl : i < l.length := by omega
          have hm : i < m.length := by omega
          obtain ⟨v, hv, rv⟩ := h3.get (List.getElem?_eq_getElem hl)
          obtain ⟨u, hu, ru⟩ := h5.get (List.getElem?_eq_getElem hm)
          refine ⟨⟨_, _, v, u, .of (e2.tup _ _ h2), .of (e2.tup _ _ h4), hv, hu⟩, fun x H' y => ?_⟩
          obtain ⟨T, x', y', rfl, hT, rfl, f1, f2⟩ := y
          have q1 : v = x' := Option.some.inj (hv.symm.trans (f1 _ (.of (e2.tup _ _ h2))))
          have q2 : u = y' := Option.some.inj (hu.symm.trans (f2 _ (.of (e2.tup _ _ h4))))
          subst q1 q2
          exact ⟨_, zipItems_get l m (List.getElem?_eq_getElem hl) (List.getElem?_eq_getElem hm), pair_new r2 hT (rv.up0 e2) (ru.up0 e2)⟩
        · rw [zipItems_len, h3.length, h5.length]; omega
end
end Ab

namespace Ab
open PySem L2

section
variable {K : KX} {ι ι' : List Addr} {H H' : Hp}
theorem OR.ex0 {a : Addr} {o : O} (h : OR K ι H a o) (e : Ex0 K ι H ι' H') (k : H' a = H a) : OR K ι' H' a o := by
  cases o with
  | lst ds => obtain ⟨vs, q, r⟩ := h; exact ⟨vs, k.trans q, VRs.ex0 e _ _ r⟩
  | dK ds => obtain ⟨vs, q, r1, r⟩ := h; exact ⟨vs, k.trans q, r1, VRs.ex0 e _ _ r⟩
  | dT ds => obtain ⟨vs, q, r1, r⟩ := h; exact ⟨vs, k.trans q, r1, VRs.ex0 e _ _ r⟩
  | ins C fs => obtain ⟨dx, vs, q, r1, r⟩ := h; exact ⟨dx, vs, k.trans q, r1, VRs.ex0 e _ _ r⟩
  | set l => exact ⟨k.trans h.1, h.2⟩
  | lT od ws kvs => obtain ⟨q, r1, r⟩ := h; exact ⟨k.trans q, r1, VRs.ex0 e _ _ r⟩
theorem SR.ex0 {σ : L2.St} {a : AS} (h : SR K ι H σ a) (e : Ex0 K ι H ι' H') : SR K ι' H' σ a := by
  induction h with
  | nil => exact .nil
  | any _ ih => exact .any ih
  | val h1 _ ih => exact .val (VR.ex0 e _ _ h1) ih
/-- a list that the store does not count is written -/
theorem ex0_hid {p : Addr} {vs : List V} {o : HO} (h : H p = some (.lst vs)) : Ex0 K ι H ι (upd H p o) where
  pre := fun _ _ h => h
  tup := fun a xs z => by
    have : a ≠ p := fun q => by rw [q, h] at z; cases z
    rw [upd_ne this]; exact z
  rol := fun a xs z => by
    rcases z with ⟨u, z⟩ | z
    · have : a ≠ p := fun q => by rw [q, h] at z; cases z
      exact .inl ⟨u, by rw [upd_ne this]; exact z⟩
    · exact .inr z
  exc := fun a u x z => by
    have : a ≠ p := fun q => by
      rw [q, h] at z
      cases z
      cases x
    rw [upd_ne this]; exact z
theorem RS.hid {S : Sto} {p : Addr} {vs : List V} {o : HO} (R : RS K ι H S) (h : H p = some (.lst vs)) (hn : p ∉ ι) : RS K ι (upd H p o) S where
  len := R.len
  nd := R.nd
  ob := fun n a u h1 h2 => (R.ob n a u h1 h2).ex0 (ex0_hid h) (upd_ne fun z => hn (z ▸ List.mem_of_getElem? h1))
/-- .. and it gets its number -/
theorem RS.adopt {S : Sto} {p : Addr} {vs : List V} {ds : List D} (R : RS K ι H S) (h : H p = some (.lst vs)) (hn : p ∉ ι) (r : VRs K ι H vs ds) : RS K (ι ++ [p]) H (S ++ [.lst ds]) := by
  have e : Ex0 K ι H (ι ++ [p]) H := ⟨fun n a h => by rw [List.getElem?_append_left (List.getElem?_eq_some_iff.mp h).1]; exact h, fun _ _ h => h, fun _ _ h => h, fun _ _ _ h => h⟩
  refine ⟨by simp [R.len], fun n m a h1 h2 => ?_, fun n a v h1 h2 => ?_⟩
  · by_cases k1 : n < ι.length <;> by_cases k2 : m < ι.length
    · rw [List.getElem?_append_left k1] at h1
      rw [List.getElem?_append_left k2] at h2
      exact R.nd n m a h1 h2
    · rw [List.getElem?_append_left k1] at h1
      have l2 := (List.getElem?_eq_some_iff.mp h2).1
      have : m = ι.length := by simp at l2; omega
      subst this
      simp at h2
      exact absurd (h2 ▸ List.mem_of_getElem? h1) hn
    · rw [List.getElem?_append_left k2] at h2
      have l2 := (List.getElem?_eq_some_iff.mp h1).1
      have : n = ι.length := by simp at l2; omega
      subst this
      simp at h1
      exact absurd (h1 ▸ List.mem_of_getElem? h2) hn
    · have l1 := (List.getElem?_eq_some_iff.mp h1).1
      have l2 := (List.getElem?_eq_some_iff.mp h2).1
      simp at l1 l2
      omega
  · by_cases k : n < ι.length
    · rw [List.getElem?_append_left k] at h1
      rw [List.getElem?_append_left (by rw [← R.len]; exact k)] at h2
      exact (R.ob n a v h1 h2).ex0 e rfl
    · have l1 := (List.getElem?_eq_some_iff.mp h1).1
      have : n = ι.length := by simp at l1; omega
      subst this
      simp at h1
      subst h1
      rw [R.len] at h2
      simp at h2
      subst h2
      exact ⟨vs, h, VRs.ex0 e _ _ r⟩
/-- from a heap without p to one in which p is a list of ours -/
theorem ext_hid {ι1 : List Addr} {H1 : Hp} {p : Addr} {o : HO} (e : Ext K ι1 H1 ι H) (hp : H1 p = none) : Ext K ι1 H1 ι (upd H p o) where
  pre := e.pre
  fresh := e.fresh
  frame := fun a u h1 h2 => by rw [upd_ne (ne_of_none h2 hp)]; exact e.frame a u h1 h2
  tup := fun a xs h => by rw [upd_ne (ne_of_none h hp)]; exact e.tup a xs h
  rol := fun a xs h => by
    rcases h with ⟨u, h⟩ | h
    · rcases e.rol a xs (.inl ⟨u, h⟩) with ⟨u', q⟩ | q
      · exact .inl ⟨u', by rw [upd_ne (ne_of_none h hp)]; exact q⟩
      · exact .inr q
    · exact .inr h
  exc := fun a u x h => by rw [upd_ne (ne_of_none h hp)]; exact e.exc a u x h
/-- from the heap ahead of p to the end, where p gets its number -/
theorem ext_adopt {ι1 : List Addr} {H1 : Hp} {p : Addr} (e : Ext K ι1 H1 ι H) (hp : H1 p = none) : Ext K ι1 H1 (ι ++ [p]) H where
  pre := fun n a h => by
    have := e.pre n a h
    rw [List.getElem?_append_left (List.getElem?_eq_some_iff.mp this).1]; exact this
  fresh := fun a h h' => by
    rcases List.mem_append.mp h with h | h
    · exact e.fresh a h h'
    · rw [List.mem_singleton.mp h]; exact hp
  frame := e.frame
  tup := e.tup
  rol := e.rol
  exc := e.exc
end

/-! ### [x for t in it if c] -/
def wipeA (a : AS) : List Nat → AS
  | [] => a
  | v :: vs => (wipeA a vs).set v none
theorem SR.wipe {K : KX} {ι : List Addr} {H : Hp} {σ : L2.St} {a : AS} (h : SR K ι H σ a) : ∀ vs : List Nat, SR K ι H (L2.wipe σ vs) (wipeA a vs)
  | [] => h
  | v :: vs => (SR.wipe h vs).unset v none
/-- a target of names of the block -/
def TgOk (K : KX) (g : TG) (ag : AG) (vs : List Nat) : Prop := ∀ (ι : List Addr) (H : Hp) (S : Sto) (x : V) (d : D) (σ : L2.St) (a : AS) (P : AS → Sto → Prop) (R : L2.St → Hp → Prop), VR K ι H x d → SR K ι H (L2.wipe σ vs) a → ag d a S P →
  (∀ σ2 a2, L2.wipe σ2 vs = L2.wipe σ vs → SR K ι H σ2 a2 → P a2 S → R σ2 H) → g x (L2.wipe σ vs) H R
theorem wipe_set {σ : L2.St} {i : Nat} {x : Option V} : ∀ {vs : List Nat}, i ∈ vs → L2.wipe (σ.set i x) vs = L2.wipe σ vs
  | [], h => by simp at h
  | v :: vs, h => by
    unfold L2.wipe
    by_cases q : i ∈ vs
    · rw [wipe_set q]
    · have e : i = v := by simpa [q] using h
      subst e
      have out : ∀ {σ : L2.St} {vs : List Nat}, i ∉ vs → L2.wipe (σ.set i x) vs = (L2.wipe σ vs).set i x := fun {σ vs} hh => by
        induction vs with
        | nil => rfl
        | cons u us ih =>
          have h1 : u ≠ i := fun z => hh (by simp [z])
          have h2 : i ∉ us := fun z => hh (by simp [z])
          show (L2.wipe (σ.set i x) us).set u none = ((L2.wipe σ us).set u none).set i x
          rw [ih h2, List.set_comm _ _ h1.symm]
      rw [out q, List.set_set]
theorem wipe_wipe {σ : L2.St} : ∀ {vs : List Nat}, L2.wipe (L2.wipe σ vs) vs = L2.wipe σ vs := by
  have gen : ∀ (us vs : List Nat), (∀ u ∈ us, u ∈ vs) → ∀ σ : L2.St, L2.wipe (L2.wipe σ us) vs = L2.wipe σ vs := by
    intro us
    induction us with
    | nil => intro vs _ σ; rfl
    | cons u us ih =>
      intro vs h σ
      show L2.wipe ((L2.wipe σ us).set u none) vs = L2.wipe σ vs
      rw [wipe_set (h u (by simp)), ih vs (fun w hw => h w (by simp [hw]))]
  exact fun {vs} => gen vs vs (fun _ h => h) σ
theorem tg_name {K : KX} {i : Nat} {vs : List Nat} (hi : i ∈ vs) : TgOk K (gName i) (gN i) vs := fun ι H S x d σ a P R r s h k => k _ _ (by rw [wipe_set hi, wipe_wipe]) (s.set r i) h
def gN2 (i j : Nat) : AG := gTup' 2 (gCons' (gN i) (gCons' (gN j) gNil'))
theorem tg_two {K : KX} {i j : Nat} {vs : List Nat} (hi : i ∈ vs) (hj : j ∈ vs) : TgOk K (gTup K.f 2 (gCons (gName i) (gCons (gName j) gNil))) (gN2 i j) vs := fun ι H S x d σ a P R r s h k => by
  cases r with
  | @tup ad xs ds h1 h2 =>
    obtain ⟨hl, h⟩ : _ ∧ _ := h
    match ds, h2, hl, h with
    | [d1, d2], h2, _, h =>
      obtain ⟨v, u, rfl, rv, ru⟩ := h2.two
      exact ⟨ad, _, rfl, .of h1, rfl, _, _, rfl, _, _, rfl, rfl, k _ _ (by rw [wipe_set hj, wipe_set hi, wipe_wipe]) ((s.set rv i).set ru j) h⟩
  | _ => exact h.elim
def lcLoop (chk : Sto → Prop) (g : AG) (t : AT) (x : AE) (a0 : AS) (K : List D → Sto → Prop) : List D → List D → Sto → Prop
  | [], acc, S => chk S ∧ K acc S
  | d :: ds, acc, S => chk S ∧ g d a0 S fun a S1 => t a S1 fun b S2 => iteP b (x a S2 fun y S3 => acc.length < sizeLine ∧ lcLoop chk g t x a0 K ds (acc ++ [y]) S3) (lcLoop chk g t x a0 K ds acc S2)
def aYes : AT := fun _ S P => P true S
def aLc (it : AI) (g : AG) (t : AT) (x : AE) (vs : List Nat) : AE := fun a S P => it a S fun I S1 => lcLoop I.chk g t x (wipeA a vs) (fun ys S2 => P (.obj S2.length) (S2 ++ [.lst ys])) I.items [] S1
theorem PTs.imp {X : Cx} {e : List Expr} {t t' : TT} (h : PTs X e t) (k : ∀ σ H Q, t' σ H Q → t σ H Q) : PTs X e t' := ⟨fun pins s σ H Q I q => h.run pins s σ H Q I (k σ H Q q)⟩
section
variable {X : Cx} {B : Bs}
theorem qs_nil : PTs X [] (tOf (kx X) B aYes) := PTs.imp pts_nil fun σ H Q ⟨ι, a, S, P, g, h, k⟩ => k ι H true S .refl g.rs h
theorem qs_one {c : Expr} {t : AT} (h : PT X c (tOf (kx X) B t)) : PTs X [c] (tOf (kx X) B t) := pts_one h
theorem lc_of {it : AI} {g : TG} {ag : AG} {t : AT} {x : AE} {vs : List Nat} {σ : L2.St} {H : Hp} {Q : VK} (hg : TgOk (kx X) g ag vs) (h : eOf (kx X) B (aLc it ag t x vs) σ H Q) : tLc (iOf (kx X) B it) g (tOf (kx X) B t) (eOf (kx X) B x) vs σ H Q := by
  obtain ⟨ι, a, S, P, gd, h, k⟩ := h
  refine ⟨ι, a, S, _, gd, h, fun ι1 H1 S1 J I e1 r1 J1 h1 => fun D hD => ?_⟩
  have E1 := gd.ext.trans e1
  have D1 := r1.out hD
  refine ⟨fun i m H => m = I.items.length - i ∧ i ≤ I.items.length ∧ ∃ ι S acc us, Ext (kx X) ι1 H1 ι H ∧ RS (kx X) ι H S ∧ D ∉ ι ∧ H D = some (.lst us) ∧ VRs (kx X) ι H us acc ∧ lcLoop I.chk ag t x (wipeA a vs) (fun ys S2 => P (.obj S2.length) (S2 ++ [.lst ys])) (I.items.drop i) acc S,
    ⟨I.items.length, by simp, Nat.zero_le _, ι1, S1, [], [], ext_fresh hD D1, r1.fresh hD, D1, upd_same, .nil, by simpa using h1⟩, ?_⟩
  rintro i m H2 ⟨rfl, hi, ι2, S2, acc, us, e2, r2, D2, hD2, v2, h2⟩
  by_cases hl : i < I.items.length
  · rw [List.drop_eq_getElem_cons hl] at h2
    obtain ⟨hc, h2⟩ : I.chk S2 ∧ _ := h2
    obtain ⟨go, yl⟩ := (J1 ι2 H2 S2 e2.to0 r2 hc).1 i hl
    refine .inr ⟨go, fun H => ∃ ι S acc us, Ext (kx X) ι1 H1 ι H ∧ RS (kx X) ι H S ∧ D ∉ ι ∧ H D = some (.lst us) ∧ VRs (kx X) ι H us acc ∧ lcLoop I.chk ag t x (wipeA a vs) (fun ys S2 => P (.obj S2.length) (S2 ++ [.lst ys])) (I.items.drop (i + 1)) acc S, fun H' n => ⟨_, by omega, rfl, hl, n⟩, fun y H' yy => ?_⟩
    obtain ⟨d, hd, e3, r3, v3⟩ := yl y H' yy
    have ed : I.items[i] = d := Option.some.inj ((List.getElem?_eq_getElem hl).symm.trans hd)
    rw [ed] at h2
    have D3 : H' D = some (.lst us) := e3.frame D _ D2 hD2
    have s3 := ((gd.sr.up e1).wipe vs)
    have s3' : SR (kx X) ι2 H' (L2.wipe σ vs) (wipeA a vs) := (s3.up e2).up e3
    refine hg ι2 H' S2 y d σ _ _ _ v3 s3' h2 fun σ5 a5 w5 s5 h5 => ⟨w5, ?_⟩
    have E3 := (E1.trans e2).trans e3
    refine ⟨ι2, a5, S2, _, ⟨E3, r3, s5⟩, h5, fun ι6 H6 b S6 e6 r6 h6 => ?_⟩
    rw [iteP_def] at h6
    have D6 : H6 D = some (.lst us) := e6.frame D _ D2 D3
    have N6 : D ∉ ι6 := fun m => by
      have z := e6.fresh D m D2
      rw [D3] at z
      cases z
    have E6 : Ext (kx X) ι1 H1 ι6 H6 := (e2.trans e3).trans e6
    cases b with
    | true =>
      rw [if_pos rfl] at h6 ⊢
      refine ⟨ι6, a5, S6, _, ⟨E3.trans e6, r6, s5.up e6⟩, h6, fun ι7 H7 z dz S7 e7 r7 v7 h7 => ?_⟩
      have D7 : H7 D = some (.lst us) := e7.frame D _ N6 D6
      have N7 : D ∉ ι7 := fun m => by
        have q := e7.fresh D m N6
        rw [D6] at q
        cases q
      have v2' : VRs (kx X) ι7 H7 us acc := ((v2.up e3).up e6).up e7
      have x0 := ex0_hid (K := (kx X)) (ι := ι7) (o := .lst (us ++ [z])) D7
      refine ⟨us, D7, by rw [v2.length]; exact h7.1, ι7, S7, acc ++ [dz], us ++ [z], ext_hid (E6.trans e7) hD, r7.hid D7 N7, N7, upd_same, ?_, h7.2⟩
      exact VRs.append (VRs.ex0 x0 _ _ v2') (.cons (VR.ex0 x0 _ _ v7) .nil)
    | false =>
      rw [if_neg Bool.false_ne_true] at h6 ⊢
      exact ⟨ι6, S6, acc, us, E6, r6, N6, D6, (v2.up e3).up e6, h6⟩
  · have ei : i = I.items.length := by omega
    subst ei
    rw [List.drop_length] at h2
    obtain ⟨hc, h2⟩ : I.chk S2 ∧ _ := h2
    exact .inl ⟨(J1 ι2 H2 S2 e2.to0 r2 hc).2, k _ _ _ _ _ (e1.trans (ext_adopt e2 hD)) (r2.adopt hD2 D2 v2) (by rw [← r2.len]; exact VR.new) h2⟩
variable {elt tg iter : Expr} {ifs : List Expr} {scope : Scope} {own : List (Str × Nat)} {pos : Pos} {it : AI} {g : TG} {ag : AG} {t : AT} {x : AE}
/-- as a value -/
theorem a_lc (hN : X.N.Nodup) (hi : PI X tg iter (iOf (kx X) B it)) (ok : BlkOk X.N X.env.scope scope own) (hT : TgOk (kx X) g ag (own.map (·.2)))
    (hg : ∀ (s : Shared) (H : Hp) (C : Addr) (cl : List (Str × Addr)) (fp : List Addr), PG (X.blk s H scope (compEnvC scope cl C X.env) fp) tg g) (ht : ∀ (s : Shared) (H : Hp) (C : Addr) (cl : List (Str × Addr)) (fp : List Addr), PTs (X.blk s H scope (compEnvC scope cl C X.env) fp) ifs (tOf (kx X) B t))
    (he : ∀ (s : Shared) (H : Hp) (C : Addr) (cl : List (Str × Addr)) (fp : List Addr), PE (X.blk s H scope (compEnvC scope cl C X.env) fp) elt (eOf (kx X) B x)) (hc : X.calm = true := by rfl) (hs : ∀ x, foldedSetIterable iter X.env x = pure x := by intro _; rfl) :
    PE X (.ListComp elt [⟨tg, iter, ifs, 0⟩] scope pos) (eOf (kx X) B (aLc it ag t x (own.map (·.2)))) := PE.imp (pe_lc hc hN hi ok hg ht he hs) fun _ _ _ h => lc_of hT h
theorem s_setLc {i : Nat} {y : Str} {py spos : Pos} (hN : X.N.Nodup) (hi : PI X tg iter (iOf (kx X) B it)) (ok : BlkOk X.N X.env.scope scope own) (hT : TgOk (kx X) g ag (own.map (·.2)))
    (hg : ∀ (s : Shared) (H : Hp) (C : Addr) (cl : List (Str × Addr)) (fp : List Addr), PG (X.blk s H scope (compEnvC scope cl C X.env) fp) tg g) (ht : ∀ (s : Shared) (H : Hp) (C : Addr) (cl : List (Str × Addr)) (fp : List Addr), PTs (X.blk s H scope (compEnvC scope cl C X.env) fp) ifs (tOf (kx X) B t))
    (he : ∀ (s : Shared) (H : Hp) (C : Addr) (cl : List (Str × Addr)) (fp : List Addr), PE (X.blk s H scope (compEnvC scope cl C X.env) fp) elt (eOf (kx X) B x)) (hc : X.calm = true := by rfl) (hy : X.N[i]? = some y := by rfl) (hyl : X.env.scope.names.lookup y = some .local := by rfl)
    (hsw : swapsWith (.ListComp elt [⟨tg, iter, ifs, 0⟩] scope pos) (some (.Name y py)) spos.line X.env = pure true := by exact sw_true rfl rfl rfl (by decide +kernel)) (hs : ∀ x, foldedSetIterable iter X.env x = pure x := by intro _; rfl) :
    PS X (.Assign [.Name y py] (.ListComp elt [⟨tg, iter, ifs, 0⟩] scope pos) spos) (sOf (kx X) B (aAsg (aLc it ag t x (own.map (·.2))) (gN i))) := by
  refine PS.imp (ps_setLc hc hN hy hyl hsw hi ok hg ht he hs) fun D σ H h => ?_
  obtain ⟨ι, a, S, AD, gd, h, k⟩ := h
  exact lc_of (Q := fun v H1 => gName i v σ H1 D.nx) hT ⟨ι, a, S, _, gd, h, fun ι1 H1 v d S1 e1 r1 v1 h1 => k.nx _ _ _ _ _ e1 r1 ((gd.sr.up e1).set v1 i) h1⟩
end
end Ab

namespace HT
open PySem PySem.Spec PyProof.Rows
section
variable {prog : Program} {w : World} {A : Around} {E : Value → Shared → Prop} {s : Shared}
theorem ab_rev_pick (xs : Array Value) : ((List.range xs.size).filterMap fun (m : Nat) => xs[((xs.size : Int) - 1 + (m : Int) * (-1)).toNat]?).toArray = xs.toList.reverse.toArray := by
  congr 1
  apply List.ext_getElem?
  intro i
  have all : (List.range xs.size).filterMap (fun (m : Nat) => xs[((xs.size : Int) - 1 + (m : Int) * (-1)).toNat]?) = (List.range xs.size).map fun m => xs.toList.reverse[m]?.getD .none := by
    have gen : ∀ l : List Nat, (∀ m ∈ l, m < xs.size) → l.filterMap (fun (m : Nat) => xs[((xs.size : Int) - 1 + (m : Int) * (-1)).toNat]?) = l.map fun m => xs.toList.reverse[m]?.getD .none := by
      intro l
      induction l with
      | nil => intro _; rfl
      | cons m l ih =>
        intro h
        have hm := h m (by simp)
        have e : ((xs.size : Int) - 1 + (m : Int) * (-1)).toNat = xs.size - 1 - m := by omega
        rw [List.filterMap_cons, List.map_cons, ih fun k hk => h k (by simp [hk]), e]
        have l1 : xs.size - 1 - m < xs.size := by omega
        have e2 : xs.toList.reverse[m]? = some xs[xs.size - 1 - m] := by
          rw [List.getElem?_reverse (by simpa using hm)]
          simp [l1]
        rw [e2, Array.getElem?_eq_getElem l1]
        rfl
    exact gen _ fun m hm => List.mem_range.mp hm
  rw [all]
  by_cases hi : i < xs.size
  · have e2 : xs.toList.reverse[i]? = some xs[xs.size - 1 - i] := by
      rw [List.getElem?_reverse (by simpa using hi)]
      have l1 : xs.size - 1 - i < xs.size := by omega
      simp [l1]
    rw [List.getElem?_map, List.getElem?_range hi, e2]
    simp [e2]
  · rw [List.getElem?_eq_none (by simpa using hi), List.getElem?_eq_none (by simpa using hi)]
theorem ab_sliceApplied_rev {sl : Addr} {vs : Value} {n : Nat} {Q : Int × Int × Nat → Shared → Prop} (hs : s.heap.IsSliceOf sl .none .none vs) (ps : IsPart vs (some (-1)))
    (h : Q ((n : Int) - 1, -1, n) s) : wpAny (model prog w) A (Builtin.Slice.sliceApplied (.ref sl) (pure (n : Int))) Q E s := by
  obtain ⟨os, hos, hcs, hds⟩ := id hs
  unfold Builtin.Slice.sliceApplied Builtin.Slice.sliceFields
  refine wpAny_bind (wpAny_bind (wpAny_field hos hds (x := .none) rfl (wpAny_bind (wpAny_field hos hds (x := .none) rfl (wpAny_bind (wpAny_field hos hds (x := vs) rfl (wpAny_pure ?_)))))))
  refine wpAny_bind (slicePart_ ps ?_)
  show wpAny _ _ (if ((-1 : Int) == 0) = true then _ else _) _ _ s
  rw [if_neg (by decide)]
  refine wpAny_bind (slicePart_none (wpAny_bind (slicePart_none (wpAny_bind (wpAny_pure ?_)))))
  show wpAny _ _ (match Builtin.Slice.sliceAdjust none none (-1) (n : Int) with | (lo, hi) => pure (lo, (-1 : Int), Builtin.Slice.slicePlaces lo hi (-1))) _ _ s
  have ea : Builtin.Slice.sliceAdjust none none (-1) (n : Int) = ((n : Int) - 1, -1) := rfl
  rw [ea]
  show wpAny _ _ (pure ((n : Int) - 1, (-1 : Int), Builtin.Slice.slicePlaces ((n : Int) - 1) (-1) (-1))) _ _ s
  have ep : Builtin.Slice.slicePlaces ((n : Int) - 1) (-1) (-1) = n := by
    unfold Builtin.Slice.slicePlaces
    have h1 : ¬ ((-1 : Int) > 0) := by omega
    simp only [h1, if_false]
    have h2 : ((n : Int) - 1 - -1 - 1) / -(-1) = (n : Int) - 1 := by
      have : -(-1 : Int) = 1 := rfl
      rw [this, Int.ediv_one]; omega
    rw [h2]
    split <;> omega
  rw [ep]
  exact wpAny_pure h
theorem ab_tuple_rev {t sl : Addr} {items : Array Value} {vs : Value} {Q : Value → Shared → Prop} (ht : IsTup s.heap t items) (hs : s.heap.IsSliceOf sl .none .none vs) (ps : IsPart vs (some (-1)))
    (h : Q (.ref s.heap.objs.size) { s with heap := s.heap.push { cls := .type "tuple", data := .seq items.toList.reverse.toArray } })
    (hsz : items.size ≤ sizeLine) : wpAny (model prog w) A (getItem (.ref t) (.ref sl)) Q E s := by
  have htake : sizeOk (.seq items.toList.reverse.toArray) := by
    show items.toList.reverse.toArray.size ≤ sizeLine
    simpa using hsz
  obtain ⟨os, hos, hcs, hds⟩ := id hs
  have hTs : s.TypeIs (.ref sl) "slice" := ⟨os, hos, hcs⟩
  unfold getItem
  try with_reducible refine wpAny_holding ?_
  first | refine wpAny_bind (wpAny_pure ?_) | skip
  refine wpAny_bind (wpAny_sequenceKey ht.typeIs (by decide) ?_)
  refine wpAny_bind (wpAny_callSpecial?_slot (name := Str.ofString "__getitem__") ht.typeIs PyProof.Rows.slot_tuple_getitem
    (wpAny_call_entry PyProof.Rows.slot_tuple_getitem ht.typeIs entry_tuple_getitem ?_ (args_tuple_getitem _ _)))
  show wpAny _ _ (Builtin.Tuple.tupleItemsOf (.ref t) >>= _) _ _ s
  refine wpAny_bind (tupleItemsOf_ ht ?_)
  refine wpAny_bind (wpAny_typeOf hTs ?_)
  rw [if_pos (by decide)]
  refine wpAny_bind (ab_sliceApplied_rev hs ps ?_)
  have hno : ¬ ((((items.size : Int) - 1) == 0 && (-1 : Int) == 1 && items.size == items.size) = true) := by
    intro q
    rw [Bool.and_eq_true, Bool.and_eq_true] at q
    exact absurd q.1.2 (by decide)
  show wpAny _ _ (if (((items.size : Int) - 1) == 0 && (-1 : Int) == 1 && items.size == items.size) = true then _ else _) _ _ s
  rw [if_neg hno, ab_rev_pick]
  first
    | exact wpAny_bind (m := Builtin.Tuple.tupleExact _) (wpAny_newObj_type (wpAny_pure ⟨_, rfl, wpAny_pure h⟩) htake)
    | exact wpAny_bind (m := Builtin.Tuple.tupleExact _) (wpAny_newObj_type (wpAny_bind (wpAny_pure (wpAny_pure ⟨_, rfl, wpAny_pure h⟩))) htake)
    | exact wpAny_bind (wpAny_bind (m := Builtin.Tuple.tupleExact _) (wpAny_newObj_type (wpAny_pure (wpAny_pure ⟨_, rfl, wpAny_pure h⟩)) htake))
    | exact wpAny_bind (wpAny_bind (m := Builtin.Tuple.tupleExact _) (wpAny_newObj_type (wpAny_pure ⟨_, rfl, wpAny_pure h⟩) htake))
end
end HT
namespace Ab
open PySem L2 PySem.Spec PyProof.Rows
/-! ### a op1 b op2 c -/
def aChain (f f' : F2) (x y z : AE) : AE := fun a S P => x a S fun d S1 => y a S1 fun e S2 => f d e S2 fun c S3 => match c with
  | .bl b => iteP b (z a S3 fun g S4 => f' e g S4 P) (P (.bl false) S3)
  | _ => False
section
variable {X : Cx} {B : Bs} {a b c : Expr} {x y z : AE} {pos : Pos}
theorem chain_of {σ : L2.St} {H : Hp} {Q : VK} {r r' : R2} {f f' : F2} (ho : OpA (kx X) r f) (ho' : OpA (kx X) r' f') (h : eOf (kx X) B (aChain f f' x y z) σ H Q) : tChain r r' (eOf (kx X) B x) (eOf (kx X) B y) (eOf (kx X) B z) σ H Q := by
  obtain ⟨ι, a, S, P, g, h, k⟩ := h
  refine ⟨ι, a, S, _, g, h, fun ι1 H1 v d S1 e1 r1 v1 h1 => ?_⟩
  refine ⟨ι1, a, S1, _, g.go e1 r1, h1, fun ι2 H2 w e S2 e2 r2 v2 h2 => ?_⟩
  refine ho ι2 H2 S2 v w d e _ _ r2 (v1.up e2) v2 h2 fun ι3 H3 u cc S3 e3 r3 v3 h3 => ?_
  cases v3 with
  | bl bb =>
    refine ⟨bb, rfl, ?_⟩
    have h3 : iteP bb _ _ := h3
    rw [iteP_def] at h3
    have E3 := (e1.trans e2).trans e3
    cases bb with
    | true =>
      rw [if_pos rfl] at h3 ⊢
      refine ⟨ι3, a, S3, _, g.go E3 r3, h3, fun ι4 H4 w4 d4 S4 e4 r4 v4 h4 => ?_⟩
      exact ho' ι4 H4 S4 w w4 e d4 P Q r4 (v2.up (e3.trans e4)) v4 h4 fun ι5 H5 u5 z5 S5 e5 r5 v5 h5 => k ι5 H5 u5 z5 S5 ((E3.trans e4).trans e5) r5 v5 h5
    | false =>
      rw [if_neg Bool.false_ne_true] at h3 ⊢
      exact k _ _ _ _ _ E3 r3 (.bl false) h3
  | _ => exact h3.elim
theorem a_chain {op op' : CmpOp} {r r' : R2} {f f' : F2} (ho : OpR X (compareOp op) r) (ho' : OpR X (compareOp op') r') (hf : OpA (kx X) r f) (hf' : OpA (kx X) r' f') (ha : PE X a (eOf (kx X) B x)) (hb : PE X b (eOf (kx X) B y)) (hc : PE X c (eOf (kx X) B z))
    (hm : lastMarks [op, op'] [b, c] = false := by with_unfolding_all rfl) : PE X (.Compare a [op, op'] [b, c] pos) (eOf (kx X) B (aChain f f' x y z)) := PE.imp (pe_chain ho ho' ha hb hc hm) fun _ _ _ h => chain_of hf hf' h
theorem q_chain {op op' : CmpOp} {r r' : R2} {f f' : F2} (ho : OpR X (compareOp op) r) (ho' : OpR X (compareOp op') r') (hf : OpA (kx X) r f) (hf' : OpA (kx X) r' f') (ha : PE X a (eOf (kx X) B x)) (hb : PE X b (eOf (kx X) B y)) (hc : PE X c (eOf (kx X) B z))
    (hm : lastMarks [op, op'] [b, c] = false := by with_unfolding_all rfl) : PT X (.Compare a [op, op'] [b, c] pos) (tOf (kx X) B (aB (aChain f f' x y z))) := by
  refine PT.imp (pt_chain ho ho' ha hb hc hm) fun σ H Q h => ?_
  obtain ⟨ι, a, S, P, g, h, k⟩ := h
  refine chain_of (x := x) (y := y) (z := z) hf hf' ⟨ι, a, S, _, g, h, fun ι1 H1 v d S1 e1 r1 v1 h1 => ?_⟩
  cases v1 with
  | bl b => exact ⟨b, rfl, k ι1 H1 b S1 e1 r1 h1⟩
  | _ => exact h1.elim

/-! ### xs[::-1] -/
def revD : F1 := fun x S P => match x with
  | .tup l => P (.tup l.reverse) S
  | .obj n => rdL S n fun l => P (.obj S.length) (S ++ [.lst l.reverse])
  | .rol l => P (.obj S.length) (S ++ [.lst l.reverse])
  | _ => False
def tRevA (K : PySem.W.Frag) (te : TE) : TE := fun σ H Q => te σ H fun x H1 => ∃ a xs, x = .ref a ∧ ((SqT K H1 a xs ∧ ∀ p, H1 p = none → Q (.ref p) (upd H1 p (.tup xs.reverse))) ∨ (SqL K H1 a xs ∧ ∀ p, H1 p = none → Q (.ref p) (upd H1 p (.lst xs.reverse))))
theorem pe_revA {e : Expr} {te : TE} {k : Nat} {p1 p2 p3 pos : Pos} (he : PE X e te) : PE X (.Subscript e (.Slice none none (some (.UnaryOp .USub (.Constant (.int 1) k p1) p2)) p3) pos) (tRevA X.K te) := by
  refine ⟨fun pins s σ H Q I h => ?_⟩
  refine Subscript_ (thn (he.run pins s σ H _ I h) fun v s1 ⟨x, H1, I1, r1, q1⟩ => ?_)
  obtain ⟨a, xs, ex, q1⟩ := q1
  subst ex
  cases r1
  have hst : PO X (some (.UnaryOp .USub (.Constant (.int 1) k p1) p2)) (tPart (tUn (rU fun i => .int (-i)) (tC (.int 1)))) := po_some (pe_un un_neg pe_int)
  refine wpAny_Slice (thn (po_none.run pins s1 σ H1 (fun o H2 => o = none ∧ H2 = H1) I1 ⟨rfl, rfl⟩) fun vl s2 ⟨l, H2, I2, pl, el, e2⟩ => ?_)
  subst el e2
  refine thn (po_none.run pins s2 σ H2 (fun o H3 => o = none ∧ H3 = H2) I2 ⟨rfl, rfl⟩) fun vu s3 ⟨u, H3, I3, pu, eu, e3⟩ => ?_
  subst eu e3
  refine thn (hst.run pins s3 σ H3 (fun o H4 => o = some (-1) ∧ H4 = H3) I3 ⟨1, rfl, -1, rfl, rfl, rfl⟩) fun vs s4 ⟨o, H4, I4, ps, eo, e4⟩ => ?_
  subst eo e4
  have I5 : Inv X pins σ H4 { s4 with heap := s4.heap.push { cls := .type "slice", data := .fields #[vl, vu, vs] } } := I4.kept (t' := s4.toks) fun b ob q => Heap.get?_push_of_some _ q
  show wpAny (model X.prog X.w) X.A (subscriptTail e (.Slice none none (some (.UnaryOp .USub (.Constant (.int 1) k p1) p2)) p3) (.ref a) (.ref s4.heap.objs.size)) (EP X pins σ Q) X.xe { s4 with heap := s4.heap.push { cls := .type "slice", data := .fields #[vl, vu, vs] } }
  rcases q1 with ⟨hx, q⟩ | ⟨hx, q⟩
  · obtain ⟨its, r, ht, hz⟩ := I5.tuple hx
    have hlen := r.length
    refine tail_any (ops := [.ref a, .ref s4.heap.objs.size]) ht.typeIs PyProof.Rows.slot_tuple_getitem.lookup ?_ (by with_unfolding_all rfl)
    have el : vl = .none := by cases pl; rfl
    have eu : vu = .none := by cases pu; rfl
    subst el eu
    refine HT.ab_tuple_rev ht (Heap.IsSliceOf.new _ _ _ vs) ps ?_ (by rw [List.size_toArray]; omega)
    refine ⟨.ref _, _, I5.laid (t' := s4.toks) (o := .tup xs.reverse) (fun b ob q => Heap.get?_push_of_some _ q) (Nat.le_refl _) ?_, rfl, q _ (I5.hok.fresh (Nat.le_refl _))⟩
    exact ⟨by rw [List.length_reverse]; exact hz, _, r.reverse, IsTup.new _ _⟩
  · obtain ⟨its, r, ht, hz⟩ := I5.list hx
    have hlen := r.length
    refine tail_any (ops := [.ref a, .ref s4.heap.objs.size]) ht.isList.typeIs (PySem.slot_list_getitem.lookup) ?_ (by with_unfolding_all rfl)
    refine wpAny_getItem_list_slice ht.isList (Heap.IsSliceOf.new _ vl vu vs) pl pu ps (by decide) ?_ (by rw [List.size_toArray]; omega)
    rw [PySem.W.krv_pick]
    refine ⟨.ref _, _, I5.laid (t' := s4.toks) (o := .lst xs.reverse) (fun b ob q => Heap.get?_push_of_some _ q) (Nat.le_refl _) ?_, rfl, q _ (I5.hok.fresh (Nat.le_refl _))⟩
    exact ⟨by rw [List.length_reverse]; exact hz, _, 0, r.reverse, Heap.get?_push_size _ rfl⟩
theorem a_rev {e : Expr} {k : Nat} {p1 p2 p3 pos : Pos} (he : PE X e (eOf (kx X) B x)) : PE X (.Subscript e (.Slice none none (some (.UnaryOp .USub (.Constant (.int 1) k p1) p2)) p3) pos) (eOf (kx X) B (aUn revD x)) := by
  refine PE.imp (pe_revA he) fun σ H Q h => ?_
  obtain ⟨ι, a, S, P, g, h, k⟩ := h
  refine ⟨ι, a, S, _, g, h, fun ι1 H1 v d S1 e1 r1 v1 h1 => ?_⟩
  cases v1 with
  | tup h2 h3 =>
    refine ⟨_, _, rfl, .inl ⟨.of h2, fun p hp => ?_⟩⟩
    obtain ⟨e2, r2, v2⟩ := new_tup r1 hp h3.reverse
    exact k _ _ _ _ _ (e1.trans e2) r2 v2 h1
  | rol h2 h3 =>
    refine ⟨_, _, rfl, .inr ⟨h2.sq, fun p hp => ?_⟩⟩
    obtain ⟨e2, r2, v2⟩ := new_lst r1 hp h3.reverse
    exact k _ _ _ _ _ (e1.trans e2) r2 v2 h1
  | obj h2 =>
    obtain ⟨l, q0, h1⟩ := rdL_out h1
    obtain ⟨vs, q1, q2⟩ := r1.ob _ _ _ h2 q0
    refine ⟨_, _, rfl, .inr ⟨.of q1, fun p hp => ?_⟩⟩
    obtain ⟨e2, r2, v2⟩ := new_lst r1 hp q2.reverse
    exact k _ _ _ _ _ (e1.trans e2) r2 v2 h1
  | _ => exact h1.elim
end

/-! ### keyword calls of own defs -/
structure KA where
  dummy : Unit := ()
section
variable {X : Cx} {B : Bs} {f : Addr} {fd : FuncData} {ps ks : List Str} {sp : FN} {n : Str} {p pos : Pos} {e : Expr} {es : List Expr} {kws : List Keyword} {z zk : AA} {k : Nat}
def pkOf (K : KX) (B : Bs) (aa : AA) : TA := aOf K B aa
theorem PK.imp {X : Cx} {e : List Keyword} {t t' : TA} (h : PK X e t) (k : ∀ σ H Q, t' σ H Q → t σ H Q) : PK X e t' := ⟨fun pos pins s σ H Q I q => h.run pos pins s σ H Q I (k σ H Q q)⟩
theorem k_nil : PK X [] (aOf (kx X) B aNil) := PK.imp pk_nil fun σ H Q ⟨ι, a, S, P, g, h, k⟩ => k ι H [] [] S .refl g.rs .nil h
theorem k_cons {x : AE} {nm : Option Str} {kpos : Pos} (ha : PE X e (eOf (kx X) B x)) (hr : PK X kws (aOf (kx X) B z)) : PK X (⟨nm, e, kpos⟩ :: kws) (aOf (kx X) B (aCons x z)) := by
  refine PK.imp (pk_cons ha hr) fun σ H Q h => ?_
  obtain ⟨ι, a, S, P, g, h, k⟩ := h
  refine ⟨ι, a, S, _, g, h, fun ι1 H1 v d S1 e1 r1 v1 h1 => ?_⟩
  refine ⟨ι1, a, S1, _, g.go e1 r1, h1, fun ι2 H2 vs ds S2 e2 r2 v2 h2 => ?_⟩
  exact k ι2 H2 _ _ S2 (e1.trans e2) r2 (.cons (v1.up e2) v2) h2
/-- f(e.., k = v..): gD puts the values in the parameters' order -/
def aCallK (sp : FN) (gD : List D → List D → List D) (z zk : AA) : AE := fun a S P => z a S fun ds S1 => zk a S1 fun es S2 => sp (gD ds es) S2 P
/-- the same permutation at each level -/
structure Perm3 (gD : List D → List D → List D) (gV : List V → List V → List V) : Prop where
  rel : ∀ {K ι H} {vs ws : List V} {ds es : List D}, VRs K ι H vs ds → VRs K ι H ws es → VRs K ι H (gV vs ws) (gD ds es)
variable {gD : List D → List D → List D} {gV : List V → List V → List V} {g : List Value → List Value → List Value}
theorem a_callK (F : AOk X.prog X.w X.K X.mg X.base k f fd ps sp) (hr : Room k X.A) (hm : X.mg n = some (.ref f)) (hk : PySem.W.keepIn X.K (.ref f) = true) (hb : KBinds X.K fd ps ks g gV) (h3 : Perm3 gD gV)
    (ha : PA X (e :: es) (aOf (kx X) B z)) (hkw : PK X kws (aOf (kx X) B zk)) (hg : Gl X n := by rfl) (hall : (backToKw pos (keywordEach kws X.env)).all (·.1.isSome) = true := by rfl) (hks : (backToKw pos (keywordEach kws X.env)).filterMap (·.1) = ks := by rfl)
    (hdb : (n == ("__debug__" : Str)) = false := by decide) (he : starEach (e :: es) X.env = (false, eval e X.env) :: starEach es X.env := by rfl)
    (hpl : ((backTo pos (starEach (e :: es) X.env)).any (·.1) || (backToKw pos (keywordEach kws X.env)).any (·.1.isNone)) = false := by rfl) :
    PE X (.Call (.Name n p) (e :: es) kws pos) (eOf (kx X) B (aCallK sp gD z zk)) := by
  refine PE.imp (pe_callK F hr hg hm hk hb pass0 ha hkw hall hks hdb he hpl) fun σ H Q h => ?_
  obtain ⟨ι, a, S, P, g, h, k⟩ := h
  refine ⟨ι, a, S, _, g, h, fun ι1 H1 vs ds S1 e1 r1 v1 h1 => ?_⟩
  refine ⟨ι1, a, S1, _, g.go e1 r1, h1, fun ι2 H2 ws es S2 e2 r2 v2 h2 => ?_⟩
  exact ⟨ι2, gD ds es, S2, P, r2, h3.rel (v1.up e2) v2, h2, fun ι' H' v d S' e3 r3 v3 h3 => k _ _ _ _ _ ((e1.trans e2).trans e3) r3 v3 h3⟩
end

/-! ### max of a list of whole numbers, with a default -/
def maxI (d : D) : List Int → D
  | [] => d
  | n :: ns => .int (ns.foldl max n)
def maxDefD : F2 := fun x d S P => lstP x S fun l => intsP l fun ns => P (maxI d ns) S
def maxVI (d : V) : List Int → V
  | [] => d
  | n :: ns => .int (ns.foldl max n)
def rMaxDef (K : PySem.W.Frag) : List V → List V → Hp → VK → Prop := fun xs zs H Q => ∃ p ns d, xs = [V.ref p] ∧ zs = [d] ∧ SqL K H p (ns.map V.int) ∧ Q (maxVI d ns) H
theorem dpAll_ints {K : KX} {H : Hp} : ∀ ns : List Int, DpAll K.f H (ns.map V.int) (ns.map PyData.int)
  | [] => .nil
  | n :: ns => .cons (.int n) (dpAll_ints ns)
theorem depth_ints : ∀ ns : List Int, PyData.depthAll (ns.map PyData.int) = 0
  | [] => by simp [PyData.depthAll]
  | n :: ns => by simp [PyData.depthAll, PyData.depth, depth_ints ns]
theorem alike_ints (ns : List Int) : PySem.W.AlikeAll (ns.map PyData.int) := by
  refine ⟨fun x hx y hy => ?_, fun x hx => ?_⟩
  · obtain ⟨i, _, rfl⟩ := List.mem_map.mp hx
    obtain ⟨j, _, rfl⟩ := List.mem_map.mp hy
    rfl
  · obtain ⟨i, _, rfl⟩ := List.mem_map.mp hx
    simp
theorem call_maxDef {X : Cx} (hc : X.calm = true) (hu : X.A.units + 64 < cLine) : CallRK X (.builtin "max") ["default"] (rMaxDef X.K) := by
  intro pins s σ H xs zs us ws Q I rx rz h
  obtain ⟨p, ns, d, rfl, rfl, hs, q⟩ := h
  cases rx with
  | cons r1 r2 =>
    cases r2
    cases rz with
    | cons r3 r4 =>
      cases r4
      rename_i u dv
      cases r1
      obtain ⟨its, rv, pl, hz⟩ := I.list hs
      obtain ⟨as, ra⟩ := Dp.readsAll I (ns.map PyData.int) _ its (dpAll_ints (K := kx X) ns) rv
      refine PySem.W.max_list_default (I.ok.hd hc) pl.isList (by simpa using ra) (alike_ints ns) (by rw [depth_ints]; omega) (fun e0 h' tk kp => ?_) (fun y ys i v h' tk bs e0 hv rd kp => ?_)
      · have : ns = [] := by simpa using e0
        subst this
        exact ⟨d, H, I.kept (t' := tk) kp, r3, q⟩
      · cases ns with
        | nil => simp at e0
        | cons n ns =>
          simp only [List.map_cons, List.cons.injEq] at e0
          obtain ⟨rfl, rfl⟩ := e0
          rw [PySem.W.maxD_ints] at rd
          cases rd with
          | int _ t => exact ⟨.int (ns.foldl max n), H, I.kept (t' := tk) kp, ⟨t, rfl⟩, q⟩
section
variable {X : Cx} {B : Bs} {p pos : Pos} {e : Expr} {es : List Expr} {kws : List Keyword} {z zk : AA}
def aMaxDef (z zk : AA) : AE := fun a S P => z a S fun ds S1 => zk a S1 fun es S2 => match ds with
  | [x] => (match es with | [d] => maxDefD x d S2 P | _ => False)
  | _ => False
theorem a_maxDef (hc : X.calm = true) (hu : X.A.units + 64 < cLine) (hm : X.mg "max" = none) (ha : PA X (e :: es) (aOf (kx X) B z)) (hk : PK X kws (aOf (kx X) B zk)) (hg : Gl X "max" := by rfl)
    (he : backTo pos (starEach (e :: es) X.env) = (false, eval e X.env) :: backTo pos (starEach es X.env) := by rfl) (hpl : (backTo pos (starEach (e :: es) X.env)).any (·.1) = false := by rfl)
    (hall : (backToKw pos (keywordEach kws X.env)).all (·.1.isSome) = true := by rfl) (hnone : (backToKw pos (keywordEach kws X.env)).any (·.1.isNone) = false := by rfl) (hks : (backToKw pos (keywordEach kws X.env)).filterMap (·.1) = [("default" : Str)] := by rfl) :
    PE X (.Call (.Name "max" p) (e :: es) kws pos) (eOf (kx X) B (aMaxDef z zk)) := by
  refine PE.imp (pe_callBK (call_maxDef hc hu) hg hm (by decide +kernel) ha hk (by decide) (by decide) he hpl hall hnone hks) fun σ H Q h => ?_
  obtain ⟨ι, a, S, P, g, h, k⟩ := h
  refine ⟨ι, a, S, _, g, h, fun ι1 H1 vs ds S1 e1 r1 v1 h1 => ?_⟩
  refine ⟨ι1, a, S1, _, g.go e1 r1, h1, fun ι2 H2 ws es S2 e2 r2 v2 h2 => ?_⟩
  match ds, v1, es, v2, h2 with
  | [x], v1, [d], v2, h2 =>
    obtain ⟨v, rfl, rv⟩ := v1.one
    obtain ⟨u, rfl, ru⟩ := v2.one
    obtain ⟨b, us, l, rfl, hs, hv, h2⟩ := lstP_out r2 (rv.up e2) h2
    unfold intsP at h2
    obtain ⟨ns, rfl, h2⟩ := h2
    rw [hv.ints] at hs
    refine ⟨b, ns, u, rfl, rfl, hs, k ι2 H2 _ _ S2 (e1.trans e2) r2 ?_ h2⟩
    cases ns with
    | nil => exact ru
    | cons n ns => exact .int _
end
end Ab

namespace Ab
open PySem L2
/-! ### [x for t in it if c for u in jt if d] -/
def lc2Loop (chk : Sto → Prop) (g : AG) (t : AT) (it1 : AI) (g1 : AG) (t1 : AT) (x : AE) (a0 : AS) (vs1 : List Nat) (K : List D → Sto → Prop) : List D → List D → Sto → Prop
  | [], acc, S => chk S ∧ K acc S
  | d :: ds, acc, S => chk S ∧ g d a0 S fun a S1 => t a S1 fun b S2 => iteP b (it1 a S2 fun I1 S3 => lcLoop I1.chk g1 t1 x (wipeA a vs1) (lc2Loop chk g t it1 g1 t1 x a0 vs1 K ds) I1.items acc S3) (lc2Loop chk g t it1 g1 t1 x a0 vs1 K ds acc S2)
def aLc2 (it : AI) (g : AG) (t : AT) (it1 : AI) (g1 : AG) (t1 : AT) (x : AE) (vs vs1 : List Nat) : AE := fun a S P => it a S fun I S1 => lc2Loop I.chk g t it1 g1 t1 x (wipeA a vs) vs1 (fun ys S2 => P (.obj S2.length) (S2 ++ [.lst ys])) I.items [] S1
section
variable {X : Cx} {B : Bs}
theorem lc2_of {it it1 : AI} {g g1 : TG} {ag ag1 : AG} {t t1 : AT} {x : AE} {vs vs1 : List Nat} {σ : L2.St} {H : Hp} {Q : VK} (hg : TgOk (kx X) g ag vs) (hg1 : TgOk (kx X) g1 ag1 vs1) (h : eOf (kx X) B (aLc2 it ag t it1 ag1 t1 x vs vs1) σ H Q) : tLc2 (iOf (kx X) B it) g (tOf (kx X) B t) (iOf (kx X) B it1) g1 (tOf (kx X) B t1) (eOf (kx X) B x) vs vs1 σ H Q := by
  obtain ⟨ι, a, S, P, gd, h, k⟩ := h
  refine ⟨ι, a, S, _, gd, h, fun ι1 H1 S1 J I e1 r1 J1 h1 => fun Ad hD => ?_⟩
  have E1 := gd.ext.trans e1
  have D1 := r1.out hD
  generalize hK : (fun (ys : List D) (S2 : Sto) => P (.obj S2.length) (S2 ++ [.lst ys])) = KK at h1
  refine ⟨fun i m H => m = I.items.length - i ∧ i ≤ I.items.length ∧ ∃ ι S acc us, Ext (kx X) ι1 H1 ι H ∧ RS (kx X) ι H S ∧ Ad ∉ ι ∧ H Ad = some (.lst us) ∧ VRs (kx X) ι H us acc ∧ lc2Loop I.chk ag t it1 ag1 t1 x (wipeA a vs) vs1 KK (I.items.drop i) acc S,
    ⟨I.items.length, by simp, Nat.zero_le _, ι1, S1, [], [], ext_fresh hD D1, r1.fresh hD, D1, upd_same, .nil, by simpa using h1⟩, ?_⟩
  rintro i m H2 ⟨rfl, hi, ι2, S2, acc, us, e2, r2, D2, hD2, v2, h2⟩
  by_cases hl : i < I.items.length
  · rw [List.drop_eq_getElem_cons hl] at h2
    obtain ⟨hc, h2⟩ : I.chk S2 ∧ _ := h2
    obtain ⟨go, yl⟩ := (J1 ι2 H2 S2 e2.to0 r2 hc).1 i hl
    refine .inr ⟨go, fun H => ∃ ι S acc us, Ext (kx X) ι1 H1 ι H ∧ RS (kx X) ι H S ∧ Ad ∉ ι ∧ H Ad = some (.lst us) ∧ VRs (kx X) ι H us acc ∧ lc2Loop I.chk ag t it1 ag1 t1 x (wipeA a vs) vs1 KK (I.items.drop (i + 1)) acc S, fun H' n => ⟨_, by omega, rfl, hl, n⟩, fun y H' yy => ?_⟩
    obtain ⟨d, hd, e3, r3, v3⟩ := yl y H' yy
    have ed : I.items[i] = d := Option.some.inj ((List.getElem?_eq_getElem hl).symm.trans hd)
    rw [ed] at h2
    have D3 : H' Ad = some (.lst us) := e3.frame Ad _ D2 hD2
    have s3 := ((gd.sr.up e1).wipe vs)
    have s3' : SR (kx X) ι2 H' (L2.wipe σ vs) (wipeA a vs) := (s3.up e2).up e3
    refine hg ι2 H' S2 y d σ _ _ _ v3 s3' h2 fun σ5 a5 w5 s5 h5 => ⟨w5, ?_⟩
    have E3 := (E1.trans e2).trans e3
    refine ⟨ι2, a5, S2, _, ⟨E3, r3, s5⟩, h5, fun ι6 H6 b S6 e6 r6 h6 => ?_⟩
    rw [iteP_def] at h6
    have D6 : H6 Ad = some (.lst us) := e6.frame Ad _ D2 D3
    have N6 : Ad ∉ ι6 := fun m => by
      have z := e6.fresh Ad m D2
      rw [D3] at z
      cases z
    have E6 : Ext (kx X) ι1 H1 ι6 H6 := (e2.trans e3).trans e6
    cases b with
    | true =>
      rw [if_pos rfl] at h6 ⊢
      refine ⟨ι6, a5, S6, _, ⟨E3.trans e6, r6, s5.up e6⟩, h6, fun ι7 H7 S7 J7 I7 e7 r7 J17 h7 => ?_⟩
      have D7 : H7 Ad = some (.lst us) := e7.frame Ad _ N6 D6
      have N7 : Ad ∉ ι7 := fun m => by
        have q := e7.fresh Ad m N6
        rw [D6] at q
        cases q
      have E7 := E6.trans e7
      have v7 : VRs (kx X) ι7 H7 us acc := ((v2.up e3).up e6).up e7
      have s7 : SR (kx X) ι7 H7 (L2.wipe σ5 vs1) (wipeA a5 vs1) := ((s5.up e6).up e7).wipe vs1
      have nx0 : Ex0 (kx X) ι7 H7 ι7 H7 := Ext.refl.to0
      refine ⟨fun j m H => m = I7.items.length - j ∧ j ≤ I7.items.length ∧ ∃ ι S acc us, Ex0 (kx X) ι7 H7 ι H ∧ Ext (kx X) ι1 H1 ι H ∧ RS (kx X) ι H S ∧ Ad ∉ ι ∧ H Ad = some (.lst us) ∧ VRs (kx X) ι H us acc ∧ lcLoop I7.chk ag1 t1 x (wipeA a5 vs1) (lc2Loop I.chk ag t it1 ag1 t1 x (wipeA a vs) vs1 KK (I.items.drop (i + 1))) (I7.items.drop j) acc S,
        ⟨I7.items.length, by simp, Nat.zero_le _, ι7, S7, acc, us, nx0, E7, r7, N7, D7, v7, by simpa using h7⟩, ?_⟩
      rintro j m8 H8 ⟨rfl, hj, ι8, S8, acc8, us8, e8, E8, r8, N8, D8, v8, h8⟩
      by_cases hlj : j < I7.items.length
      · rw [List.drop_eq_getElem_cons hlj] at h8
        obtain ⟨hc8, h8⟩ : I7.chk S8 ∧ _ := h8
        obtain ⟨go8, yl8⟩ := (J17 ι8 H8 S8 e8 r8 hc8).1 j hlj
        refine .inr ⟨go8, fun H => ∃ ι S acc us, Ex0 (kx X) ι7 H7 ι H ∧ Ext (kx X) ι1 H1 ι H ∧ RS (kx X) ι H S ∧ Ad ∉ ι ∧ H Ad = some (.lst us) ∧ VRs (kx X) ι H us acc ∧ lcLoop I7.chk ag1 t1 x (wipeA a5 vs1) (lc2Loop I.chk ag t it1 ag1 t1 x (wipeA a vs) vs1 KK (I.items.drop (i + 1))) (I7.items.drop (j + 1)) acc S, fun H' n => ⟨_, by omega, rfl, hlj, n⟩, fun y' H'' yy' => ?_⟩
        obtain ⟨d', hd', e9, r9, v9⟩ := yl8 y' H'' yy'
        have ed' : I7.items[j] = d' := Option.some.inj ((List.getElem?_eq_getElem hlj).symm.trans hd')
        rw [ed'] at h8
        have D9 : H'' Ad = some (.lst us8) := e9.frame Ad _ N8 D8
        have s9 : SR (kx X) ι8 H'' (L2.wipe σ5 vs1) (wipeA a5 vs1) := (s7.ex0 e8).up e9
        refine hg1 ι8 H'' S8 y' d' σ5 _ _ _ v9 s9 h8 fun σA aA wA sA hA => ⟨wA, ?_⟩
        have E9 : Ext (kx X) ι1 H1 ι8 H'' := E8.trans e9
        refine ⟨ι8, aA, S8, _, ⟨E1.trans E9, r9, sA⟩, hA, fun ιB HB b2 SB eB rB hB => ?_⟩
        rw [iteP_def] at hB
        have DB : HB Ad = some (.lst us8) := eB.frame Ad _ N8 D9
        have NB : Ad ∉ ιB := fun m => by
          have z := eB.fresh Ad m N8
          rw [D9] at z
          cases z
        have x0B : Ex0 (kx X) ι7 H7 ιB HB := (e8.trans e9.to0).trans eB.to0
        cases b2 with
        | true =>
          rw [if_pos rfl] at hB ⊢
          refine ⟨ιB, aA, SB, _, ⟨(E1.trans E9).trans eB, rB, sA.up eB⟩, hB, fun ιC HC zv dz SC eC rC vC hC => ?_⟩
          have DC : HC Ad = some (.lst us8) := eC.frame Ad _ NB DB
          have NC : Ad ∉ ιC := fun m => by
            have q := eC.fresh Ad m NB
            rw [DB] at q
            cases q
          have v8' : VRs (kx X) ιC HC us8 acc8 := ((v8.up e9).up eB).up eC
          have x0 := ex0_hid (K := (kx X)) (ι := ιC) (o := .lst (us8 ++ [zv])) DC
          refine ⟨us8, DC, by rw [v8.length]; exact hC.1, ιC, SC, acc8 ++ [dz], us8 ++ [zv], (x0B.trans eC.to0).trans x0, ext_hid ((E9.trans eB).trans eC) hD, rC.hid DC NC, NC, upd_same, ?_, hC.2⟩
          exact VRs.append (VRs.ex0 x0 _ _ v8') (.cons (VR.ex0 x0 _ _ vC) .nil)
        | false =>
          rw [if_neg Bool.false_ne_true] at hB ⊢
          exact ⟨ιB, SB, acc8, us8, x0B, E9.trans eB, rB, NB, DB, (v8.up e9).up eB, hB⟩
      · have ej : j = I7.items.length := by omega
        subst ej
        rw [List.drop_length] at h8
        obtain ⟨hc8, h8⟩ : I7.chk S8 ∧ _ := h8
        exact .inl ⟨(J17 ι8 H8 S8 e8 r8 hc8).2, ι8, S8, acc8, us8, E8, r8, N8, D8, v8, h8⟩
    | false =>
      rw [if_neg Bool.false_ne_true] at h6 ⊢
      exact ⟨ι6, S6, acc, us, E6, r6, N6, D6, (v2.up e3).up e6, h6⟩
  · have ei : i = I.items.length := by omega
    subst ei
    rw [List.drop_length] at h2
    obtain ⟨hc, h2⟩ : I.chk S2 ∧ _ := h2
    have h2 : P (.obj S2.length) (S2 ++ [.lst acc]) := by rw [← hK] at h2; exact h2
    exact .inl ⟨(J1 ι2 H2 S2 e2.to0 r2 hc).2, k _ _ _ _ _ (e1.trans (ext_adopt e2 hD)) (r2.adopt hD2 D2 v2) (by rw [← r2.len]; exact VR.new) h2⟩
variable {elt tg iter tg1 iter1 : Expr} {ifs ifs1 : List Expr} {scope : Scope} {own : List (Str × Nat)} {vs1 : List Nat} {pos : Pos} {it it1 : AI} {g g1 : TG} {ag ag1 : AG} {t t1 : AT} {x : AE}
theorem a_lc2 (hN : X.N.Nodup) (hi : PI X tg iter (iOf (kx X) B it)) (ok : BlkOk X.N X.env.scope scope own) (hv : ∀ i ∈ vs1, i ∈ own.map (·.2)) (hT : TgOk (kx X) g ag (own.map (·.2))) (hT1 : TgOk (kx X) g1 ag1 vs1)
    (hg : ∀ (s : Shared) (H : Hp) (C : Addr) (cl : List (Str × Addr)) (fp : List Addr), PG (X.blk s H scope (compEnvC scope cl C X.env) fp) tg g) (ht : ∀ (s : Shared) (H : Hp) (C : Addr) (cl : List (Str × Addr)) (fp : List Addr), PTs (X.blk s H scope (compEnvC scope cl C X.env) fp) ifs (tOf (kx X) B t))
    (hi1 : ∀ (s : Shared) (H : Hp) (C : Addr) (cl : List (Str × Addr)) (fp : List Addr), PI (X.blk s H scope (compEnvC scope cl C X.env) fp) tg1 iter1 (iOf (kx X) B it1))
    (hg1 : ∀ (s : Shared) (H : Hp) (C : Addr) (cl : List (Str × Addr)) (fp : List Addr), PG (X.blk s H scope (compEnvC scope cl C X.env) fp) tg1 g1) (ht1 : ∀ (s : Shared) (H : Hp) (C : Addr) (cl : List (Str × Addr)) (fp : List Addr), PTs (X.blk s H scope (compEnvC scope cl C X.env) fp) ifs1 (tOf (kx X) B t1))
    (he : ∀ (s : Shared) (H : Hp) (C : Addr) (cl : List (Str × Addr)) (fp : List Addr), PE (X.blk s H scope (compEnvC scope cl C X.env) fp) elt (eOf (kx X) B x)) (hc : X.calm = true := by rfl) (hs : ∀ x, foldedSetIterable iter X.env x = pure x := by intro _; rfl) (hs1 : ∀ env x, foldedSetIterable iter1 env x = pure x := by intro _ _; rfl) :
    PE X (.ListComp elt [⟨tg, iter, ifs, 0⟩, ⟨tg1, iter1, ifs1, 0⟩] scope pos) (eOf (kx X) B (aLc2 it ag t it1 ag1 t1 x (own.map (·.2)) vs1)) := PE.imp (pe_lc2 hc hN hi ok hv hg ht hi1 hg1 ht1 he hs hs1) fun _ _ _ h => lc2_of hT hT1 h
theorem s_setLc2 {i : Nat} {y : Str} {py spos : Pos} (hN : X.N.Nodup) (hi : PI X tg iter (iOf (kx X) B it)) (ok : BlkOk X.N X.env.scope scope own) (hv : ∀ i ∈ vs1, i ∈ own.map (·.2)) (hT : TgOk (kx X) g ag (own.map (·.2))) (hT1 : TgOk (kx X) g1 ag1 vs1)
    (hg : ∀ (s : Shared) (H : Hp) (C : Addr) (cl : List (Str × Addr)) (fp : List Addr), PG (X.blk s H scope (compEnvC scope cl C X.env) fp) tg g) (ht : ∀ (s : Shared) (H : Hp) (C : Addr) (cl : List (Str × Addr)) (fp : List Addr), PTs (X.blk s H scope (compEnvC scope cl C X.env) fp) ifs (tOf (kx X) B t))
    (hi1 : ∀ (s : Shared) (H : Hp) (C : Addr) (cl : List (Str × Addr)) (fp : List Addr), PI (X.blk s H scope (compEnvC scope cl C X.env) fp) tg1 iter1 (iOf (kx X) B it1))
    (hg1 : ∀ (s : Shared) (H : Hp) (C : Addr) (cl : List (Str × Addr)) (fp : List Addr), PG (X.blk s H scope (compEnvC scope cl C X.env) fp) tg1 g1) (ht1 : ∀ (s : Shared) (H : Hp) (C : Addr) (cl : List (Str × Addr)) (fp : List Addr), PTs (X.blk s H scope (compEnvC scope cl C X.env) fp) ifs1 (tOf (kx X) B t1))
    (he : ∀ (s : Shared) (H : Hp) (C : Addr) (cl : List (Str × Addr)) (fp : List Addr), PE (X.blk s H scope (compEnvC scope cl C X.env) fp) elt (eOf (kx X) B x)) (hc : X.calm = true := by rfl) (hy : X.N[i]? = some y := by rfl) (hyl : X.env.scope.names.lookup y = some .local := by rfl)
    (hsw : swapsWith (.ListComp elt [⟨tg, iter, ifs, 0⟩, ⟨tg1, iter1, ifs1, 0⟩] scope pos) (some (.Name y py)) spos.line X.env = pure true := by exact sw_true rfl rfl rfl (by decide +kernel)) (hs : ∀ x, foldedSetIterable iter X.env x = pure x := by intro _; rfl) (hs1 : ∀ env x, foldedSetIterable iter1 env x = pure x := by intro _ _; rfl) :
    PS X (.Assign [.Name y py] (.ListComp elt [⟨tg, iter, ifs, 0⟩, ⟨tg1, iter1, ifs1, 0⟩] scope pos) spos) (sOf (kx X) B (aAsg (aLc2 it ag t it1 ag1 t1 x (own.map (·.2)) vs1) (gN i))) := by
  refine PS.imp (ps_setLc2 hc hN hy hyl hsw hi ok hv hg ht hi1 hg1 ht1 he hs hs1) fun D σ H h => ?_
  obtain ⟨ι, a, S, AD, gd, h, k⟩ := h
  exact lc2_of (Q := fun v H1 => gName i v σ H1 D.nx) hT hT1 ⟨ι, a, S, _, gd, h, fun ι1 H1 v d S1 e1 r1 v1 h1 => k.nx _ _ _ _ _ e1 r1 ((gd.sr.up e1).set v1 i) h1⟩
end
end Ab

namespace Ab
open PySem L2 PySem.Spec PyProof.Rows
/-! ### a value's truth -/
def truD (d : D) (S : Sto) (P : Bool → Sto → Prop) : Prop := match d with
  | .non => P false S
  | .bl b => P b S
  | .int i => P (i != 0) S
  | .tup l => P (!l.isEmpty) S
  | .ktp l => P (!l.isEmpty) S
  | .rol l => P (!l.isEmpty) S
  | .str s => s.length ≤ sizeLine ∧ P ((s.length : Int) != 0) S
  | .obj n => rdO S n fun o => match o with
    | .lst l => P (!l.isEmpty) S
    | .dK l => P (!l.isEmpty) S
    | _ => False
  | _ => False
def aTr (x : AE) : AT := fun a S P => x a S fun d S1 => truD d S1 P
theorem isEmpty_len {α β : Type} : ∀ {l : List α} {m : List β}, l.length = m.length → l.isEmpty = m.isEmpty
  | [], [], _ => rfl
  | _ :: _, _ :: _, _ => rfl
  | [], _ :: _, h => by simp at h
  | _ :: _, [], h => by simp at h
section
variable {X : Cx} {B : Bs} {x : AE}
theorem q_tr {e : Expr} (h : PE X e (eOf (kx X) B x)) (he : ∀ whole, isTrue e X.env whole = (do let v ← whole; standAt e.pos; holding [v] (truthy v)) := by intro _; rfl) : PT X e (tOf (kx X) B (aTr x)) := by
  refine PT.imp (pt_truth h he) fun σ H Q h => ?_
  obtain ⟨ι, a, S, P, g, h, k⟩ := h
  refine ⟨ι, a, S, _, g, h, fun ι1 H1 v d S1 e1 r1 v1 h1 => ?_⟩
  cases v1 with
  | non => exact ⟨false, rfl, k _ _ _ _ e1 r1 h1⟩
  | bl b => exact ⟨b, rfl, k _ _ _ _ e1 r1 h1⟩
  | int b => exact ⟨_, rfl, k _ _ _ _ e1 r1 h1⟩
  | str b => exact ⟨_, ⟨h1.1, rfl⟩, k _ _ _ _ e1 r1 h1.2⟩
  | tup h2 h3 => exact ⟨_, .inr (.inl ⟨_, .of h2, rfl⟩), by rw [isEmpty_len h3.length]; exact k _ _ _ _ e1 r1 h1⟩
  | ktp h2 h3 => exact ⟨_, .inr (.inl ⟨_, h2.sq, rfl⟩), by rw [isEmpty_len h3.length]; exact k _ _ _ _ e1 r1 h1⟩
  | rol h2 h3 => exact ⟨_, .inl ⟨_, h2.sq, rfl⟩, by rw [isEmpty_len h3.length]; exact k _ _ _ _ e1 r1 h1⟩
  | obj h2 =>
    obtain ⟨o, e2, h1⟩ := rdO_out h1
    have ho := r1.ob _ _ _ h2 e2
    cases o with
    | lst l =>
      obtain ⟨vs, q1, q2⟩ := ho
      exact ⟨_, .inl ⟨_, .of q1, rfl⟩, by rw [isEmpty_len q2.length]; exact k _ _ _ _ e1 r1 h1⟩
    | dK l =>
      obtain ⟨ws, q1, q2⟩ := ho
      have q2 : Prs (kx X) ι1 H1 ws l := q2
      exact ⟨_, .inr (.inr ⟨_, q1, rfl⟩), by rw [isEmpty_len q2.length]; exact k _ _ _ _ e1 r1 h1⟩
    | _ => exact h1.elim
  | _ => exact h1.elim
/-! ### name op= e -/
theorem s_aug {i : Nat} {n : Str} {e : Expr} {op : Operator} {r : R2} {f : F2} {pos pos' : Pos} (hN : X.N.Nodup) (he : PE X e (eOf (kx X) B x)) (ho : OpR X (inplaceOp op) r) (hf : OpA (kx X) r f) (hi : X.N[i]? = some n := by rfl) (hx : Loc X.env.scope n := by first | exact Or.inl rfl | exact Or.inr rfl)
    (hfn : X.fn n = true ∨ X.env.scope.names.lookup n = some .local := by first | exact .inl rfl | exact .inr rfl | assumption) : PS X (.AugAssign (.Name n pos') op e pos) (sOf (kx X) B (aAug i x f)) := by
  refine PS.imp (ps_aug (ti := r) hN hi hx he ho hfn) fun D σ H h => ?_
  obtain ⟨ι, a, S, AD, g, h, k⟩ := h
  unfold aAug at h
  split at h
  · rename_i d ed
    obtain ⟨v, e1, rv⟩ := g.sr.get (slot_get ed)
    refine ⟨v, e1, ι, a, S, _, g, h, fun ι1 H1 w d1 S1 e2 r2 v2 h2 => ?_⟩
    exact hf ι1 H1 S1 v w d d1 _ _ r2 (rv.up e2) v2 h2 fun ι2 H2 u d2 S2 e3 r3 v3 h3 => k.nx _ _ _ _ _ (e2.trans e3) r3 ((g.sr.up (e2.trans e3)).set v3 i) h3
  · exact h.elim
/-! ### while -/
def aWhile (c : AT) (b : AX) : AX := fun AD a S => ∃ W : Nat → AS → Sto → Prop, (∃ m, W m a S) ∧ ∀ m a S, W m a S → c a S fun bb S1 => iteP bb (∀ nx : AS → Sto → Prop, (∀ a' S' m', m' < m → W m' a' S' → nx a' S') → b { AD with nx := nx, ct := nx, bk := AD.nx } a S1) (AD.nx a S1)
theorem s_while {c : Expr} {body : List Stmt} {t : AT} {b : AX} {pos : Pos} (hc : PT X c (tOf (kx X) B t)) (hb : PSs X body (sOf (kx X) B b)) (hp : PySem.PassesOwn (model X.prog X.w) X.A X.env X.xe := by exact PySem.PassesOwn.never) : PS X (.While c body [] pos) (sOf (kx X) B (aWhile t b)) := by
  refine PS.imp (ps_while hp hc hb) fun D σ H h => ?_
  obtain ⟨ι, a, S, AD, g, ⟨W, ⟨m0, w0⟩, turn⟩, k⟩ := h
  refine ⟨fun m σ H' => ∃ ι' a' S', Ext (kx X) ι H ι' H' ∧ RS (kx X) ι' H' S' ∧ SR (kx X) ι' H' σ a' ∧ W m a' S', ⟨m0, ι, a, S, .refl, g.rs, g.sr, w0⟩, ?_⟩
  rintro m σ1 H1 ⟨ι1, a1, S1, e1, r1, s1, w1⟩
  refine ⟨ι1, a1, S1, _, ⟨g.ext.trans e1, r1, s1⟩, turn m a1 S1 w1, fun ι2 H2 bb S2 e2 r2 h2 => ?_⟩
  rw [iteP_def] at h2
  have E := e1.trans e2
  cases bb with
  | true =>
    rw [if_pos rfl] at h2 ⊢
    refine ⟨fun σ' H' => ∃ m', m' < m ∧ ∃ ι' a' S', Ext (kx X) ι H ι' H' ∧ RS (kx X) ι' H' S' ∧ SR (kx X) ι' H' σ' a' ∧ W m' a' S', fun σ' H' h => h, ?_⟩
    refine ⟨ι2, a1, S2, _, ⟨g.ext.trans E, r2, s1.up e2⟩, h2 (fun a' S' => ∃ m', m' < m ∧ W m' a' S') (fun a' S' m' hm w => ⟨m', hm, w⟩), ?_⟩
    have k' := k.up E
    exact ⟨fun ι5 H5 σ5 a5 S5 e5 r5 s5 ⟨m', hm, w⟩ => ⟨m', hm, ι5, a5, S5, E.trans e5, r5, s5, w⟩, k'.rt, k'.nx, fun ι5 H5 σ5 a5 S5 e5 r5 s5 ⟨m', hm, w⟩ => ⟨m', hm, ι5, a5, S5, E.trans e5, r5, s5, w⟩, k'.ex⟩
  | false =>
    rw [if_neg Bool.false_ne_true] at h2 ⊢
    exact k.nx _ _ _ _ _ E r2 (s1.up e2) h2
end
end Ab

namespace Ab
open PySem L2 PySem.Spec PyProof.Rows
/-! ### a def of the top, with its promise -/
theorem fun_of {K : PySem.W.Frag} {x qual : Str} {st : Stmt} {f : Addr} {fd : FuncData} (F : FunD K x qual (defArgs st) (defBody st) (defScope st) [] [] f fd) : Fun K x qual st f fd := by
  obtain ⟨oc, od, dV, kV, doc, pm, an, cdv, ct, osl, e, l, c, hd, _⟩ := F.ex
  rcases hd with ⟨_, e2⟩ | ⟨e2, _⟩
  · subst e2
    exact ⟨⟨oc, od, kV, doc, pm, an, cdv, ct, osl, e, l, c⟩, F.kp⟩
  · exact absurd rfl e2
def OkF (P : Program) (w : World) (K : PySem.W.Frag) (mg : Str → Option Value) (base : Heap) (k : Nat) (x : Str) (st : Stmt) (ps : List Str) (sp : FN) : Prop :=
  ∃ fd, FunD K x x (defArgs st) (defBody st) (defScope st) [] [] (He.ga K x) fd ∧ Binds K fd ps [] ∧ AOk P w K mg base k (He.ga K x) fd ps sp
/-- the values in the parameters' order -/
def kperm {α : Type} (p : List Nat) (us ws : List α) : List α := p.filterMap fun i => (us ++ ws)[i]?
theorem vals_get : ∀ {vs : List V} {us : List Value}, Vals vs us → ∀ i : Nat, (vs[i]? = none ∧ us[i]? = none) ∨ ∃ v u, vs[i]? = some v ∧ us[i]? = some u ∧ RelV v u
  | [], _, h, i => by cases h; exact .inl ⟨rfl, rfl⟩
  | _ :: _, _, h, 0 => by
    cases h with
    | cons h1 h2 => exact .inr ⟨_, _, rfl, rfl, h1⟩
  | _ :: _, _, h, i + 1 => by
    cases h with
    | cons h1 h2 => simpa using vals_get h2 i
theorem kperm_vals {p : List Nat} {vs zs : List V} {us ws : List Value} (r1 : Vals vs us) (r2 : Vals zs ws) : Vals (kperm p vs zs) (kperm p us ws) := by
  unfold kperm
  have r := r1.append r2
  induction p with
  | nil => exact .nil
  | cons i p ih =>
    rw [List.filterMap_cons, List.filterMap_cons]
    rcases vals_get r i with ⟨e1, e2⟩ | ⟨v, u, e1, e2, e3⟩
    · rw [e1, e2]; exact ih
    · rw [e1, e2]; exact .cons e3 ih
theorem vrs_get {K : KX} {ι : List Addr} {H : Hp} : ∀ {vs : List V} {us : List D}, VRs K ι H vs us → ∀ i : Nat, (vs[i]? = none ∧ us[i]? = none) ∨ ∃ v u, vs[i]? = some v ∧ us[i]? = some u ∧ VR K ι H v u
  | _, [], h, i => by cases h; exact .inl ⟨rfl, rfl⟩
  | _, _ :: _, h, 0 => by
    cases h with
    | cons h1 h2 => exact .inr ⟨_, _, rfl, rfl, h1⟩
  | _, _ :: _, h, i + 1 => by
    cases h with
    | cons h1 h2 => simpa using vrs_get h2 i
theorem kperm_vrs {K : KX} {ι : List Addr} {H : Hp} {p : List Nat} {vs zs : List V} {us ws : List D} (r1 : VRs K ι H vs us) (r2 : VRs K ι H zs ws) : VRs K ι H (kperm p vs zs) (kperm p us ws) := by
  unfold kperm
  have r := r1.append r2
  induction p with
  | nil => exact .nil
  | cons i p ih =>
    rw [List.filterMap_cons, List.filterMap_cons]
    rcases vrs_get r i with ⟨e1, e2⟩ | ⟨v, u, e1, e2, e3⟩
    · rw [e1, e2]; exact ih
    · rw [e1, e2]; exact .cons e3 ih
/-- how a def's call with keywords binds -/
def KwOk (x : Str) (st : Stmt) (ps : List Str) (n : Nat) (ks : List Str) (p : List Nat) : Prop := ∀ (kV doc pm : Value) (an : Option Addr) (cdv ct : Value) (us ws : List Value), us.length = n → ws.length = ks.length →
  bindArgs (PySem.W.fnOf x x (defArgs st) (defBody st) (defScope st) .none kV doc pm an cdv ct) ⟨us, ks.zip ws⟩ = pure (ps.zip (kperm p us ws))
theorem kbn_of {K : PySem.W.Frag} {x : Str} {st : Stmt} {f : Addr} {fd : FuncData} {ps ks : List Str} {n : Nat} {p : List Nat} (F : FunD K x x (defArgs st) (defBody st) (defScope st) [] [] f fd) (h : KwOk x st ps n ks p) :
    KBn K fd ps n ks (fun us ws => kperm p us ws) (fun vs zs => kperm p vs zs) := by
  obtain ⟨oc, od, dV, kV, doc, pm, an, cdv, ct, osl, rfl, lk, hcd, hD, hK⟩ := F.ex
  rcases hD with ⟨_, rfl⟩ | ⟨e, _⟩
  · exact ⟨fun s us ws _ l1 l2 => .of_eq (h kV doc pm an cdv ct us ws l1 l2), fun r1 r2 => kperm_vals r1 r2⟩
  · exact absurd rfl e
section
variable {X : Cx} {B : Bs} {st : Stmt} {ps ks : List Str} {sp : FN} {n : Str} {p pos : Pos} {e : Expr} {es : List Expr} {kws : List Keyword} {z zk : AA} {k : Nat} {q : List Nat} {m : Nat}
theorem a_callF (F : OkF X.prog X.w X.K X.mg X.base k n st ps sp) (hr : Room k X.A) (hm : X.mg n = some (.ref (He.ga X.K n))) (ha : PA X (e :: es) (aOf (kx X) B z)) (hg : Gl X n := by rfl)
    (hdb : (n == ("__debug__" : Str)) = false := by decide) (he : starEach (e :: es) X.env = (false, eval e X.env) :: starEach es X.env := by rfl) (hpl : (backTo pos (starEach es X.env)).any (·.1) = false := by rfl) :
    PE X (.Call (.Name n p) (e :: es) [] pos) (eOf (kx X) B (aCall sp z)) := by
  obtain ⟨fd, F1, b, F2⟩ := F
  exact a_call F2 hr hm F1.kp b ha hg hdb he hpl
end
/-- f(.., k = v ..): the values by the places in q -/
def aCallN (sp : FN) (q : List Nat) (n m : Nat) (z zk : AA) : AE := fun a S P => z a S fun ds S1 => zk a S1 fun es S2 => ds.length = n ∧ es.length = m ∧ sp (kperm q ds es) S2 P
section
variable {X : Cx} {B : Bs} {st : Stmt} {ps ks : List Str} {sp : FN} {n : Str} {p pos : Pos} {e : Expr} {es : List Expr} {kws : List Keyword} {z zk : AA} {k : Nat} {q : List Nat} {m j : Nat}
theorem callN_of' {σ : L2.St} {H : Hp} {Q : VK} (hj : ks.length = j) (h : eOf (kx X) B (aCallN sp q m j z zk) σ H Q) : tCallN m ks.length (spOf (kx X) sp) (fun vs zs => kperm q vs zs) E0 (aOf (kx X) B z) (aOf (kx X) B zk) σ H Q := by
  obtain ⟨ι, a, S, P, g, h, k⟩ := h
  refine ⟨ι, a, S, _, g, h, fun ι1 H1 vs ds S1 e1 r1 v1 h1 => ?_⟩
  refine ⟨ι1, a, S1, _, g.go e1 r1, h1, fun ι2 H2 ws es S2 e2 r2 v2 ⟨l1, l2, h2⟩ => ?_⟩
  exact ⟨v1.length.trans l1, (v2.length.trans l2).trans hj.symm, ι2, _, S2, P, r2, kperm_vrs (v1.up e2) v2, h2, fun ι' H' v d S' e3 r3 v3 h3 => k _ _ _ _ _ ((e1.trans e2).trans e3) r3 v3 h3⟩
theorem a_callKF (F : OkF X.prog X.w X.K X.mg X.base k n st ps sp) (hr : Room k X.A) (hm : X.mg n = some (.ref (He.ga X.K n))) (hb : KwOk n st ps m ks q) (hj : ks.length = j) (ha : PA X (e :: es) (aOf (kx X) B z)) (hkw : PK X kws (aOf (kx X) B zk)) (hg : Gl X n := by rfl)
    (hall : (backToKw pos (keywordEach kws X.env)).all (·.1.isSome) = true := by rfl) (hks : (backToKw pos (keywordEach kws X.env)).filterMap (·.1) = ks := by rfl)
    (hdb : (n == ("__debug__" : Str)) = false := by decide) (he : starEach (e :: es) X.env = (false, eval e X.env) :: starEach es X.env := by rfl)
    (hpl : ((backTo pos (starEach (e :: es) X.env)).any (·.1) || (backToKw pos (keywordEach kws X.env)).any (·.1.isNone)) = false := by rfl) :
    PE X (.Call (.Name n p) (e :: es) kws pos) (eOf (kx X) B (aCallN sp q m j z zk)) := by
  obtain ⟨fd, F1, b, F2⟩ := F
  exact PE.imp (pe_callN F2 hr hg hm F1.kp (kbn_of F1 hb) pass0 ha hkw hall hks hdb he hpl) fun σ H Q h => callN_of' hj h
theorem pe_callN0 {sp : Sp} {tk : TA} {CX : CXT} {f : Addr} {fd : FuncData} {E : XK} {x : Str} {g : List Value → List Value → List Value} {gV : List V → List V → List V} (F : FnOk X.prog X.w X.K X.mg X.base CX k f fd ps sp) (hr : Room k X.A) (hg : Gl X x) (hm : X.mg x = some (.ref f)) (hk : PySem.W.keepIn X.K (.ref f) = true) (hb : KBn X.K fd ps 0 ks g gV) (hx : Passes CX X E)
    (hkw : PK X kws tk) (hall : (backToKw pos (keywordEach kws X.env)).all (·.1.isSome) = true := by rfl) (hks : (backToKw pos (keywordEach kws X.env)).filterMap (·.1) = ks := by rfl)
    (hdb : (x == ("__debug__" : Str)) = false := by decide)
    (hpl : ((backTo pos (starEach [] X.env)).any (·.1) || (backToKw pos (keywordEach kws X.env)).any (·.1.isNone)) = false := by rfl) :
    PE X (.Call (.Name x p) [] kws pos) (tCallN 0 ks.length sp gV E tNil tk) := by
  refine ⟨fun pins s σ H Q I h => ?_⟩
  refine wpAny_Call_Name_kw (ld_glob I hg hm ?_ hdb)
  refine PySem.W.callWith_KW0 (h₀ := X.base) I.ok.mod.kin hk hall ?_ hpl
  refine thn (hkw.run pos pins s σ H _ I h) fun ws s2 ⟨zs, H2, I2, rz, l1, l2, q2⟩ => ⟨I2.kIn, ?_⟩
  rw [hks]
  exact run_fnN F hr hb hx I2 .nil rz rfl l2 q2
theorem a_callK0F (F : OkF X.prog X.w X.K X.mg X.base k n st ps sp) (hr : Room k X.A) (hm : X.mg n = some (.ref (He.ga X.K n))) (hb : KwOk n st ps 0 ks q) (hj : ks.length = j) (hkw : PK X kws (aOf (kx X) B zk)) (hg : Gl X n := by rfl)
    (hall : (backToKw pos (keywordEach kws X.env)).all (·.1.isSome) = true := by rfl) (hks : (backToKw pos (keywordEach kws X.env)).filterMap (·.1) = ks := by rfl)
    (hdb : (n == ("__debug__" : Str)) = false := by decide)
    (hpl : ((backTo pos (starEach [] X.env)).any (·.1) || (backToKw pos (keywordEach kws X.env)).any (·.1.isNone)) = false := by rfl) :
    PE X (.Call (.Name n p) [] kws pos) (eOf (kx X) B (aCallN sp q 0 j aNil zk)) := by
  obtain ⟨fd, F1, b, F2⟩ := F
  refine PE.imp (pe_callN0 F2 hr hg hm F1.kp (kbn_of F1 hb) pass0 hkw hall hks hdb hpl) fun σ H Q h => ?_
  obtain ⟨ι, a, S, P, g, h, k⟩ := h
  refine ⟨ι, a, S, _, g, h, fun ι2 H2 ws es S2 e2 r2 v2 ⟨l1, l2, h2⟩ => ?_⟩
  exact ⟨rfl, (v2.length.trans l2).trans hj.symm, ι2, _, S2, P, r2, kperm_vrs (vs := []) (us := []) .nil v2, h2, fun ι' H' v d S' e3 r3 v3 h3 => k _ _ _ _ _ (e2.trans e3) r3 v3 h3⟩
theorem a_gint {n : Str} {i : Int} {pos : Pos} (h : ∃ t, X.mg n = some (.int i t)) (hg : Gl X n := by rfl) (hd : (n == ("__debug__" : Str)) = false := by decide) : PE X (.Name n pos) (eOf (kx X) B (aC (.int i))) := by
  obtain ⟨t, h⟩ := h
  exact a_glob (v := .int i) h ⟨t, rfl⟩ (fun _ _ => .int i) hg hd
end
/-- += of numbers -/
def addD0 : F2 := intD0 fun i j => .int (i + j)
theorem addA0 {K : KX} : OpA K (rI0 fun i j => .int (i + j)) addD0 := intA0 fun _ _ _ _ => .int _

/-! ### the names of the text -/
structure Txt (gl fr : List Str) (is : List (Str × Int)) (K : PySem.W.Frag) (mg : Str → Option Value) : Prop where
  gl : ∀ (i : Nat) {x : Str}, gl[i]? = some x → mg x = some (.ref (He.ga K x))
  fr : ∀ (i : Nat) {x : Str}, fr[i]? = some x → mg x = none
  is : ∀ (i : Nat) {x : Str} {j : Int}, is[i]? = some (x, j) → ∃ t, mg x = some (.int j t)
def faOf (gl fr : List Str) (is : List (Str × Int)) : List He.Fa := gl.map .glo ++ (fr.map .free ++ is.map fun p => .int p.1 p.2)
theorem facts_of {fa : List He.Fa} {fn : List He.DefD} {K : PySem.W.Frag} (c : He.SaysD fa fn K) {f : He.Fa} (h : f ∈ fa) : f.ok K = true := by
  obtain ⟨i, hi⟩ := List.getElem?_of_mem h
  exact c.fact i hi
theorem txt_of {gl fr : List Str} {is : List (Str × Int)} {fn : List He.DefD} {K : PySem.W.Frag} {h : Heap} {mg : Str → Option Value} (X : K.In h) (G : h.Ns mainGlobals mg) (c : He.SaysD (faOf gl fr is) fn K) : Txt gl fr is K mg where
  gl := fun i x e => He.glo_ok X G (facts_of c (List.mem_append_left _ (List.mem_map.mpr ⟨x, List.mem_of_getElem? e, rfl⟩)))
  fr := fun i x e => He.free_ok X G (facts_of c (List.mem_append_right _ (List.mem_append_left _ (List.mem_map.mpr ⟨x, List.mem_of_getElem? e, rfl⟩))))
  is := fun i x j e => He.int_ok X G (facts_of c (List.mem_append_right _ (List.mem_append_right _ (List.mem_map.mpr ⟨(x, j), List.mem_of_getElem? e, rfl⟩))))
theorem okf_of {P : Program} {w : World} {K : PySem.W.Frag} {mg : Str → Option Value} {base : Heap} {x : Str} {st : Stmt} {N ps : List Str} {k n : Nat} {sp : FN} {as : AX} {fd : FuncData} (F : FunD K x x (defArgs st) (defBody st) (defScope st) [] [] (He.ga K x) fd) (C : FnScope N ps (defScope st)) (len : Ar ps.length sp) (hn : N.length = n)
    (hb : ∀ (kV doc pm : Value) (an : Option Addr) (cdv ct : Value) (us : List Value), us.length = ps.length → bindArgs (PySem.W.fnOf x x (defArgs st) (defBody st) (defScope st) .none kV doc pm an cdv ct) ⟨us, []⟩ = pure (ps.zip us))
    (hbody : ∀ (cdv : Value) (A : Around) (outer : List Env) (s : Shared) (H : Hp) (E : XK) (B : Bs), Room k (A.deeper (PyProof.Rows.envOfC x (defScope st) s.heap.objs.size (He.ga K x) cdv)) →
      PSs (cxOf CX0 P w K mg base N x (defScope st) (He.ga K x) cdv A outer s H E).nox (defBody st) (sOf ⟨K, P, w⟩ B as))
    (hsem : ∀ ds S P, sp ds S P → as { nx := fun _ S' => P .non S', rt := P } (aStart n ds) S) : OkF P w K mg base (k + 1) x st ps sp :=
  ⟨fd, F, F.bindsN hb, aok (fun_of F) C len hn hbody hsem⟩
/-! ### the script -/
theorem rol_of {K : KX} {H : Hp} {a : Addr} {xs : List V} (o : Only H) (h : SqL K.f H a xs) : RoL K H a xs := by
  rcases h with (h | ⟨u, h⟩) | h
  · rcases o a with z | ⟨u, ys, z⟩
    · rw [h] at z; cases z
    · rw [h] at z; cases z
  · exact .inl ⟨u, h⟩
  · exact .inr h
/-- what the law's def must promise -/
def pLaw : FN := ar1 fun x S P => ∃ ns : List Int, x = .rol (ns.map D.int) ∧ ns.length ≤ 63 ∧ S = [] ∧ ∀ S', P (.bl true) S'
theorem law_sp {K : KX} {sp : FN} (hs : ∀ ds S P, pLaw ds S P → sp ds S P) (H : Hp) (a : Addr) (ns : List Int) (hl : ns.length ≤ 63) (o : Only H) (h : SqL K.f H a (ns.map V.int)) : spOf K sp [.ref a] H (fun v _ => v = .bl true) fun _ _ _ => False := by
  refine ⟨[], [.rol (ns.map D.int)], [], fun d _ => d = .bl true, ⟨rfl, by intro n m a h; simp at h, by intro n a o h; simp at h⟩, .cons (.rol (rol_of o h) (VRs.of_ints ns)) .nil, hs _ _ _ ⟨ns, rfl, hl, rfl, fun _ => rfl⟩, fun ι' H' v d S' _ _ r e => ?_⟩
  subst e
  cases r
  rfl
end Ab
namespace Ab
open PySem L2
theorem fund_inj {K : PySem.W.Frag} {x qual : Str} {params : Arguments} {body : List Stmt} {scope : Scope} {dvs : List V} {kws : List (Str × V)} {f : Addr} {fd fd' : FuncData} (F : FunD K x qual params body scope dvs kws f fd) (F' : FunD K x qual params body scope dvs kws f fd') : fd = fd' := by
  obtain ⟨_, _, _, _, _, _, _, _, _, _, e1, l1, _⟩ := F.ex
  obtain ⟨_, _, _, _, _, _, _, _, _, _, e2, l2, _⟩ := F'.ex
  have e := l1.symm.trans l2
  injection e with e
  injection e with _ _ e _
  injection e
end Ab

namespace Ab
open PySem L2
/-! ### // by a wide number -/
abbrev divWD : F2 := intD CDivW fun i j => .int (i / j)
theorem divWA {K : KX} : OpA K (rI CDivW fun i j => .int (i / j)) divWD := intA fun _ _ _ _ => .int _
theorem wide_of {j : Int} (h0 : 0 < j) (h : j ≤ 1000000000000) : 0 < j ∧ j.natAbs.log2 < 9000 := by
  refine ⟨h0, ?_⟩
  have h1 : j.natAbs.log2 < 64 := (Nat.log2_lt (by omega)).mpr (by omega)
  omega
/-! ### what stays of a store -/
def Keep (M : Nat → Prop) (S S' : Sto) : Prop := S.length ≤ S'.length ∧ ∀ i, i < S.length → ¬ M i → S'[i]? = S[i]?
def MZ : Nat → Prop := fun _ => False
def MO (n : Nat) : Nat → Prop := fun i => i = n
theorem Keep.refl {M : Nat → Prop} {S : Sto} : Keep M S S := ⟨Nat.le_refl _, fun _ _ _ => rfl⟩
theorem Keep.trans {M : Nat → Prop} {S S1 S2 : Sto} (h : Keep M S S1) (g : Keep M S1 S2) : Keep M S S2 :=
  ⟨Nat.le_trans h.1 g.1, fun i hi hm => (g.2 i (Nat.lt_of_lt_of_le hi h.1) hm).trans (h.2 i hi hm)⟩
theorem Keep.mono {M N : Nat → Prop} {S S1 : Sto} (h : Keep M S S1) (k : ∀ i, M i → N i) : Keep N S S1 := ⟨h.1, fun i hi hm => h.2 i hi fun z => hm (k i z)⟩
theorem Keep.of0 {N : Nat → Prop} {S S1 : Sto} (h : Keep MZ S S1) : Keep N S S1 := h.mono fun _ z => z.elim
theorem Keep.push {M : Nat → Prop} {S : Sto} {o : O} : Keep M S (S ++ [o]) := ⟨by simp, fun i hi _ => List.getElem?_append_left hi⟩
theorem Keep.set {S : Sto} {n : Nat} {o : O} : Keep (MO n) S (S.set n o) := ⟨by simp, fun i hi hm => List.getElem?_set_ne (fun z => hm z.symm)⟩
theorem Keep.at {M : Nat → Prop} {S S' : Sto} (h : Keep M S S') {i : Nat} {o : O} (e : S[i]? = some o) (hm : ¬ M i) : S'[i]? = some o :=
  (h.2 i (List.getElem?_eq_some_iff.mp e).1 hm).trans e
theorem Keep.at0 {S S' : Sto} (h : Keep MZ S S') {i : Nat} {o : O} (e : S[i]? = some o) : S'[i]? = some o := h.at e fun z => z
/-- a set of a new object is no change of the old ones -/
theorem Keep.setNew {M : Nat → Prop} {S S' : Sto} (h : Keep M S S') {n : Nat} (hn : S.length ≤ n) {o : O} : Keep M S (S'.set n o) :=
  ⟨by simpa using h.1, fun i hi hm => (List.getElem?_set_ne (by omega)).trans (h.2 i hi hm)⟩
theorem set_at {S : Sto} {n : Nat} {o u : O} (h : S[n]? = some o) : (S.set n u)[n]? = some u := List.getElem?_set_self (List.getElem?_eq_some_iff.mp h).1
theorem push_at {S : Sto} {o : O} : (S ++ [o])[S.length]? = some o := by simp
theorem at_lt {S : Sto} {n : Nat} {o : O} (h : S[n]? = some o) : n < S.length := (List.getElem?_eq_some_iff.mp h).1
theorem push_old {S : Sto} {n : Nat} {o u : O} (h : S[n]? = some o) : (S ++ [u])[n]? = some o := by rw [List.getElem?_append_left (at_lt h)]; exact h

/-! ### loops -/
theorem for_inv {chk : Sto → Prop} {g : AG} {body : AX} {AD : AEnds} {items : List D} {a : AS} {S : Sto} (I : Nat → AS → Sto → Prop) (h0 : I 0 a S)
    (step : ∀ i d a S (nx : AS → Sto → Prop), items[i]? = some d → I i a S → (∀ a' S', I (i + 1) a' S' → nx a' S') → chk S ∧ g d a S fun a1 S1 => body { AD with nx := nx, ct := nx, bk := AD.nx } a1 S1)
    (fin : ∀ a S, I items.length a S → chk S ∧ AD.nx a S) : aLoop chk g body AD items a S := by
  have gen : ∀ (m i : Nat), items.length - i = m → i ≤ items.length → ∀ a S, I i a S → aLoop chk g body AD (items.drop i) a S := by
    intro m
    induction m with
    | zero =>
      intro i hm hi a S h
      have : i = items.length := by omega
      subst this
      rw [List.drop_length]
      exact fin a S h
    | succ m ih =>
      intro i hm hi a S h
      have hl : i < items.length := by omega
      rw [List.drop_eq_getElem_cons hl]
      exact step i _ a S _ (List.getElem?_eq_getElem hl) h fun a' S' h' => ih (i + 1) (by omega) (by omega) a' S' h'
  simpa using gen _ 0 rfl (Nat.zero_le _) a S h0
theorem lc_inv {chk : Sto → Prop} {g : AG} {t : AT} {x : AE} {a0 : AS} {K : List D → Sto → Prop} {items acc0 : List D} {S : Sto} (I : Nat → List D → Sto → Prop) (h0 : I 0 acc0 S)
    (step : ∀ i d acc S (nx : List D → Sto → Prop), items[i]? = some d → I i acc S → (∀ acc' S', I (i + 1) acc' S' → nx acc' S') → chk S ∧ g d a0 S fun a S1 => t a S1 fun b S2 => iteP b (x a S2 fun y S3 => acc.length < sizeLine ∧ nx (acc ++ [y]) S3) (nx acc S2))
    (fin : ∀ acc S, I items.length acc S → chk S ∧ K acc S) : lcLoop chk g t x a0 K items acc0 S := by
  have gen : ∀ (m i : Nat), items.length - i = m → i ≤ items.length → ∀ acc S, I i acc S → lcLoop chk g t x a0 K (items.drop i) acc S := by
    intro m
    induction m with
    | zero =>
      intro i hm hi a S h
      have : i = items.length := by omega
      subst this
      rw [List.drop_length]
      exact fin a S h
    | succ m ih =>
      intro i hm hi a S h
      have hl : i < items.length := by omega
      rw [List.drop_eq_getElem_cons hl]
      exact step i _ a S _ (List.getElem?_eq_getElem hl) h fun a' S' h' => ih (i + 1) (by omega) (by omega) a' S' h'
  simpa using gen _ 0 rfl (Nat.zero_le _) acc0 S h0
/-- a comprehension over the data of xs: f of each -/
theorem lc_map {α : Type} (xs : List α) (e : α → D) (f : α → D) (V : Sto → Prop) {chk : Sto → Prop} {g : AG} {x : AE} {a0 : AS} {K : List D → Sto → Prop} {items acc0 : List D} {S : Sto} (hi : items = xs.map e) (h0 : V S) (hz : acc0.length + xs.length ≤ sizeLine)
    (step : ∀ y ∈ xs, ∀ S (nx : D → Sto → Prop), V S → (∀ S', V S' → nx (f y) S') → chk S ∧ g (e y) a0 S fun a S1 => x a S1 nx)
    (fin : ∀ S, V S → chk S ∧ K (acc0 ++ xs.map f) S) : lcLoop chk g aYes x a0 K items acc0 S := by
  subst hi
  refine lc_inv (fun i acc S => acc = acc0 ++ (xs.take i).map f ∧ V S) ⟨by simp, h0⟩ (fun i d acc S nx hd h k => ?_) (fun acc S h => ?_)
  · obtain ⟨rfl, hV⟩ := h
    rw [List.getElem?_map] at hd
    cases hx : xs[i]? with
    | none => rw [hx] at hd; cases hd
    | some y =>
      rw [hx] at hd
      cases hd
      have hil : i < xs.length := (List.getElem?_eq_some_iff.mp hx).1
      obtain ⟨c, h⟩ := step y (List.mem_of_getElem? hx) S (fun d S3 => (acc0 ++ (xs.take i).map f).length < sizeLine ∧ nx ((acc0 ++ (xs.take i).map f) ++ [d]) S3) hV (fun S' hV' => ⟨by simp; omega, k _ _ ⟨by rw [List.take_add_one, hx]; simp, hV'⟩⟩)
      refine ⟨c, ?_⟩
      show g (e y) a0 S fun a S1 => iteP true _ _
      have eq : (fun a S1 => iteP true (x a S1 fun y S3 => (acc0 ++ (xs.take i).map f).length < sizeLine ∧ nx ((acc0 ++ (xs.take i).map f) ++ [y]) S3) (nx (acc0 ++ (xs.take i).map f) S1)) = fun a S1 => x a S1 fun y S3 => (acc0 ++ (xs.take i).map f).length < sizeLine ∧ nx ((acc0 ++ (xs.take i).map f) ++ [y]) S3 := by
        funext a S1
        rw [iteP_def, if_pos rfl]
      rw [eq]
      exact h
  · obtain ⟨rfl, hV⟩ := h
    have := fin S hV
    simpa using this
/-- .. of those for which p holds -/
theorem lc_filter {α : Type} (xs : List α) (e : α → D) (p : α → Bool) (f : α → D) (V : Sto → Prop) {chk : Sto → Prop} {g : AG} {t : AT} {x : AE} {a0 : AS} {K : List D → Sto → Prop} {items : List D} {S : Sto} (hi : items = xs.map e) (h0 : V S) (hz : xs.length ≤ sizeLine)
    (step : ∀ y ∈ xs, ∀ S (nx : D → Sto → Prop) (ny : Sto → Prop), V S → (p y = true → ∀ S', V S' → nx (f y) S') → (p y = false → ∀ S', V S' → ny S') → chk S ∧ g (e y) a0 S fun a S1 => t a S1 fun b S2 => iteP b (x a S2 nx) (ny S2))
    (fin : ∀ S, V S → chk S ∧ K ((xs.filter p).map f) S) : lcLoop chk g t x a0 K items [] S := by
  subst hi
  refine lc_inv (fun i acc S => acc = ((xs.take i).filter p).map f ∧ V S) ⟨by simp, h0⟩ (fun i d acc S nx hd h k => ?_) (fun acc S h => ?_)
  · obtain ⟨rfl, hV⟩ := h
    rw [List.getElem?_map] at hd
    cases hx : xs[i]? with
    | none => rw [hx] at hd; cases hd
    | some y =>
      rw [hx] at hd
      cases hd
      have hil : i < xs.length := (List.getElem?_eq_some_iff.mp hx).1
      refine step y (List.mem_of_getElem? hx) S _ _ hV (fun hp S' hV' => ⟨?_, k _ _ ⟨by rw [List.take_add_one, hx]; simp [hp], hV'⟩⟩) (fun hp S' hV' => k _ _ ⟨by rw [List.take_add_one, hx]; simp [hp], hV'⟩)
      have l1 := List.length_filter_le p (xs.take i)
      have l2 := List.length_take_le i xs
      simp
      have l3 : (List.take i xs).length = i := by simp; omega
      omega
  · obtain ⟨rfl, hV⟩ := h
    have := fin S hV
    simpa using this

/-! ### whole numbers in tuples and lists -/
def tI (l : List Int) : D := .tup (l.map .int)
def oI (l : List Int) : O := .lst (l.map .int)
/-- the list or tuple d holds l -/
def Holds (d : D) (S : Sto) (l : List D) : Prop := d = .tup l ∨ ∃ n, d = .obj n ∧ S[n]? = some (.lst l)
theorem Holds.keep {M : Nat → Prop} {d : D} {S S' : Sto} {l : List D} (h : Holds d S l) (k : Keep M S S') (hm : ∀ n, d = .obj n → ¬ M n) : Holds d S' l := by
  rcases h with rfl | ⟨n, rfl, e⟩
  · exact .inl rfl
  · exact .inr ⟨n, rfl, k.at e (hm n rfl)⟩
theorem Holds.keep0 {d : D} {S S' : Sto} {l : List D} (h : Holds d S l) (k : Keep MZ S S') : Holds d S' l := h.keep k fun _ _ z => z
theorem get_holds {d : D} {S : Sto} {l : List D} {i : Int} {x : D} {P : D → Sto → Prop} (h : Holds d S l) (e : atI l i = some x) (k : P x S) : getD d (.int i) S P := by
  rcases h with rfl | ⟨n, rfl, q⟩
  · exact ixP_of e k
  · exact rdO_of q (ixP_of e k)
theorem getN_holds {d : D} {S : Sto} {l : List D} {i : Int} {j : Nat} {x : D} {P : D → Sto → Prop} (h : Holds d S l) (e : l[j]? = some x) (ei : i = (j : Int)) (k : P x S) : getD d (.int i) S P := get_holds h (by rw [ei]; exact atI_nat e) k
theorem len_holds {d : D} {S : Sto} {l : List D} {P : D → Sto → Prop} (h : Holds d S l) (k : P (.int l.length) S) : lenD d S P := by
  rcases h with rfl | ⟨n, rfl, q⟩
  · exact k
  · exact rdO_of q k
theorem all_of {n : Nat} {S : Sto} {bs : List Bool} {P : D → Sto → Prop} (h : S[n]? = some (.lst (bs.map D.bl))) (k : P (.bl (bs.all id)) S) : allD (.obj n) S P := rdO_of h (blsP_of rfl k)
theorem any_of {n : Nat} {S : Sto} {bs : List Bool} {P : D → Sto → Prop} (h : S[n]? = some (.lst (bs.map D.bl))) (k : P (.bl (bs.any id)) S) : anyD (.obj n) S P := rdO_of h (blsP_of rfl k)
/-- all([c(x) for x in xs]) just made -/
theorem all_new {α : Type} {S : Sto} {xs : List α} {c : α → Bool} {P : D → Sto → Prop} (k : P (.bl (xs.all c)) (S ++ [.lst (xs.map fun x => D.bl (c x))])) : allD (.obj S.length) (S ++ [.lst (xs.map fun x => D.bl (c x))]) P := by
  refine all_of (bs := xs.map c) (by rw [List.map_map]; exact push_at) ?_
  rw [List.all_map]
  exact k
theorem any_new {α : Type} {S : Sto} {xs : List α} {c : α → Bool} {P : D → Sto → Prop} (k : P (.bl (xs.any c)) (S ++ [.lst (xs.map fun x => D.bl (c x))])) : anyD (.obj S.length) (S ++ [.lst (xs.map fun x => D.bl (c x))]) P := by
  refine any_of (bs := xs.map c) (by rw [List.map_map]; exact push_at) ?_
  rw [List.any_map]
  exact k
theorem pys_ints {S : Sto} : ∀ l : List Int, Pys S (l.map .int) (l.map PyData.int)
  | [] => .nil
  | i :: l => .cons (.int i) (pys_ints l)
theorem py_tI {S : Sto} (l : List Int) : Py S (tI l) (.tuple (l.map PyData.int)) := .tup (pys_ints l)
theorem small_line {n : Nat} (h : n ≤ 1000000) : n ≤ sizeLine := by rw [sizeLine_eq]; omega
theorem small_line' {n : Nat} (h : n ≤ 1000000) : n < sizeLine := by rw [sizeLine_eq]; omega

/-! ### the law's purse -/
def Pu (S : Sto) (n : Nat) : Prop := ∃ a b c : Int, S[n]? = some (.lst [.int a, .int b, .int c])
theorem Pu.keep {M : Nat → Prop} {S S' : Sto} {n : Nat} (h : Pu S n) (k : Keep M S S') (hm : ¬ M n) : Pu S' n := by
  obtain ⟨a, b, c, e⟩ := h
  exact ⟨a, b, c, k.at e hm⟩
theorem Pu.lt {S : Sto} {n : Nat} (h : Pu S n) : n < S.length := by obtain ⟨a, b, c, e⟩ := h; exact at_lt e
@[irreducible] def p_law_cell : FN := ar2 fun x y S P => ∃ (ns : List Int) (k : Int), x = .rol (ns.map .int) ∧ y = .int k ∧ ns.length ≤ 63 ∧ 0 ≤ k ∧ k < 4294967296 ∧ ∀ r S', Keep MZ S S' → P (.int r) S'
@[irreducible] def p_law_purse : FN := ar1 fun x S P => ∃ c : Int, x = .int c ∧ ∀ n S', S.length ≤ n → Keep MZ S S' → Pu S' n → P (.obj n) S'
@[irreducible] def p_law_pick : FN := ar2 fun x y S P => ∃ (n : Nat) (m : Int), x = .obj n ∧ y = .int m ∧ 0 < m ∧ m ≤ 1000000000000 ∧ Pu S n ∧ ∀ (r : Int) S', 0 ≤ r → r < m → Keep (MO n) S S' → Pu S' n → P (.int r) S'
@[irreducible] def p_law_whole : FN := ar1 fun x S P => ∃ i, x = .int i ∧ P (.bl true) S
theorem cell_of {ns : List Int} {k : Int} {S : Sto} {P : D → Sto → Prop} (hl : ns.length ≤ 63) (h0 : 0 ≤ k) (h1 : k < 4294967296) (q : ∀ r S', Keep MZ S S' → P (.int r) S') : p_law_cell [.rol (ns.map .int), .int k] S P := by
  unfold p_law_cell
  exact ⟨ns, k, rfl, rfl, hl, h0, h1, q⟩
theorem purse_of {c : Int} {S : Sto} {P : D → Sto → Prop} (q : ∀ n S', S.length ≤ n → Keep MZ S S' → Pu S' n → P (.obj n) S') : p_law_purse [.int c] S P := by
  unfold p_law_purse
  exact ⟨c, rfl, q⟩
theorem whole_of {i : Int} {S : Sto} {P : D → Sto → Prop} (q : P (.bl true) S) : p_law_whole [.int i] S P := by
  unfold p_law_whole
  exact ⟨i, rfl, q⟩
theorem pick_of {n : Nat} {m : Int} {S : Sto} {P : D → Sto → Prop} (hm : 0 < m) (hz : m ≤ 1000000000000) (h : Pu S n) (k : ∀ (r : Int) S', 0 ≤ r → r < m → Keep (MO n) S S' → Pu S' n → P (.int r) S') : p_law_pick [.obj n, .int m] S P := by
  unfold p_law_pick
  exact ⟨n, m, rfl, rfl, hm, hz, h, k⟩
end Ab

namespace Ab
open PySem L2
/-! ### typed plain data -/
class En (α : Type) [DecidableEq α] where
  d : α → D
  py : α → PyData
  dep : Nat
  pyr : ∀ S a, Py S (d a) (py a)
  eqv : ∀ a b, PyData.eqv (py a) (py b) = decide (a = b)
  lay : ∀ a, (py a).canLay0 = true
  depth : ∀ a, (py a).depth ≤ dep
abbrev d {α : Type} [DecidableEq α] [En α] (a : α) : D := En.d a
theorem dec_congr {p q : Prop} [Decidable p] [Decidable q] (h : p ↔ q) : decide p = decide q := by
  by_cases hp : p
  · rw [decide_eq_true hp, decide_eq_true (h.mp hp)]
  · rw [decide_eq_false hp, decide_eq_false fun z => hp (h.mpr z)]
instance : En Int where
  d := .int
  py := .int
  dep := 0
  pyr := fun _ i => .int i
  eqv := fun a b => eqv_int
  lay := fun _ => rfl
  depth := fun _ => Nat.le_of_eq (by simp [PyData.depth])
section
variable {α : Type} [DecidableEq α] [En α]
theorem pys_of (S : Sto) : ∀ l : List α, Pys S (l.map d) (l.map En.py)
  | [] => .nil
  | a :: l => .cons (En.pyr S a) (pys_of S l)
theorem eqvAll_of : ∀ l m : List α, PyData.eqvAll (l.map En.py) (m.map En.py) = decide (l = m)
  | [], [] => by simp [PyData.eqvAll]
  | [], _ :: _ => by simp [PyData.eqvAll]
  | _ :: _, [] => by simp [PyData.eqvAll]
  | a :: l, b :: m => by
    simp only [List.map_cons, PyData.eqvAll, En.eqv, eqvAll_of l m]
    rw [← Bool.decide_and]
    exact dec_congr (by simp)
theorem layAll_of : ∀ l : List α, PyData.canLayAll0 (l.map En.py) = true
  | [] => by simp [PyData.canLayAll0]
  | a :: l => by simp [PyData.canLayAll0, En.lay, layAll_of l]
theorem depAll_of : ∀ l : List α, PyData.depthAll (l.map En.py) ≤ En.dep α
  | [] => by simp [PyData.depthAll]
  | a :: l => by
    have h1 := En.depth a
    have h2 := depAll_of l
    simp only [List.map_cons, PyData.depthAll]
    omega
end
instance {α : Type} [DecidableEq α] [En α] : En (List α) where
  d := fun l => .tup (l.map d)
  py := fun l => .tuple (l.map En.py)
  dep := En.dep α + 1
  pyr := fun S l => .tup (pys_of S l)
  eqv := fun l m => by
    show PyData.eqv (.tuple _) (.tuple _) = _
    simp only [PyData.eqv]
    exact eqvAll_of l m
  lay := fun l => by
    show PyData.canLay0 (.tuple _) = true
    simp only [PyData.canLay0]
    exact layAll_of l
  depth := fun l => by
    show PyData.depth (.tuple _) ≤ _
    simp only [PyData.depth]
    have := depAll_of l
    omega
instance {α β : Type} [DecidableEq α] [DecidableEq β] [En α] [En β] : En (α × β) where
  d := fun p => .tup [d p.1, d p.2]
  py := fun p => .tuple [En.py p.1, En.py p.2]
  dep := En.dep α + En.dep β + 1
  pyr := fun S p => .tup (.cons (En.pyr S p.1) (.cons (En.pyr S p.2) .nil))
  eqv := fun p q => by
    show PyData.eqv (.tuple _) (.tuple _) = _
    simp only [PyData.eqv, PyData.eqvAll, En.eqv, Bool.and_true]
    rw [← Bool.decide_and]
    exact dec_congr (by cases p; cases q; simp)
  lay := fun p => by
    show PyData.canLay0 (.tuple _) = true
    simp only [PyData.canLay0, PyData.canLayAll0, En.lay, Bool.and_true]
  depth := fun p => by
    show PyData.depth (.tuple _) ≤ _
    simp only [PyData.depth, PyData.depthAll]
    have h1 := En.depth p.1
    have h2 := En.depth p.2
    omega
/-! ### == and in, from data -/
theorem eqD_of_py {x y : D} {S : Sto} {P : D → Sto → Prop} (h : eqPy false x y S P) : eqD x y S P := by
  cases x with
  | int i =>
    cases y with
    | int j =>
      unfold eqPy at h
      obtain ⟨p, q, h1, h2, _, _, h⟩ := h
      cases h1
      cases h2
      rw [eqv_int] at h
      exact h
    | _ => exact h
  | _ => exact h
theorem neD_of_py {x y : D} {S : Sto} {P : D → Sto → Prop} (h : eqPy true x y S P) : neD x y S P := by
  cases x with
  | int i =>
    cases y with
    | int j =>
      unfold eqPy at h
      obtain ⟨p, q, h1, h2, _, _, h⟩ := h
      cases h1
      cases h2
      rw [eqv_int] at h
      exact h
    | _ => exact h
  | _ => exact h
section
variable {α : Type} [DecidableEq α] [En α]
theorem shaped_of (hd : En.dep α ≤ 60) (a : α) : SeqAt.shaped (En.py a) = true := by
  unfold SeqAt.shaped
  rw [En.lay a, Bool.true_and]
  exact decide_eq_true (Nat.le_trans (En.depth a) (by omega))
theorem shaped_lst (hd : En.dep α ≤ 60) (l : List α) : SeqAt.shaped (.list (l.map En.py)) = true := by
  unfold SeqAt.shaped
  simp only [PyData.canLay0, PyData.depth, layAll_of, Bool.true_and]
  have := depAll_of l
  exact decide_eq_true (by omega)
theorem eq_en {a b : α} {S : Sto} {P : D → Sto → Prop} (k : P (.bl (decide (a = b))) S) (hd : En.dep α ≤ 60 := by decide) : eqD (d a) (d b) S P :=
  eqD_of_py (eqPy_of false (En.pyr S a) (En.pyr S b) (shaped_of hd a) (shaped_of hd b) (by rw [En.eqv]; exact k))
theorem ne_en {a b : α} {S : Sto} {P : D → Sto → Prop} (k : P (.bl (!decide (a = b))) S) (hd : En.dep α ≤ 60 := by decide) : neD (d a) (d b) S P :=
  neD_of_py (eqPy_of true (En.pyr S a) (En.pyr S b) (shaped_of hd a) (shaped_of hd b) (by rw [En.eqv]; exact k))
theorem pyo_of {S : Sto} {n : Nat} {l : List α} (h : S[n]? = some (.lst (l.map d))) : Py S (.obj n) (.list (l.map En.py)) := .obj h (pys_of S l)
theorem eq_lst {n m : Nat} {l k : List α} {S : Sto} {P : D → Sto → Prop} (h1 : S[n]? = some (.lst (l.map d))) (h2 : S[m]? = some (.lst (k.map d))) (q : P (.bl (decide (l = k))) S) (hd : En.dep α ≤ 60 := by decide) : eqD (.obj n) (.obj m) S P :=
  eqD_of_py (eqPy_of false (pyo_of h1) (pyo_of h2) (shaped_lst hd l) (shaped_lst hd k) (by simp only [PyData.eqv, eqvAll_of]; exact q))
theorem ne_lst {n m : Nat} {l k : List α} {S : Sto} {P : D → Sto → Prop} (h1 : S[n]? = some (.lst (l.map d))) (h2 : S[m]? = some (.lst (k.map d))) (q : P (.bl (!decide (l = k))) S) (hd : En.dep α ≤ 60 := by decide) : neD (.obj n) (.obj m) S P :=
  neD_of_py (eqPy_of true (pyo_of h1) (pyo_of h2) (shaped_lst hd l) (shaped_lst hd k) (by simp only [PyData.eqv, eqvAll_of]; exact q))
theorem any_of_mem (a : α) : ∀ l : List α, ((l.map En.py).any fun z => PyData.eqv z (En.py a)) = decide (a ∈ l)
  | [] => by simp
  | b :: l => by
    rw [List.map_cons, List.any_cons, En.eqv, any_of_mem a l, ← Bool.decide_or]
    exact dec_congr (by simp [eq_comm])
theorem inPy_en {neg : Bool} {a : α} {l : List α} {S : Sto} {P : D → Sto → Prop} (k : P (.bl (if neg then !decide (a ∈ l) else decide (a ∈ l))) S) (hd : En.dep α ≤ 60) : inPy neg (d a) (l.map d) S P :=
  inPy_of neg (En.pyr S a) (pys_of S l) (shaped_of hd a) (shaped_lst hd l) (by rw [any_of_mem]; exact k)
theorem in_tup {neg : Bool} {a : α} {l : List α} {S : Sto} {P : D → Sto → Prop} (k : P (.bl (if neg then !decide (a ∈ l) else decide (a ∈ l))) S) (hd : En.dep α ≤ 60 := by decide) : inD neg (d a) (.tup (l.map d)) S P := inPy_en k hd
theorem in_lst {neg : Bool} {a : α} {l : List α} {n : Nat} {S : Sto} {P : D → Sto → Prop} (h : S[n]? = some (.lst (l.map d))) (k : P (.bl (if neg then !decide (a ∈ l) else decide (a ∈ l))) S) (hd : En.dep α ≤ 60 := by decide) : inD neg (d a) (.obj n) S P := rdO_of h (inPy_en k hd)
end
/-! ### letters and clauses -/
def ab (i : Int) : Int := if i < 0 then -i else i
theorem ab_nn (i : Int) : 0 ≤ ab i := by unfold ab; split <;> omega
theorem ab_neg (i : Int) : ab (-i) = ab i := by unfold ab; split <;> split <;> omega
theorem ab_cases (i : Int) : (i = ab i ∧ 0 ≤ i) ∨ (i = -ab i ∧ i < 0) := by unfold ab; split <;> omega
def Lit (s : Int) (l : Int) : Prop := 1 ≤ ab l ∧ ab l ≤ s
theorem Lit.mono {s t l : Int} (h : Lit s l) (k : s ≤ t) : Lit t l := ⟨h.1, by have := h.2; omega⟩
theorem Lit.neg {s l : Int} (h : Lit s l) : Lit s (-l) := by unfold Lit; rw [ab_neg]; exact h
structure Cl (s : Int) (c : List Int) : Prop where
  lit : ∀ l ∈ c, Lit s l
  inc : c.Pairwise fun a b => ab a < ab b
theorem Cl.mono {s t : Int} {c : List Int} (h : Cl s c) (k : s ≤ t) : Cl t c := ⟨fun l hl => (h.lit l hl).mono k, h.inc⟩
theorem Cl.neg {s : Int} {c : List Int} (h : Cl s c) : Cl s (c.map fun l => -l) := by
  refine ⟨fun l hl => ?_, ?_⟩
  · obtain ⟨k, hk, rfl⟩ := List.mem_map.mp hl
    exact (h.lit k hk).neg
  · rw [List.pairwise_map]
    exact h.inc.imp fun {a b} q => by rw [ab_neg, ab_neg]; exact q
theorem Cl.one {s l : Int} (h : Lit s l) : Cl s [l] := ⟨fun k hk => by simp at hk; subst hk; exact h, List.pairwise_singleton _ _⟩
@[irreducible] def p_law_some_clause : FN := ar3 fun x y z S P => ∃ (n : Nat) (s u : Int), x = .obj n ∧ y = .int s ∧ z = .int u ∧ 0 < s ∧ s ≤ 1000 ∧ 0 < u ∧ u ≤ 1000 ∧ Pu S n ∧ ∀ (c : List Int) S', Cl s c → c ≠ [] → c.length ≤ u.toNat → Keep (MO n) S S' → Pu S' n → P (d c) S'
theorem clause_of {n : Nat} {s u : Int} {S : Sto} {P : D → Sto → Prop} (h1 : 0 < s) (h2 : s ≤ 1000) (h3 : 0 < u) (h4 : u ≤ 1000) (h : Pu S n) (k : ∀ (c : List Int) S', Cl s c → c ≠ [] → c.length ≤ u.toNat → Keep (MO n) S S' → Pu S' n → P (d c) S') : p_law_some_clause [.obj n, .int s, .int u] S P := by
  unfold p_law_some_clause
  exact ⟨n, s, u, rfl, rfl, rfl, h1, h2, h3, h4, h, k⟩
end Ab

namespace Ab
open PySem L2
theorem bl_t {P : D → Sto → Prop} {S : Sto} {b : Bool} (h : b = true) (q : P (.bl true) S) : P (.bl b) S := by subst h; exact q
theorem bl_f {P : D → Sto → Prop} {S : Sto} {b : Bool} (h : b = false) (q : P (.bl false) S) : P (.bl b) S := by subst h; exact q
theorem lc2_inv {chk : Sto → Prop} {g g1 : AG} {t t1 : AT} {it1 : AI} {x : AE} {a0 : AS} {vs1 : List Nat} {K : List D → Sto → Prop} {items acc0 : List D} {S : Sto} (I : Nat → List D → Sto → Prop) (h0 : I 0 acc0 S)
    (step : ∀ i d acc S (nx : List D → Sto → Prop), items[i]? = some d → I i acc S → (∀ acc' S', I (i + 1) acc' S' → nx acc' S') → chk S ∧ g d a0 S fun a S1 => t a S1 fun b S2 => iteP b (it1 a S2 fun I1 S3 => lcLoop I1.chk g1 t1 x (wipeA a vs1) nx I1.items acc S3) (nx acc S2))
    (fin : ∀ acc S, I items.length acc S → chk S ∧ K acc S) : lc2Loop chk g t it1 g1 t1 x a0 vs1 K items acc0 S := by
  have gen : ∀ (m i : Nat), items.length - i = m → i ≤ items.length → ∀ acc S, I i acc S → lc2Loop chk g t it1 g1 t1 x a0 vs1 K (items.drop i) acc S := by
    intro m
    induction m with
    | zero =>
      intro i hm hi a S h
      have : i = items.length := by omega
      subst this
      rw [List.drop_length]
      exact fin a S h
    | succ m ih =>
      intro i hm hi a S h
      have hl : i < items.length := by omega
      rw [List.drop_eq_getElem_cons hl]
      exact step i _ a S _ (List.getElem?_eq_getElem hl) h fun a' S' h' => ih (i + 1) (by omega) (by omega) a' S' h'
  simpa using gen _ 0 rfl (Nat.zero_le _) acc0 S h0
theorem map_get {α : Type} {xs : List α} {e : α → D} {i : Nat} {x : D} (h : (xs.map e)[i]? = some x) : ∃ y, xs[i]? = some y ∧ x = e y := by
  rw [List.getElem?_map] at h
  cases hx : xs[i]? with
  | none => rw [hx] at h; cases h
  | some y => rw [hx] at h; cases h; exact ⟨y, rfl, rfl⟩
theorem cut_from1 (l : List D) : cutD l (some 1) none = l.drop 1 := by
  unfold cutD
  rw [show HT.sIx l.length 0 (some 1) = min 1 l.length from HT.sIx_nat l.length 0 1, HT.sIx_none]
  cases l with
  | nil => rfl
  | cons x r =>
    rw [show min 1 (x :: r).length = 1 by
      rw [List.length_cons]
      omega]
    show (List.take ((x :: r).length - 1) r) = r
    rw [List.length_cons, Nat.add_sub_cancel]
    exact List.take_length
theorem cut_upto (l : List D) (k : Nat) : cutD l none (some (k : Int)) = l.take k := by
  unfold cutD
  rw [HT.sIx_none, HT.sIx_nat]
  simp only [Nat.sub_zero, List.drop_zero]
  by_cases h : k ≤ l.length
  · rw [Nat.min_eq_left h]
  · rw [Nat.min_eq_right (by omega), List.take_length, List.take_of_length_le (by omega)]
theorem cut_from (l : List D) (k : Nat) : cutD l (some (k : Int)) none = l.drop k := by
  unfold cutD
  rw [HT.sIx_none, HT.sIx_nat]
  by_cases h : k ≤ l.length
  · rw [Nat.min_eq_left h, List.take_of_length_le (by simp)]
  · rw [Nat.min_eq_right (by omega), List.drop_length, List.drop_of_length_le (by omega)]
    simp
theorem zip_map {α β : Type} (e : α → D) (f : β → D) : ∀ (l : List α) (m : List β), zipItems (l.map e) (m.map f) = (l.zip m).map fun p => .tup [e p.1, f p.2]
  | [], _ => rfl
  | _ :: _, [] => rfl
  | a :: l, b :: m => by simp [zipItems, zip_map e f l m]
theorem en_map {α : Type} (e : α → D) : ∀ (k : Int) (l : List α), enItems k (l.map e) = l.zipIdx.map (fun p => .tup [.int (k + (p.2 : Nat)), e p.1])
  | k, l => by
    apply List.ext_getElem?
    intro i
    cases h : l[i]? with
    | none =>
      rw [List.getElem?_eq_none (by rw [enItems_len]; simpa using h), List.getElem?_eq_none (by simpa using h)]
    | some y =>
      rw [enItems_get k (l.map e) (d := e y) (by rw [List.getElem?_map, h]; rfl)]
      simp [h]
theorem pair_all {α : Type} {R : α → α → Prop} [DecidableRel R] : ∀ {l : List α}, l.Pairwise R → ((l.zip (l.drop 1)).all fun p => decide (R p.1 p.2)) = true
  | [], _ => rfl
  | [_], _ => rfl
  | a :: b :: l, h => by
    have h1 := List.pairwise_cons.mp h
    have ih := pair_all h1.2
    simp only [List.drop_one, List.tail_cons, List.zip_cons_cons, List.all_cons, Bool.and_eq_true] at ih ⊢
    exact ⟨decide_eq_true (h1.1 b (by simp)), by simpa using ih⟩
theorem foldl_max_le {m : Int} : ∀ {ns : List Int} {n : Int}, n ≤ m → (∀ k ∈ ns, k ≤ m) → ns.foldl max n ≤ m
  | [], n, h, _ => h
  | k :: ns, n, h, g => by
    rw [List.foldl_cons]
    exact foldl_max_le (by have := g k (by simp); omega) fun j hj => g j (by simp [hj])
theorem maxI_le {m : Int} {ns : List Int} (hm : 0 ≤ m) (h : ∀ k ∈ ns, k ≤ m) : ∃ r : Int, maxI (.int 0) ns = .int r ∧ r ≤ m := by
  cases ns with
  | nil => exact ⟨0, rfl, hm⟩
  | cons n ns => exact ⟨_, rfl, foldl_max_le (h n (by simp)) fun k hk => h k (by simp [hk])⟩
end Ab

/-! a comprehension's block, whatever it fills: one core for one clause and for two -/
namespace Ab
open PySem L2 PySem.Spec PyProof.Rows
section
variable {prog : Program} {w : World} {A : Around} {R : Result → Shared → Prop} {s : Shared} {ce tg iter : Expr} {ifs : List Expr} {n : Nat} {it acc : Value} {env : Env}
/-- one turn of the n-th clause's loop; b: what the innermost place does -/
def turnOf (ce tg iter : Expr) (ifs : List Expr) (n : Nat) (it acc : Value) (env : Env) (b : Sem Unit) : Sem PySem.Fin := do
  standAt iter.pos
  match ← pyNext it with
  | none => pure (.done .next)
  | some v =>
    letOwnedTupleGo tg it v
    assign tg env v
    let mut ok := true
    for c in ifs do
      if ok then ok ← isTrue c env (eval c env)
    if ok then b
    again (.compLoop ce n it acc env)
/-- the tests, as the turn has them -/
def testsOf (ifs : List Expr) (env : Env) : Sem Bool := forIn ifs true fun c r => if r = true then do let ok ← isTrue c env (eval c env); pure (ForInStep.yield ok) else pure (ForInStep.yield r)
/-- what a block's code is (a list's, a set's, a dict's alike) -/
structure Plain (ce : Expr) : Prop where
  uL : ∀ (A : Around) (n : Nat) (it acc : Value) (env : Env), A.under (.compLoop ce n it acc env) = A
  uS : ∀ (A : Around) (n : Nat) (it acc : Value) (env : Env), A.under (.compStart ce n it acc env) = A
  dL : ∀ (P : Program) (w : World) (n : Nat) (it acc : Value) (env : Env), (model P w).den (.compLoop ce n it acc env) = Sem.onRaise (compTurn ce n it acc env) fun x => do noteFrame x env; theTreesLotGoes x
  dS : ∀ (P : Program) (w : World) (n : Nat) (it acc : Value) (env : Env), (model P w).den (.compStart ce n it acc env) = Sem.onRaise (compStart ce n it acc env) fun x => do noteFrame x env; standAt theWindowsPlace
  qL : ∀ (n : Nat) (it acc : Value) (env : Env), (Code.compLoop ce n it acc env).quiet = true
theorem plain_set {elt : Expr} {gens : List Comprehension} {scope : Scope} {pos : Pos} : Plain (.SetComp elt gens scope pos) := ⟨fun _ _ _ _ _ => rfl, fun _ _ _ _ _ => rfl, fun _ _ _ _ _ _ => rfl, fun _ _ _ _ _ _ => rfl, fun _ _ _ _ => rfl⟩
theorem plain_dict {k v : Expr} {gens : List Comprehension} {scope : Scope} {pos : Pos} : Plain (.DictComp k v gens scope pos) := ⟨fun _ _ _ _ _ => rfl, fun _ _ _ _ _ => rfl, fun _ _ _ _ _ _ => rfl, fun _ _ _ _ _ _ => rfl, fun _ _ _ _ => rfl⟩
abbrev noteE (prog : Program) (w : World) (A : Around) (env : Env) (R : Result → Shared → Prop) : Value → Shared → Prop := notedBy (model prog w) A env fun e s' => R (.error e) s'
theorem cb_loop {b : Sem Unit} (pl : Plain ce) (hT : compTurn ce n it acc env = turnOf ce tg iter ifs n it acc env b) (I : Nat → Shared → Prop)
    (step : ∀ k s, I k s → wpAny (model prog w) A (pyNext it) (fun r s1 => match r with
      | none => R (.ok .next) s1
      | some v => wpAny (model prog w) A (letOwnedTupleGo tg it v) (fun _ s2 => wpAny (model prog w) A (assign tg env v) (fun _ s3 => wpAny (model prog w) A (testsOf ifs env) (fun ok s4 =>
          if ok = true then wpAny (model prog w) A b (fun _ s5 => ∃ m, m < k ∧ I m s5) (noteE prog w A env R) s4 else ∃ m, m < k ∧ I m s4) (noteE prog w A env R) s3) (noteE prog w A env R) s2) (noteE prog w A env R) s1) (noteE prog w A env R) s)
    (k : Nat) (h : I k s) : codeAny (model prog w) A (.compLoop ce n it acc env) R s := by
  refine codeAny_loop (pl.qL _ _ _ _) I (fun k s hI => ?_) k h
  rw [pl.uL, pl.dL, hT]
  refine wpAny_noted ?_
  unfold turnOf
  refine wpAny_bind (wpAny_standAt (wpAny_bind (wpAny_mono (step k s hI) (fun r t1 g1 => ?_) fun _ _ z => z)))
  match r, g1 with
  | none, g1 => exact wpAny_pure g1
  | some v, g1 =>
    refine wpAny_bind (wpAny_mono g1 (fun _ t2 g2 => ?_) fun _ _ z => z)
    refine wpAny_bind (wpAny_mono g2 (fun _ t3 g3 => ?_) fun _ _ z => z)
    refine wpAny_bind (wpAny_mono g3 (fun ok t4 g4 => ?_) fun _ _ z => z)
    match ok, g4 with
    | false, g4 => exact wpAny_pure ⟨rfl, g4⟩
    | true, g4 => exact wpAny_bind (wpAny_mono g4 (fun _ t5 g5 => wpAny_pure ⟨rfl, g5⟩) fun _ _ z => z)
theorem cb_start {ifs' : List Expr} (pl : Plain ce) (hg : (clausesOf ce)[n]? = some ⟨tg, iter, ifs', 0⟩) (h0 : codeAny (model prog w) A (.compLoop ce n it acc env) R s)
    (h : wpAny (model prog w) A (pyIter it) (fun it' t => codeAny (model prog w) A (.compLoop ce n it' acc env) R t) (notedBy (model prog w) A env fun x t => R (.error x) t) s) :
    codeAny (model prog w) A (.compStart ce n it acc env) R s := by
  refine codeAny_of_tree ?_
  rw [pl.uS, pl.dS]
  refine wpAny_notedAt ?_
  unfold compStart
  rw [hg]
  show wpAny _ _ (ask >>= _) _ _ s
  refine wpAny_bind (wpAny_askSetting (wpAny_ite ?_))
  split
  · first
      | exact wpAny_pure (And.intro (pl.qL _ _ _ _) h0)
      | exact wpAny_bind (wpAny_pure (wpAny_pure (And.intro (pl.qL _ _ _ _) h0)))
  · first
      | exact wpAny_bind (wpAny_rule (wpAny_bind (wpAny_standAt (wpAny_bind (wpAny_mono h (fun _ _ g => wpAny_pure ⟨pl.qL _ _ _ _, g⟩) fun _ _ z => z)))))
      | (refine wpAny_bind (wpAny_rule ?_); exact wpAny_bind (wpAny_standAt (wpAny_bind (wpAny_mono h (fun _ _ g => wpAny_pure ⟨pl.qL _ _ _ _, g⟩) fun _ _ z => z))))
end
/-! ### the innermost place, abstractly -/
abbrev TB := L2.St → Hp → (Hp → Prop) → Prop
/-- b, run in the block, ends with the slots of vs forgotten -/
structure PB (X : Cx) (b : Sem Unit) (vs : List Nat) (t : TB) : Prop where
  run : ∀ (pins : List (Addr × Obj)) (s : Shared) (σ : L2.St) (H : Hp) (Q : Hp → Prop), Inv X pins σ H s → t σ H Q → wpAny (model X.prog X.w) X.A b (fun _ s' => ∃ H', Inv X pins (L2.wipe σ vs) H' s' ∧ Q H') X.xe s
/-- one loop over a source, its turns by t -/
def tLoop (J : It) (g : TG) (tt : TT) (tb : TB) (vs : List Nat) (σ : L2.St) (H : Hp) (Q : Hp → Prop) : Prop := ∃ W : Nat → Nat → Hp → Prop, (∃ m, W 0 m H) ∧ ∀ i m H, W i m H →
  (J.stop i H ∧ Q H) ∨ (J.go i H ∧ ∃ Nx : Hp → Prop, (∀ H', Nx H' → ∃ m', m' < m ∧ W (i + 1) m' H') ∧ ∀ x H', J.yld i H x H' → g x (L2.wipe σ vs) H' fun σ2 H2 => L2.wipe σ2 vs = L2.wipe σ vs ∧ tt σ2 H2 fun b H3 => if b = true then tb σ2 H3 Nx else Nx H3)
section
variable {Y : Cx} {tg iter ce : Expr} {ifs : List Expr} {J : It} {fp : List Addr} {itA : Addr} {tn : Nat → Heap → Prop} {g : TG} {tt : TT} {tb : TB} {vs vs1 : List Nat}
/-- a wiped context knows no more -/
theorem wipe_mem_some {σ : L2.St} {us ws : List Nat} (hs : ∀ u ∈ us, u ∈ ws) (j : Nat) (v : V) (e : (L2.wipe σ ws)[j]? = some (some v)) : (L2.wipe σ us)[j]? = some (some v) := by
  obtain ⟨e1, e2⟩ := wipe_some e
  rw [wipe_out fun z => e2 (hs j z)]
  exact e1
theorem run_loop {pins : List (Addr × Obj)} {σ : L2.St} {H : Hp} {s : Shared} {Q : Hp → Prop} {R : Result → Shared → Prop} {n : Nat} {acc : Value} {b : Sem Unit} (pl : Plain ce) (hT : compTurn ce n (.ref itA) acc Y.env = turnOf ce tg iter ifs n (.ref itA) acc Y.env b)
    (T : Turn Y.prog Y.w Y.K tg J fp itA tn) (hc : Y.calm = true) (hx : ∀ v t, ¬ Y.xe v t) (hfp : ∀ {σ' : L2.St} {H' : Hp} {t : Shared}, Inv Y pins σ' H' t → (∀ a ∈ fp, H' a = none) → ∀ a ∈ fp, FpOk Y pins H' a)
    (pg : PG Y tg g) (pt : PTs Y ifs tt) (pb : PB Y b vs1 tb) (hv : ∀ u ∈ vs1, u ∈ vs) (I : Inv Y pins (L2.wipe σ vs) H s) (st : tn 0 s.heap) (n0 : ∀ a ∈ fp, H a = none) (hl : tLoop J g tt tb vs σ H Q)
    (hR : ∀ t H', Inv Y pins (L2.wipe σ vs) H' t → Q H' → R (.ok .next) t) : codeAny (model Y.prog Y.w) Y.A (.compLoop ce n (.ref itA) acc Y.env) R s := by
  have no : ∀ {α : Type} {m : Sem α} {q q' : α → Shared → Prop} {e' : Value → Shared → Prop} {t : Shared}, wpAny (model Y.prog Y.w) Y.A m q Y.xe t → (∀ z t', q z t' → q' z t') → wpAny (model Y.prog Y.w) Y.A m q' e' t :=
    fun h k => wpAny_mono h k fun v t z => (hx v t z).elim
  obtain ⟨W, ⟨m0, w0⟩, turn⟩ := hl
  refine cb_loop pl hT (fun k t => ∃ i H', Inv Y pins (L2.wipe σ vs) H' t ∧ tn i t.heap ∧ (∀ a ∈ fp, H' a = none) ∧ W i k H') ?_ m0 ⟨0, H, I, st, n0, w0⟩
  rintro k t1 ⟨i, Ha, Ia, sa, na, wa⟩
  rcases turn i k Ha wa with ⟨stop, q⟩ | ⟨go, Nx, hNx, stp⟩
  · refine thnF (T.done Y rfl rfl rfl hc i pins t1 _ Ha (fun _ _ => False) Ia (hfp Ia na) sa stop) fun r t2 ⟨er, Ib⟩ => ?_
    subst er
    exact hR t2 Ha Ib q
  · refine thnF (T.item Y rfl rfl rfl hc i pins t1 _ Ha (fun _ _ => False) Ia (hfp Ia na) sa go) fun r t2 ⟨u, er, hb⟩ => ?_
    subst er
    refine thnF hb fun _ t3 ⟨x, Hb, Ib, rx, yx, sb, nb⟩ => ?_
    have Ip := Ib.pinned (hfp Ib nb) (T.obj _ _ sb)
    refine no (pg.run _ t3 _ Hb x u _ Ip rx (stp x Hb yx)) fun _ t4 ⟨σc, Hc, Ic, ew, qc⟩ => ?_
    refine no (pt.run _ t4 σc Hc _ Ic qc) fun ok t5 ⟨Hd, Id, qd⟩ => ?_
    have back : ∀ {us : List Nat} {t : Shared} {H' : Hp}, (∀ u ∈ us, u ∈ vs) → Inv Y (pins ++ pinsAt fp t3.heap) (L2.wipe σc us) H' t → Nx H' → ∃ m, m < k ∧ ∃ i H', Inv Y pins (L2.wipe σ vs) H' t ∧ tn i t.heap ∧ (∀ a ∈ fp, H' a = none) ∧ W i m H' := fun {us t H'} hus I' nx => by
      obtain ⟨m', lt, w'⟩ := hNx H' nx
      have stay : ∀ a ∈ fp, ∀ o, t3.heap.get? a = some o → t.heap.get? a = some o ∧ H' a = none := fun a ha o e =>
        have z := I'.pin (a, o) (List.mem_append_right _ (List.mem_append_right _ (mem_pinsAt ha e)))
        ⟨z.1, z.2.1⟩
      refine ⟨m', lt, i + 1, H', I'.unpinned.weak (by rw [← ew, wipe_length, wipe_length]) (fun j v e => wipe_mem_some hus j v (by rw [ew]; exact e)), T.keep _ _ _ sb fun a ha o e => (stay a ha o e).1, fun a ha => ?_, w'⟩
      obtain ⟨o, e, _⟩ := T.obj _ _ sb a ha
      exact (stay a ha o e).2
    match ok, qd with
    | false, qd => exact back (us := []) (fun _ z => nomatch z) Id qd
    | true, qd =>
      have qd : tb σc Hd Nx := qd
      exact no (pb.run _ t5 σc Hd Nx Id qd) fun _ t6 ⟨He, Ie, qe⟩ => back hv Ie qe
end
/-- a comprehension's reading: ho the new object -/
def tCb (wi : TI) (g : TG) (tt : TT) (ho : Addr → HO) (tb : Addr → TB) (vs : List Nat) : TE := fun σ H Q => wi σ H fun J H1 => ∀ p, H1 p = none → tLoop J g tt (tb p) vs σ (upd H1 p (ho p)) fun H' => Q (.ref p) H'
section
variable {X : Cx} {tg iter ce : Expr} {ifs : List Expr} {gs : List Comprehension} {g : TG} {tt : TT} {scope : Scope} {own : List (Str × Nat)} {wi : TI}
theorem run_block {pins : List (Addr × Obj)} {s : Shared} {σ : L2.St} {H : Hp} {Q : VK} {pos' : Pos} {newA : Sem Value} {ob : Obj} {ho : Addr → HO} {b : Addr → Env → Sem Unit} {tb : Addr → TB} {vs1 : List Nat} {use : Option (Value → Sem Unit)} {Qf : Value → Shared → Prop}
    (pl : Plain ce) (hcl : clausesOf ce = ⟨tg, iter, ifs, 0⟩ :: gs) (hT : ∀ (p q : Addr) (env : Env), compTurn ce 0 (.ref p) (.ref q) env = turnOf ce tg iter ifs 0 (.ref p) (.ref q) env (b q env))
    (hnew : ∀ {A : Around} {E : Value → Shared → Prop} {t : Shared} {q : Value → Shared → Prop}, q (.ref t.heap.objs.size) { t with heap := t.heap.push ob } → wpAny (model X.prog X.w) A newA q E t)
    (hob : ∀ (t : Shared) (H : Hp), Inv X pins σ H t → ObjOk X.prog X.w (upd H t.heap.objs.size (ho t.heap.objs.size)) (t.heap.push ob) t.heap.objs.size (ho t.heap.objs.size))
    (hc : X.calm = true) (hN : X.N.Nodup) (I : Inv X pins σ H s) (hi : PI X tg iter wi) (ok : BlkOk X.N X.env.scope scope own)
    (hg : ∀ (s : Shared) (H : Hp) (C : Addr) (cl : List (Str × Addr)) (fp : List Addr), PG (X.blk s H scope (compEnvC scope cl C X.env) fp) tg g) (ht : ∀ (s : Shared) (H : Hp) (C : Addr) (cl : List (Str × Addr)) (fp : List Addr), PTs (X.blk s H scope (compEnvC scope cl C X.env) fp) ifs tt)
    (hb : ∀ (p : Addr) (s : Shared) (H : Hp) (C : Addr) (cl : List (Str × Addr)) (fp : List Addr), PB (X.blk s H scope (compEnvC scope cl C X.env) fp) (b p (compEnvC scope cl C X.env)) vs1 (tb p)) (hv : ∀ u ∈ vs1, u ∈ own.map (·.2))
    (hs : ∀ x, foldedSetIterable iter X.env x = pure x) (h : tCb wi g tt ho tb (own.map (·.2)) σ H Q)
    (fin : ∀ p C t m H', Inv X pins σ H' t → Q (.ref p) H' → t.heap.Ns C m → FpOk X pins H' C → compPost (model X.prog X.w) X.A X.xe use Qf (.ref p) C (.ok .next) t) :
    wpAny (model X.prog X.w) X.A (comprehension ce scope X.env pos' newA false (eval iter X.env) use) Qf X.xe s := by
  have free : ∀ y ∈ scope.names, y.2 = .free → ∃ c, X.env.cells.lookup y.1 = some c := fun y hy e => (ok.free y hy e).elim (fun z => I.ok.has _ (.inl z)) fun z => I.ok.has _ (.inr z)
  refine wpAny_comprehension_free (use := use) hcl hs (closure_ok free) ok.kind (fun y hy e => (ok.uniq y hy).trans (congrArg some e)) ?_
  refine thn (hi.run pins s σ H _ I h) fun xv s1 g1 => thn g1 fun iv s2 g2 => ?_
  obtain ⟨itA, fp, tn, J, H2, rfl, I2, T, st2, f2, q2⟩ := g2
  refine hnew (newEnv_comp ?_)
  have hp : H2 s2.heap.objs.size = none := I2.hok.fresh (Nat.le_refl _)
  have lp := q2 _ hp
  have I3 := I2.laid (t' := s2.toks) (fun b o e => Heap.get?_push_of_some ob e) (Nat.le_refl _) (hob s2 H2 I2)
  generalize ep : s2.heap.objs.size = p at hp lp I3 ⊢
  have old : ∀ a ∈ fp, a < p := fun a ha => by
    obtain ⟨o, e, _⟩ := T.obj _ _ st2 a ha
    rw [← ep]
    exact Heap.lt_size e
  generalize et : ({ s2 with heap := s2.heap.push ob } : Shared) = s3 at I3 ⊢
  have e3 : s3.heap = s2.heap.push ob := by rw [← et]
  have sz3 : s3.heap.objs.size = p + 1 := by rw [e3, Heap.size_push, ep]
  have f3 : ∀ a ∈ fp, FpOk X pins (upd H2 p (ho p)) a ∧ a < s3.heap.objs.size := fun a ha => by
    have lt := old a ha
    exact ⟨⟨by rw [upd_ne (Nat.ne_of_lt lt)]; exact (f2 a ha).1, (f2 a ha).2⟩, by rw [sz3]; exact Nat.lt_succ_of_lt lt⟩
  have st3 : tn 0 s3.heap := T.keep _ _ _ st2 fun a _ o e => by rw [e3]; exact Heap.get?_push_of_some _ e
  have I4 := block_start I3 ok hN f3
  have n4 : ∀ a ∈ fp, upd H2 p (ho p) a = none := fun a ha => (f3 a ha).1.1
  generalize eC : s3.heap.objs.size = C at I4 ⊢
  generalize ecl : cellsFrom (C + 1) scope.names (cloFrom X.env.cells scope.names []) = cl at I4 ⊢
  generalize eH : upd H2 p (ho p) = H3 at I3 I4 n4 lp f3
  have mg := hg s3 H3 C cl fp
  have mt := ht s3 H3 C cl fp
  have mb := hb p s3 H3 C cl fp
  generalize eh4 : pushCells (s3.heap.push { cls := .type "dict", data := .dict #[] }) scope.names = h4 at I4 ⊢
  have st4 : tn 0 h4 := T.keep _ _ _ st3 fun a _ o e => by rw [← eh4]; exact pushCells_keeps _ _ _ _ (Heap.get?_push_of_some _ e)
  have hfp : ∀ {σ' : L2.St} {H' : Hp} {t : Shared}, Inv (X.blk s3 H3 scope (compEnvC scope cl C X.env) fp) [] σ' H' t → (∀ a ∈ fp, H' a = none) → ∀ a ∈ fp, FpOk (X.blk s3 H3 scope (compEnvC scope cl C X.env) fp) [] H' a := fun {σ' H' t} I' hn a ha =>
    ⟨hn a ha, (I'.ok.exf a ha).1, I'.ok.exfs a ha, .inl ha, fun x c e => (I'.ok.exf a ha).2 x c e, fun z hz => absurd (show z ∈ ([] : List (Addr × Obj)) ++ [] from hz) (by simp)⟩
  have loop : codeAny (model X.prog X.w) X.A (.compLoop ce 0 (.ref itA) (.ref p) (compEnvC scope cl C X.env)) (compPost (model X.prog X.w) X.A X.xe use Qf (.ref p) C) { s3 with heap := h4 } :=
    run_loop (Y := X.blk s3 H3 scope (compEnvC scope cl C X.env) fp) (pins := []) pl (hT itA p _) T hc (fun _ _ z => z) hfp mg mt mb hv I4 st4 n4 lp fun t H' I' q' => by
      have Iback : Inv X pins σ H' t := I3.call' (ch := fp) I'.os I'.base I'.hok I'.bare fun a ha => ⟨(f3 a ha).1.2.2.2.1, (f3 a ha).1.2.1, (f3 a ha).1.2.2.2.2.1, (f3 a ha).1.2.2.2.2.2⟩
      obtain ⟨m, hm, _⟩ := I'.loc
      exact fin p C t m H' Iback q' hm (I3.fpOk (Nat.le_of_eq eC) I'.free)
  refine cb_start pl (by rw [hcl]; rfl) loop (T.self X.A 0 _ _ _ st4 loop)
/-- a comprehension as a value -/
theorem pe_block {pos' : Pos} {newA : Sem Value} {ob : Obj} {ho : Addr → HO} {b : Addr → Env → Sem Unit} {tb : Addr → TB} {vs1 : List Nat}
    (hev : eval ce X.env = comprehension ce scope X.env pos' newA false (eval iter X.env))
    (pl : Plain ce) (hcl : clausesOf ce = ⟨tg, iter, ifs, 0⟩ :: gs) (hT : ∀ (p q : Addr) (env : Env), compTurn ce 0 (.ref p) (.ref q) env = turnOf ce tg iter ifs 0 (.ref p) (.ref q) env (b q env))
    (hnew : ∀ {A : Around} {E : Value → Shared → Prop} {t : Shared} {q : Value → Shared → Prop}, q (.ref t.heap.objs.size) { t with heap := t.heap.push ob } → wpAny (model X.prog X.w) A newA q E t)
    (hob : ∀ {pins : List (Addr × Obj)} {σ : L2.St} (t : Shared) (H : Hp), Inv X pins σ H t → ObjOk X.prog X.w (upd H t.heap.objs.size (ho t.heap.objs.size)) (t.heap.push ob) t.heap.objs.size (ho t.heap.objs.size))
    (hc : X.calm = true) (hN : X.N.Nodup) (hi : PI X tg iter wi) (ok : BlkOk X.N X.env.scope scope own)
    (hg : ∀ (s : Shared) (H : Hp) (C : Addr) (cl : List (Str × Addr)) (fp : List Addr), PG (X.blk s H scope (compEnvC scope cl C X.env) fp) tg g) (ht : ∀ (s : Shared) (H : Hp) (C : Addr) (cl : List (Str × Addr)) (fp : List Addr), PTs (X.blk s H scope (compEnvC scope cl C X.env) fp) ifs tt)
    (hb : ∀ (p : Addr) (s : Shared) (H : Hp) (C : Addr) (cl : List (Str × Addr)) (fp : List Addr), PB (X.blk s H scope (compEnvC scope cl C X.env) fp) (b p (compEnvC scope cl C X.env)) vs1 (tb p)) (hv : ∀ u ∈ vs1, u ∈ own.map (·.2))
    (hs : ∀ x, foldedSetIterable iter X.env x = pure x) : PE X ce (tCb wi g tt ho tb (own.map (·.2))) := by
  refine ⟨fun pins s σ H Q I h => ?_⟩
  rw [hev]
  refine run_block pl hcl hT hnew (fun t H' I' => hob t H' I') hc hN I hi ok hg ht hb hv hs h fun p C t m H' I' q hm f => ⟨m, hm, fun h2 sb => ?_⟩
  obtain ⟨f0, f1, f2, f3, f4, f5⟩ := f
  exact ⟨.ref p, H', I'.turned (t' := t.toks) (fun a o ha e => (sb.2 a ha).trans e) f0 f1 f3 f4 f5, rfl, q⟩
end
end Ab

/-! comprehensions that fill a dict or a set: what they read -/
namespace Ab
open PySem L2 PySem.Spec PyProof.Rows
abbrev Em := AS → Sto → O → (O → Sto → Prop) → Prop
def cbLoop (chk : Sto → Prop) (g : AG) (t : AT) (em : Em) (a0 : AS) (K : O → Sto → Prop) : List D → O → Sto → Prop
  | [], acc, S => chk S ∧ K acc S
  | d :: ds, acc, S => chk S ∧ g d a0 S fun a S1 => t a S1 fun b S2 => iteP b (em a S2 acc (cbLoop chk g t em a0 K ds)) (cbLoop chk g t em a0 K ds acc S2)
def aCb (it : AI) (g : AG) (t : AT) (em : Em) (vs : List Nat) (nil : O) : AE := fun a S P => it a S fun I S1 => cbLoop I.chk g t em (wipeA a vs) (fun acc S2 => P (.obj S2.length) (S2 ++ [acc])) I.items nil S1
def emD (x y : AE) : Em := fun a S acc K => x a S fun k S1 => y a S1 fun v S2 => match acc with
  | .dK kvs => (match keyD k with | some kk => kvs.length < sizeLine ∧ K (.dK (putD kvs kk v)) S2 | none => False)
  | _ => False
def addK (l : List Key) (k : Key) : List Key := if inK k l then l else l ++ [k]
def emS (x : AE) : Em := fun a S acc K => x a S fun k S1 => match acc with
  | .set l => (match keyD k with | some kk => l.length + 1 < scanBound ∧ K (.set (addK l kk)) S1 | none => False)
  | _ => False
def emIn (it : AI) (g : AG) (t : AT) (em : Em) (vs : List Nat) : Em := fun a S acc K => it a S fun I S1 => cbLoop I.chk g t em (wipeA a vs) K I.items acc S1
/-- from one heap to another, p rewritten at will -/
def Go (K : KX) (p : Addr) (ι : List Addr) (H : Hp) (ι' : List Addr) (H' : Hp) : Prop := Ex0 K ι H ι' H' ∧ ∀ ι0 H0, H0 p = none → Ext K ι0 H0 ι H → Ext K ι0 H0 ι' H'
section
variable {K : KX} {p : Addr} {ι ι' ι1 ι2 : List Addr} {H H' H1 H2 : Hp} {S : Sto}
theorem Go.refl : Go K p ι H ι H := ⟨Ext.refl.to0, fun _ _ _ h => h⟩
theorem Go.trans (h : Go K p ι H ι1 H1) (k : Go K p ι1 H1 ι2 H2) : Go K p ι H ι2 H2 := ⟨h.1.trans k.1, fun i0 H0 z e => k.2 i0 H0 z (h.2 i0 H0 z e)⟩
theorem Ext.go (e : Ext K ι H ι' H') : Go K p ι H ι' H' := ⟨e.to0, fun _ _ _ f => f.trans e⟩
theorem Ext.none0 {i0 : List Addr} {H0 : Hp} (e : Ext K i0 H0 ι H) (r : RS K ι H S) (h : H p = none) : H0 p = none := by
  cases q : H0 p with
  | none => rfl
  | some o =>
    by_cases m : p ∈ i0
    · exact absurd (e.mem m) (r.out h)
    · have := e.frame p o m q
      rw [h] at this
      cases this
theorem ItR.mono {J : It} {I : IT} (h : ItR K ι H J I) (e : Ex0 K ι H ι1 H1) : ItR K ι1 H1 J I := fun i2 H2 S2 e2 => h i2 H2 S2 (e.trans e2)
/-- p, hidden, as the heap goes on -/
theorem OR.go {o : O} (h : OR K ι H p o) (hp : p ∉ ι) (e : Ext K ι H ι1 H1) : OR K ι1 H1 p o ∧ p ∉ ι1 := by
  cases q : H p with
  | none => exact absurd q h.live
  | some u =>
    refine ⟨OR.ex0 h e.to0 ((e.frame p u hp q).trans q.symm), fun m => ?_⟩
    have := e.fresh p m hp
    rw [q] at this
    cases this
end
def EmR (K : KX) (B : Bs) (tb : Addr → TB) (em : Em) : Prop := ∀ (p : Addr) (ι : List Addr) (H : Hp) (S : Sto) (a : AS) (σ : L2.St) (acc : O) (Kc : O → Sto → Prop) (Q : Hp → Prop), B.H p = none → Good K B ι σ H a S → p ∉ ι → OR K ι H p acc → em a S acc Kc →
  (∀ ι' H' acc' S', Go K p ι H ι' H' → RS K ι' H' S' → p ∉ ι' → OR K ι' H' p acc' → Kc acc' S' → Q H') → tb p σ H Q
section
variable {K : KX} {B : Bs} {g : TG} {ag : AG} {t : AT} {em : Em} {tb : Addr → TB} {vs : List Nat}
theorem loop_of {J : It} {I : IT} {p : Addr} {ι : List Addr} {σ : L2.St} {H : Hp} {a : AS} {S : Sto} {acc : O} {Kc : O → Sto → Prop} {Q : Hp → Prop} (hJ : ItR K ι H J I) (hB : B.H p = none) (gd : Good K B ι σ H a S) (hT : TgOk K g ag vs) (hE : EmR K B tb em) (hp : p ∉ ι) (ho : OR K ι H p acc)
    (h : cbLoop I.chk ag t em (wipeA a vs) Kc I.items acc S) (fin : ∀ ι' H' acc' S', Go K p ι H ι' H' → RS K ι' H' S' → p ∉ ι' → OR K ι' H' p acc' → Kc acc' S' → Q H') : tLoop J g (tOf K B t) (tb p) vs σ H Q := by
  refine ⟨fun i m H' => m = I.items.length - i ∧ i ≤ I.items.length ∧ ∃ ι' S' acc', Go K p ι H ι' H' ∧ RS K ι' H' S' ∧ p ∉ ι' ∧ OR K ι' H' p acc' ∧ cbLoop I.chk ag t em (wipeA a vs) Kc (I.items.drop i) acc' S',
    ⟨I.items.length, by simp, Nat.zero_le _, ι, S, acc, .refl, gd.rs, hp, ho, by simpa using h⟩, ?_⟩
  rintro i m H2 ⟨rfl, hi, ι2, S2, acc2, g2, r2, p2, o2, h2⟩
  have E2 := g2.2 _ _ hB gd.ext
  by_cases hl : i < I.items.length
  · rw [List.drop_eq_getElem_cons hl] at h2
    obtain ⟨hc, h2⟩ : I.chk S2 ∧ _ := h2
    obtain ⟨go, yl⟩ := (hJ ι2 H2 S2 g2.1 r2 hc).1 i hl
    refine .inr ⟨go, fun H' => ∃ ι' S' acc', Go K p ι H ι' H' ∧ RS K ι' H' S' ∧ p ∉ ι' ∧ OR K ι' H' p acc' ∧ cbLoop I.chk ag t em (wipeA a vs) Kc (I.items.drop (i + 1)) acc' S', fun H' n => ⟨_, by omega, rfl, hl, n⟩, fun y H3 yy => ?_⟩
    obtain ⟨d, hd, e3, r3, v3⟩ := yl y H3 yy
    have ed : I.items[i] = d := Option.some.inj ((List.getElem?_eq_getElem hl).symm.trans hd)
    rw [ed] at h2
    obtain ⟨o3, p3⟩ := o2.go p2 e3
    have s3 : SR K ι2 H3 (L2.wipe σ vs) (wipeA a vs) := ((gd.sr.wipe vs).ex0 g2.1).up e3
    refine hT ι2 H3 S2 y d σ _ _ _ v3 s3 h2 fun σ5 a5 w5 s5 h5 => ⟨w5, ?_⟩
    refine ⟨ι2, a5, S2, _, ⟨E2.trans e3, r3, s5⟩, h5, fun ι6 H6 b S6 e6 r6 h6 => ?_⟩
    obtain ⟨o6, p6⟩ := o3.go p3 e6
    have g6 : Go K p ι H ι6 H6 := (g2.trans e3.go).trans e6.go
    rw [iteP_def] at h6
    cases b with
    | true =>
      rw [if_pos rfl] at h6 ⊢
      exact hE p ι6 H6 S6 a5 σ5 acc2 _ _ hB ⟨(E2.trans e3).trans e6, r6, s5.up e6⟩ p6 o6 h6 fun ι' H' acc' S' g' r' p' o' h' => ⟨ι', S', acc', g6.trans g', r', p', o', h'⟩
    | false =>
      rw [if_neg Bool.false_ne_true] at h6 ⊢
      exact ⟨ι6, S6, acc2, g6, r6, p6, o6, h6⟩
  · have ei : i = I.items.length := by omega
    subst ei
    rw [List.drop_length] at h2
    obtain ⟨hc, h2⟩ : I.chk S2 ∧ Kc acc2 S2 := h2
    exact .inl ⟨(hJ ι2 H2 S2 g2.1 r2 hc).2, fin ι2 H2 acc2 S2 g2 r2 p2 o2 h2⟩
theorem RS.adoptO {ι : List Addr} {H : Hp} {S : Sto} {p : Addr} {o : O} (R : RS K ι H S) (h : OR K ι H p o) (hn : p ∉ ι) : RS K (ι ++ [p]) H (S ++ [o]) := by
  have e : Ex0 K ι H (ι ++ [p]) H := ⟨fun n a h => by rw [List.getElem?_append_left (List.getElem?_eq_some_iff.mp h).1]; exact h, fun _ _ h => h, fun _ _ h => h, fun _ _ _ h => h⟩
  have last : ∀ {n : Nat} {a : Addr}, ¬ n < ι.length → (ι ++ [p])[n]? = some a → n = ι.length ∧ a = p := fun {n a} k h => by
    have l1 := (List.getElem?_eq_some_iff.mp h).1
    have e1 : n = ι.length := by simp at l1; omega
    subst e1
    simp at h
    exact ⟨rfl, h.symm⟩
  refine ⟨by simp [R.len], fun n m a h1 h2 => ?_, fun n a v h1 h2 => ?_⟩
  · by_cases k1 : n < ι.length <;> by_cases k2 : m < ι.length
    · rw [List.getElem?_append_left k1] at h1
      rw [List.getElem?_append_left k2] at h2
      exact R.nd n m a h1 h2
    · rw [List.getElem?_append_left k1] at h1
      obtain ⟨_, rfl⟩ := last k2 h2
      exact absurd (List.mem_of_getElem? h1) hn
    · rw [List.getElem?_append_left k2] at h2
      obtain ⟨_, rfl⟩ := last k1 h1
      exact absurd (List.mem_of_getElem? h2) hn
    · rw [(last k1 h1).1, (last k2 h2).1]
  · by_cases k : n < ι.length
    · rw [List.getElem?_append_left k] at h1
      rw [List.getElem?_append_left (by rw [← R.len]; exact k)] at h2
      exact (R.ob n a v h1 h2).ex0 e rfl
    · obtain ⟨rfl, rfl⟩ := last k h1
      rw [R.len] at h2
      simp at h2
      subst h2
      exact h.ex0 e rfl
theorem cb_of {it : AI} {nil : O} {ho : Addr → HO} {σ : L2.St} {H : Hp} {Q : VK} (hT : TgOk K g ag vs) (hE : EmR K B tb em) (hnil : ∀ (ι : List Addr) (H : Hp) (p : Addr), OR K ι (upd H p (ho p)) p nil) (h : eOf K B (aCb it ag t em vs nil) σ H Q) : tCb (iOf K B it) g (tOf K B t) ho tb vs σ H Q := by
  obtain ⟨ι, a, S, P, gd, h, k⟩ := h
  refine ⟨ι, a, S, _, gd, h, fun ι1 H1 S1 J I e1 r1 J1 h1 => fun p hp => ?_⟩
  have E1 := gd.ext.trans e1
  have p1 := r1.out hp
  have ef : Ext K ι1 H1 ι1 (upd H1 p (ho p)) := ext_fresh hp p1
  refine loop_of (acc := nil) (J1.mono ef.to0) (E1.none0 r1 hp) ⟨E1.trans ef, r1.fresh hp, (gd.sr.up e1).up ef⟩ hT hE p1 (hnil ι1 H1 p) h1 fun ι' H' acc' S' g' r' p' o' h' => ?_
  have e' : Ext K ι1 H1 ι' H' := g'.2 _ _ hp ef
  exact k _ _ _ _ _ (e1.trans (ext_adopt e' hp)) (r'.adoptO o' p') (by rw [← r'.len]; exact VR.new) h'
end
end Ab

namespace Ab
open PySem L2 PySem.Spec PyProof.Rows
/-! ### what is done at the innermost place -/
def putB (kx vx : Expr) (q : Addr) (env : Env) : Sem Unit := do
  let kv ← eval kx env
  let vv ← holding [kv] (eval vx env)
  standAt { kx.pos with endLine := vx.pos.endLine, endCol := vx.pos.endCol }
  holding [kv, vv] (dictSet q kv vv)
def addB (elt : Expr) (q : Addr) (env : Env) : Sem Unit := do
  let v ← eval elt env
  standAt elt.pos
  let _ ← call (.builtin "set.add") [.ref q, v]
def nextB (ce iter : Expr) (q : Addr) (env : Env) : Sem Unit := do
  let x ← eval iter env
  standAt iter.pos
  let x ← foldedSetIterable iter env x
  let _ ← runOwn (.compStart ce 1 (← holding [x] (pyIter x)) (.ref q) env) env
def tPut (tk tv : TE) (p : Addr) : TB := fun σ H Q => tk σ H fun y H1 => tv σ H1 fun z H2 => ∃ kvs k, y = kV k ∧ H2 p = some (.dK kvs) ∧ kvs.length < sizeLine ∧ Q (upd H2 p (.dK (putK kvs k z)))
def tAddS (P : Program) (w : World) (te : TE) (p : Addr) : TB := fun σ H Q => te σ H fun y H1 => ∃ k S n, y = kV k ∧ H1 p = some (SetK P w p S n) ∧ n + 1 < scanBound ∧ Q (upd H1 p (SetK P w p (fun j => S j || decide (j = k)) (if S k = true then n else n + 1)))
def tNext (wi : TI) (g : TG) (tt : TT) (tb : TB) (vs : List Nat) : TB := fun σ H Q => wi σ H fun J H1 => tLoop J g tt tb vs σ H1 Q
section
variable {Y : Cx} {kx vx elt : Expr} {tk tv te : TE} {q : Addr}
theorem pb_put (hk : PE Y kx tk) (hv : PE Y vx tv) : PB Y (putB kx vx q Y.env) [] (tPut tk tv q) := by
  refine ⟨fun pins s σ H Q I h => ?_⟩
  unfold putB
  refine wpAny_bind (thn (hk.run pins s σ H _ I h) fun u s1 ⟨y, H1, I1, r1, q1⟩ => ?_)
  refine wpAny_bind (wpAny_holding (thn (hv.run pins s1 σ H1 _ I1 q1) fun u2 s2 ⟨z, H2, I2, r2, kvs, k, ek, hd, hz, q2⟩ => ?_))
  subst ek
  exact wpAny_bind (wpAny_standAt (wpAny_holding (d_dictSet I2 hd hz r1 r2 fun s3 I3 => ⟨_, I3, q2⟩)))
theorem pb_add (he : PE Y elt te) : PB Y (addB elt q Y.env) [] (tAddS Y.prog Y.w te q) := by
  refine ⟨fun pins s σ H Q I h => ?_⟩
  unfold addB
  refine wpAny_bind (thn (he.run pins s σ H _ I h) fun u s1 ⟨y, H1, I1, r1, k, S, n, ek, hs, hn, q1⟩ => ?_)
  subst ek
  refine wpAny_bind (wpAny_standAt (wpAny_bind ?_))
  refine thn (mt_saddK pins s1 σ H1 (.ref q) [kV k] (.ref q) [u] (fun _ H' => Q H') I1 rfl (.cons r1 .nil) ⟨q, k, S, n, rfl, rfl, hs, hn, q1⟩) fun _ s2 ⟨_, H2, I2, _, q2⟩ => wpAny_pure ⟨H2, I2, q2⟩
theorem pb_next {ce tg iter : Expr} {ifs : List Expr} {b : Sem Unit} {wi : TI} {g : TG} {tt : TT} {tb : TB} {vs vs1 : List Nat} {g0 : Comprehension} (pl : Plain ce) (hcl : clausesOf ce = [g0, ⟨tg, iter, ifs, 0⟩]) (hT : ∀ (p : Addr), compTurn ce 1 (.ref p) (.ref q) Y.env = turnOf ce tg iter ifs 1 (.ref p) (.ref q) Y.env b)
    (hc : Y.calm = true) (hx : ∀ v t, ¬ Y.xe v t) (hi : PI Y tg iter wi) (pg : PG Y tg g) (pt : PTs Y ifs tt) (pb : PB Y b vs1 tb) (hv : ∀ u ∈ vs1, u ∈ vs) (hs : ∀ x, foldedSetIterable iter Y.env x = pure x) : PB Y (nextB ce iter q Y.env) vs (tNext wi g tt tb vs) := by
  refine ⟨fun pins s σ H Q I h => ?_⟩
  unfold nextB
  refine wpAny_bind (thn (hi.run pins s σ H _ I h) fun xv s1 g1 => ?_)
  refine wpAny_bind (wpAny_standAt (wpAny_bind (wpAny_of_eq (hs xv) (wpAny_bind (wpAny_holding (thn g1 fun iv s2 g2 => ?_))))))
  obtain ⟨itA, fp, tn, J, H2, rfl, I2, T, st2, f2, q2⟩ := g2
  refine wpAny_bind (wpAny_runOwn ?_)
  rw [Around.mark_none]
  have loop : codeAny (model Y.prog Y.w) Y.A (.compLoop ce 1 (.ref itA) (.ref q) Y.env) (fun r s' => match r with
      | .ok _ => ∃ H', Inv Y pins (L2.wipe σ vs) H' s' ∧ Q H'
      | .error _ => False) s2 :=
    run_loop (pins := pins) pl (hT itA) T hc hx (fun {σ' H' t} I' hn a ha => ⟨hn a ha, (f2 a ha).2⟩) pg pt pb hv (I2.weak (wipe_length σ vs) fun j v e => (wipe_some e).1) st2 (fun a ha => (f2 a ha).1) q2 fun t H' I' q' => ⟨H', I', q'⟩
  refine codeAny_mono (cb_start pl (by rw [hcl]; rfl) loop (T.self Y.A 0 _ _ _ st2 loop)) fun r s' hr => ?_
  match r, hr with
  | .ok f, hr =>
    first
      | exact wpAny_pure hr
      | exact wpAny_bind (wpAny_pure (wpAny_pure hr))
  | .error e, hr => exact hr.elim
end
/-! ### their readings -/
section
variable {K : KX} {B : Bs} {x y : AE}
theorem putD_rel {ι : List Addr} {H : Hp} {ws : List (Key × V)} {kvs : List (Key × D)} (h : Prs K ι H ws kvs) {v : V} {d : D} (r : VR K ι H v d) (k : Key) : Prs K ι H (putK ws k v) (putD kvs k d) := h.put k r
theorem em_dict : EmR K B (tPut (eOf K B x) (eOf K B y)) (emD x y) := by
  intro p ι H S a σ acc Kc Q hB gd hp ho h fin
  refine ⟨ι, a, S, _, gd, h, fun ι1 H1 v1 k1 S1 e1 r1 rv1 h1 => ?_⟩
  refine ⟨ι1, a, S1, _, gd.go e1 r1, h1, fun ι2 H2 v2 d2 S2 e2 r2 rv2 h2 => ?_⟩
  obtain ⟨o1, p1⟩ := ho.go hp e1
  obtain ⟨o2, p2⟩ := o1.go p1 e2
  cases acc with
  | dK kvs =>
    obtain ⟨ws, q1, q2⟩ := o2
    have q2 : Prs K ι2 H2 ws kvs := q2
    simp only at h2
    split at h2
    · rename_i kk ek
      obtain rfl := keyD_kV rv1 ek
      have hx : Ex0 K ι2 H2 ι2 (upd H2 p (.dK (putK ws kk v2))) := ⟨fun _ _ z => z, fun b xs z => by rw [upd_ne (fun e => by rw [e, q1] at z; cases z)]; exact z, fun b xs z => by
        rcases z with ⟨u, z⟩ | z
        · exact .inl ⟨u, by rw [upd_ne (fun e => by rw [e, q1] at z; cases z)]; exact z⟩
        · exact .inr z, fun b u0 x z => by rw [upd_ne (fun e => by rw [e, q1] at z; cases z; cases x)]; exact z⟩
      have hg : Go K p ι2 H2 ι2 (upd H2 p (.dK (putK ws kk v2))) := ⟨hx, fun i0 H0 z e => ext_hid e z⟩
      refine ⟨ws, kk, rfl, q1, by rw [q2.length]; exact h2.1, fin ι2 _ (.dK (putD kvs kk d2)) S2 ((e1.go.trans e2.go).trans hg) ⟨r2.len, r2.nd, fun n b u z1 z2 => (r2.ob n b u z1 z2).ex0 hx (upd_ne fun e => p2 (e ▸ List.mem_of_getElem? z1))⟩ p2 ?_ h2.2⟩
      have q3 : Prs K ι2 (upd H2 p (.dK (putK ws kk v2))) ws kvs := ⟨q2.1, VRs.ex0 hx _ _ q2.2⟩
      exact ⟨_, upd_same, q3.put kk (VR.ex0 hx _ _ rv2)⟩
    · exact h2.elim
  | _ => exact h2.elim
theorem inK_add (l : List Key) (k j : Key) : inK j (addK l k) = (inK j l || decide (j = k)) := by
  unfold addK
  by_cases h : inK k l = true
  · rw [if_pos h]
    by_cases e : j = k
    · subst e
      rw [h]; rfl
    · rw [decide_eq_false e, Bool.or_false]
  · rw [if_neg h]
    unfold inK
    rw [List.any_append]
    congr 1
    simp only [List.any_cons, List.any_nil, Bool.or_false]
    by_cases e : k = j
    · rw [decide_eq_true e, decide_eq_true e.symm]
    · rw [decide_eq_false e, decide_eq_false fun z => e z.symm]
theorem inK_mem {l : List Key} {k : Key} : inK k l = true ↔ k ∈ l := by
  unfold inK
  rw [List.any_eq_true]
  constructor
  · rintro ⟨j, hj, e⟩
    have : j = k := of_decide_eq_true e
    exact this ▸ hj
  · exact fun h => ⟨k, h, decide_eq_true rfl⟩
theorem addK_nodup {l : List Key} {k : Key} (h : l.Nodup) : (addK l k).Nodup := by
  unfold addK
  split
  · exact h
  · rename_i q
    have hk : k ∉ l := fun z => q (inK_mem.mpr z)
    exact List.nodup_append.mpr ⟨h, by simp, fun a ha b hb => by simp at hb; subst hb; exact fun z => hk (z ▸ ha)⟩
theorem addK_len (l : List Key) (k : Key) : (addK l k).length = if inK k l = true then l.length else l.length + 1 := by
  unfold addK
  split <;> simp
theorem em_set : EmR K B (tAddS K.P K.w (eOf K B x)) (emS x) := by
  intro p ι H S a σ acc Kc Q hB gd hp ho h fin
  refine ⟨ι, a, S, _, gd, h, fun ι1 H1 v1 k1 S1 e1 r1 rv1 h1 => ?_⟩
  obtain ⟨o1, p1⟩ := ho.go hp e1
  cases acc with
  | set l =>
    obtain ⟨q1, q2⟩ := o1
    simp only at h1
    split at h1
    · rename_i kk ek
      obtain rfl := keyD_kV rv1 ek
      refine ⟨kk, _, _, rfl, q1, h1.1, ?_⟩
      have hx : ∀ u : HO, Ex0 K ι1 H1 ι1 (upd H1 p u) := fun u => ⟨fun _ _ z => z, fun b xs z => by rw [upd_ne (fun e => by rw [e, q1] at z; cases z)]; exact z, fun b xs z => by
        rcases z with ⟨u, z⟩ | z
        · exact .inl ⟨u, by rw [upd_ne (fun e => by rw [e, q1] at z; cases z)]; exact z⟩
        · exact .inr z, fun b u0 x z => by rw [upd_ne (fun e => by rw [e, q1] at z; cases z; cases x)]; exact z⟩
      refine fin ι1 _ (.set (addK l kk)) S1 (e1.go.trans ⟨hx _, fun i0 H0 z e => ext_hid e z⟩) ⟨r1.len, r1.nd, fun n b u z1 z2 => (r1.ob n b u z1 z2).ex0 (hx _) (upd_ne fun e => p1 (e ▸ List.mem_of_getElem? z1))⟩ p1 ?_ h1.2
      refine ⟨?_, addK_nodup q2⟩
      rw [upd_same, addK_len]
      congr 2
      funext j
      exact (inK_add l kk j).symm
    · exact h1.elim
  | _ => exact h1.elim
theorem em_next {it : AI} {g : TG} {ag : AG} {t : AT} {em : Em} {tb : Addr → TB} {vs : List Nat} (hT : TgOk K g ag vs) (hE : EmR K B tb em) : EmR K B (fun p => tNext (iOf K B it) g (tOf K B t) (tb p) vs) (emIn it ag t em vs) := by
  intro p ι H S a σ acc Kc Q hB gd hp ho h fin
  refine ⟨ι, a, S, _, gd, h, fun ι1 H1 S1 J I e1 r1 J1 h1 => ?_⟩
  obtain ⟨o1, p1⟩ := ho.go hp e1
  exact loop_of J1 hB (gd.go e1 r1) hT hE p1 o1 h1 fun ι' H' acc' S' g' r' p' o' h' => fin ι' H' acc' S' (e1.go.trans g') r' p' o' h'
end
/-! ### the rules -/
theorem or_dk {K : KX} (ι : List Addr) (H : Hp) (p : Addr) : OR K ι (upd H p (.dK [])) p (.dK []) := ⟨[], upd_same, rfl, .nil⟩
theorem or_set {K : KX} (ι : List Addr) (H : Hp) (p : Addr) : OR K ι (upd H p (SetK K.P K.w p (fun _ => false) 0)) p (.set []) := ⟨upd_same, List.nodup_nil⟩
theorem new_dict {P : Program} {w : World} {A : Around} {E : Value → Shared → Prop} {t : Shared} {q : Value → Shared → Prop} (h : q (.ref t.heap.objs.size) { t with heap := t.heap.push { cls := .type "dict", data := .dict #[] } }) : wpAny (model P w) A newDict q E t := wpAny_newObj_type h
theorem turn_dict2 {tg iter tg1 iter1 ke ve : Expr} {ifs ifs1 : List Expr} {scope : Scope} {pos : Pos} (p q : Addr) (env : Env) : compTurn (.DictComp ke ve [⟨tg, iter, ifs, 0⟩, ⟨tg1, iter1, ifs1, 0⟩] scope pos) 0 (.ref p) (.ref q) env =
    turnOf (.DictComp ke ve [⟨tg, iter, ifs, 0⟩, ⟨tg1, iter1, ifs1, 0⟩] scope pos) tg iter ifs 0 (.ref p) (.ref q) env (nextB (.DictComp ke ve [⟨tg, iter, ifs, 0⟩, ⟨tg1, iter1, ifs1, 0⟩] scope pos) iter1 q env) := by
  unfold turnOf nextB
  refine congrArg (standAt iter.pos >>= ·) (funext fun _ => ?_)
  refine congrArg (pyNext (.ref p) >>= ·) (funext fun r => ?_)
  cases r with
  | none => rfl
  | some v =>
    refine congrArg (letOwnedTupleGo tg (.ref p) v >>= ·) (funext fun _ => ?_)
    refine congrArg (assign tg env v >>= ·) (funext fun _ => ?_)
    refine congrArg (_ >>= ·) (funext fun ok => ?_)
    cases ok with
    | false => rfl
    | true =>
      simp only [if_true, bind_assoc]
      rfl
theorem turn_set2 {tg iter tg1 iter1 elt : Expr} {ifs ifs1 : List Expr} {scope : Scope} {pos : Pos} (p q : Addr) (env : Env) : compTurn (.SetComp elt [⟨tg, iter, ifs, 0⟩, ⟨tg1, iter1, ifs1, 0⟩] scope pos) 0 (.ref p) (.ref q) env =
    turnOf (.SetComp elt [⟨tg, iter, ifs, 0⟩, ⟨tg1, iter1, ifs1, 0⟩] scope pos) tg iter ifs 0 (.ref p) (.ref q) env (nextB (.SetComp elt [⟨tg, iter, ifs, 0⟩, ⟨tg1, iter1, ifs1, 0⟩] scope pos) iter1 q env) := by
  unfold turnOf nextB
  refine congrArg (standAt iter.pos >>= ·) (funext fun _ => ?_)
  refine congrArg (pyNext (.ref p) >>= ·) (funext fun r => ?_)
  cases r with
  | none => rfl
  | some v =>
    refine congrArg (letOwnedTupleGo tg (.ref p) v >>= ·) (funext fun _ => ?_)
    refine congrArg (assign tg env v >>= ·) (funext fun _ => ?_)
    refine congrArg (_ >>= ·) (funext fun ok => ?_)
    cases ok with
    | false => rfl
    | true =>
      simp only [if_true, bind_assoc]
      rfl
section
variable {X : Cx} {B : Bs} {tg iter tg1 iter1 ke ve elt : Expr} {ifs ifs1 : List Expr} {scope : Scope} {own : List (Str × Nat)} {vs1 : List Nat} {pos : Pos} {it it1 : AI} {g g1 : TG} {ag ag1 : AG} {t t1 : AT} {x y : AE}
theorem set_ob {pins : List (Addr × Obj)} {σ : L2.St} (t : Shared) (H : Hp) (I : Inv X pins σ H t) : ObjOk X.prog X.w (upd H t.heap.objs.size (SetK X.prog X.w t.heap.objs.size (fun _ => false) 0)) (t.heap.push { cls := .type "set", dict := none, data := .set #[] 0 (.fresh 0 0 (!X.w.params.followText "set-order")) }) t.heap.objs.size (SetK X.prog X.w t.heap.objs.size (fun _ => false) 0) :=
  setK_new ⟨_, #[], 0, _, Heap.get?_push_size _ rfl, ⟨rfl, rfl, rfl⟩, rfl, (fun e he => by simp at he), (fun k => by simp), (by decide), (by rfl), rfl⟩
theorem a_dc (hN : X.N.Nodup) (hi : PI X tg iter (iOf (kx X) B it)) (ok : BlkOk X.N X.env.scope scope own) (hT : TgOk (kx X) g ag (own.map (·.2)))
    (hg : ∀ (s : Shared) (H : Hp) (C : Addr) (cl : List (Str × Addr)) (fp : List Addr), PG (X.blk s H scope (compEnvC scope cl C X.env) fp) tg g) (ht : ∀ (s : Shared) (H : Hp) (C : Addr) (cl : List (Str × Addr)) (fp : List Addr), PTs (X.blk s H scope (compEnvC scope cl C X.env) fp) ifs (tOf (kx X) B t))
    (hk : ∀ (s : Shared) (H : Hp) (C : Addr) (cl : List (Str × Addr)) (fp : List Addr), PE (X.blk s H scope (compEnvC scope cl C X.env) fp) ke (eOf (kx X) B x))
    (hv : ∀ (s : Shared) (H : Hp) (C : Addr) (cl : List (Str × Addr)) (fp : List Addr), PE (X.blk s H scope (compEnvC scope cl C X.env) fp) ve (eOf (kx X) B y)) (hc : X.calm = true := by rfl) (hs : ∀ x, foldedSetIterable iter X.env x = pure x := by intro _; rfl) :
    PE X (.DictComp ke ve [⟨tg, iter, ifs, 0⟩] scope pos) (eOf (kx X) B (aCb it ag t (emD x y) (own.map (·.2)) (.dK []))) :=
  PE.imp (pe_block (pos' := firstIterPos [⟨tg, iter, ifs, 0⟩] pos) (newA := newDict) (ho := fun _ => .dK []) (b := fun q env => putB ke ve q env) (tb := fun p => tPut (eOf (kx X) B x) (eOf (kx X) B y) p) (vs1 := []) rfl plain_dict rfl (fun _ _ _ => rfl) new_dict (fun t H I => dk_empty t.heap I.big) hc hN hi ok hg ht
    (fun p s H C cl fp => pb_put (hk s H C cl fp) (hv s H C cl fp)) (fun _ z => nomatch z) hs) fun _ _ _ h => cb_of hT em_dict or_dk h
theorem a_dc2 (hN : X.N.Nodup) (hi : PI X tg iter (iOf (kx X) B it)) (ok : BlkOk X.N X.env.scope scope own) (hv1 : ∀ i ∈ vs1, i ∈ own.map (·.2)) (hT : TgOk (kx X) g ag (own.map (·.2))) (hT1 : TgOk (kx X) g1 ag1 vs1)
    (hg : ∀ (s : Shared) (H : Hp) (C : Addr) (cl : List (Str × Addr)) (fp : List Addr), PG (X.blk s H scope (compEnvC scope cl C X.env) fp) tg g) (ht : ∀ (s : Shared) (H : Hp) (C : Addr) (cl : List (Str × Addr)) (fp : List Addr), PTs (X.blk s H scope (compEnvC scope cl C X.env) fp) ifs (tOf (kx X) B t))
    (hi1 : ∀ (s : Shared) (H : Hp) (C : Addr) (cl : List (Str × Addr)) (fp : List Addr), PI (X.blk s H scope (compEnvC scope cl C X.env) fp) tg1 iter1 (iOf (kx X) B it1))
    (hg1 : ∀ (s : Shared) (H : Hp) (C : Addr) (cl : List (Str × Addr)) (fp : List Addr), PG (X.blk s H scope (compEnvC scope cl C X.env) fp) tg1 g1) (ht1 : ∀ (s : Shared) (H : Hp) (C : Addr) (cl : List (Str × Addr)) (fp : List Addr), PTs (X.blk s H scope (compEnvC scope cl C X.env) fp) ifs1 (tOf (kx X) B t1))
    (hk : ∀ (s : Shared) (H : Hp) (C : Addr) (cl : List (Str × Addr)) (fp : List Addr), PE (X.blk s H scope (compEnvC scope cl C X.env) fp) ke (eOf (kx X) B x))
    (hv : ∀ (s : Shared) (H : Hp) (C : Addr) (cl : List (Str × Addr)) (fp : List Addr), PE (X.blk s H scope (compEnvC scope cl C X.env) fp) ve (eOf (kx X) B y)) (hc : X.calm = true := by rfl) (hs : ∀ x, foldedSetIterable iter X.env x = pure x := by intro _; rfl) (hs1 : ∀ env x, foldedSetIterable iter1 env x = pure x := by intro _ _; rfl) :
    PE X (.DictComp ke ve [⟨tg, iter, ifs, 0⟩, ⟨tg1, iter1, ifs1, 0⟩] scope pos) (eOf (kx X) B (aCb it ag t (emIn it1 ag1 t1 (emD x y) vs1) (own.map (·.2)) (.dK []))) :=
  PE.imp (pe_block (pos' := firstIterPos [⟨tg, iter, ifs, 0⟩, ⟨tg1, iter1, ifs1, 0⟩] pos) (newA := newDict) (ho := fun _ => .dK []) (b := fun q env => nextB (.DictComp ke ve [⟨tg, iter, ifs, 0⟩, ⟨tg1, iter1, ifs1, 0⟩] scope pos) iter1 q env)
    (tb := fun p => tNext (iOf (kx X) B it1) g1 (tOf (kx X) B t1) (tPut (eOf (kx X) B x) (eOf (kx X) B y) p) vs1) (vs1 := vs1) rfl plain_dict rfl turn_dict2 new_dict (fun t H I => dk_empty t.heap I.big) hc hN hi ok hg ht
    (fun p s H C cl fp => pb_next (b := putB ke ve p (compEnvC scope cl C X.env)) (vs1 := []) plain_dict rfl (fun _ => rfl) hc (fun _ _ z => z) (hi1 s H C cl fp) (hg1 s H C cl fp) (ht1 s H C cl fp) (pb_put (hk s H C cl fp) (hv s H C cl fp)) (fun _ z => nomatch z) (hs1 _)) hv1 hs) fun _ _ _ h => cb_of hT (em_next hT1 em_dict) or_dk h
theorem a_sc (hN : X.N.Nodup) (hi : PI X tg iter (iOf (kx X) B it)) (ok : BlkOk X.N X.env.scope scope own) (hT : TgOk (kx X) g ag (own.map (·.2)))
    (hg : ∀ (s : Shared) (H : Hp) (C : Addr) (cl : List (Str × Addr)) (fp : List Addr), PG (X.blk s H scope (compEnvC scope cl C X.env) fp) tg g) (ht : ∀ (s : Shared) (H : Hp) (C : Addr) (cl : List (Str × Addr)) (fp : List Addr), PTs (X.blk s H scope (compEnvC scope cl C X.env) fp) ifs (tOf (kx X) B t))
    (he : ∀ (s : Shared) (H : Hp) (C : Addr) (cl : List (Str × Addr)) (fp : List Addr), PE (X.blk s H scope (compEnvC scope cl C X.env) fp) elt (eOf (kx X) B x)) (hc : X.calm = true := by rfl) (hs : ∀ x, foldedSetIterable iter X.env x = pure x := by intro _; rfl) :
    PE X (.SetComp elt [⟨tg, iter, ifs, 0⟩] scope pos) (eOf (kx X) B (aCb it ag t (emS x) (own.map (·.2)) (.set []))) :=
  PE.imp (pe_block (pos' := firstIterPos [⟨tg, iter, ifs, 0⟩] pos) (newA := newSet (.type "set")) (ho := fun p => SetK X.prog X.w p (fun _ => false) 0) (b := fun q env => addB elt q env) (tb := fun p => tAddS X.prog X.w (eOf (kx X) B x) p) (vs1 := []) rfl plain_set rfl (fun _ _ _ => rfl) PpSet.newSet_ok set_ob hc hN hi ok hg ht
    (fun p s H C cl fp => pb_add (he s H C cl fp)) (fun _ z => nomatch z) hs) fun _ _ _ h => cb_of hT (em_set (K := kx X)) or_set h
theorem a_sc2 (hN : X.N.Nodup) (hi : PI X tg iter (iOf (kx X) B it)) (ok : BlkOk X.N X.env.scope scope own) (hv1 : ∀ i ∈ vs1, i ∈ own.map (·.2)) (hT : TgOk (kx X) g ag (own.map (·.2))) (hT1 : TgOk (kx X) g1 ag1 vs1)
    (hg : ∀ (s : Shared) (H : Hp) (C : Addr) (cl : List (Str × Addr)) (fp : List Addr), PG (X.blk s H scope (compEnvC scope cl C X.env) fp) tg g) (ht : ∀ (s : Shared) (H : Hp) (C : Addr) (cl : List (Str × Addr)) (fp : List Addr), PTs (X.blk s H scope (compEnvC scope cl C X.env) fp) ifs (tOf (kx X) B t))
    (hi1 : ∀ (s : Shared) (H : Hp) (C : Addr) (cl : List (Str × Addr)) (fp : List Addr), PI (X.blk s H scope (compEnvC scope cl C X.env) fp) tg1 iter1 (iOf (kx X) B it1))
    (hg1 : ∀ (s : Shared) (H : Hp) (C : Addr) (cl : List (Str × Addr)) (fp : List Addr), PG (X.blk s H scope (compEnvC scope cl C X.env) fp) tg1 g1) (ht1 : ∀ (s : Shared) (H : Hp) (C : Addr) (cl : List (Str × Addr)) (fp : List Addr), PTs (X.blk s H scope (compEnvC scope cl C X.env) fp) ifs1 (tOf (kx X) B t1))
    (he : ∀ (s : Shared) (H : Hp) (C : Addr) (cl : List (Str × Addr)) (fp : List Addr), PE (X.blk s H scope (compEnvC scope cl C X.env) fp) elt (eOf (kx X) B x)) (hc : X.calm = true := by rfl) (hs : ∀ x, foldedSetIterable iter X.env x = pure x := by intro _; rfl) (hs1 : ∀ env x, foldedSetIterable iter1 env x = pure x := by intro _ _; rfl) :
    PE X (.SetComp elt [⟨tg, iter, ifs, 0⟩, ⟨tg1, iter1, ifs1, 0⟩] scope pos) (eOf (kx X) B (aCb it ag t (emIn it1 ag1 t1 (emS x) vs1) (own.map (·.2)) (.set []))) :=
  PE.imp (pe_block (pos' := firstIterPos [⟨tg, iter, ifs, 0⟩, ⟨tg1, iter1, ifs1, 0⟩] pos) (newA := newSet (.type "set")) (ho := fun p => SetK X.prog X.w p (fun _ => false) 0) (b := fun q env => nextB (.SetComp elt [⟨tg, iter, ifs, 0⟩, ⟨tg1, iter1, ifs1, 0⟩] scope pos) iter1 q env)
    (tb := fun p => tNext (iOf (kx X) B it1) g1 (tOf (kx X) B t1) (tAddS X.prog X.w (eOf (kx X) B x) p) vs1) (vs1 := vs1) rfl plain_set rfl turn_set2 PpSet.newSet_ok set_ob hc hN hi ok hg ht
    (fun p s H C cl fp => pb_next (b := addB elt p (compEnvC scope cl C X.env)) (vs1 := []) plain_set rfl (fun _ => rfl) hc (fun _ _ z => z) (hi1 s H C cl fp) (hg1 s H C cl fp) (ht1 s H C cl fp) (pb_add (he s H C cl fp)) (fun _ z => nomatch z) (hs1 _)) hv1 hs) fun _ _ _ h => cb_of hT (em_next hT1 (em_set (K := kx X))) or_set h
end
end Ab

/-! sorted(x), sorted(x, key=abs): of lists, tuples, dicts -/
namespace Ab
open PySem L2 PySem.Spec PyProof.Rows PySem.W
/-! ### what can be gone through -/
def keyOfK : Key → D
  | .inl i => .int i
  | .inr s => .str s
def collP (x : D) (S : Sto) (k : List D → Prop) : Prop := match x with
  | .tup l => k l
  | .ktp l => k l
  | .rol l => k l
  | .obj n => rdO S n fun o => match o with
    | .lst l => k l
    | .dK kvs => k (kvs.map fun p => keyOfK p.1)
    | _ => False
  | _ => False
def CollV (K : PySem.W.Frag) (x : V) (H : Hp) (vs : List V) : Prop := ∃ a, x = .ref a ∧ (SqL K H a vs ∨ SqT K H a vs ∨ ∃ kvs : List (Key × V), H a = some (.dK kvs) ∧ vs = kvs.map fun p => kV p.1)
theorem keyOfK_rel {K : KX} {ι : List Addr} {H : Hp} (k : Key) : VR K ι H (kV k) (keyOfK k) := by
  cases k with
  | inl i => exact .int i
  | inr s => exact .str s
theorem collP_out {K : KX} {ι : List Addr} {H : Hp} {S : Sto} {v : V} {d : D} {k : List D → Prop} (R : RS K ι H S) (r : VR K ι H v d) (h : collP d S k) : ∃ vs ds, CollV K.f v H vs ∧ VRs K ι H vs ds ∧ k ds := by
  cases r with
  | tup h1 h2 => exact ⟨_, _, ⟨_, rfl, .inr (.inl (.of h1))⟩, h2, h⟩
  | ktp h1 h2 => exact ⟨_, _, ⟨_, rfl, .inr (.inl h1.sq)⟩, h2, h⟩
  | rol h1 h2 => exact ⟨_, _, ⟨_, rfl, .inl h1.sq⟩, h2, h⟩
  | obj e =>
    obtain ⟨o, q, h⟩ := rdO_out h
    have ho := R.ob _ _ _ e q
    cases o with
    | lst l =>
      obtain ⟨vs, q1, q2⟩ := ho
      exact ⟨vs, l, ⟨_, rfl, .inl (.of q1)⟩, q2, h⟩
    | dK kvs =>
      obtain ⟨ws, q1, q2, q3⟩ := ho
      refine ⟨_, _, ⟨_, rfl, .inr (.inr ⟨ws, q1, rfl⟩)⟩, ?_, h⟩
      clear h q1 q3 q e R
      induction ws generalizing kvs with
      | nil =>
        cases kvs with
        | nil => exact .nil
        | cons _ _ => simp at q2
      | cons w ws ih =>
        cases kvs with
        | nil => simp at q2
        | cons p kvs =>
          simp only [List.map_cons, List.cons.injEq] at q2 ⊢
          rw [q2.1]
          exact .cons (keyOfK_rel p.1) (ih kvs q2.2)
    | _ => exact h.elim
  | _ => exact h.elim
section
variable {X : Cx} {pins : List (Addr × Obj)} {σ : L2.St} {H : Hp} {s : Shared} {A : Around} {E : Value → Shared → Prop}
/-- collect, of any of these -/
theorem coll_run {x : V} {v : Value} {vs : List V} {R : List Value → Shared → Prop} (I : Inv X pins σ H s) (hh : A.handled = none) (rx : RelV x v) (h : CollV X.K x H vs) (q : ∀ (us : List Value) (h' : Heap) (tk : Nat), Vals vs us → us.length ≤ sizeLine → (∀ b o, s.heap.get? b = some o → h'.get? b = some o) → R us { s with heap := h', toks := tk }) :
    wpAny (model X.prog X.w) A (collect v) R E s := by
  obtain ⟨a, rfl, h⟩ := h
  cases rx
  rcases h with h | h | ⟨kvs, hd, rfl⟩
  · obtain ⟨its, rv, pl, hz⟩ := I.list h
    obtain ⟨o, ho, hc, n, hdat⟩ := id pl.isList
    have hz' : its.length ≤ sizeLine := by rw [← rv.length]; exact hz
    exact wpAny_collect_seq a (.inl rfl) ho hc hdat (fun h' k => by simpa using q its h' s.toks rv hz' k) (by simpa using hz')
  · obtain ⟨its, rv, pl, hz⟩ := I.tuple h
    have pt : s.heap.IsTuple a its.toArray := pl
    obtain ⟨o, ho, hc, n, hdat⟩ := id pt
    have hz' : its.length ≤ sizeLine := by rw [← rv.length]; exact hz
    exact wpAny_collect_seq a (.inr rfl) ho hc hdat (fun h' k => by simpa using q its h' s.toks rv hz' k) (by simpa using hz')
  · obtain ⟨z, hS, ws, rel, m⟩ := dk_of I.hok hd
    obtain ⟨es, ep, raw, hsz, hkv⟩ := Heap.DictOf.raw m
    have hlen : ws.length = kvs.length := rel.length.symm
    refine kdu_collect (KdlSrc.rawDict hS) hh raw (by rw [hsz, hlen]; exact z) fun h' tk acc kp hacc => ?_
    have hl : acc.toList.length = kvs.length := by rw [Array.length_toList, hacc.1, hsz, hlen]
    refine q acc.toList h' tk ?_ (by rw [hl]; exact z) kp
    have hks : ws.map (·.1) = kvs.map (·.1) := (KV.keys rel).symm
    have gen : ∀ (us : List Value) (ks : List Key), us.length = ks.length → (∀ (i : Nat) (u : Value) (k : Key), us[i]? = some u → ks[i]? = some k → RelV (kV k) u) → Vals (ks.map kV) us := by
      intro us
      induction us with
      | nil =>
        intro ks hl _
        cases ks with
        | nil => exact .nil
        | cons _ _ => simp at hl
      | cons u us ih =>
        intro ks hl hg
        cases ks with
        | nil => simp at hl
        | cons k ks => exact .cons (hg 0 u k rfl rfl) (ih ks (by simpa using hl) fun i u k e1 e2 => hg (i + 1) u k (by simpa using e1) (by simpa using e2))
    have e0 : (kvs.map fun p => kV p.1) = (kvs.map (·.1)).map kV := by rw [List.map_map]; rfl
    rw [e0]
    refine gen _ _ (by simpa using hl) fun i u k e1 e2 => ?_
    obtain ⟨hi, eu⟩ := hacc.2 i u (by rw [← Array.getElem?_toList]; exact e1)
    have hi2 : i < ws.length := by rw [← hsz]; exact hi
    have e3 : (ws.map (·.1))[i]? = some k := by rw [hks]; exact e2
    rw [List.getElem?_map, List.getElem?_eq_getElem hi2] at e3
    have e4 : ws[i].1 = k := by simpa using e3
    have := (hkv i hi k ws[i].2 (by rw [List.getElem?_eq_getElem hi2, ← e4])).1
    rw [eu]
    exact keyIs_rel this
end
/-! ### the sort -/
mutual
theorem reads_live {h : Heap} : ∀ (d : PyData) (v : Value) (as : List Addr), d.canLay0 = true → Reads h v d as → ∀ b ∈ as, b < h.objs.size
  | .none, _, _, _, r => by cases r; simp
  | .bool _, _, _, _, r => by cases r; simp
  | .int _, _, _, _, r => by cases r; simp
  | .str _, _, _, _, r => by cases r; simp
  | .list xs, _, _, hc, r => by
    cases r with
    | list h1 h2 h3 h4 =>
      intro b hb
      rcases List.mem_cons.mp hb with e | hb
      · rw [e]; exact Heap.lt_size h1
      · exact readsAll_live xs _ _ (by simpa [PyData.canLay0] using hc) h4 b hb
  | .tuple xs, _, _, hc, r => by
    cases r with
    | tuple h1 h2 h3 h4 => exact readsAll_live xs _ _ (by simpa [PyData.canLay0] using hc) h4
  | .dict _, _, _, hc, _ => absurd hc (by simp [PyData.canLay0])
theorem readsAll_live {h : Heap} : ∀ (ds : List PyData) (vs : List Value) (as : List Addr), PyData.canLayAll0 ds = true → ReadsAll h vs ds as → ∀ b ∈ as, b < h.objs.size
  | [], _, _, _, r => by cases r; simp
  | d :: ds, _, _, hc, r => by
    cases r with
    | cons h1 h2 =>
      have hc : d.canLay0 = true ∧ PyData.canLayAll0 ds = true := by simpa [PyData.canLayAll0] using hc
      intro b hb
      rcases List.mem_append.mp hb with hb | hb
      · exact reads_live d _ _ hc.1 h1 b hb
      · exact readsAll_live ds _ _ hc.2 h2 b hb
end
/-- as Sortable, or one empty tuple alone -/
def Sort1 (ds : List PyData) : Prop := PySem.W.Sortable ds ∨ ds = [.tuple []]
theorem sortsAt1 {prog : Program} {w : World} {A : Around} {s : Shared} {vs : List Value} {ds : List PyData} (e : EachIs (fun v d => ∃ as, Reads s.heap v d as) vs ds) (hal : AllAlike ds) (hk : Sort1 ds) (hu : ∀ d, d ∈ ds → A.units + d.depth < cLine) : SortsAt prog w A s (dataKind s.heap ds) vs := by
  rcases hk with hk | rfl
  · exact SortsAt.data e hal hk hu
  · refine ⟨fun v hv => ?_, tuples' false, fun E x y a b Q ha hb hq => ?_, fun h2 => ?_⟩
    · obtain ⟨d, hd, as, r⟩ := e.left v hv
      exact ⟨_, dataKind_some hal hd r⟩
    · obtain ⟨d, as, hd, ra, rfl⟩ := dataKind_inv ha
      obtain ⟨d', as', hd', rb, rfl⟩ := dataKind_inv hb
      rw [List.mem_singleton] at hd hd'
      subst hd hd'
      have hq' : Q (dataLt (.tuple []) (.tuple [])) s := hq
      rw [dataLt_tuple] at hq'
      have hu0 := hu (.tuple []) (by simp)
      cases ra with
      | @tuple l o xs n _ _ h1 h2 h3 h4 =>
        cases rb with
        | @tuple l' o' xs' n' _ _ k1 k2 k3 k4 =>
          have n1 : xs.size = 0 := by simpa using SeqAt.ReadsAll.length _ _ _ h4
          have n2 : xs'.size = 0 := by simpa using SeqAt.ReadsAll.length _ _ _ k4
          exact kat_lt h1 h3 k1 k3 (katLex_alike [] [] 0 _ _ _ _ h4 k4 rfl (by simp [PyData.depthAll, PyData.depth] at hu0 ⊢; omega) (fun z => nomatch z) (by rw [n1, n2]; rfl) hq')
    · have := e.length
      simp at this
      omega
theorem list_sort_data1 {β : Type} {R : Value → β → Prop} {enc : β → PyData} {prog : Program} {w : World} {A : Around} {E : Value → Shared → Prop} {s : Shared} {vs : List Value} {bs : List β} {a : Addr} {n : Nat} {Q : Value → Shared → Prop} (ho : s.heap.get? a = some (seqObj "list" vs.toArray n)) (e : EachIs R vs bs) (er : EachIs (fun v b => ∃ as, Reads s.heap v (enc b) as ∧ a ∉ as) vs bs) (hal : AllAlike (bs.map enc)) (hk : Sort1 (bs.map enc)) (hL : bs.length ≤ sizeLine)
    (hu : ∀ b, b ∈ bs → A.units + 1 + (enc b).depth < cLine) (h : ∀ out, out.length = bs.length → EachIs R out (bs.mergeSort (dataLe false enc)) → Q .none { s with heap := sortedHeap s.heap a vs (List.toArray out) }) :
    wpAny (model prog w) A (call (.builtin "list.sort") [.ref a]) Q E s := by
  have er' : EachIs (fun v b => ∃ as, Reads (sortingHeap s.heap a vs) v (enc b) as) vs bs := each_keepBut (h' := sortingHeap s.heap a vs) (fun _ _ hb q => sortingHeap_old hb q) (fun o q => by rw [ho] at q; rw [← Option.some.inj q]) hal er
  refine wpAny_call_entry slot_list_sort ⟨_, ho, rfl⟩ entry_list_sort (list_sort_vals (κ := dataKind (sortingHeap s.heap a vs) (bs.map enc)) ho (sortsAt1 (s := { s with heap := sortingHeap s.heap a vs }) (each_map (R := fun v d => ∃ as, Reads (sortingHeap s.heap a vs) v d as) enc er') hal hk (bound_map hu)) (by rw [e.length]; exact hL) ⟨.none, rfl, ?_⟩) (args_list_sort _)
  exact h _ (by rw [sortVals_length false rfl]; exact e.length) (sortVals_data false e er' hal)
/-- sorted(x, ..): what is collected is laid in a new list, and that is sorted -/
theorem sorted_from {prog : Program} {w : World} {A : Around} {E : Value → Shared → Prop} {s : Shared} {v : Value} {kw : List (Str × Value)} {Q : Value → Shared → Prop} {Pv : List Value → Prop} (ha : argsOk "sorted" ⟨[v], kw⟩)
    (col : ∀ {R : List Value → Shared → Prop} {E' : Value → Shared → Prop}, (∀ (us : List Value) (h' : Heap) (tk : Nat), Pv us → us.length ≤ sizeLine → (∀ b o, s.heap.get? b = some o → h'.get? b = some o) → R us { s with heap := h', toks := tk }) → wpAny (model prog w) A.in1 (collect v) R E' s)
    (sort : ∀ (us : List Value) (h' : Heap) (tk : Nat), Pv us → us.length ≤ sizeLine → (∀ b o, s.heap.get? b = some o → h'.get? b = some o) → wpAny (model prog w) A.in1 (call (.builtin "list.sort") [.ref h'.objs.size] kw) (fun _ s' => Q (.ref h'.objs.size) s') E { s with heap := h'.push (seqObj "list" us.toArray 0), toks := tk }) :
    wpAny (model prog w) A (call (.builtin "sorted") [v] kw) Q E s := by
  refine call_function_entry_kw kind_sorted plain_sorted entry_sorted ha ?_
  unfold Builtin.«sorted»
  refine wpAny_bind (m := checkCount "sorted" 1 1 _) (wpAny_pure ?_)
  refine wpAny_bind (col fun us h' tk pv hz kp => ?_)
  refine wpAny_bind (wpAny_newList ?_ hz)
  refine wpAny_bind (wpAny_holding (wpAny_mono (sort us h' tk pv hz kp) (fun _ s' x => ?_) fun _ _ e => e))
  exact wpAny_pure ⟨_, rfl, x⟩
/-- the values, item by item, with what they stand for -/
theorem each_zip {α β : Type} {R : Value → α × β → Prop} : ∀ {us : List Value} {xs : List α} {ys : List β}, us.length = xs.length → xs.length = ys.length → (∀ (i : Nat) (u : Value) (x : α) (y : β), us[i]? = some u → xs[i]? = some x → ys[i]? = some y → R u (x, y)) → EachIs R us (xs.zip ys)
  | [], [], [], _, _, _ => .nil
  | u :: us, x :: xs, y :: ys, h1, h2, h => .cons (h 0 u x y rfl rfl rfl) (each_zip (by simpa using h1) (by simpa using h2) fun i u x y e1 e2 e3 => h (i + 1) u x y (by simpa using e1) (by simpa using e2) (by simpa using e3))
  | [], _ :: _, _, h, _, _ => by simp at h
  | _ :: _, [], _, h, _, _ => by simp at h
  | _, [], _ :: _, _, h, _ => by simp at h
  | _, _ :: _, [], _, h, _ => by simp at h
theorem each_vals {β : Type} {g : β → V} : ∀ {us : List Value} {bs : List β}, EachIs (fun u b => RelV (g b) u) us bs → Vals (bs.map g) us
  | _, _, .nil => .nil
  | _, _, .cons h t => .cons h (each_vals t)
theorem zip_snd {α β : Type} : ∀ {xs : List α} {ys : List β}, xs.length = ys.length → (xs.zip ys).map (·.2) = ys
  | [], [], _ => rfl
  | _ :: _, _ :: _, h => by simp [zip_snd (by simpa using h)]
  | [], _ :: _, h => by simp at h
  | _ :: _, [], h => by simp at h
theorem sort_snd {α β : Type} {le : β → β → Bool} {xs : List α} {ys : List β} (h : xs.length = ys.length) : ((xs.zip ys).mergeSort fun p q => le p.2 q.2).map (·.2) = ys.mergeSort le := by
  have := List.map_mergeSort (f := fun p : α × β => p.2) (r := fun p q => le p.2 q.2) (s := le) (l := xs.zip ys) (fun a _ b _ => rfl)
  rw [this, zip_snd h]
@[irreducible] def srt (l : List D) (k : List D → Prop) : Prop := ∃ (α : Type) (_ : DecidableEq α) (_ : En α) (xs : List α), l = List.map (fun a : α => En.d a) xs ∧ AllAlike (List.map (fun a : α => En.py a) xs) ∧ Sort1 (List.map (fun a : α => En.py a) xs) ∧ En.dep α ≤ 50 ∧ k (List.map (fun a : α => En.d a) (List.mergeSort xs (dataLe false fun a : α => En.py a)))
@[irreducible] def srtA (l : List D) (k : List D → Prop) : Prop := ∃ xs : List Int, l = xs.map D.int ∧ k ((xs.mergeSort fun a b => decide (ab a ≤ ab b)).map D.int)
theorem srt_en {α : Type} [DecidableEq α] [En α] {xs : List α} {k : List D → Prop} (h1 : AllAlike (xs.map En.py)) (h2 : Sortable (xs.map En.py)) (q : k ((xs.mergeSort (dataLe false En.py)).map d)) (hd : En.dep α ≤ 50 := by decide) : srt (xs.map d) k := by
  unfold srt
  exact ⟨α, _, _, xs, rfl, h1, .inl h2, hd, q⟩
/-- one empty tuple -/
theorem srt_unit {k : List D → Prop} (q : k [d ([] : List Int)]) : srt [d ([] : List Int)] k := by
  unfold srt
  refine ⟨List Int, _, _, [[]], rfl, ?_, .inr rfl, by decide, ?_⟩
  · intro x hx y hy
    simp at hx hy
    subst hx hy
    rfl
  · rw [List.mergeSort_singleton]
    exact q
theorem srt_ints {ns : List Int} {k : List D → Prop} (q : k ((sortI ns).map D.int)) : srt (ns.map D.int) k := by
  refine srt_en (α := Int) (fun x hx y hy => ?_) (.inr fun x hx => ?_) ?_
  · obtain ⟨i, _, rfl⟩ := List.mem_map.mp hx
    obtain ⟨j, _, rfl⟩ := List.mem_map.mp hy
    rfl
  · obtain ⟨i, _, rfl⟩ := List.mem_map.mp hx
    exact ⟨(fun z => nomatch z), (fun _ z => nomatch z)⟩
  · have e : dataLe false (En.py (α := Int)) = fun a b => decide (a ≤ b) := dataLe_int (fun i : Int => i)
    rw [e]
    exact q
theorem srtA_of {ns : List Int} {k : List D → Prop} (q : k ((ns.mergeSort fun a b => decide (ab a ≤ ab b)).map D.int)) : srtA (ns.map D.int) k := by
  unfold srtA
  exact ⟨ns, rfl, q⟩
def sortD : F1 := fun x S P => collP x S fun l => srt l fun m => P (.obj S.length) (S ++ [.lst m])
def sortAD : F1 := fun x S P => collP x S fun l => srtA l fun m => P (.obj S.length) (S ++ [.lst m])
def rSort (K : KX) : List V → Hp → VK → Prop := fun xs H Q => ∃ ι S d P x, xs = [x] ∧ RS K ι H S ∧ VR K ι H x d ∧ sortD d S P ∧ ∀ ι' H' v d S', Ext K ι H ι' H' → RS K ι' H' S' → VR K ι' H' v d → P d S' → Q v H'
theorem sortA' {K : KX} : CallA K (rSort K) (ar1 sortD) := callA1 fun ι H S x d P Q R rx h k => ⟨ι, S, d, P, x, rfl, R, rx, h, k⟩
section
variable {X : Cx} {k : Nat}
theorem vr_reads {pins : List (Addr × Obj)} {σ : L2.St} {H : Hp} {s : Shared} {ι : List Addr} {S : Sto} {α : Type} [DecidableEq α] [En α] (I : Inv X pins σ H s) (R : RS (kx X) ι H S) {a : α} {v : V} {u : Value} (r : VR (kx X) ι H v (d a)) (ru : RelV v u) : ∃ as, Reads s.heap u (En.py a) as :=
  Dp.reads I (En.py a) v u (Py.dp R _ _ _ (En.pyr S a) r) ru
theorem c_sort (hr : Room k X.A) (hc : X.calm = true) : CallR X (.builtin "sorted") (rSort (kx X)) := by
  intro pins s σ H xs us Q I rv h
  obtain ⟨ι, S, dd, P, x, rfl, R, rx, h, fin⟩ := h
  obtain ⟨v, rfl, rxv⟩ := vals1 rv
  obtain ⟨vs, ds, hcol, hvr, h⟩ := collP_out R rx h
  unfold srt at h
  obtain ⟨α, i1, i2, ys, rfl, hal, hso, hdep, h⟩ := h
  refine sorted_from (Pv := fun us => Vals vs us) (args_sorted1 _) (fun q => coll_run I (I.ok.hd hc) rxv hcol q) fun us h' tk pv hz kp => ?_
  have l1 : us.length = vs.length := pv.length.symm
  have l2 : vs.length = ys.length := by rw [hvr.length, List.length_map]
  have I' : Inv X pins σ H { s with heap := h', toks := tk } := I.kept (t' := tk) kp
  have ho : (h'.push (seqObj "list" us.toArray 0)).get? h'.objs.size = some (seqObj "list" us.toArray 0) := Heap.get?_push_size _ rfl
  have hun := hr.un
  have rd : ∀ (i : Nat) (u : Value) (x : V) (y : α), us[i]? = some u → vs[i]? = some x → ys[i]? = some y → RelV x u ∧ VR (kx X) ι H x (d y) := fun i u x y e1 e2 e3 => by
    rcases vals_get pv i with ⟨z, _⟩ | ⟨x', u', z1, z2, z3⟩
    · rw [e2] at z; cases z
    · rw [e2] at z1; cases z1
      rw [e1] at z2; cases z2
      obtain ⟨x2, z4, z5⟩ := hvr.get (i := i) (d := d y) (by rw [List.getElem?_map, e3]; rfl)
      rw [e2] at z4; cases z4
      exact ⟨z3, z5⟩
  refine list_sort_data1 (enc := fun p : V × α => En.py p.2) (bs := vs.zip ys) (R := fun u (p : V × α) => RelV p.1 u ∧ VR (kx X) ι H p.1 (d p.2)) ho (each_zip l1 l2 fun i u x y e1 e2 e3 => rd i u x y e1 e2 e3) (each_zip l1 l2 fun i u x y e1 e2 e3 => ?_) ?_ ?_ (by rw [List.length_zip, l2, Nat.min_self, ← l2, ← l1]; exact hz) (fun b hb => ?_) fun out hlen hout => ?_
  · obtain ⟨z1, z2⟩ := rd i u x y e1 e2 e3
    obtain ⟨as, ra⟩ := vr_reads I' R z2 z1
    refine ⟨as, PyProof.Rows.Reads.keeps (fun _ _ e => Heap.get?_push_of_some _ e) ra, fun m => ?_⟩
    exact absurd (reads_live _ _ _ (En.lay y) ra _ m) (Nat.lt_irrefl _)
  · rw [show (vs.zip ys).map (fun p : V × α => En.py p.2) = ((vs.zip ys).map (·.2)).map En.py by rw [List.map_map]; rfl, zip_snd l2]
    exact hal
  · rw [show (vs.zip ys).map (fun p : V × α => En.py p.2) = ((vs.zip ys).map (·.2)).map En.py by rw [List.map_map]; rfl, zip_snd l2]
    exact hso
  · have := En.depth b.2
    show X.A.in1.units + 1 + _ < cLine
    rw [Around.in1_units]
    omega
  · obtain ⟨ep, he⟩ := sortedHeap_at (vs := us) (out := out.toArray) ho
    have e1 := congrArg List.length (show (vs.zip ys).map (fun p : V × α => p.2) = ys from zip_snd l2)
    have hz2 : (vs.zip ys).length ≤ sizeLine := by rw [List.length_zip, l2, Nat.min_self, ← l2, ← l1]; exact hz
    have hvals : Vals (((vs.zip ys).mergeSort (dataLe false fun p : V × α => En.py p.2)).map (·.1)) out := each_vals (hout.mono fun u p z => z.1)
    have hds : VRs (kx X) ι H (((vs.zip ys).mergeSort (dataLe false fun p : V × α => En.py p.2)).map (·.1)) (((vs.zip ys).mergeSort (dataLe false fun p : V × α => En.py p.2)).map fun p => d p.2) := by
      have mem : ∀ p ∈ (vs.zip ys).mergeSort (dataLe false fun p : V × α => En.py p.2), VR (kx X) ι H p.1 (d p.2) := fun p hp => by
        have hp := (List.mergeSort_perm _ _).mem_iff.mp hp
        obtain ⟨i, hi⟩ := List.getElem?_of_mem hp
        obtain ⟨z1, z2⟩ := List.getElem?_zip_eq_some.mp hi
        have lt : i < us.length := by rw [l1]; exact (List.getElem?_eq_some_iff.mp z1).1
        exact (rd i us[i] p.1 p.2 (List.getElem?_eq_getElem lt) z1 z2).2
      revert mem
      generalize (vs.zip ys).mergeSort (dataLe false fun p : V × α => En.py p.2) = L
      intro mem
      induction L with
      | nil => exact .nil
      | cons p L ih => exact .cons (mem p (by simp)) (ih fun q hq => mem q (by simp [hq]))
    have hle : (dataLe false fun p : V × α => En.py p.2) = fun p q => dataLe false En.py p.2 q.2 := rfl
    have e2 : ((vs.zip ys).mergeSort (dataLe false fun p : V × α => En.py p.2)).map (fun p => d p.2) = (ys.mergeSort (dataLe false En.py)).map d := by
      rw [hle, ← sort_snd (le := dataLe false En.py) l2, List.map_map]
      rfl
    rw [e2] at hds
    have hH : H h'.objs.size = none := I'.hok.fresh (Nat.le_refl _)
    obtain ⟨e3, r3, v3⟩ := new_lst R hH hds
    have hlt : ∀ b o, s.heap.get? b = some o → (sortedHeap (h'.push (seqObj "list" us.toArray 0)) h'.objs.size us out.toArray).get? b = some o := fun b o e => by
      have q := kp b o e
      have lt := Heap.lt_size q
      rw [sortedHeap_old (Nat.ne_of_lt lt) (by rw [size_push']; exact Nat.lt_succ_of_lt lt)]
      exact Heap.get?_push_of_some _ q
    refine ⟨.ref h'.objs.size, _, I'.laid (t' := tk) (o := .lst (((vs.zip ys).mergeSort (dataLe false fun p : V × α => En.py p.2)).map (·.1))) (fun b o e => ?_) (Nat.le_refl _) ⟨?_, out, ep, hvals, he⟩, rfl, fin _ _ _ _ _ e3 r3 v3 h⟩
    · have lt := Heap.lt_size e
      show (sortedHeap (h'.push (seqObj "list" us.toArray 0)) h'.objs.size us out.toArray).get? b = some o
      rw [sortedHeap_old (Nat.ne_of_lt lt) (by rw [size_push']; exact Nat.lt_succ_of_lt lt)]
      exact Heap.get?_push_of_some _ e
    · rw [List.length_map, List.length_mergeSort]
      exact hz2
end
end Ab

/-! sorted(x, key=abs); len of a set -/
namespace Ab
open PySem L2 PySem.Spec PyProof.Rows PySem.W
section
variable {X : Cx} {B : Bs} {k : Nat}
theorem run_sortA {pins : List (Addr × Obj)} {σ : L2.St} {H : Hp} {s : Shared} {ι : List Addr} {S : Sto} {dd : D} {P : D → Sto → Prop} {x : V} {v : Value} {Q : VK} (hr : Room k X.A) (hc : X.calm = true) (I : Inv X pins σ H s) (R : RS (kx X) ι H S) (rx : VR (kx X) ι H x dd) (rxv : RelV x v) (h : sortAD dd S P)
    (fin : ∀ ι' H' v d S', Ext (kx X) ι H ι' H' → RS (kx X) ι' H' S' → VR (kx X) ι' H' v d → P d S' → Q v H') : wpAny (model X.prog X.w) X.A (call (.builtin "sorted") [v] [(Str.ofString "key", .builtin "abs")]) (EP X pins σ Q) X.xe s := by
  obtain ⟨vs, ds, hcol, hvr, h⟩ := collP_out R rx h
  unfold srtA at h
  obtain ⟨ys, rfl, h⟩ := h
  refine sorted_from (Pv := fun us => Vals vs us) (ksk_s1 _ _) (fun q => coll_run I (I.ok.hd hc) rxv hcol q) fun us h' tk pv hz kp => ?_
  have l1 : us.length = vs.length := pv.length.symm
  have l2 : vs.length = ys.length := by rw [hvr.length, List.length_map]
  have I' : Inv X pins σ H { s with heap := h', toks := tk } := I.kept (t' := tk) kp
  have ho : (h'.push (seqObj "list" us.toArray 0)).get? h'.objs.size = some (seqObj "list" us.toArray 0) := Heap.get?_push_size _ rfl
  have hun := hr.un
  have rd : ∀ (i : Nat) (u : Value) (x : V) (y : Int), us[i]? = some u → vs[i]? = some x → ys[i]? = some y → RelV x u ∧ x = .int y := fun i u x y e1 e2 e3 => by
    rcases vals_get pv i with ⟨z, _⟩ | ⟨x', u', z1, z2, z3⟩
    · rw [e2] at z; cases z
    · rw [e2] at z1; cases z1
      rw [e1] at z2; cases z2
      obtain ⟨x2, z4, z5⟩ := hvr.get (i := i) (d := .int y) (by rw [List.getElem?_map, e3]; rfl)
      rw [e2] at z4; cases z4
      cases z5
      exact ⟨z3, rfl⟩
  refine list_sort_key_data (b := false) (fun p : V × Int => .int (ab p.2)) (bs := vs.zip ys) (R := fun u (p : V × Int) => RelV p.1 u ∧ p.1 = .int p.2) ho (each_zip l1 l2 fun i u x y e1 e2 e3 => rd i u x y e1 e2 e3) (fun x hx y hy => ?_) (.inr fun x hx => ?_) (by rw [List.length_zip, l2, Nat.min_self, ← l2, ← l1]; exact hz) (fun b hb => ?_) (ksk_l1 _ _) (ksk_t4 _ _)
    (fun u p hp _ g tk2 kb => ?_) fun out c g tk2 kb hg hlen hout => ?_
  · obtain ⟨i, _, rfl⟩ := List.mem_map.mp hx
    obtain ⟨j, _, rfl⟩ := List.mem_map.mp hy
    rfl
  · obtain ⟨i, _, rfl⟩ := List.mem_map.mp hx
    exact ⟨(fun z => nomatch z), (fun _ z => nomatch z)⟩
  · show X.A.in1.units + 1 + PyData.depth (.int _) < cLine
    rw [Around.in1_units]
    simp only [PyData.depth]
    omega
  · obtain ⟨z1, z2⟩ := hp
    rw [z2] at z1
    obtain ⟨t, rfl⟩ := z1
    exact call_abs_int fun t' tk3 => ⟨g, tk3, rfl, fun _ _ e => e, .int _ _⟩
  · have hz2 : (vs.zip ys).length ≤ sizeLine := by rw [List.length_zip, l2, Nat.min_self, ← l2, ← l1]; exact hz
    have hvals : Vals (((vs.zip ys).mergeSort (dataLe false fun p : V × Int => .int (ab p.2))).map (·.1)) out := each_vals (hout.mono fun u p z => z.1)
    have hle : (dataLe false fun p : V × Int => .int (ab p.2)) = fun p q => decide (ab p.2 ≤ ab q.2) := dataLe_int (fun p : V × Int => ab p.2)
    have hds : VRs (kx X) ι H (((vs.zip ys).mergeSort (dataLe false fun p : V × Int => .int (ab p.2))).map (·.1)) (((vs.zip ys).mergeSort (dataLe false fun p : V × Int => .int (ab p.2))).map fun p => D.int p.2) := by
      have mem : ∀ p ∈ (vs.zip ys).mergeSort (dataLe false fun p : V × Int => .int (ab p.2)), p.1 = .int p.2 := fun p hp => by
        have hp := (List.mergeSort_perm _ _).mem_iff.mp hp
        obtain ⟨i, hi⟩ := List.getElem?_of_mem hp
        obtain ⟨z1, z2⟩ := List.getElem?_zip_eq_some.mp hi
        have lt : i < us.length := by rw [l1]; exact (List.getElem?_eq_some_iff.mp z1).1
        exact (rd i us[i] p.1 p.2 (List.getElem?_eq_getElem lt) z1 z2).2
      revert mem
      generalize (vs.zip ys).mergeSort (dataLe false fun p : V × Int => .int (ab p.2)) = L
      intro mem
      induction L with
      | nil => exact .nil
      | cons p L ih => exact .cons (by show VR _ _ _ p.1 _; rw [mem p (by simp)]; exact .int _) (ih fun q hq => mem q (by simp [hq]))
    have e2 : ((vs.zip ys).mergeSort (dataLe false fun p : V × Int => .int (ab p.2))).map (fun p => D.int p.2) = (ys.mergeSort fun a b => decide (ab a ≤ ab b)).map D.int := by
      rw [hle, ← sort_snd (le := fun a b => decide (ab a ≤ ab b)) l2, List.map_map]
      rfl
    rw [e2] at hds
    have hH : H h'.objs.size = none := I'.hok.fresh (Nat.le_refl _)
    obtain ⟨e3, r3, v3⟩ := new_lst R hH hds
    refine ⟨.ref h'.objs.size, _, I'.laid (t' := tk2) (o := .lst (((vs.zip ys).mergeSort (dataLe false fun p : V × Int => .int (ab p.2))).map (·.1))) (fun b o e => ?_) (Nat.le_refl _) ⟨?_, out, c, hvals, hg⟩, rfl, fin _ _ _ _ _ e3 r3 v3 h⟩
    · have lt := Heap.lt_size e
      exact kb b o (Nat.ne_of_lt lt) (Heap.get?_push_of_some _ e)
    · rw [List.length_map, List.length_mergeSort]
      exact hz2
theorem a_sortA {e : Expr} {p p2 kp pos : Pos} {x : AE} (hr : Room k X.A) (hm : X.mg "sorted" = none) (hm2 : X.mg "abs" = none) (he : PE X e (eOf (kx X) B x)) (hc : X.calm = true := by rfl) (hg : Gl X "sorted" := by rfl) (hg2 : Gl X "abs" := by rfl)
    (hs : backTo pos (starEach [e] X.env) = (false, eval e X.env) :: backTo pos (starEach [] X.env) := by rfl) (hpl : (backTo pos (starEach [e] X.env)).any (·.1) = false := by rfl) (hst : starEach [e] X.env = (false, eval e X.env) :: starEach [] X.env := by rfl) :
    PE X (.Call (.Name "sorted" p) [e] [⟨some "key", .Name "abs" p2, kp⟩] pos) (eOf (kx X) B (aUn sortAD x)) := by
  refine ⟨fun pins s σ H Q I h => ?_⟩
  obtain ⟨ι, a, S, P, g, h, fin⟩ := h
  refine wpAny_Call_Name_kw (ld_blt (u := .builtin "sorted") I hg hm (by decide +kernel) ?_ (by decide) (by decide))
  refine PyProof.Rows.callWith_kw ?_ hs hpl (by rfl) (by rfl)
  have hp : PA X [e] (tCons (eOf (kx X) B x) tNil) := pa_cons he pa_nil hst
  refine thn (hp.run pos pins s σ H (fun vs H1 => ∃ v, vs = [v] ∧ ∃ ι1 S1 d, Ext (kx X) ι H ι1 H1 ∧ RS (kx X) ι1 H1 S1 ∧ VR (kx X) ι1 H1 v d ∧ sortAD d S1 P) I ?_) fun us s1 ⟨vs, H1, I1, r1, v, ev, ι1, S1, d, e1, rs1, v1, h1⟩ => ?_
  · exact ⟨ι, a, S, _, g, h, fun ι' H' v d S' e' r' v' h' => ⟨v, rfl, ι', S', d, e', r', v', h'⟩⟩
  subst ev
  obtain ⟨u, rfl, ru⟩ := vals1 r1
  show wpAny _ _ (evalAll ((do let v ← eval (.Name "abs" p2) X.env; standAt pos; pure v) :: [])) _ _ s1
  refine wpAny_evalAll_cons (wpAny_bind (ld_blt (u := .builtin "abs") I1 hg2 hm2 (by decide +kernel) (wpAny_bind (wpAny_standAt (wpAny_pure (wpAny_evalAll_nil ?_)))) (by decide) (by decide)))
  exact run_sortA hr hc I1 rs1 v1 ru h1 fun ι' H' v d S' e' r' v' h' => fin ι' H' v d S' (e1.trans e') r' v' h'
/-! ### len of a set -/
theorem call_lenSK : CallR X (.builtin "len") (fun xs H Q => ∃ a S n, xs = [V.ref a] ∧ H a = some (SetK X.prog X.w a S n) ∧ Q (.int (n : Nat)) H) := by
  intro pins s σ H xs us Q I r h
  obtain ⟨a, S, n, rfl, ha, q⟩ := h
  obtain rfl := Vals.ref1 r
  obtain ⟨o, es, ep, t, ho, hex, hd, _, _, hb, hf, hn⟩ := setK_get I ha
  exact call_len_set ho hex hd hf (by unfold scanBound at hb; omega) ⟨.int (n : Nat), H, I.tok _, ⟨_, by rw [hn]⟩, q⟩
end
end Ab

/-! methods of lists, is of truths, a = b = x, len of all -/
namespace Ab
open PySem L2 PySem.Spec PyProof.Rows
section
variable {K : KX}
def extD : FM := fun x ds S P => match x with
  | .obj n => (match ds with | [.obj m] => rdL S n fun l => rdL S m fun k => l.length + k.length ≤ sizeLine ∧ P .non (S.set n (.lst (l ++ k))) | _ => False)
  | _ => False
theorem extA : MtA K rExtend extD := by
  intro ι H S x xs d ds P Q R rx rs h k
  cases rx with
  | obj e1 =>
    match ds, rs, h with
    | [.obj m], rs, h =>
      obtain ⟨v, rfl, rv⟩ := rs.one
      cases rv with
      | obj e4 =>
        obtain ⟨l, e2, h⟩ := rdL_out h
        obtain ⟨l2, e5, hz, h⟩ := rdL_out h
        obtain ⟨vs, q1, q2⟩ := R.ob _ _ _ e1 e2
        obtain ⟨ws, q3, q4⟩ := R.ob _ _ _ e4 e5
        obtain ⟨e3, r3⟩ := put_lst R e1 q1 (q2.append q4)
        exact ⟨_, _, vs, ws, rfl, rfl, q1, q3, by rw [q2.length, q4.length]; exact hz, k _ _ _ _ _ e3 r3 .non h⟩
  | _ => exact h.elim
def popAtD : FM := fun x ds S P => match x with
  | .obj n => (match ds with | [.int i] => rdL S n fun l => ∃ j y, ixN l.length i = some j ∧ l[j]? = some y ∧ l.length ≤ 1000000 ∧ P y (S.set n (.lst (l.eraseIdx j))) | _ => False)
  | _ => False
theorem popAtA : MtA K rPopAt popAtD := by
  intro ι H S x xs d ds P Q R rx rs h k
  cases rx with
  | obj e1 =>
    match ds, rs, h with
    | [.int i], rs, h =>
      obtain ⟨v, rfl, rv⟩ := rs.one
      cases rv
      obtain ⟨l, e2, j, y, hj, hy, hz, h⟩ := rdL_out h
      obtain ⟨vs, q1, q2⟩ := R.ob _ _ _ e1 e2
      obtain ⟨s1, s2, s3, s4⟩ := ixN_seq hj
      obtain ⟨vy, hvy, ry⟩ := q2.get hy
      obtain ⟨e3, r3⟩ := put_lst R e1 q1 (q2.eraseIdx j)
      exact ⟨_, vs, i, j, vy, rfl, rfl, q1, by omega, by omega, by rw [q2.length]; exact s1, hvy, k _ _ _ _ _ e3 r3 (ry.up e3) h⟩
  | _ => exact h.elim
def insD : FM := fun x ds S P => match x with
  | .obj n => (match ds with | [.int i, y] => rdL S n fun l => l.length < sizeLine ∧ 0 ≤ i ∧ i < 2 ^ 63 ∧ P .non (S.set n (.lst (l.take i.toNat ++ [y] ++ l.drop i.toNat))) | _ => False)
  | _ => False
def rIns : V → List V → Hp → VK → Prop := fun x vs H Q => ∃ (l : Addr) (xs : List V) (i : Int) (y : V), x = .ref l ∧ vs = [.int i, y] ∧ H l = some (.lst xs) ∧ xs.length < sizeLine ∧ 0 ≤ i ∧ i < 2 ^ 63 ∧ Q .non (upd H l (.lst (xs.take i.toNat ++ [y] ++ xs.drop i.toNat)))
theorem mt_ins {X : Cx} : MtR X "list.insert" rIns := mt_insert
theorem insA : MtA K rIns insD := by
  intro ι H S x xs d ds P Q R rx rs h k
  cases rx with
  | obj e1 =>
    match ds, rs, h with
    | [.int i, y], rs, h =>
      obtain ⟨v, u, rfl, rv, ru⟩ := rs.two
      cases rv
      obtain ⟨l, e2, hz, h0, h1, h⟩ := rdL_out h
      obtain ⟨vs, q1, q2⟩ := R.ob _ _ _ e1 e2
      obtain ⟨e3, r3⟩ := put_lst R e1 q1 (((q2.take i.toNat).append (.cons ru .nil)).append (q2.drop i.toNat))
      exact ⟨_, vs, i, u, rfl, rfl, q1, by rw [q2.length]; exact hz, h0, h1, k _ _ _ _ _ e3 r3 .non h⟩
  | _ => exact h.elim
/-! no argument -/
def pop0D : FM := fun x ds S P => match x with
  | .obj n => (match ds with | [] => rdL S n fun l => ∃ y, l[l.length - 1]? = some y ∧ P y (S.set n (.lst l.dropLast)) | _ => False)
  | _ => False
theorem VRs.dropLast {ι : List Addr} {H : Hp} {ds : List D} {vs : List V} (h : VRs K ι H vs ds) : VRs K ι H vs.dropLast ds.dropLast := by
  rw [List.dropLast_eq_take, List.dropLast_eq_take, h.length]
  exact h.take _
theorem pop0A : MtA K rPop pop0D := by
  intro ι H S x xs d ds P Q R rx rs h k
  cases rx with
  | obj e1 =>
    match ds, rs, h with
    | [], rs, h =>
      cases rs
      obtain ⟨l, e2, y, hy, h⟩ := rdL_out h
      obtain ⟨vs, q1, q2⟩ := R.ob _ _ _ e1 e2
      obtain ⟨vy, hvy, ry⟩ := q2.get hy
      obtain ⟨e3, r3⟩ := put_lst R e1 q1 q2.dropLast
      exact ⟨_, vs, vy, rfl, rfl, q1, by rw [q2.length]; exact hvy, k _ _ _ _ _ e3 r3 (ry.up e3) h⟩
  | _ => exact h.elim
def revM : FM := fun x ds S P => match x with
  | .obj n => (match ds with | [] => rdL S n fun l => P .non (S.set n (.lst l.reverse)) | _ => False)
  | _ => False
theorem revMA : MtA K rReverse revM := by
  intro ι H S x xs d ds P Q R rx rs h k
  cases rx with
  | obj e1 =>
    match ds, rs, h with
    | [], rs, h =>
      cases rs
      obtain ⟨l, e2, h⟩ := rdL_out h
      obtain ⟨vs, q1, q2⟩ := R.ob _ _ _ e1 e2
      obtain ⟨e3, r3⟩ := put_lst R e1 q1 q2.reverse
      exact ⟨_, vs, rfl, rfl, q1, k _ _ _ _ _ e3 r3 .non h⟩
  | _ => exact h.elim
def clrM : FM := fun x ds S P => match x with
  | .obj n => (match ds with | [] => rdL S n fun l => P .non (S.set n (.lst [])) | _ => False)
  | _ => False
theorem clrMA : MtA K rClear clrM := by
  intro ι H S x xs d ds P Q R rx rs h k
  cases rx with
  | obj e1 =>
    match ds, rs, h with
    | [], rs, h =>
      cases rs
      obtain ⟨l, e2, h⟩ := rdL_out h
      obtain ⟨vs, q1, q2⟩ := R.ob _ _ _ e1 e2
      obtain ⟨e3, r3⟩ := put_lst R e1 q1 (VRs.nil)
      exact ⟨_, vs, rfl, rfl, q1, k _ _ _ _ _ e3 r3 .non h⟩
  | _ => exact h.elim
end
section
variable {X : Cx} {B : Bs} {o : Expr} {x : AE} {name : Str} {apos cpos : Pos} {id : String} {r : V → List V → Hp → VK → Prop} {f : FM}
def aMtL0 (f : FM) (x : AE) : AE := fun a S P => x a S fun d S1 => lstP d S1 fun _ => f d [] S1 P
theorem a_mtL0 (slot : Slot "list" name id) (hty : typeOf (.builtin id) = pure (.type "method_descriptor")) (hm : MtR X id r) (hf : MtA (kx X) r f) (ho : PE X o (eOf (kx X) B x))
    (hbase : attributeBase o name X.env (eval o X.env) = eval o X.env := by rfl) (hline : (apos.endLine == cpos.line) = true := by rfl) :
    PE X (.Call (.Attribute o name apos) [] [] cpos) (eOf (kx X) B (aMtL0 f x)) := by
  refine PE.imp (pe_bm0 PySem.F.plainAttrs_list slot hty hm ho hbase hline) fun σ H Q h => ?_
  obtain ⟨ι, a, S, P, g, h, k⟩ := h
  refine ⟨ι, a, S, _, g, h, fun ι1 H1 v d S1 e1 r1 v1 h1 => ?_⟩
  obtain ⟨c, vs, ds, rfl, hs', hv, h1⟩ := lstP_out r1 v1 h1
  refine ⟨.inl ⟨rfl, _, hs'⟩, hf ι1 H1 S1 _ [] d [] P Q r1 v1 .nil h1 fun ι3 H3 u z S3 e3 r3 v3 h3 => k ι3 H3 u z S3 (e1.trans e3) r3 v3 h3⟩
end
/-! ### is True, is False -/
def isBD : F2 := fun x y S P => match x with
  | .bl a => (match y with | .bl b => P (.bl (decide (a = b))) S | _ => False)
  | _ => False
def notBD : F2 := fun x y S P => match x with
  | .bl a => (match y with | .bl b => P (.bl (!decide (a = b))) S | _ => False)
  | _ => False
theorem isBA {K : KX} : OpA K rIsB isBD := by
  intro ι H S x y d e P Q R rx ry h k
  cases rx with
  | bl a =>
    cases ry with
    | bl b => exact ⟨a, b, rfl, rfl, k ι H _ _ S .refl R (.bl _) h⟩
    | _ => exact h.elim
  | _ => exact h.elim
theorem notBA {K : KX} : OpA K rNotB notBD := by
  intro ι H S x y d e P Q R rx ry h k
  cases rx with
  | bl a =>
    cases ry with
    | bl b => exact ⟨a, b, rfl, rfl, k ι H _ _ S .refl R (.bl _) h⟩
    | _ => exact h.elim
  | _ => exact h.elim
/-! ### t1 = t2 = x -/
def aAsg2 (x : AE) (g1 g2 : AG) : AX := fun D a S => x a S fun d S1 => g1 d a S1 fun a1 S2 => g2 d a1 S2 D.nx
section
variable {X : Cx} {B : Bs} {t1 t2 e : Expr} {x : AE} {g1 g2 : AG} {pos : Pos}
theorem s_asg2 (he : PE X e (eOf (kx X) B x)) (h1 : PG X t1 (gOf (kx X) B g1)) (h2 : PG X t2 (gOf (kx X) B g2)) (ha : (assignEach [t1, t2] X.env).map (·.2) = [assign t1 X.env, assign t2 X.env] := by rfl) (hw : swappedStores [t1, t2] e X.env = pure none := by rfl) :
    PS X (.Assign [t1, t2] e pos) (sOf (kx X) B (aAsg2 x g1 g2)) := by
  refine PS.imp (ps_asg2 he h1 h2 ha hw) fun D σ H h => ?_
  obtain ⟨ι, a, S, AD, g, h, k⟩ := h
  refine ⟨ι, a, S, _, g, h, fun ι1 H1 v d S1 e1 r1 v1 h3 => ?_⟩
  refine ⟨ι1, d, a, S1, _, g.go e1 r1, v1, h3, fun ι2 H2 σ2 a2 S2 e2 r2 s2 h4 => ?_⟩
  exact ⟨ι2, d, a2, S2, _, ⟨(g.ext.trans e1).trans e2, r2, s2⟩, v1.up e2, h4, fun ι3 H3 σ3 a3 S3 e3 r3 s3 h5 => k.nx _ _ _ _ _ ((e1.trans e2).trans e3) r3 s3 h5⟩
end
/-! ### a, b, c = x, y, z -/
def aPar3 (i j l : Nat) (z : AA) : AX := fun D a S => z a S fun ds S1 => match ds with | [x, y, u] => D.nx (((a.set i (some x)).set j (some y)).set l (some u)) S1 | _ => False
section
variable {X : Cx} {B : Bs}
theorem s_par3 {i j l : Nat} {n m o : Str} {a b c : Expr} {z : AA} {px py pz pt pos : Pos} {kt k2 pt2} (hN : X.N.Nodup) (ha : PA X [a, b, c] (aOf (kx X) B z)) (hc : X.calm = true := by rfl) (hi : X.N[i]? = some n := by rfl) (hj : X.N[j]? = some m := by rfl) (hl : X.N[l]? = some o := by rfl)
    (hij : i ≠ j := by decide) (hil : i ≠ l := by decide) (hjl : j ≠ l := by decide) (hx : X.env.scope.names.lookup n = some .local := by rfl) (hy : X.env.scope.names.lookup m = some .local := by rfl) (hz : X.env.scope.names.lookup o = some .local := by rfl)
    (hw : swappedStores [.Tuple [.Name n px, .Name m py, .Name o pz] kt pt] (.Tuple [a, b, c] k2 pt2) X.env = pure (some [n, m, o]) := by rfl)
    (hs : swapsWithSole [.Tuple [.Name n px, .Name m py, .Name o pz] kt pt] (.Tuple [a, b, c] k2 pt2) pos.line X.env = pure false := by rfl) :
    PS X (.Assign [.Tuple [.Name n px, .Name m py, .Name o pz] kt pt] (.Tuple [a, b, c] k2 pt2) pos) (sOf (kx X) B (aPar3 i j l z)) := by
  refine PS.imp (ps_par3 hc hN hi hj hl hij hil hjl hx hy hz ha hw hs) fun D σ H h => ?_
  obtain ⟨ι, a, S, AD, g, h, k⟩ := h
  refine ⟨ι, a, S, _, g, h, fun ι1 H1 vs ds S1 e1 r1 v1 h1 => ?_⟩
  match ds, v1, h1 with
  | [d1, d2, d3], .cons w1 (.cons w2 (.cons w3 .nil)), h1 => exact ⟨_, _, _, rfl, k.nx _ _ _ _ _ e1 r1 ((((g.sr.up e1).set w1 i).set w2 j).set w3 l) h1⟩
end
/-! ### len -/
def lenXD : F1 := fun x S P => match x with
  | .obj n => rdO S n fun o => match o with
    | .lst l => P (.int l.length) S
    | .dK l => P (.int l.length) S
    | .set l => P (.int l.length) S
    | _ => False
  | _ => lenD x S P
def rLenX (K : KX) : List V → Hp → VK → Prop := fun xs H Q => rLenAll K.f xs H Q ∨ ∃ a S n, xs = [V.ref a] ∧ H a = some (SetK K.P K.w a S n) ∧ Q (.int (n : Nat)) H
theorem c_lenX {X : Cx} : CallR X (.builtin "len") (rLenX (kx X)) := CallR.or c_len call_lenSK
theorem lenXA {K : KX} : CallA K (rLenX K) (ar1 lenXD) := by
  intro ι H S xs ds P Q R rs h k
  match ds, rs, h with
  | [.obj n], rs, h =>
    obtain ⟨v, rfl, rv⟩ := rs.one
    cases rv with
    | obj e =>
      obtain ⟨o, q, h'⟩ := rdO_out (show rdO S n _ from h)
      cases o with
      | lst l => exact .inl (lenA ι H S _ [.obj n] P Q R (.cons (.obj e) .nil) (rdO_of q h') k)
      | dK l => exact .inl (lenA ι H S _ [.obj n] P Q R (.cons (.obj e) .nil) (rdO_of q h') k)
      | set l =>
        have ho := R.ob _ _ _ e q
        exact .inr ⟨_, _, _, rfl, ho.1, k ι H _ _ S .refl R (.int _) h'⟩
      | _ => exact h'.elim
  | [.non], rs, h => exact h.elim
  | [.bl _], rs, h => exact h.elim
  | [.int _], rs, h => exact h.elim
  | [.cls _], rs, h => exact h.elim
  | [.tg _], rs, h => exact h.elim
  | [.exc _ _ _], rs, h => exact h.elim
  | [.str s], rs, h => exact .inl (lenA ι H S _ [.str s] P Q R rs h k)
  | [.tup s], rs, h => exact .inl (lenA ι H S _ [.tup s] P Q R rs h k)
  | [.ktp s], rs, h => exact .inl (lenA ι H S _ [.ktp s] P Q R rs h k)
  | [.rol s], rs, h => exact .inl (lenA ι H S _ [.rol s] P Q R rs h k)
end Ab

namespace Ab
open PySem PySem.Spec PyProof.Rows L2
/-! ### max of a list of whole numbers -/
def max1D : F1 := fun x S P => lstP x S fun l => intsP l fun ns => ns ≠ [] ∧ P (maxI (.int 0) ns) S
def rMax1 (K : PySem.W.Frag) : List V → Hp → VK → Prop := fun xs H Q => ∃ p n ns, xs = [V.ref p] ∧ SqL K H p ((n :: ns).map V.int) ∧ Q (.int (ns.foldl max n)) H
theorem call_max1 {X : Cx} (hc : X.calm = true) (hu : X.A.units + 64 < cLine) : CallR X (.builtin "max") (rMax1 X.K) := by
  intro pins s σ H xs us Q I rx h
  obtain ⟨p, n, ns, rfl, hs, q⟩ := h
  cases rx with
  | cons r1 r2 =>
    cases r2
    cases r1
    obtain ⟨its, rv, pl, hz⟩ := I.list hs
    obtain ⟨as, ra⟩ := Dp.readsAll I ((n :: ns).map PyData.int) _ its (dpAll_ints (K := kx X) (n :: ns)) rv
    refine PySem.W.max_list_data (x := .int n) (xs := ns.map PyData.int) (I.ok.hd hc) pl.isList (by simpa using ra) (alike_ints (n :: ns)) (by rw [show (PyData.int n :: ns.map PyData.int) = (n :: ns).map PyData.int from rfl, depth_ints]; omega) (fun i v h' tk bs hv rd kp => ?_)
    rw [PySem.W.maxD_ints] at rd
    cases rd with
    | int _ t => exact ⟨.int (ns.foldl max n), H, I.kept (t' := tk) kp, ⟨t, rfl⟩, q⟩
theorem max1A {K : KX} : CallA K (rMax1 K.f) (ar1 max1D) := callA1 fun ι H S x d P Q R rx h k => by
  unfold max1D at h
  obtain ⟨b, us, l, rfl, hs, hv, h⟩ := lstP_out R rx h
  unfold intsP at h
  obtain ⟨ns, rfl, hn, h⟩ := h
  rw [hv.ints] at hs
  cases ns with
  | nil => exact absurd rfl hn
  | cons n ns => exact ⟨b, n, ns, rfl, hs, k ι H _ _ S .refl R (.int _) h⟩
end Ab

/-! d.update(e) -/
namespace Ab
open PySem PySem.Spec PyProof.Rows L2
def rDUpd : V → List V → Hp → VK → Prop := fun x vs H Q => ∃ (a b : Addr) (kvs more : List (Key × V)), x = .ref a ∧ vs = [.ref b] ∧ a ≠ b ∧ H a = some (.dK kvs) ∧ H b = some (.dK more) ∧ kvs.length + more.length ≤ sizeLine ∧ Q .non (upd H a (.dK (mergeK kvs more)))
theorem mtd_update {X : Cx} : MtR X "dict.update" rDUpd := by
  intro pins s σ H x vs v us Q I rx rv h
  obtain ⟨a, b, kvs, more, rfl, rfl, hne, ea, eb, hz, q⟩ := h
  obtain rfl : v = Value.ref a := rx
  cases rv with
  | cons r1 r2 =>
    cases r2
    rename_i u
    obtain rfl : u = Value.ref b := r1
    obtain ⟨z, hd, xs, rel, dd⟩ := dk_of I.hok ea
    obtain ⟨z2, hd2, xs2, rel2, dd2⟩ := dk_of I.hok eb
    refine call_meetsIn PySem.F.slot_dict_update dd.typeIs PySem.F.entry_dict_update (PySem.F.args_dict_update_2 _ _) (meets_dict_update (mixKind X.prog X.w) a b hne hd2)
      ⟨xs, xs2, dd, dd2, by rw [← rel.length, ← rel2.length]; exact hz, fun h' dd' _ hs => ⟨.non, _, ?_, rfl, q⟩⟩
    have he : ∃ q, h'.get? a = some q := let ⟨q, _, _, hq, _⟩ := dd'; ⟨q, hq⟩
    exact d_write (t' := s.toks) I (by rw [ea]; exact True.intro) hs he (dk_new (Nat.le_trans (length_mergeK more kvs) hz) hd (KV.merge rel2 rel) dd')
def mergeD (kvs more : List (Key × D)) : List (Key × D) := more.foldl (fun acc kv => putD acc kv.1 kv.2) kvs
theorem Prs.merge {K : KX} {ι : List Addr} {H : Hp} : ∀ {more : List (Key × V)} {m' : List (Key × D)} {kvs : List (Key × V)} {k' : List (Key × D)}, Prs K ι H more m' → Prs K ι H kvs k' → Prs K ι H (mergeK kvs more) (mergeD k' m')
  | [], [], _, _, _, h => h
  | [], _ :: _, _, _, h, _ => by have := h.length; simp at this
  | _ :: _, [], _, _, h, _ => by have := h.length; simp at this
  | p :: ps, q :: qs, kvs, k', h, g => by
    obtain ⟨e, r, t⟩ := h.cons_inv
    have := g.put q.1 r
    rw [← e] at this
    show Prs K ι H (mergeK (putK kvs p.1 p.2) ps) (mergeD (putD k' q.1 q.2) qs)
    rw [← e]
    exact Prs.merge t this
def updD : FM := fun x ds S P => match x with
  | .obj n => (match ds with
    | [.obj m] => rdO S n fun o => match o with
      | .dK kvs => rdO S m fun u => match u with
        | .dK more => n ≠ m ∧ kvs.length + more.length ≤ sizeLine ∧ P .non (S.set n (.dK (mergeD kvs more)))
        | _ => False
      | _ => False
    | _ => False)
  | _ => False
section
variable {K : KX}
theorem updA : MtA K rDUpd updD := by
  intro ι H S x xs d ds P Q R rx rs h k
  cases rx with
  | obj e1 =>
    match ds, rs, h with
    | [.obj m], rs, h =>
      obtain ⟨v, rfl, rv⟩ := rs.one
      cases rv with
      | obj f1 =>
        obtain ⟨o, e2, h⟩ := rdO_out h
        have q1 := R.ob _ _ _ e1 e2
        cases o with
        | dK kvs =>
          obtain ⟨u, f2, h⟩ := rdO_out h
          have q2 := R.ob _ _ _ f1 f2
          cases u with
          | dK more =>
            obtain ⟨hne, hz, h⟩ := h
            obtain ⟨vs, a1, a2⟩ := q1
            obtain ⟨ws, b1, b2⟩ := q2
            obtain ⟨e3, r3⟩ := put_dK R e1 a1 (Prs.merge b2 a2)
            refine ⟨_, _, vs, ws, rfl, rfl, fun z => hne (R.nd _ _ _ e1 (z ▸ f1)), a1, b1, by rw [Prs.length a2, Prs.length b2]; exact hz, k _ _ _ _ _ e3 r3 .non h⟩
          | _ => exact h.elim
        | _ => exact h.elim
  | _ => exact h.elim
end
/-- what follows reads the receiver as a dict -/
def dicP (d : D) (S : Sto) (k : Prop) : Prop := match d with
  | .obj n => rdO S n fun o => match o with
    | .dK _ => k
    | .dT _ => k
    | _ => False
  | _ => False
theorem dicP_out {K : KX} {ι : List Addr} {H : Hp} {S : Sto} {v : V} {d : D} {k : Prop} (R : RS K ι H S) (r : VR K ι H v d) (h : dicP d S k) : ∃ a, v = .ref a ∧ ((∃ kvs, H a = some (.dK kvs)) ∨ ∃ kvs, H a = some (.dT kvs)) ∧ k := by
  cases r with
  | obj e1 =>
    obtain ⟨o, e2, h⟩ := rdO_out h
    have q := R.ob _ _ _ e1 e2
    cases o with
    | dK l => obtain ⟨vs, q1, q2⟩ := q; exact ⟨_, rfl, .inl ⟨_, q1⟩, h⟩
    | dT l => obtain ⟨vs, q1, q2⟩ := q; exact ⟨_, rfl, .inr ⟨_, q1⟩, h⟩
    | _ => exact h.elim
  | _ => exact h.elim
def aMtD (f : FM) (x : AE) (z : AA) : AE := fun a S P => x a S fun d S1 => dicP d S1 (z a S1 fun ds S2 => f d ds S2 P)
def aMtD0 (f : FM) (x : AE) : AE := fun a S P => x a S fun d S1 => dicP d S1 (f d [] S1 P)
section
variable {X : Cx} {B : Bs} {o e : Expr} {es : List Expr} {x : AE} {z : AA} {name : Str} {apos cpos : Pos} {id : String} {r : V → List V → Hp → VK → Prop} {f : FM}
theorem a_mtD (slot : Slot "dict" name id) (hty : typeOf (.builtin id) = pure (.type "method_descriptor")) (hm : MtR X id r) (hf : MtA (kx X) r f) (ho : PE X o (eOf (kx X) B x)) (ha : PA X (e :: es) (aOf (kx X) B z))
    (hbase : attributeBase o name X.env (eval o X.env) = eval o X.env := by rfl)
    (hfew : ((backTo cpos (starEach (e :: es) X.env)).all (fun x => !x.1) && (backToKw cpos (keywordEach [] X.env)).all (fun x => x.1.isSome)
      && decide ((e :: es).length + ([] : List Keyword).length + (if ([] : List Keyword).isEmpty then 0 else 1) < 30)) = true := by rfl)
    (hline : (apos.endLine == cpos.line) = true := by rfl) (hs : starEach (e :: es) X.env = (false, eval e X.env) :: starEach es X.env := by rfl) (hplain : (backTo cpos (starEach es X.env)).any (·.1) = false := by rfl) :
    PE X (.Call (.Attribute o name apos) (e :: es) [] cpos) (eOf (kx X) B (aMtD f x z)) := by
  refine PE.imp (pe_bm PySem.F.plainAttrs_dict slot hty hm ho ha hbase hfew hline hs hplain) fun σ H Q h => ?_
  obtain ⟨ι, a, S, P, g, h, k⟩ := h
  refine ⟨ι, a, S, _, g, h, fun ι1 H1 v d S1 e1 r1 v1 h1 => ?_⟩
  obtain ⟨c, rfl, hs', h1⟩ := dicP_out r1 v1 h1
  refine ⟨.inr (.inr (.inl ⟨rfl, hs'⟩)), ι1, a, S1, _, g.go e1 r1, h1, fun ι2 H2 ws es S2 e2 r2 v2 h2 => ?_⟩
  exact hf ι2 H2 S2 _ ws d es P Q r2 (v1.up e2) v2 h2 fun ι3 H3 u z S3 e3 r3 v3 h3 => k ι3 H3 u z S3 ((e1.trans e2).trans e3) r3 v3 h3
theorem a_mtD0 (slot : Slot "dict" name id) (hty : typeOf (.builtin id) = pure (.type "method_descriptor")) (hm : MtR X id r) (hf : MtA (kx X) r f) (ho : PE X o (eOf (kx X) B x))
    (hbase : attributeBase o name X.env (eval o X.env) = eval o X.env := by rfl) (hline : (apos.endLine == cpos.line) = true := by rfl) :
    PE X (.Call (.Attribute o name apos) [] [] cpos) (eOf (kx X) B (aMtD0 f x)) := by
  refine PE.imp (pe_bm0 PySem.F.plainAttrs_dict slot hty hm ho hbase hline) fun σ H Q h => ?_
  obtain ⟨ι, a, S, P, g, h, k⟩ := h
  refine ⟨ι, a, S, _, g, h, fun ι1 H1 v d S1 e1 r1 v1 h1 => ?_⟩
  obtain ⟨c, rfl, hs', h1⟩ := dicP_out r1 v1 h1
  refine ⟨.inr (.inr (.inl ⟨rfl, hs'⟩)), hf ι1 H1 S1 _ [] d [] P Q r1 v1 .nil h1 fun ι3 H3 u z S3 e3 r3 v3 h3 => k ι3 H3 u z S3 (e1.trans e3) r3 v3 h3⟩
end
end Ab

/-! first, *others = a list -/
namespace Ab
open PySem PySem.Spec PyProof.Rows L2 PySem.W
theorem star_items {prog : Program} {w : World} {A : Around} {E : Value → Shared → Prop} {s : Shared} {l : Addr} {u : Value} {us : List Value} {Q : List Value → Shared → Prop} (hl : s.heap.IsList l (u :: us).toArray) (hh : A.handled = none) (hz : us.length ≤ 10000)
    (h : ∀ (h' : Heap) tk, (∀ b o, s.heap.get? b = some o → h'.get? b = some o) → Q [u, .ref h'.objs.size] { s with heap := h'.push (seqObj "list" us.toArray 0), toks := tk }) : wpAny (model prog w) A (unpackItems (.ref l) 2 (some 1)) Q E s := by
  have hlt : l ≠ s.heap.objs.size := by obtain ⟨o, ho, _⟩ := hl; exact Nat.ne_of_lt (Heap.lt_size ho)
  have hsz : (u :: us).toArray.size = us.length + 1 := by simp
  unfold unpackItems
  refine wpAny_bind ?_
  unfold notIterableAtAll
  refine wpAny_bind (wpAny_specialOf hl.typeIs PySem.F.slot_list_iter.lookup ?_)
  refine wpAny_pure ?_
  simp only [Bool.false_eq_true, if_false]
  refine wpAny_bind (wpAny_holding (wpAny_pyIter_list hl ?_))
  refine wpAny_bind (wpAny_holding (kun_draw hlt 1 0 _ _ ⟨_, Heap.get?_push_size _ rfl, rfl, rfl⟩ (hl.push _) (by omega) fun h₁ hit₁ hs₁ => ?_))
  have hl₁ : h₁.IsList l (u :: us).toArray := (hl.push _).extBut hs₁.extBut hlt
  rw [Nat.zero_add] at hit₁
  have hit₁' := hit₁
  obtain ⟨oi, hoi, _⟩ := hit₁'
  have hl₁' := hl₁
  obtain ⟨ol, hol, _⟩ := hl₁'
  rw [if_neg (show ¬ ((((u :: us).toArray.toList.drop 0).take 1).length < 1) by simp)]
  refine wpAny_bind (wpAny_holding (kun_collect (s := { s with heap := h₁ }) (T := "list_iterator") (.inr (.inr (.inl rfl))) (Walks.list (A := A.in1) hh s.heap.objs.size l hlt (u :: us).toArray) (fun j u st => st.1.typeIs) (k := 1) (by omega) ⟨hit₁, hl₁⟩ (Heap.lt_size hoi) (Heap.lt_size hol) (fun h₂ tk hk => ?_) (by rw [sizeLine_eq]; omega)))
  have e1 : (u :: us).toArray.toList.drop 1 = us := rfl
  rw [e1]
  show wpAny _ _ (if us.length < 0 then _ else _) _ _ _
  rw [if_neg (by omega)]
  show wpAny _ _ (newList (us.take (us.length - 0)) >>= fun d => pure ([u] ++ [d] ++ us.drop (us.length - 0))) _ _ _
  rw [Nat.sub_zero, List.take_length, List.drop_length]
  refine wpAny_bind (wpAny_newList ?_ (by rw [sizeLine_eq]; omega))
  refine wpAny_pure ?_
  have he : ∀ b o, s.heap.get? b = some o → h₂.get? b = some o := fun b o e => hk b o (Nat.ne_of_lt (Heap.lt_size e)) (hs₁.extBut b o (Nat.ne_of_lt (Heap.lt_size e)) (Heap.get?_push_of_some _ e))
  exact h h₂ tk he
def gStar1 (K : PySem.W.Frag) (t : TGs) : TG := fun v σ H Q => ∃ a x xs, v = .ref a ∧ SqL K H a (x :: xs) ∧ xs.length ≤ 10000 ∧ ∀ p, H p = none → t [x, .ref p] σ (upd H p (.lst xs)) Q
section
variable {X : Cx} {pos : Pos}
theorem pg_star1 {es : List Expr} {k : Nat} {t : TGs} (hc : X.calm = true) (h : PGs X es t)
    (hn : (assignEach es X.env).length = 2 := by rfl) (hst : (assignEach es X.env).findIdx? (·.1) = some 1 := by rfl) : PG X (.Tuple es k pos) (gStar1 X.K t) := by
  refine ⟨fun pins s σ H v u Q I r hw => ?_⟩
  obtain ⟨a, x, xs, e1, hq, hl, hw⟩ := hw
  subst e1
  cases r
  obtain ⟨its, rv, pl, hz⟩ := I.list hq
  cases rv with
  | cons r1 r2 =>
    rename_i ux us
    rw [PyProof.Rows.assign_Tuple]
    refine wpAny_bind (wpAny_standAt ?_)
    unfold unpack
    rw [hn, hst]
    refine wpAny_bind (wpAny_holding (star_items pl.isList (I.ok.hd hc) (by rw [← r2.length]; exact hl) fun h' tk kp => ?_))
    have I0 : Inv X pins σ H { s with heap := h', toks := tk } := I.kept (t' := tk) kp
    have hf : H h'.objs.size = none := I0.hok.fresh (Nat.le_refl _)
    have I1 : Inv X pins σ (upd H h'.objs.size (.lst xs)) { s with heap := h'.push (seqObj "list" us.toArray 0), toks := tk } :=
      I0.laid (t' := tk) (fun b u e => Heap.get?_push_of_some _ e) (Nat.le_refl _) ⟨by rw [sizeLine_eq]; omega, us, 0, r2, Heap.get?_push_size _ rfl⟩
    exact h.run pins _ σ _ [x, .ref h'.objs.size] _ Q I1 (.cons r1 (.cons rfl .nil)) (hw _ hf)
end
section
variable {X : Cx} {B : Bs}
theorem pgs_starred {e : Expr} {es : List Expr} {p : Pos} {t : TG} {u : TGs} (h1 : PG X e t) (h2 : PGs X es u)
    (hs : (assignEach (.Starred e p :: es) X.env).map (·.2) = assign e X.env :: (assignEach es X.env).map (·.2) := by rfl) : PGs X (.Starred e p :: es) (gCons t u) := by
  refine ⟨fun pins s σ H vs us Q I r h => ?_⟩
  obtain ⟨v, vr, e1, h⟩ := h
  subst e1
  cases r with
  | cons r rr =>
    rw [hs]
    refine assignInOrder_cons (thn (h1.run pins s σ H _ _ _ I r h) fun _ s1 ⟨σ1, H1, I1, q1⟩ => ?_)
    exact h2.run pins s1 σ1 H1 _ _ Q I1 rr q1
theorem gs_starred {e : Expr} {es : List Expr} {p : Pos} {g : AG} {r : AGs} (h1 : PG X e (gOf (kx X) B g)) (h2 : PGs X es (gsOf (kx X) B r)) (hs : (assignEach (.Starred e p :: es) X.env).map (·.2) = assign e X.env :: (assignEach es X.env).map (·.2) := by rfl) : PGs X (.Starred e p :: es) (gsOf (kx X) B (gCons' g r)) := by
  refine PGs.imp (pgs_starred h1 h2 hs) fun vs σ H Q h => ?_
  obtain ⟨ι, ds, a, S, P, gd, r, h, k⟩ := h
  cases ds with
  | nil => exact h.elim
  | cons d ds =>
    cases r with
    | cons r1 r2 =>
      refine ⟨_, _, rfl, ι, d, a, S, _, gd, r1, h, fun ι1 H1 σ1 a1 S1 e1 q1 s1 h1 => ?_⟩
      exact ⟨ι1, ds, a1, S1, P, ⟨gd.ext.trans e1, q1, s1⟩, r2.up e1, h1, fun ι2 H2 σ2 a2 S2 e2 q2 s2 h2 => k _ _ _ _ _ (e1.trans e2) q2 s2 h2⟩
end
/-- first, *others = a list: the first, a new list of the others -/
def gStar (r : AGs) : AG := fun d a S P => lstP d S fun l => match l with
  | x :: xs => xs.length ≤ 10000 ∧ r [x, .obj S.length] a (S ++ [.lst xs]) P
  | [] => False
section
variable {X : Cx} {B : Bs} {pos : Pos}
theorem g_star {es : List Expr} {j : Nat} {r : AGs} (hc : X.calm = true) (h : PGs X es (gsOf (kx X) B r)) (hn : (assignEach es X.env).length = 2 := by rfl) (hst : (assignEach es X.env).findIdx? (·.1) = some 1 := by rfl) : PG X (.Tuple es j pos) (gOf (kx X) B (gStar r)) := by
  refine PG.imp (pg_star1 hc h hn hst) fun v σ H Q h => ?_
  obtain ⟨ι, d, a, S, P, g, rv, h, k⟩ := h
  obtain ⟨b, us, l, rfl, hs, hv, h⟩ := lstP_out g.rs rv h
  cases l with
  | nil => exact h.elim
  | cons x xs =>
    cases hv with
    | cons v1 v2 =>
      obtain ⟨hz, h⟩ := h
      refine ⟨b, _, _, rfl, hs, by rw [v2.length]; exact hz, fun p hp => ?_⟩
      obtain ⟨e2, r2, w2⟩ := new_lst g.rs hp v2
      exact ⟨_, _, a, _, P, g.go e2 r2, .cons (v1.up e2) (.cons w2 .nil), h, fun ι' H' σ' a' S' e3 r3 s3 h3 => k _ _ _ _ _ (e2.trans e3) r3 s3 h3⟩
end
end Ab

/-! defs with defaults; {} ; dict(pairs); list(range(..)); count -/
namespace Ab
open PySem PySem.Spec PyProof.Rows L2
/-! ### {} -/
def aDic0 : AE := fun a S P => P (.obj S.length) (S ++ [.dK []])
theorem new_dK {K : KX} {ι : List Addr} {H : Hp} {S : Sto} {p : Addr} {vs : List (Key × V)} {ds : List (Key × D)} (r : RS K ι H S) (hp : H p = none) (h : Prs K ι H vs ds) :
    Ext K ι H (ι ++ [p]) (upd H p (.dK vs)) ∧ RS K (ι ++ [p]) (upd H p (.dK vs)) (S ++ [.dK ds]) ∧ VR K (ι ++ [p]) (upd H p (.dK vs)) (.ref p) (.obj S.length) :=
  have e := ext_new (K := K) (o := .dK vs) hp (r.out hp)
  ⟨e, r.new hp ⟨vs, upd_same, h.1, h.2.up e⟩, by rw [← r.len]; exact VR.new⟩
section
variable {X : Cx} {B : Bs} {pos : Pos}
theorem a_dic0 : PE X (.Dict [] [] pos) (eOf (kx X) B aDic0) := by
  refine PE.imp pe_dnewK fun σ H Q h => ?_
  obtain ⟨ι, a, S, P, g, h, k⟩ := h
  intro p hp
  obtain ⟨e2, r2, v2⟩ := new_dK (vs := []) (ds := []) g.rs hp ⟨rfl, .nil⟩
  exact k _ _ _ _ _ e2 r2 v2 h
end
/-! ### dict(list of pairs) -/
def prOf (kv : Key × D) : D := .tup [keyOfK kv.1, kv.2]
@[irreducible] def prsP (l : List D) (k : List (Key × D) → Prop) : Prop := ∃ kvs, l = kvs.map prOf ∧ k kvs
theorem prsP_of {l : List D} {k : List (Key × D) → Prop} {kvs : List (Key × D)} (e : l = kvs.map prOf) (h : k kvs) : prsP l k := by unfold prsP; exact ⟨kvs, e, h⟩
def dicD : F1 := fun x S P => lstP x S fun l => prsP l fun kvs => P (.obj S.length) (S ++ [.dK (mergeD [] kvs)])
def rDicP (K : PySem.W.Frag) : List V → Hp → VK → Prop := fun xs H Q => ∃ (a : Addr) (ps : List Addr) (kvs : List (Key × V)), xs = [.ref a] ∧ SqL K H a (ps.map V.ref) ∧ Paired (fun p kv => SqT K H p [kV kv.1, kv.2]) ps kvs ∧
    ∀ p, H p = none → Q (.ref p) (upd H p (.dK (mergeK [] kvs)))
theorem keyOfK_inv {K : KX} {ι : List Addr} {H : Hp} {v : V} {k : Key} (h : VR K ι H v (keyOfK k)) : v = kV k := by
  cases k with
  | inl i => cases h; rfl
  | inr s => cases h; rfl
theorem prs_pairs {K : KX} {ι : List Addr} {H : Hp} : ∀ {kvs : List (Key × D)} {vs : List V}, VRs K ι H vs (kvs.map prOf) → ∃ (ps : List Addr) (ws : List (Key × V)), vs = ps.map V.ref ∧ Paired (fun p kv => SqT K.f H p [kV kv.1, kv.2]) ps ws ∧ Prs K ι H ws kvs
  | [], _, h => by cases h; exact ⟨[], [], rfl, .nil, rfl, .nil⟩
  | kv :: kvs, _, h => by
    cases h with
    | cons h1 h2 =>
      obtain ⟨ps, ws, rfl, g, q⟩ := prs_pairs h2
      unfold prOf at h1
      cases h1 with
      | tup e1 e2 =>
        obtain ⟨u, y, rfl, r1, r2⟩ := e2.two
        have := keyOfK_inv r1
        subst this
        exact ⟨_ :: ps, (kv.1, y) :: ws, rfl, .cons (.of e1) g, by simp [q.1], .cons r2 q.2⟩
theorem dicA {K : KX} : CallA K (rDicP K.f) (ar1 dicD) := callA1 fun ι H S x d P Q R rx h k => by
  unfold dicD at h
  obtain ⟨a, vs, ds, rfl, hs, hv, h⟩ := lstP_out R rx h
  unfold prsP at h
  obtain ⟨kvs, rfl, h⟩ := h
  obtain ⟨ps, ws, rfl, g, q⟩ := prs_pairs hv
  refine ⟨a, ps, ws, rfl, hs, g, fun p hp => ?_⟩
  obtain ⟨e2, r2, v2⟩ := new_dK R hp (Prs.merge (kvs := []) (k' := []) q ⟨rfl, .nil⟩)
  exact k _ _ _ _ _ e2 r2 v2 h
theorem c_dic {X : Cx} (hc : X.calm = true) : CallR X (.type "dict") (rDicP X.K) := call_dictP hc
/-! ### list(range(..)), tuple(range(..)) -/
def rgOk (a b : Int) : Prop := -1000000 ≤ a ∧ a ≤ 1000000 ∧ -1000000 ≤ b ∧ b ≤ 1000000
theorem RgOk.by {a b : Int} (h : rgOk a b) : RgOk a b := by
  obtain ⟨h1, h2, h3, h4⟩ := h
  exact ⟨by omega, by omega, by omega, by omega, by omega⟩
def aRgL1 (x : AE) : AE := fun a S P => x a S fun d S1 => match d with | .int j => rgOk 0 j ∧ P (.obj S1.length) (S1 ++ [.lst (rgItems 0 j.toNat)]) | _ => False
def aRgL2 (x y : AE) : AE := fun a S P => x a S fun d S1 => y a S1 fun e S2 => match d with | .int i => (match e with | .int j => rgOk i j ∧ P (.obj S2.length) (S2 ++ [.lst (rgItems i (j - i).toNat)]) | _ => False) | _ => False
def aRgT1 (x : AE) : AE := fun a S P => x a S fun d S1 => match d with | .int j => rgOk 0 j ∧ P (.tup (rgItems 0 j.toNat)) S1 | _ => False
def aRgT2 (x y : AE) : AE := fun a S P => x a S fun d S1 => y a S1 fun e S2 => match d with | .int i => (match e with | .int j => rgOk i j ∧ P (.tup (rgItems i (j - i).toNat)) S2 | _ => False) | _ => False
theorem rg_vrs {K : KX} {ι : List Addr} {H : Hp} (a b : Int) : VRs K ι H (rgV a b) (rgItems a (b - a).toNat) := by
  have e : rgV a b = ((List.range (b - a).toNat).map fun i => a + (i : Nat)).map V.int := by unfold rgV; rw [List.map_map]; rfl
  have e2 : rgItems a (b - a).toNat = ((List.range (b - a).toNat).map fun i => a + (i : Nat)).map D.int := by
    apply List.ext_getElem?
    intro i
    by_cases h : i < (b - a).toNat
    · rw [rgItems_get h]
      simp [h]
    · rw [List.getElem?_eq_none (by rw [rgItems_len]; omega), List.getElem?_eq_none (by simp; omega)]
  rw [e, e2]
  exact VRs.of_ints _
section
variable {X : Cx} {B : Bs} {x y : AE} {e e2 : Expr} {p p2 pos pos2 : Pos}
theorem a_rgL1 (hc : X.calm = true) (hm : X.mg "list" = none) (hm2 : X.mg "range" = none) (hx : PE X e (eOf (kx X) B x)) (hg : Gl X "list" := by rfl) (hg2 : Gl X "range" := by rfl) (na : starEach [Expr.Call (.Name "range" p2) [e] [] pos2] X.env = (false, eval (Expr.Call (.Name "range" p2) [e] [] pos2) X.env) :: starEach [] X.env := by rfl)
    (na2 : starEach [e] X.env = (false, eval e X.env) :: starEach [] X.env := by rfl) :
    PE X (.Call (.Name "list" p) [.Call (.Name "range" p2) [e] [] pos2] [] pos) (eOf (kx X) B (aRgL1 x)) := by
  refine PE.imp (pe_listRg hc hg hm (prg_1 hg2 hm2 hx na2) na) fun σ H Q h => ?_
  obtain ⟨ι, a, S, P, g, h, k⟩ := h
  refine ⟨ι, a, S, _, g, h, fun ι1 H1 v d S1 e1 r1 v1 h1 => ?_⟩
  cases v1 with
  | int j =>
    obtain ⟨ok, h1⟩ := h1
    refine ⟨j, rfl, RgOk.by ok, fun q hq => ?_⟩
    obtain ⟨e2, r2, v2⟩ := new_lst r1 hq (rg_vrs 0 j)
    rw [Int.sub_zero] at r2
    exact k _ _ _ _ _ (e1.trans e2) r2 v2 h1
  | _ => exact h1.elim
theorem a_rgL2 (hc : X.calm = true) (hm : X.mg "list" = none) (hm2 : X.mg "range" = none) (hx : PE X e (eOf (kx X) B x)) (hy : PE X e2 (eOf (kx X) B y)) (hg : Gl X "list" := by rfl) (hg2 : Gl X "range" := by rfl) (na : starEach [Expr.Call (.Name "range" p2) [e, e2] [] pos2] X.env = (false, eval (Expr.Call (.Name "range" p2) [e, e2] [] pos2) X.env) :: starEach [] X.env := by rfl)
    (na2 : starEach [e, e2] X.env = (false, eval e X.env) :: starEach [e2] X.env := by rfl) (nb : starEach [e2] X.env = (false, eval e2 X.env) :: starEach [] X.env := by rfl) (hp : (backTo pos2 (starEach [e2] X.env)).any (·.1) = false := by rfl) :
    PE X (.Call (.Name "list" p) [.Call (.Name "range" p2) [e, e2] [] pos2] [] pos) (eOf (kx X) B (aRgL2 x y)) := by
  refine PE.imp (pe_listRg hc hg hm (prg_2 hg2 hm2 hx hy na2 nb hp) na) fun σ H Q h => ?_
  obtain ⟨ι, a, S, P, g, h, k⟩ := h
  refine ⟨ι, a, S, _, g, h, fun ι1 H1 v d S1 e1 r1 v1 h1 => ?_⟩
  refine ⟨ι1, a, S1, _, g.go e1 r1, h1, fun ι2 H2 u z S2 e2 r2 v2 h2 => ?_⟩
  cases v1 with
  | int i =>
    cases v2 with
    | int j =>
      obtain ⟨ok, h2⟩ := h2
      refine ⟨i, j, rfl, rfl, RgOk.by ok, fun q hq => ?_⟩
      obtain ⟨e3, r3, v3⟩ := new_lst r2 hq (rg_vrs i j)
      exact k _ _ _ _ _ ((e1.trans e2).trans e3) r3 v3 h2
    | _ => exact h2.elim
  | _ => exact h2.elim
theorem a_rgT1 (hc : X.calm = true) (hm : X.mg "tuple" = none) (hm2 : X.mg "range" = none) (hx : PE X e (eOf (kx X) B x)) (hg : Gl X "tuple" := by rfl) (hg2 : Gl X "range" := by rfl) (na : starEach [Expr.Call (.Name "range" p2) [e] [] pos2] X.env = (false, eval (Expr.Call (.Name "range" p2) [e] [] pos2) X.env) :: starEach [] X.env := by rfl)
    (na2 : starEach [e] X.env = (false, eval e X.env) :: starEach [] X.env := by rfl) :
    PE X (.Call (.Name "tuple" p) [.Call (.Name "range" p2) [e] [] pos2] [] pos) (eOf (kx X) B (aRgT1 x)) := by
  refine PE.imp (pe_tupRg hc hg hm (prg_1 hg2 hm2 hx na2) na) fun σ H Q h => ?_
  obtain ⟨ι, a, S, P, g, h, k⟩ := h
  refine ⟨ι, a, S, _, g, h, fun ι1 H1 v d S1 e1 r1 v1 h1 => ?_⟩
  cases v1 with
  | int j =>
    obtain ⟨ok, h1⟩ := h1
    refine ⟨j, rfl, RgOk.by ok, fun q hq => ?_⟩
    have hv := rg_vrs (K := kx X) (ι := ι1) (H := H1) 0 j
    rw [Int.sub_zero] at hv
    obtain ⟨e2, r2, v2⟩ := new_tup r1 hq hv
    exact k _ _ _ _ _ (e1.trans e2) r2 v2 h1
  | _ => exact h1.elim
theorem a_rgT2 (hc : X.calm = true) (hm : X.mg "tuple" = none) (hm2 : X.mg "range" = none) (hx : PE X e (eOf (kx X) B x)) (hy : PE X e2 (eOf (kx X) B y)) (hg : Gl X "tuple" := by rfl) (hg2 : Gl X "range" := by rfl) (na : starEach [Expr.Call (.Name "range" p2) [e, e2] [] pos2] X.env = (false, eval (Expr.Call (.Name "range" p2) [e, e2] [] pos2) X.env) :: starEach [] X.env := by rfl)
    (na2 : starEach [e, e2] X.env = (false, eval e X.env) :: starEach [e2] X.env := by rfl) (nb : starEach [e2] X.env = (false, eval e2 X.env) :: starEach [] X.env := by rfl) (hp : (backTo pos2 (starEach [e2] X.env)).any (·.1) = false := by rfl) :
    PE X (.Call (.Name "tuple" p) [.Call (.Name "range" p2) [e, e2] [] pos2] [] pos) (eOf (kx X) B (aRgT2 x y)) := by
  refine PE.imp (pe_tupRg hc hg hm (prg_2 hg2 hm2 hx hy na2 nb hp) na) fun σ H Q h => ?_
  obtain ⟨ι, a, S, P, g, h, k⟩ := h
  refine ⟨ι, a, S, _, g, h, fun ι1 H1 v d S1 e1 r1 v1 h1 => ?_⟩
  refine ⟨ι1, a, S1, _, g.go e1 r1, h1, fun ι2 H2 u z S2 e2 r2 v2 h2 => ?_⟩
  cases v1 with
  | int i =>
    cases v2 with
    | int j =>
      obtain ⟨ok, h2⟩ := h2
      refine ⟨i, j, rfl, rfl, RgOk.by ok, fun q hq => ?_⟩
      obtain ⟨e3, r3, v3⟩ := new_tup r2 hq (rg_vrs i j)
      exact k _ _ _ _ _ ((e1.trans e2).trans e3) r3 v3 h2
    | _ => exact h2.elim
  | _ => exact h2.elim
end
/-! ### l.count(x) -/
@[irreducible] def cntPy (x : D) (l : List D) (S : Sto) (P : D → Sto → Prop) : Prop := ∃ p ps, Py S x p ∧ Pys S l ps ∧ SeqAt.shaped p = true ∧ SeqAt.shaped (.list ps) = true ∧ P (.int (ps.countP fun z => PyData.eqv z p : Nat)) S
theorem cntPy_of {x : D} {l : List D} {S : Sto} {P : D → Sto → Prop} {p : PyData} {ps : List PyData} (h1 : Py S x p) (h2 : Pys S l ps) (s1 : SeqAt.shaped p = true) (s2 : SeqAt.shaped (.list ps) = true) (h : P (.int (ps.countP fun z => PyData.eqv z p : Nat)) S) : cntPy x l S P := by
  unfold cntPy; exact ⟨p, ps, h1, h2, s1, s2, h⟩
def cntD : FM := fun x ds S P => match x with
  | .obj n => (match ds with | [e] => rdL S n fun l => cntPy e l S P | _ => False)
  | _ => False
def rCntD (K : PySem.W.Frag) : V → List V → Hp → VK → Prop := fun x xs H Q => ∃ (a : Addr) (v : V) (vs : List V) (p : PyData) (ps : List PyData), x = .ref a ∧ xs = [v] ∧ SqL K H a vs ∧ DpAll K H vs ps ∧ Dp K H v p ∧ SeqAt.shaped p = true ∧ SeqAt.shaped (.list ps) = true ∧ Q (.int (ps.countP fun z => PyData.eqv z p : Nat)) H
theorem mtl_count {X : Cx} {k : Nat} (hr : RmU k X.A) : MtR X "list.count" (rCntD X.K) := by
  have hu : X.A.units + 65 < cLine := by have := hr.un; omega
  intro pins s σ H x xs v us Q I rx rxs h
  obtain ⟨a, v0, vs, p, ps, rfl, rfl, hs, hd, hp, s1, s2, q⟩ := h
  cases rx
  obtain ⟨u, rfl, ru⟩ := rxs.one
  obtain ⟨its, rv, pl, hz⟩ := I.list hs
  obtain ⟨as, ra⟩ := Dp.readsAll I ps vs its hd rv
  obtain ⟨bs, rb⟩ := Dp.reads I p v0 u hp ru
  unfold SeqAt.shaped at s1 s2
  rw [Bool.and_eq_true] at s1 s2
  have l2 : (PyData.canLay0 (.list ps)) = true := s2.1
  simp only [PyData.canLay0] at l2
  have d1 := of_decide_eq_true s1.2
  exact PySem.SeqAt.count_list_data pl.isList (by simpa using ra) rb (PyData.plainAll_of_canLay0 ps l2) (PyData.plain_of_canLay0 p s1.1) (by omega) ⟨.int _, H, I.tok _, ⟨s.toks, rfl⟩, q⟩
theorem cntA {K : KX} : MtA K (rCntD K.f) cntD := by
  intro ι H S x xs d ds P Q R rx rs h k
  cases rx with
  | obj e1 =>
    match ds, rs, h with
    | [e], rs, h =>
      obtain ⟨v, rfl, rv⟩ := rs.one
      obtain ⟨l, e2, h⟩ := rdL_out h
      obtain ⟨vs, q1, q2⟩ := R.ob _ _ _ e1 e2
      unfold cntPy at h
      obtain ⟨p, ps, g1, g2, s1, s2, h⟩ := h
      exact ⟨_, v, vs, p, ps, rfl, rfl, .of q1, Pys.dp R ps _ _ g2 q2, Py.dp R p _ _ g1 rv, s1, s2, k _ _ _ _ _ .refl R (.int _) h⟩
  | _ => exact h.elim
/-! ### defs with defaults -/
def OkD (P : Program) (w : World) (K : PySem.W.Frag) (mg : Str → Option Value) (base : Heap) (k : Nat) (x : Str) (st : Stmt) (ps : List Str) (dvs : List V) (sp : FN) : Prop :=
  ∃ fd, FunD K x x (defArgs st) (defBody st) (defScope st) dvs [] (He.ga K x) fd ∧ AOk P w K mg base k (He.ga K x) fd ps sp
/-- how a call of a def with dn defaults binds -/
def KwOkD (x : Str) (st : Stmt) (ps : List Str) (dn n : Nat) (ks : List Str) (p : List Nat) : Prop := ∀ (T : Addr) (kV doc pm : Value) (an : Option Addr) (cdv ct : Value) (us its ws : List Value), us.length = n → its.length = dn → ws.length = ks.length →
  ∃ k, bindArgs (PySem.W.fnOf x x (defArgs st) (defBody st) (defScope st) (.ref T) kV doc pm an cdv ct) ⟨us, ks.zip ws⟩ = seqItems? (.ref T) >>= k ∧ k (some its.toArray) = pure (ps.zip (kperm p us (its ++ ws)))
theorem kbn_dfl {K : PySem.W.Frag} {x : Str} {st : Stmt} {f : Addr} {fd : FuncData} {ps ks : List Str} {dvs : List V} {n dn : Nat} {p : List Nat} (F : FunD K x x (defArgs st) (defBody st) (defScope st) dvs [] f fd) (hd : dvs ≠ []) (hl : dvs.length = dn) (h : KwOkD x st ps dn n ks p) :
    ∃ its : List Value, KBn K fd ps n ks (fun us ws => kperm p us (its ++ ws)) (fun vs zs => kperm p vs (dvs ++ zs)) := by
  obtain ⟨oc, od, dV, kV, doc, pm, an, cdv, ct, osl, rfl, lk, hcd, hD, hK⟩ := F.ex
  rcases hD with ⟨e, _⟩ | ⟨_, T, o, its, m, rfl, lT, oT, rT⟩
  · exact absurd e hd
  · refine ⟨its, ⟨fun s us ws X l1 l2 => ?_, fun r1 r2 => kperm_vals r1 (rT.append r2)⟩⟩
    obtain ⟨k, e1, e2⟩ := h T kV doc pm an cdv ct us its ws l1 (rT.length.symm.trans hl) l2
    refine BindsTo.of_looks fun M => ?_
    rw [e1]
    exact looks_items X lT oT (.of_pure e2)
def aCallD (sp : FN) (q : List Nat) (dds : List D) (n m : Nat) (z zk : AA) : AE := fun a S P => z a S fun ds S1 => zk a S1 fun es S2 => ds.length = n ∧ es.length = m ∧ sp (kperm q ds (dds ++ es)) S2 P
section
variable {X : Cx} {B : Bs} {st : Stmt} {ps ks : List Str} {dvs : List V} {dds : List D} {sp : FN} {n : Str} {p pos : Pos} {e : Expr} {es : List Expr} {kws : List Keyword} {z zk : AA} {k : Nat} {q : List Nat} {m j dn : Nat}
theorem callD_of' {σ : L2.St} {H : Hp} {Q : VK} (hd : ∀ ι H, VRs (kx X) ι H dvs dds) (hj : ks.length = j) (h : eOf (kx X) B (aCallD sp q dds m j z zk) σ H Q) : tCallN m ks.length (spOf (kx X) sp) (fun vs zs => kperm q vs (dvs ++ zs)) E0 (aOf (kx X) B z) (aOf (kx X) B zk) σ H Q := by
  obtain ⟨ι, a, S, P, g, h, k⟩ := h
  refine ⟨ι, a, S, _, g, h, fun ι1 H1 vs ds S1 e1 r1 v1 h1 => ?_⟩
  refine ⟨ι1, a, S1, _, g.go e1 r1, h1, fun ι2 H2 ws es S2 e2 r2 v2 ⟨l1, l2, h2⟩ => ?_⟩
  exact ⟨v1.length.trans l1, (v2.length.trans l2).trans hj.symm, ι2, _, S2, P, r2, kperm_vrs (v1.up e2) ((hd _ _).append v2), h2, fun ι' H' v d S' e3 r3 v3 h3 => k _ _ _ _ _ ((e1.trans e2).trans e3) r3 v3 h3⟩
theorem a_callD (F : OkD X.prog X.w X.K X.mg X.base k n st ps dvs sp) (hr : Room k X.A) (hm : X.mg n = some (.ref (He.ga X.K n))) (hne : dvs ≠ []) (hl : dvs.length = dn) (hd : ∀ ι H, VRs (kx X) ι H dvs dds) (hb : KwOkD n st ps dn m ks q) (hj : ks.length = j) (ha : PA X (e :: es) (aOf (kx X) B z)) (hkw : PK X kws (aOf (kx X) B zk)) (hg : Gl X n := by rfl)
    (hall : (backToKw pos (keywordEach kws X.env)).all (·.1.isSome) = true := by rfl) (hks : (backToKw pos (keywordEach kws X.env)).filterMap (·.1) = ks := by rfl)
    (hdb : (n == ("__debug__" : Str)) = false := by decide) (he : starEach (e :: es) X.env = (false, eval e X.env) :: starEach es X.env := by rfl)
    (hpl : ((backTo pos (starEach (e :: es) X.env)).any (·.1) || (backToKw pos (keywordEach kws X.env)).any (·.1.isNone)) = false := by rfl) :
    PE X (.Call (.Name n p) (e :: es) kws pos) (eOf (kx X) B (aCallD sp q dds m j z zk)) := by
  obtain ⟨fd, F1, F2⟩ := F
  obtain ⟨its, hb'⟩ := kbn_dfl F1 hne hl hb
  exact PE.imp (pe_callN F2 hr hg hm F1.kp hb' pass0 ha hkw hall hks hdb he hpl) fun σ H Q h => callD_of' hd hj h
theorem a_callD0 (F : OkD X.prog X.w X.K X.mg X.base k n st ps dvs sp) (hr : Room k X.A) (hm : X.mg n = some (.ref (He.ga X.K n))) (hne : dvs ≠ []) (hl : dvs.length = dn) (hd : ∀ ι H, VRs (kx X) ι H dvs dds) (hb : KwOkD n st ps dn 0 ks q) (hj : ks.length = j) (hkw : PK X kws (aOf (kx X) B zk)) (hg : Gl X n := by rfl)
    (hall : (backToKw pos (keywordEach kws X.env)).all (·.1.isSome) = true := by rfl) (hks : (backToKw pos (keywordEach kws X.env)).filterMap (·.1) = ks := by rfl)
    (hdb : (n == ("__debug__" : Str)) = false := by decide)
    (hpl : ((backTo pos (starEach [] X.env)).any (·.1) || (backToKw pos (keywordEach kws X.env)).any (·.1.isNone)) = false := by rfl) :
    PE X (.Call (.Name n p) [] kws pos) (eOf (kx X) B (aCallD sp q dds 0 j aNil zk)) := by
  obtain ⟨fd, F1, F2⟩ := F
  obtain ⟨its, hb'⟩ := kbn_dfl F1 hne hl hb
  refine PE.imp (pe_callN0 F2 hr hg hm F1.kp hb' pass0 hkw hall hks hdb hpl) fun σ H Q h => ?_
  obtain ⟨ι, a, S, P, g, h, k⟩ := h
  refine ⟨ι, a, S, _, g, h, fun ι2 H2 ws es S2 e2 r2 v2 ⟨l1, l2, h2⟩ => ?_⟩
  exact ⟨rfl, (v2.length.trans l2).trans hj.symm, ι2, _, S2, P, r2, kperm_vrs (vs := []) (us := []) .nil ((hd _ _).append v2), h2, fun ι' H' v d S' e3 r3 v3 h3 => k _ _ _ _ _ (e2.trans e3) r3 v3 h3⟩
end
theorem okd_of {P : Program} {w : World} {K : PySem.W.Frag} {mg : Str → Option Value} {base : Heap} {x : Str} {st : Stmt} {N ps : List Str} {dvs : List V} {k n : Nat} {sp : FN} {as : AX} {fd : FuncData} (F : FunD K x x (defArgs st) (defBody st) (defScope st) dvs [] (He.ga K x) fd) (C : FnScope N ps (defScope st)) (len : Ar ps.length sp) (hn : N.length = n)
    (hbody : ∀ (cdv : Value) (A : Around) (outer : List Env) (s : Shared) (H : Hp) (E : XK) (B : Bs), Room k (A.deeper (PyProof.Rows.envOfC x (defScope st) s.heap.objs.size (He.ga K x) cdv)) →
      PSs (cxOf CX0 P w K mg base N x (defScope st) (He.ga K x) cdv A outer s H E).nox (defBody st) (sOf ⟨K, P, w⟩ B as))
    (hsem : ∀ ds S P, sp ds S P → as { nx := fun _ S' => P .non S', rt := P } (aStart n ds) S) : OkD P w K mg base (k + 1) x st ps dvs sp := by
  refine ⟨fd, F, ?_⟩
  refine F.ok C (fun vs H Q E h => ?_) (fun cdv A outer s H vs Q E hr h => ?_)
  · obtain ⟨ι, ds, S, P, _, v, h, _⟩ := h
    rw [v.length]
    exact len _ _ _ h
  · obtain ⟨ι, ds, S, Pq, r, v, h, k⟩ := h
    refine ⟨_, (hbody cdv A outer s H E ⟨ι, H, fun _ _ _ _ => False⟩ hr).nox, ?_⟩
    refine ⟨ι, aStart n ds, S, _, ⟨.refl, r, ?_⟩, hsem ds S Pq h, ⟨fun ι' H' σ' a' S' e1 r1 _ h1 => k _ _ _ _ _ e1 r1 .non h1, fun ι' H' v d S' e1 r1 v1 h1 => k _ _ _ _ _ e1 r1 v1 h1, fun _ _ _ _ _ _ _ _ h1 => h1, fun _ _ _ _ _ _ _ _ h1 => h1, fun _ _ _ _ _ _ _ _ _ _ _ _ _ _ h1 => h1⟩⟩
    show SR ⟨K, P, w⟩ ι H (vs.map some ++ List.replicate (N.length - vs.length) none) (aStart n ds)
    unfold aStart
    rw [v.length, hn]
    exact sr_start _ v
/-! ### empty tuples as defaults -/
def emB (K : PySem.W.Frag) (a : Addr) : Bool := match K.lookup a with
  | some ⟨.type c, _, .seq its _, _⟩ => decide (c = "tuple") && its.toList.isEmpty
  | _ => false
theorem emB_ok {K : KX} {a : Addr} (h : emB K.f a = true) : KTu K a [] := by
  unfold emB at h
  cases q : K.f.lookup a with
  | none => rw [q] at h; cases h
  | some o =>
    obtain ⟨oc, od, dt, osl⟩ := o
    rw [q] at h
    cases oc with
    | type c =>
      cases dt with
      | seq its n =>
        have h : (decide (c = "tuple") && its.toList.isEmpty) = true := h
        rw [Bool.and_eq_true] at h
        have he : its.toList = [] := List.isEmpty_iff.mp h.2
        have hs : its.size = 0 := by rw [← Array.length_toList, he]; rfl
        exact ⟨_, its, n, q, congrArg Value.type (of_decide_eq_true h.1), rfl, by omega, by rw [he]; exact .nil⟩
      | _ => cases h
    | _ => cases dt <;> cases h
abbrev dV (x : Str) (i : Nat) (K : PySem.W.Frag) : Addr := He.dflAt (x, none) i K
structure TxtE (gl fr : List Str) (is : List (Str × Int)) (es : List (Str × Nat)) (K : PySem.W.Frag) (mg : Str → Option Value) : Prop extends Txt gl fr is K mg where
  em : ∀ (i : Nat) {x : Str} {j : Nat}, es[i]? = some (x, j) → emB K (dV x j K) = true
theorem em_rel {X : Cx} {x : Str} {j : Nat} (h : emB X.K (dV x j X.K) = true) : ∀ ι H, VRs (kx X) ι H [.ref (dV x j X.K)] [.ktp []] := fun ι H => .cons (.ktp (emB_ok (K := kx X) h) .nil) .nil
/-! ### the hook with more facts -/
abbrev AlE : Type := He.AlD × Bool
def obsE (n : Nat) (fa : List He.Fa) (fn : List He.DefD) (ex : PySem.W.Frag → Bool) (g : Addr → Option Obj) : AlE := (He.obsD fa fn (He.frG g (He.asD g n)), ex (He.frG g (He.asD g n)))
structure SaysE (fa : List He.Fa) (fn : List He.DefD) (ex : PySem.W.Frag → Bool) (K : PySem.W.Frag) : Prop where
  d : He.SaysD fa fn K
  x : ex K = true
def hookE (n : Nat) (fa : List He.Fa) (fn : List He.DefD) (ex : PySem.W.Frag → Bool) : PySem.W.Hook where
  α := AlE
  obs := fun s => obsE n fa fn ex s.heap.get?
  val := fun _ => (He.valD fn, true)
  says := fun _ h => ∃ K : PySem.W.Frag, K.In h ∧ SaysE fa fn ex K
  of := fun _ _ e => ⟨_, He.frG_in, ⟨congrArg (fun z : AlE => z.1) e, congrArg (fun z : AlE => z.2) e⟩⟩
  keeps := fun _ _ _ ⟨K, hK, c⟩ k => ⟨K, PySem.W.Frag.In.keeps hK k, c⟩
theorem obsE_eq {n : Nat} {fa : List He.Fa} {fn : List He.DefD} {ex : PySem.W.Frag → Bool} {g : Addr → Option Obj} {s : Shared} (h : ∀ a, g a = s.heap.get? a) : obsE n fa fn ex g = (hookE n fa fn ex).obs s := by
  have e : g = s.heap.get? := funext h
  rw [e] <;> rfl
def exE (es : List (Str × Nat)) (K : PySem.W.Frag) : Bool := es.all fun p => emB K (dV p.1 p.2 K)
theorem txtE_of {gl fr : List Str} {is : List (Str × Int)} {es : List (Str × Nat)} {fn : List He.DefD} {K : PySem.W.Frag} {h : Heap} {mg : Str → Option Value} (X : K.In h) (G : h.Ns mainGlobals mg) (c : SaysE (faOf gl fr is) fn (exE es) K) : TxtE gl fr is es K mg where
  toTxt := txt_of X G c.d
  em := fun i x j e => List.all_eq_true.mp c.x (x, j) (List.mem_of_getElem? e)
end Ab

/-! instances of the program's own classes -/
namespace Ab
open PySem PySem.Spec PyProof.Rows L2
section
variable {K : KX} {ι : List Addr} {H : Hp}
theorem fld_look : ∀ {fs : List (Str × D)} {ws : List (Str × V)}, ws.map (·.1) = fs.map (·.1) → VRs K ι H (ws.map (·.2)) (fs.map (·.2)) → ∀ {f : Str} {d : D}, fs.lookup f = some d → ∃ v, ws.lookup f = some v ∧ VR K ι H v d
  | [], _, _, _, _, _, h => by simp at h
  | _ :: _, [], h, _, _, _, _ => by simp at h
  | p :: fs, q :: ws, e, r, f, d, h => by
    simp only [List.map_cons, List.cons.injEq] at e
    cases r with
    | cons r1 r2 =>
      obtain ⟨p1, p2⟩ := p
      obtain ⟨q1, q2⟩ := q
      have e1 : q1 = p1 := e.1
      subst e1
      rw [List.lookup_cons] at h ⊢
      split at h
      · rename_i hb
        cases h
        exact ⟨q2, rfl, r1⟩
      · exact fld_look e.2 r2 h
theorem fld_none : ∀ {fs : List (Str × D)} {ws : List (Str × V)}, ws.map (·.1) = fs.map (·.1) → ∀ {f : Str}, fs.lookup f = none → ws.lookup f = none
  | [], [], _, _, _ => rfl
  | [], _ :: _, h, _, _ => by simp at h
  | _ :: _, [], h, _, _ => by simp at h
  | p :: fs, q :: ws, e, f, h => by
    simp only [List.map_cons, List.cons.injEq] at e
    obtain ⟨p1, p2⟩ := p
    obtain ⟨q1, q2⟩ := q
    have e1 : q1 = p1 := e.1
    subst e1
    rw [List.lookup_cons] at h ⊢
    split at h
    · cases h
    · exact fld_none e.2 h
def putFD (f : Str) (v : D) : List (Str × D) → List (Str × D)
  | [] => [(f, v)]
  | (g, x) :: r => if g = f then (g, v) :: r else (g, x) :: putFD f v r
theorem fld_put : ∀ {fs : List (Str × D)} {ws : List (Str × V)}, ws.map (·.1) = fs.map (·.1) → VRs K ι H (ws.map (·.2)) (fs.map (·.2)) → ∀ (f : Str) {v : V} {d : D}, VR K ι H v d → (putF f v ws).map (·.1) = (putFD f d fs).map (·.1) ∧ VRs K ι H ((putF f v ws).map (·.2)) ((putFD f d fs).map (·.2))
  | [], [], _, _, f, v, d, h => ⟨rfl, .cons h .nil⟩
  | [], _ :: _, h, _, _, _, _, _ => by simp at h
  | _ :: _, [], h, _, _, _, _, _ => by simp at h
  | p :: fs, q :: ws, e, r, f, v, d, h => by
    simp only [List.map_cons, List.cons.injEq] at e
    cases r with
    | cons r1 r2 =>
      obtain ⟨p1, p2⟩ := p
      obtain ⟨q1, q2⟩ := q
      have e1 : q1 = p1 := e.1
      subst e1
      obtain ⟨i1, i2⟩ := fld_put e.2 r2 f h
      show (if q1 = f then (q1, v) :: ws else (q1, q2) :: putF f v ws).map (·.1) = (if q1 = f then (q1, d) :: fs else (q1, p2) :: putFD f d fs).map (·.1) ∧ VRs K ι H ((if q1 = f then (q1, v) :: ws else (q1, q2) :: putF f v ws).map (·.2)) ((if q1 = f then (q1, d) :: fs else (q1, p2) :: putFD f d fs).map (·.2))
      by_cases hf : q1 = f
      · rw [if_pos hf, if_pos hf]
        exact ⟨by simp only [List.map_cons, e.2], .cons h r2⟩
      · rw [if_neg hf, if_neg hf]
        exact ⟨by simp only [List.map_cons, i1], .cons r1 i2⟩
end
/-! ### e.f -/
structure FlOk (K : PySem.W.Frag) (L : List Str) (f : Str) : Prop where
  ok : ∀ c ∈ L, Cls K (He.ga K c) ∧ NoAttr K (He.ga K c) f
theorem fl_nil {K : PySem.W.Frag} {f : Str} : FlOk K [] f := ⟨fun c h => by simp at h⟩
theorem fl_cons {K : PySem.W.Frag} {L : List Str} {c f : Str} (h1 : Cls K (He.ga K c)) (h2 : NoAttr K (He.ga K c) f) (h : FlOk K L f) : FlOk K (c :: L) f := ⟨fun x hx => by
  rcases List.mem_cons.mp hx with rfl | hx
  · exact ⟨h1, h2⟩
  · exact h.ok x hx⟩
/-- what follows has the field's value -/
@[irreducible] def fldP (fs : List (Str × D)) (f : Str) (k : D → Prop) : Prop := ∃ d, fs.lookup f = some d ∧ k d
theorem fldP_of {fs : List (Str × D)} {f : Str} {d : D} {k : D → Prop} (h : fs.lookup f = some d) (q : k d) : fldP fs f k := by unfold fldP; exact ⟨d, h, q⟩
def aFld (L : List Str) (f : Str) (x : AE) : AE := fun a S P => x a S fun d S1 => match d with
  | .obj n => rdO S1 n fun o => match o with
    | .ins c fs => c ∈ L ∧ fldP fs f fun v => P v S1
    | _ => False
  | _ => False
section
variable {X : Cx} {B : Bs} {e o value : Expr} {pos pos' : Pos} {x y : AE} {L : List Str} {f : Str}
theorem a_fld (hf : FlOk X.K L f) (he : PE X e (eOf (kx X) B x)) (hb : attributeBase e f X.env (eval e X.env) = eval e X.env := by rfl) : PE X (.Attribute e f pos) (eOf (kx X) B (aFld L f x)) := by
  refine PE.imp (pe_fld he hb) fun σ H Q h => ?_
  obtain ⟨ι, a, S, P, g, h, k⟩ := h
  refine ⟨ι, a, S, _, g, h, fun ι1 H1 v d S1 e1 r1 v1 h1 => ?_⟩
  cases v1 with
  | obj q1 =>
    obtain ⟨o, q2, h1⟩ := rdO_out h1
    have ho := r1.ob _ _ _ q1 q2
    cases o with
    | ins c fs =>
      obtain ⟨hc, h1⟩ := h1
      unfold fldP at h1
      obtain ⟨d, hd, h1⟩ := h1
      obtain ⟨dx, ws, a1, a2, a3⟩ := ho
      obtain ⟨v, hv, rv⟩ := fld_look a2 a3 hd
      obtain ⟨c1, c2⟩ := hf.ok c hc
      exact ⟨_, _, _, _, _, rfl, a1, c1, c2, hv, k _ _ _ _ _ e1 r1 rv h1⟩
    | _ => exact h1.elim
  | _ => exact h1.elim
/-- e.f = value -/
def aSetF (L : List Str) (f : Str) (x y : AE) : AX := fun AD a S => y a S fun v S1 => x a S1 fun d S2 => match d with
  | .obj n => rdO S2 n fun o => match o with
    | .ins c fs => c ∈ L ∧ fs.length < 1000 ∧ AD.nx a (S2.set n (.ins c (putFD f v fs)))
    | _ => False
  | _ => False
theorem put_ins {K : KX} {ι : List Addr} {H : Hp} {S : Sto} {n : Nat} {a C dx : Addr} {c : Str} {ws : List (Str × V)} {ds : List (Str × D)} (R : RS K ι H S) (hn : ι[n]? = some a) {u : HO} (q : H a = some u) (hC : C = He.ga K.f c) (hu : ∀ xs, u ≠ .tup xs) (hu2 : ∀ o xs, u ≠ .frz o (.lst xs))
    (h1 : ws.map (·.1) = ds.map (·.1)) (h2 : VRs K ι H (ws.map (·.2)) (ds.map (·.2))) (hx : XO u = false := by rfl) : Ext K ι H ι (upd H a (.ins C dx ws)) ∧ RS K ι (upd H a (.ins C dx ws)) (S.set n (.ins c ds)) := by
  have hm := List.mem_of_getElem? hn
  have e : Ext K ι H ι (upd H a (.ins C dx ws)) := ⟨fun _ _ h => h, fun _ h h' => absurd h h', fun b o hb h => by
      have hne : b ≠ a := fun z => hb (by rw [z]; exact hm)
      rw [upd_ne hne]; exact h, fun b xs h => by
      have hne : b ≠ a := fun z => by rw [z, q] at h; exact hu _ (Option.some.inj h)
      rw [upd_ne hne]; exact h, fun b xs h => by
      rcases h with ⟨o, h⟩ | h
      · have hne : b ≠ a := fun z => by rw [z, q] at h; exact hu2 _ _ (Option.some.inj h)
        exact .inl ⟨o, by rw [upd_ne hne]; exact h⟩
      · exact .inr h, fun b o x h => by
      have hne : b ≠ a := fun z => by
        rw [z, q] at h
        rw [← Option.some.inj h, hx] at x
        cases x
      rw [upd_ne hne]; exact h⟩
  refine ⟨e, by rw [List.length_set]; exact R.len, R.nd, fun m b o z1 z2 => ?_⟩
  by_cases hmn : m = n
  · subst hmn
    have : b = a := Option.some.inj (z1.symm.trans hn)
    subst this
    have hl : m < S.length := by rw [← R.len]; exact (List.getElem?_eq_some_iff.mp hn).1
    rw [List.getElem?_set_self hl] at z2
    cases z2
    subst hC
    exact ⟨dx, ws, upd_same, h1, h2.up e⟩
  · rw [List.getElem?_set_ne (Ne.symm hmn)] at z2
    exact (R.ob m b o z1 z2).up e (upd_ne fun z => hmn (R.nd _ _ _ z1 (z ▸ hn)))
theorem s_setF (hf : FlOk X.K L f) (ho : PE X o (eOf (kx X) B x)) (hv : PE X value (eOf (kx X) B y)) (hs : swapsWith value (some (.Attribute o f pos')) pos.line X.env = pure false := by rfl) : PS X (.Assign [.Attribute o f pos'] value pos) (sOf (kx X) B (aSetF L f x y)) := by
  refine PS.imp (ps_fld ho hv hs) fun D σ H h => ?_
  obtain ⟨ι, a, S, AD, g, h, k⟩ := h
  refine ⟨ι, a, S, _, g, h, fun ι1 H1 v d S1 e1 r1 v1 h1 => ?_⟩
  refine ⟨ι1, a, S1, _, g.go e1 r1, h1, fun ι2 H2 u e S2 e2 r2 v2 h2 => ?_⟩
  cases v2 with
  | obj q1 =>
    obtain ⟨o, q2, h2⟩ := rdO_out h2
    have ho := r2.ob _ _ _ q1 q2
    cases o with
    | ins c fs =>
      obtain ⟨hc, hz, h2⟩ := h2
      obtain ⟨dx, ws, a1, a2, a3⟩ := ho
      obtain ⟨c1, c2⟩ := hf.ok c hc
      obtain ⟨i1, i2⟩ := fld_put a2 a3 f (v1.up e2)
      obtain ⟨e3, r3⟩ := put_ins (dx := dx) (c := c) r2 q1 a1 rfl (fun _ z => by cases z) (fun _ _ z => by cases z) i1 i2
      have hl : ws.length = fs.length := by have := congrArg List.length a2; simpa using this
      refine ⟨_, _, _, _, rfl, a1, c1, c2, by rw [hl]; exact hz, ?_⟩
      exact k.nx _ _ _ _ _ ((e1.trans e2).trans e3) r3 (g.sr.up ((e1.trans e2).trans e3)) h2
    | _ => exact h2.elim
  | _ => exact h2.elim
end
/-! ### C(..) -/
def aMake (c : Str) (sp : FN) (q : List Nat) (dds : List D) (n m : Nat) (z zk : AA) : AE := fun a S P => z a S fun ds S1 => zk a S1 fun es S2 => ds.length = n ∧ es.length = m ∧
  sp (kperm q (.obj S2.length :: ds) (dds ++ es)) (S2 ++ [.ins c []]) fun d S3 => d = .non ∧ P (.obj S2.length) S3
/-- a method, with its promise -/
def OkM (P : Program) (w : World) (K : PySem.W.Frag) (mg : Str → Option Value) (base : Heap) (k : Nat) (c m : Str) (x qual : Str) (st : Stmt) (ps : List Str) (dvs : List V) (sp : FN) : Prop :=
  ∃ fd, FunD K x qual (defArgs st) (defBody st) (defScope st) dvs [] (He.ma K (He.ga K c) m) fd ∧ AOk P w K mg base k (He.ma K (He.ga K c) m) fd ps sp
/-- how a method's call binds: no defaults | dn of them -/
theorem kbn_m {K : PySem.W.Frag} {x qual : Str} {st : Stmt} {f : Addr} {fd : FuncData} {ps ks : List Str} {n : Nat} {p : List Nat} (F : FunD K x qual (defArgs st) (defBody st) (defScope st) [] [] f fd)
    (h : ∀ (kV doc pm : Value) (an : Option Addr) (cdv ct : Value) (us ws : List Value), us.length = n → ws.length = ks.length → bindArgs (PySem.W.fnOf x qual (defArgs st) (defBody st) (defScope st) .none kV doc pm an cdv ct) ⟨us, ks.zip ws⟩ = pure (ps.zip (kperm p us ws))) :
    KBn K fd ps n ks (fun us ws => kperm p us ([] ++ ws)) (fun vs zs => kperm p vs ([] ++ zs)) := by
  obtain ⟨oc, od, dV, kV, doc, pm, an, cdv, ct, osl, rfl, lk, hcd, hD, hK⟩ := F.ex
  rcases hD with ⟨_, rfl⟩ | ⟨e, _⟩
  · exact ⟨fun s us ws _ l1 l2 => .of_eq (h kV doc pm an cdv ct us ws l1 l2), fun r1 r2 => kperm_vals r1 r2⟩
  · exact absurd rfl e
def KwOkM (x qual : Str) (st : Stmt) (ps : List Str) (n : Nat) (ks : List Str) (p : List Nat) : Prop := ∀ (kV doc pm : Value) (an : Option Addr) (cdv ct : Value) (us ws : List Value), us.length = n → ws.length = ks.length →
  bindArgs (PySem.W.fnOf x qual (defArgs st) (defBody st) (defScope st) .none kV doc pm an cdv ct) ⟨us, ks.zip ws⟩ = pure (ps.zip (kperm p us ws))
def KwOkMD (x qual : Str) (st : Stmt) (ps : List Str) (dn n : Nat) (ks : List Str) (p : List Nat) : Prop := ∀ (T : Addr) (kV doc pm : Value) (an : Option Addr) (cdv ct : Value) (us its ws : List Value), us.length = n → its.length = dn → ws.length = ks.length →
  ∃ k, bindArgs (PySem.W.fnOf x qual (defArgs st) (defBody st) (defScope st) (.ref T) kV doc pm an cdv ct) ⟨us, ks.zip ws⟩ = seqItems? (.ref T) >>= k ∧ k (some its.toArray) = pure (ps.zip (kperm p us (its ++ ws)))
theorem kbn_md {K : PySem.W.Frag} {x qual : Str} {st : Stmt} {f : Addr} {fd : FuncData} {ps ks : List Str} {dvs : List V} {n dn : Nat} {p : List Nat} (F : FunD K x qual (defArgs st) (defBody st) (defScope st) dvs [] f fd) (hd : dvs ≠ []) (hl : dvs.length = dn) (h : KwOkMD x qual st ps dn n ks p) :
    ∃ its : List Value, KBn K fd ps n ks (fun us ws => kperm p us (its ++ ws)) (fun vs zs => kperm p vs (dvs ++ zs)) := by
  obtain ⟨oc, od, dV, kV, doc, pm, an, cdv, ct, osl, rfl, lk, hcd, hD, hK⟩ := F.ex
  rcases hD with ⟨e, _⟩ | ⟨_, T, o, its, m, rfl, lT, oT, rT⟩
  · exact absurd e hd
  · refine ⟨its, ⟨fun s us ws X l1 l2 => ?_, fun r1 r2 => kperm_vals r1 (rT.append r2)⟩⟩
    obtain ⟨k, e1, e2⟩ := h T kV doc pm an cdv ct us its ws l1 (rT.length.symm.trans hl) l2
    refine BindsTo.of_looks fun M => ?_
    rw [e1]
    exact looks_items X lT oT (.of_pure e2)
section
variable {X : Cx} {B : Bs} {st : Stmt} {ps ks : List Str} {dvs : List V} {dds : List D} {sp : FN} {c x qual : Str} {p pos : Pos} {e : Expr} {es : List Expr} {kws : List Keyword} {z zk : AA} {k : Nat} {q : List Nat} {m j dn : Nat}
theorem made_rs {K : KX} {ι : List Addr} {H : Hp} {S : Sto} (R : RS K ι H S) {x dx : Addr} (hx : H x = none) (hd : H dx = none) (hne : dx ≠ x) (c : Str) :
    Ext K ι H (ι ++ [x]) (upd (upd H dx (.own x)) x (.ins (He.ga K.f c) dx [])) ∧ RS K (ι ++ [x]) (upd (upd H dx (.own x)) x (.ins (He.ga K.f c) dx [])) (S ++ [.ins c []]) ∧ VR K (ι ++ [x]) (upd (upd H dx (.own x)) x (.ins (He.ga K.f c) dx [])) (.ref x) (.obj S.length) := by
  have e1 := ext_fresh (K := K) (o := .own x) hd (R.out hd)
  have R1 : RS K ι (upd H dx (.own x)) S := R.fresh hd
  have hx1 : upd H dx (.own x) x = none := by rw [upd_ne (Ne.symm hne)]; exact hx
  have e2 := ext_new (K := K) (o := .ins (He.ga K.f c) dx []) hx1 (R1.out hx1)
  exact ⟨e1.trans e2, R1.new hx1 ⟨dx, [], upd_same, rfl, .nil⟩, by rw [← R1.len]; exact VR.new⟩
theorem make_of {σ : L2.St} {H : Hp} {Q : VK} (hd : ∀ ι H, VRs (kx X) ι H dvs dds) (hj : ks.length = j) (h : eOf (kx X) B (aMake c sp q dds m j z zk) σ H Q) :
    tMakeN (He.ga X.K c) m ks.length (spOf (kx X) sp) (fun vs zs => kperm q vs (dvs ++ zs)) E0 (aOf (kx X) B z) (aOf (kx X) B zk) σ H Q := by
  obtain ⟨ι, a, S, P, g, h, k⟩ := h
  refine ⟨ι, a, S, _, g, h, fun ι1 H1 vs ds S1 e1 r1 v1 h1 => ?_⟩
  refine ⟨ι1, a, S1, _, g.go e1 r1, h1, fun ι2 H2 ws es S2 e2 r2 v2 ⟨l1, l2, h2⟩ => ?_⟩
  refine ⟨v1.length.trans l1, (v2.length.trans l2).trans hj.symm, fun x dx hx hdx hne => ?_⟩
  obtain ⟨e3, r3, v3⟩ := made_rs r2 hx hdx hne c
  refine ⟨ι2 ++ [x], _, S2 ++ [.ins c []], _, r3, kperm_vrs (.cons v3 ((v1.up e2).up e3)) ((hd _ _).append (v2.up e3)), h2, fun ι' H' v d S' e4 r4 v4 ⟨hn, hp⟩ => ?_⟩
  subst hn
  cases v4
  exact ⟨rfl, k _ _ _ _ _ (((e1.trans e2).trans e3).trans e4) r4 (v3.up e4) hp⟩
theorem a_make (M : Mk X.K (He.ga X.K c) (He.ma X.K (He.ga X.K c) "__init__")) (F : OkM X.prog X.w X.K X.mg X.base k c "__init__" x qual st ps [] sp) (hr : Room (k + 1) X.A) (hm : X.mg c = some (.ref (He.ga X.K c))) (hb : KwOkM x qual st ps (m + 1) ks q) (hj : ks.length = j) (ha : PA X (e :: es) (aOf (kx X) B z)) (hkw : PK X kws (aOf (kx X) B zk)) (hg : Gl X c := by rfl)
    (hall : (backToKw pos (keywordEach kws X.env)).all (·.1.isSome) = true := by rfl) (hks : (backToKw pos (keywordEach kws X.env)).filterMap (·.1) = ks := by rfl)
    (hdb : (c == ("__debug__" : Str)) = false := by decide) (he : starEach (e :: es) X.env = (false, eval e X.env) :: starEach es X.env := by rfl)
    (hpl : ((backTo pos (starEach (e :: es) X.env)).any (·.1) || (backToKw pos (keywordEach kws X.env)).any (·.1.isNone)) = false := by rfl) :
    PE X (.Call (.Name c p) (e :: es) kws pos) (eOf (kx X) B (aMake c sp q [] m j z zk)) := by
  obtain ⟨fd, F1, F2⟩ := F
  exact PE.imp (pe_makeN M F2 hr hg hm (kbn_m F1 hb) pass0 ha hkw hall hks hdb he hpl) fun σ H Q h => make_of (dvs := []) (fun _ _ => .nil) hj h
theorem a_makeD (M : Mk X.K (He.ga X.K c) (He.ma X.K (He.ga X.K c) "__init__")) (F : OkM X.prog X.w X.K X.mg X.base k c "__init__" x qual st ps dvs sp) (hr : Room (k + 1) X.A) (hm : X.mg c = some (.ref (He.ga X.K c))) (hne : dvs ≠ []) (hl : dvs.length = dn) (hd : ∀ ι H, VRs (kx X) ι H dvs dds) (hb : KwOkMD x qual st ps dn (m + 1) ks q) (hj : ks.length = j) (ha : PA X (e :: es) (aOf (kx X) B z)) (hkw : PK X kws (aOf (kx X) B zk)) (hg : Gl X c := by rfl)
    (hall : (backToKw pos (keywordEach kws X.env)).all (·.1.isSome) = true := by rfl) (hks : (backToKw pos (keywordEach kws X.env)).filterMap (·.1) = ks := by rfl)
    (hdb : (c == ("__debug__" : Str)) = false := by decide) (he : starEach (e :: es) X.env = (false, eval e X.env) :: starEach es X.env := by rfl)
    (hpl : ((backTo pos (starEach (e :: es) X.env)).any (·.1) || (backToKw pos (keywordEach kws X.env)).any (·.1.isNone)) = false := by rfl) :
    PE X (.Call (.Name c p) (e :: es) kws pos) (eOf (kx X) B (aMake c sp q dds m j z zk)) := by
  obtain ⟨fd, F1, F2⟩ := F
  obtain ⟨its, hb'⟩ := kbn_md F1 hne hl hb
  exact PE.imp (pe_makeN M F2 hr hg hm hb' pass0 ha hkw hall hks hdb he hpl) fun σ H Q h => make_of hd hj h
end
theorem okm_of {P : Program} {w : World} {K : PySem.W.Frag} {mg : Str → Option Value} {base : Heap} {c m x qual : Str} {st : Stmt} {N ps : List Str} {dvs : List V} {k n : Nat} {sp : FN} {as : AX} {fd : FuncData} (F : FunD K x qual (defArgs st) (defBody st) (defScope st) dvs [] (He.ma K (He.ga K c) m) fd) (C : FnScope N ps (defScope st)) (len : Ar ps.length sp) (hn : N.length = n)
    (hbody : ∀ (cdv : Value) (A : Around) (outer : List Env) (s : Shared) (H : Hp) (E : XK) (B : Bs), Room k (A.deeper (PyProof.Rows.envOfC qual (defScope st) s.heap.objs.size (He.ma K (He.ga K c) m) cdv)) →
      PSs (cxOf CX0 P w K mg base N qual (defScope st) (He.ma K (He.ga K c) m) cdv A outer s H E).nox (defBody st) (sOf ⟨K, P, w⟩ B as))
    (hsem : ∀ ds S P, sp ds S P → as { nx := fun _ S' => P .non S', rt := P } (aStart n ds) S) : OkM P w K mg base (k + 1) c m x qual st ps dvs sp := by
  refine ⟨fd, F, ?_⟩
  refine F.ok C (fun vs H Q E h => ?_) (fun cdv A outer s H vs Q E hr h => ?_)
  · obtain ⟨ι, ds, S, P, _, v, h, _⟩ := h
    rw [v.length]
    exact len _ _ _ h
  · obtain ⟨ι, ds, S, Pq, r, v, h, k⟩ := h
    refine ⟨_, (hbody cdv A outer s H E ⟨ι, H, fun _ _ _ _ => False⟩ hr).nox, ?_⟩
    refine ⟨ι, aStart n ds, S, _, ⟨.refl, r, ?_⟩, hsem ds S Pq h, ⟨fun ι' H' σ' a' S' e1 r1 _ h1 => k _ _ _ _ _ e1 r1 .non h1, fun ι' H' v d S' e1 r1 v1 h1 => k _ _ _ _ _ e1 r1 v1 h1, fun _ _ _ _ _ _ _ _ h1 => h1, fun _ _ _ _ _ _ _ _ h1 => h1, fun _ _ _ _ _ _ _ _ _ _ _ _ _ _ h1 => h1⟩⟩
    show SR ⟨K, P, w⟩ ι H (vs.map some ++ List.replicate (N.length - vs.length) none) (aStart n ds)
    unfold aStart
    rw [v.length, hn]
    exact sr_start _ v
/-! ### isinstance with an own class -/
/-- of no class of the built-in ones; the others' answers -/
structure ClsF (K : PySem.W.Frag) (c : Str) : Prop where
  cls : Cls K (He.ga K c)
  cat : PySem.W.findIn K (.ref (He.ga K c)) "__class__" = some (some (.builtin "object.__class__"))
  get : PySem.W.specialIn K (.builtin "object.__class__") "__get__" = some (some (.builtin "getset_descriptor.__get__"))
  tak : PySem.W.takesIn K (.builtin "object.__class__") = some true
  mro : PySem.W.mroIn K (He.ga K c) (.type "object") = some true
  own : PySem.W.kitOne K (.ref (He.ga K c)) (.ref (He.ga K c)) = some true
  bas : ∀ t : Tg, PySem.W.kitOne K (.type t.name) (.ref (He.ga K c)) = some false
def tgs : List Tg := [.non, .bl, .int, .str, .tup, .lst, .dic]
theorem tgs_all (t : Tg) : t ∈ tgs := by cases t <;> simp [tgs]
def clsB (K : PySem.W.Frag) (c : Str) : Bool := (He.Fa.cls c).ok K && (He.eqO (PySem.W.findIn K (.ref (He.ga K c)) "__class__") (some (some (.builtin "object.__class__"))) && (He.eqO (PySem.W.specialIn K (.builtin "object.__class__") "__get__") (some (some (.builtin "getset_descriptor.__get__")))
  && (decide (PySem.W.takesIn K (.builtin "object.__class__") = some true) && (decide (PySem.W.mroIn K (He.ga K c) (.type "object") = some true) && (decide (PySem.W.kitOne K (.ref (He.ga K c)) (.ref (He.ga K c)) = some true)
  && tgs.all fun t => decide (PySem.W.kitOne K (.type t.name) (.ref (He.ga K c)) = some false))))))
theorem clsF_ok {K : PySem.W.Frag} {c : Str} (h : clsB K c = true) : ClsF K c := by
  unfold clsB at h
  simp only [Bool.and_eq_true, decide_eq_true_eq] at h
  obtain ⟨h1, h2, h3, h4, h5, h6, h7⟩ := h
  exact ⟨He.cls_ok h1, He.eqO_ok h2, He.eqO_ok h3, h4, h5, h6, fun t => of_decide_eq_true (List.all_eq_true.mp h7 t (tgs_all t))⟩
/-- isinstance(x, c0) -/
def isiCD (c0 : Str) : F2 := fun x c S P => match c with
  | .cls c1 => c1 = c0 ∧ (match x with
    | .non => P (.bl false) S
    | .bl _ => P (.bl false) S
    | .int _ => P (.bl false) S
    | .str _ => P (.bl false) S
    | .tup _ => P (.bl false) S
    | .ktp _ => P (.bl false) S
    | .rol _ => P (.bl false) S
    | .obj m => rdO S m fun o => match o with
      | .lst _ => P (.bl false) S
      | .dK _ => P (.bl false) S
      | .dT _ => P (.bl false) S
      | .ins c' _ => c' = c0 ∧ P (.bl true) S
      | _ => False
    | _ => False)
  | _ => False
theorem isiCA {K : KX} {c0 : Str} (hK : ClsF K.f c0) : CallA K (rIsi K.f) (ar2 (isiCD c0)) := callA2 fun ι H S x y d e P Q R rx ry h k => by
  cases e with
  | cls c1 =>
    obtain ⟨rfl, h⟩ := h
    cases ry
    have fin : ∀ {t : Tg}, TyX K.f H x (.type t.name) → P (.bl false) S → rIsi K.f [x, .ref (He.ga K.f c1)] H Q := fun {t} ty hq =>
      ⟨x, _, _, _, false, rfl, .own _, ty, hK.bas t, k ι H _ _ S .refl R (.bl _) hq⟩
    cases rx with
    | non => exact fin (t := .non) (.base .non) h
    | bl b => exact fin (t := .bl) (.base (.bl b)) h
    | int b => exact fin (t := .int) (.base (.int b)) h
    | str b => exact fin (t := .str) (.base (.str b)) h
    | tup h1 h2 => exact fin (t := .tup) (.base (.tup h1)) h
    | ktp h1 h2 =>
      obtain ⟨o, its, m, a1, a2, _⟩ := h1
      exact fin (t := .tup) (.kTuple a1 a2) h
    | rol h1 h2 =>
      rcases h1 with ⟨o, h1⟩ | ⟨o, its, m, a1, a2, _⟩
      · exact fin (t := .lst) (.base (.frz h1)) h
      · exact fin (t := .lst) (.kList a1 a2) h
    | obj e1 =>
      obtain ⟨o, e2, h⟩ := rdO_out h
      have ho := R.ob _ _ _ e1 e2
      cases o with
      | lst l =>
        obtain ⟨vs, q1, q2⟩ := ho
        exact fin (t := .lst) (.base (.lst q1)) h
      | dK l =>
        obtain ⟨vs, q1, q2⟩ := ho
        exact fin (t := .dic) (.base (.dK q1)) h
      | dT l =>
        obtain ⟨vs, q1, q2⟩ := ho
        exact fin (t := .dic) (.base (.dT q1)) h
      | ins c' fs =>
        obtain ⟨rfl, h6⟩ := h
        obtain ⟨dx, ws, q1, q2⟩ := ho
        exact ⟨_, _, _, _, true, rfl, .own _, .base (.ins q1 hK.cls hK.cat hK.get hK.tak hK.mro), hK.own, k ι H _ _ S .refl R (.bl _) h6⟩
      | _ => exact h.elim
    | _ => exact h.elim
  | _ => exact h.elim
section
variable {X : Cx} {B : Bs}
theorem a_cls {n : Str} {pos : Pos} (hm : X.mg n = some (.ref (He.ga X.K n))) (hg : Gl X n := by rfl) (hd : (n == ("__debug__" : Str)) = false := by decide) : PE X (.Name n pos) (eOf (kx X) B (aC (.cls n))) :=
  a_glob (v := .ref (He.ga X.K n)) hm rfl (fun _ _ => .cls n) hg hd
end
/-! ### keyword-only parameters with defaults -/
def OkK (P : Program) (w : World) (K : PySem.W.Frag) (mg : Str → Option Value) (base : Heap) (k : Nat) (x : Str) (st : Stmt) (ps : List Str) (kws : List (Str × V)) (sp : FN) : Prop :=
  ∃ fd, FunD K x x (defArgs st) (defBody st) (defScope st) [] kws (He.ga K x) fd ∧ AOk P w K mg base k (He.ga K x) fd ps sp
/-- how such a call binds: n values, the keywords ks; ms: the keyword-only ones that lack -/
def KwOkK (x : Str) (st : Stmt) (ps : List Str) (ms : List Str) (n : Nat) (ks : List Str) (p : List Nat) : Prop := ∀ (D : Addr) (doc pm : Value) (an : Option Addr) (cdv ct : Value) (us mv ws : List Value), us.length = n → mv.length = ms.length → ws.length = ks.length →
  KwChain D (ms.zip mv) (bindArgs (PySem.W.fnOf x x (defArgs st) (defBody st) (defScope st) .none (.ref D) doc pm an cdv ct) ⟨us, ks.zip ws⟩) (ps.zip (kperm p us (mv ++ ws)))
theorem kbn_k {K : PySem.W.Frag} {x : Str} {st : Stmt} {f : Addr} {fd : FuncData} {ps ks : List Str} {kws ms : List (Str × V)} {n : Nat} {p : List Nat} (F : FunD K x x (defArgs st) (defBody st) (defScope st) [] kws f fd) (hk : kws ≠ []) (hms : ∀ q ∈ ms, q ∈ kws) (h : KwOkK x st ps (ms.map (·.1)) n ks p) :
    ∃ mv : List Value, KBn K fd ps n ks (fun us ws => kperm p us (mv ++ ws)) (fun vs zs => kperm p vs (ms.map (·.2) ++ zs)) := by
  obtain ⟨oc, od, dV, kV, doc, pm, an, cdv, ct, osl, rfl, lk, hcd, hD, hK⟩ := F.ex
  rcases hD with ⟨_, rfl⟩ | ⟨e, _⟩
  · rcases hK with e | ⟨D, rfl, hq⟩
    · exact absurd e hk
    · obtain ⟨mv, hl, rk, hks⟩ := kwd_vals (ms := ms) fun q hm => hq q (hms q hm)
      refine ⟨mv, ⟨fun s us ws X l1 l2 => ?_, fun r1 r2 => kperm_vals r1 (rk.append r2)⟩⟩
      exact BindsTo.of_looks fun M => KwChain.looks X hks (h D doc pm an cdv ct us mv ws l1 (by rw [hl, List.length_map]) l2)
  · exact absurd rfl e
section
variable {X : Cx} {B : Bs} {st : Stmt} {ps ks : List Str} {kw ms : List (Str × V)} {dds : List D} {sp : FN} {n : Str} {p pos : Pos} {e : Expr} {es : List Expr} {kws : List Keyword} {z zk : AA} {k : Nat} {q : List Nat} {m j : Nat}
theorem a_callKO (F : OkK X.prog X.w X.K X.mg X.base k n st ps kw sp) (hr : Room k X.A) (hm : X.mg n = some (.ref (He.ga X.K n))) (hne : kw ≠ []) (hms : ∀ q ∈ ms, q ∈ kw) (hd : ∀ ι H, VRs (kx X) ι H (ms.map (·.2)) dds) (hb : KwOkK n st ps (ms.map (·.1)) m ks q) (hj : ks.length = j) (ha : PA X (e :: es) (aOf (kx X) B z)) (hkw : PK X kws (aOf (kx X) B zk)) (hg : Gl X n := by rfl)
    (hall : (backToKw pos (keywordEach kws X.env)).all (·.1.isSome) = true := by rfl) (hks : (backToKw pos (keywordEach kws X.env)).filterMap (·.1) = ks := by rfl)
    (hdb : (n == ("__debug__" : Str)) = false := by decide) (he : starEach (e :: es) X.env = (false, eval e X.env) :: starEach es X.env := by rfl)
    (hpl : ((backTo pos (starEach (e :: es) X.env)).any (·.1) || (backToKw pos (keywordEach kws X.env)).any (·.1.isNone)) = false := by rfl) :
    PE X (.Call (.Name n p) (e :: es) kws pos) (eOf (kx X) B (aCallD sp q dds m j z zk)) := by
  obtain ⟨fd, F1, F2⟩ := F
  obtain ⟨mv, hb'⟩ := kbn_k F1 hne hms hb
  exact PE.imp (pe_callN F2 hr hg hm F1.kp hb' pass0 ha hkw hall hks hdb he hpl) fun σ H Q h => callD_of' hd hj h
end
theorem okk_of {P : Program} {w : World} {K : PySem.W.Frag} {mg : Str → Option Value} {base : Heap} {x : Str} {st : Stmt} {N ps : List Str} {kws : List (Str × V)} {k n : Nat} {sp : FN} {as : AX} {fd : FuncData} (F : FunD K x x (defArgs st) (defBody st) (defScope st) [] kws (He.ga K x) fd) (C : FnScope N ps (defScope st)) (len : Ar ps.length sp) (hn : N.length = n)
    (hbody : ∀ (cdv : Value) (A : Around) (outer : List Env) (s : Shared) (H : Hp) (E : XK) (B : Bs), Room k (A.deeper (PyProof.Rows.envOfC x (defScope st) s.heap.objs.size (He.ga K x) cdv)) →
      PSs (cxOf CX0 P w K mg base N x (defScope st) (He.ga K x) cdv A outer s H E).nox (defBody st) (sOf ⟨K, P, w⟩ B as))
    (hsem : ∀ ds S P, sp ds S P → as { nx := fun _ S' => P .non S', rt := P } (aStart n ds) S) : OkK P w K mg base (k + 1) x st ps kws sp := by
  refine ⟨fd, F, ?_⟩
  refine F.ok C (fun vs H Q E h => ?_) (fun cdv A outer s H vs Q E hr h => ?_)
  · obtain ⟨ι, ds, S, P, _, v, h, _⟩ := h
    rw [v.length]
    exact len _ _ _ h
  · obtain ⟨ι, ds, S, Pq, r, v, h, k⟩ := h
    refine ⟨_, (hbody cdv A outer s H E ⟨ι, H, fun _ _ _ _ => False⟩ hr).nox, ?_⟩
    refine ⟨ι, aStart n ds, S, _, ⟨.refl, r, ?_⟩, hsem ds S Pq h, ⟨fun ι' H' σ' a' S' e1 r1 _ h1 => k _ _ _ _ _ e1 r1 .non h1, fun ι' H' v d S' e1 r1 v1 h1 => k _ _ _ _ _ e1 r1 v1 h1, fun _ _ _ _ _ _ _ _ h1 => h1, fun _ _ _ _ _ _ _ _ h1 => h1, fun _ _ _ _ _ _ _ _ _ _ _ _ _ _ h1 => h1⟩⟩
    show SR ⟨K, P, w⟩ ι H (vs.map some ++ List.replicate (N.length - vs.length) none) (aStart n ds)
    unfold aStart
    rw [v.length, hn]
    exact sr_start _ v
/-! ### {} with tuples as keys -/
def aDicT : AE := fun a S P => P (.obj S.length) (S ++ [.dT []])
section
variable {X : Cx} {B : Bs} {pos : Pos}
theorem new_dT {K : KX} {ι : List Addr} {H : Hp} {S : Sto} {p : Addr} {vs : List (List Key × V)} {ds : List (List Key × D)} (r : RS K ι H S) (hp : H p = none) (h : Prs K ι H vs ds) :
    Ext K ι H (ι ++ [p]) (upd H p (.dT vs)) ∧ RS K (ι ++ [p]) (upd H p (.dT vs)) (S ++ [.dT ds]) ∧ VR K (ι ++ [p]) (upd H p (.dT vs)) (.ref p) (.obj S.length) :=
  have e := ext_new (K := K) (o := .dT vs) hp (r.out hp)
  ⟨e, r.new hp ⟨vs, upd_same, h.1, h.2.up e⟩, by rw [← r.len]; exact VR.new⟩
theorem a_dicT : PE X (.Dict [] [] pos) (eOf (kx X) B aDicT) := by
  refine PE.imp pe_dnewT fun σ H Q h => ?_
  obtain ⟨ι, a, S, P, g, h, k⟩ := h
  intro p hp
  obtain ⟨e2, r2, v2⟩ := new_dT (vs := []) (ds := []) g.rs hp ⟨rfl, .nil⟩
  exact k _ _ _ _ _ e2 r2 v2 h
end
/-! ### the facts -/
structure TxtI (gl fr : List Str) (is : List (Str × Int)) (es : List (Str × Nat)) (ms : List (Str × Str × Nat)) (cl mk : List Str) (fl mt : List (Str × Str)) (K : PySem.W.Frag) (mg : Str → Option Value) : Prop extends TxtE gl fr is es K mg where
  emm : ∀ (i : Nat) {c m : Str} {j : Nat}, ms[i]? = some (c, m, j) → emB K (He.dflAt (c, some m) j K) = true
  cl : ∀ (i : Nat) {c : Str}, cl[i]? = some c → ClsF K c
  mkr : ∀ (i : Nat) {c : Str}, mk[i]? = some c → Mk K (He.ga K c) (He.ma K (He.ga K c) "__init__")
  fl : ∀ (i : Nat) {c f : Str}, fl[i]? = some (c, f) → NoAttr K (He.ga K c) f
  mt : ∀ (i : Nat) {c m : Str}, mt[i]? = some (c, m) → Meth K (He.ga K c) m (He.ma K (He.ga K c) m)
theorem emm_rel {X : Cx} {a : Addr} (h : emB X.K a = true) : ∀ ι H, VRs (kx X) ι H [.ref a] [.ktp []] := fun ι H => .cons (.ktp (emB_ok (K := kx X) h) .nil) .nil
def exI (es : List (Str × Nat)) (ms : List (Str × Str × Nat)) (cl mk : List Str) (fl mt : List (Str × Str)) (K : PySem.W.Frag) : Bool :=
  exE es K && ((ms.all fun p => emB K (He.dflAt (p.1, some p.2.1) p.2.2 K)) && ((cl.all fun c => clsB K c) && ((mk.all fun c => (He.Fa.mkr c).ok K) && ((fl.all fun p => (He.Fa.noat p.1 p.2).ok K) && mt.all fun p => (He.Fa.meth p.1 p.2).ok K))))
theorem txtI_of {gl fr : List Str} {is : List (Str × Int)} {es : List (Str × Nat)} {ms : List (Str × Str × Nat)} {cl mk : List Str} {fl mt : List (Str × Str)} {fn : List He.DefD} {K : PySem.W.Frag} {h : Heap} {mg : Str → Option Value} (X : K.In h) (G : h.Ns mainGlobals mg) (c : SaysE (faOf gl fr is) fn (exI es ms cl mk fl mt) K) : TxtI gl fr is es ms cl mk fl mt K mg := by
  have hx := c.x
  unfold exI at hx
  simp only [Bool.and_eq_true] at hx
  obtain ⟨h1, h2, h3, h4, h5, h6⟩ := hx
  refine ⟨⟨txt_of X G c.d, fun i x j e => List.all_eq_true.mp h1 (x, j) (List.mem_of_getElem? e)⟩, fun i c m j e => ?_, fun i c e => ?_, fun i c e => ?_, fun i c f e => ?_, fun i c m e => ?_⟩
  · exact List.all_eq_true.mp h2 (c, m, j) (List.mem_of_getElem? e)
  · exact clsF_ok (List.all_eq_true.mp h3 c (List.mem_of_getElem? e))
  · exact He.mkr_ok (List.all_eq_true.mp h4 c (List.mem_of_getElem? e))
  · exact He.noat_ok (List.all_eq_true.mp h5 (c, f) (List.mem_of_getElem? e))
  · exact He.meth_ok (List.all_eq_true.mp h6 (c, m) (List.mem_of_getElem? e))
end Ab

/-! methods of the program's own classes -/
namespace Ab
open PySem PySem.Spec PyProof.Rows L2
/-- one class's method, with its promise and how its call binds -/
structure MtC (X : Cx) (k : Nat) (m : Str) (n : Nat) (ks : List Str) (e : Str × FN × List Nat) : Prop where
  cls : Cls X.K (He.ga X.K e.1)
  mt : Meth X.K (He.ga X.K e.1) m (He.ma X.K (He.ga X.K e.1) m)
  ok : ∃ (x qual : Str) (st : Stmt) (ps : List Str), OkM X.prog X.w X.K X.mg X.base k e.1 m x qual st ps [] e.2.1 ∧ KwOkM x qual st ps (n + 1) ks e.2.2
def aMeth (L : List (Str × FN × List Nat)) (m : Str) (n j : Nat) (x : AE) (z zk : AA) : AE := fun a S P => x a S fun d S1 => match d with
  | .obj i => rdO S1 i fun o => match o with
    | .ins c fs => fs.lookup m = none ∧ ∃ e, e ∈ L ∧ e.1 = c ∧ z a S1 fun ds S2 => zk a S2 fun es S3 => ds.length = n ∧ es.length = j ∧ e.2.1 (kperm e.2.2 (.obj i :: ds) es) S3 P
    | _ => False
  | _ => False
section
variable {X : Cx} {B : Bs} {o e : Expr} {es : List Expr} {kws : List Keyword} {x : AE} {z zk : AA} {m : Str} {apos pos : Pos} {k n j : Nat} {ks : List Str} {L : List (Str × FN × List Nat)}
theorem okm_mono {P : Program} {w : World} {K : PySem.W.Frag} {mg : Str → Option Value} {base : Heap} {k k' : Nat} {c m x qual : Str} {st : Stmt} {ps : List Str} {dvs : List V} {sp : FN} (h : OkM P w K mg base k c m x qual st ps dvs sp) (hk : k ≤ k') : OkM P w K mg base k' c m x qual st ps dvs sp := by
  obtain ⟨fd, h1, h2⟩ := h
  exact ⟨fd, h1, h2.mono hk⟩
theorem run_meth {pins : List (Addr × Obj)} {σ : L2.St} {H : Hp} {s : Shared} {Q : VK} {P : D → Sto → Prop} {ι : List Addr} {S : Sto} {a : Addr} {i : Nat} {us ws : List Value} {vs zs : List V} {ds es : List D} {e : Str × FN × List Nat} (hm : MtC X k m n ks e) (hr : Room k X.A)
    (I : Inv X pins σ H s) (R : RS (kx X) ι H S) (ra : ι[i]? = some a) (r : Vals vs us) (rz : Vals zs ws) (v1 : VRs (kx X) ι H vs ds) (v2 : VRs (kx X) ι H zs es) (l1 : ds.length = n) (l2 : es.length = ks.length) (h : e.2.1 (kperm e.2.2 (.obj i :: ds) es) S P)
    (k0 : ∀ ι' H' v d S', Ext (kx X) ι H ι' H' → RS (kx X) ι' H' S' → VR (kx X) ι' H' v d → P d S' → Q v H') :
    wpAny (model X.prog X.w) X.A (call (.ref (He.ma X.K (He.ga X.K e.1) m)) (.ref a :: us) (ks.zip ws)) (EP X pins σ Q) X.xe s := by
  obtain ⟨x, qual, st, ps, ⟨fd, F1, F2⟩, hb⟩ := hm.ok
  refine run_fnN (E := E0) (vs := .ref a :: vs) F2 hr (kbn_m F1 hb) pass0 I (.cons rfl r) rz (by rw [List.length_cons, v1.length, l1]) (v2.length.trans l2) ?_
  exact ⟨ι, _, S, P, R, kperm_vrs (.cons (.obj ra) v1) v2, h, k0⟩
theorem a_meth {pl : Sem Bool} (hL : ∀ e ∈ L, MtC X k m n ks e) (hr : Room k X.A) (hj : ks.length = j) (ho : PE X o (eOf (kx X) B x)) (ha : PA X (e :: es) (aOf (kx X) B z)) (hkw : PK X kws (aOf (kx X) B zk))
    (hall : (backToKw pos (keywordEach kws X.env)).all (·.1.isSome) = true := by rfl) (hks : (backToKw pos (keywordEach kws X.env)).filterMap (·.1) = ks := by rfl)
    (he : starEach (e :: es) X.env = (false, eval e X.env) :: starEach es X.env := by rfl)
    (hpl : ((backTo pos (starEach (e :: es) X.env)).any (·.1) || (backToKw pos (keywordEach kws X.env)).any (·.1.isNone)) = false := by rfl)
    (ht : eval (.Call (.Attribute o m apos) (e :: es) kws pos) X.env = (do
      let ov ← eval o X.env
      standAt apos.atName
      let (f, first) ← holding [ov] (getMethod ov m pl)
      callWith pos f first (backTo pos (starEach (e :: es) X.env)) (backToKw pos (keywordEach kws X.env))) := by rfl) :
    PE X (.Call (.Attribute o m apos) (e :: es) kws pos) (eOf (kx X) B (aMeth L m n j x z zk)) := by
  refine ⟨fun pins s σ H Q I h => ?_⟩
  obtain ⟨ι, a, S, P, g, h, k0⟩ := h
  refine PySem.W.methodCall_KW (pl := pl) (thn (ho.run pins s σ H (fun v H1 => ∃ ι1 S1 d, Ext (kx X) ι H ι1 H1 ∧ RS (kx X) ι1 H1 S1 ∧ VR (kx X) ι1 H1 v d ∧ (match d with
    | .obj i => rdO S1 i fun o => match o with
      | .ins c fs => fs.lookup m = none ∧ ∃ e, e ∈ L ∧ e.1 = c ∧ z a S1 fun ds S2 => zk a S2 fun es S3 => ds.length = n ∧ es.length = j ∧ e.2.1 (kperm e.2.2 (.obj i :: ds) es) S3 P
      | _ => False
    | _ => False)) I ⟨ι, a, S, _, g, h, fun ι1 H1 v d S1 e1 r1 v1 h1 => ⟨ι1, S1, d, e1, r1, v1, h1⟩⟩) fun u s1 ⟨v, H1, I1, ru, ι1, S1, d, e1, r1, v1, h1⟩ => ?_) ht
  cases v1 with
  | obj q1 =>
    rename_i i b
    obtain ⟨o', q2, h1⟩ := rdO_out h1
    have hob := r1.ob _ _ _ q1 q2
    cases o' with
    | ins c fs =>
      obtain ⟨hl, e', he', rfl, h1⟩ := h1
      obtain ⟨dx, ws, a1, a2, a3⟩ := hob
      have hm := hL e' he'
      obtain rfl : u = Value.ref b := ru
      refine getmeth_ok I1 a1 hm.cls hm.mt (fld_none a2 hl) ?_
      refine PySem.W.callWith_KW (first := [.ref b]) (h₀ := X.base) I.ok.mod.kin hm.mt.kp hall ?_ hpl he
      refine thn (ha.run pos pins s1 σ H1 (fun vs H2 => ∃ ι2 S2 ds, Ext (kx X) ι1 H1 ι2 H2 ∧ RS (kx X) ι2 H2 S2 ∧ VRs (kx X) ι2 H2 vs ds ∧ zk a S2 fun es S3 => ds.length = n ∧ es.length = j ∧ e'.2.1 (kperm e'.2.2 (.obj i :: ds) es) S3 P) I1 ⟨ι1, a, S1, _, g.go e1 r1, h1, fun ι2 H2 vs ds S2 e2 r2 v2 h2 => ⟨ι2, S2, ds, e2, r2, v2, h2⟩⟩) fun us s2 ⟨vs, H2, I2, rvs, ι2, S2, ds, e2, r2, v2, h2⟩ => ?_
      refine thn (hkw.run pos pins s2 σ H2 (fun zs H3 => ∃ ι3 S3 es, Ext (kx X) ι2 H2 ι3 H3 ∧ RS (kx X) ι3 H3 S3 ∧ VRs (kx X) ι3 H3 zs es ∧ ds.length = n ∧ es.length = j ∧ e'.2.1 (kperm e'.2.2 (.obj i :: ds) es) S3 P) I2 ⟨ι2, a, S2, _, g.go (e1.trans e2) r2, h2, fun ι3 H3 zs es S3 e3 r3 v3 h3 => ⟨ι3, S3, es, e3, r3, v3, h3⟩⟩) fun kus s3 ⟨zs, H3, I3, rzs, ι3, S3, es', e3, r3, v3, l1, l2, h3⟩ => ⟨I3.kIn, ?_⟩
      rw [hks]
      exact run_meth hm hr I3 r3 ((e2.trans e3).pre _ _ q1) rvs rzs (v2.up e3) v3 l1 (l2.trans hj.symm) h3 fun ι' H' v d S' e4 r4 v4 h4 => k0 _ _ _ _ _ (((e1.trans e2).trans e3).trans e4) r4 v4 h4
    | _ => exact h1.elim
  | _ => exact h1.elim
/-- o.m() -/
def aMeth0 (L : List (Str × FN × List Nat)) (m : Str) (x : AE) : AE := fun a S P => x a S fun d S1 => match d with
  | .obj i => rdO S1 i fun o => match o with
    | .ins c fs => fs.lookup m = none ∧ ∃ e, e ∈ L ∧ e.1 = c ∧ e.2.1 (kperm e.2.2 [.obj i] []) S1 P
    | _ => False
  | _ => False
theorem a_meth0 {pl : Sem Bool} (hL : ∀ e ∈ L, MtC X k m 0 [] e) (hr : Room k X.A) (ho : PE X o (eOf (kx X) B x))
    (ht : eval (.Call (.Attribute o m apos) [] [] pos) X.env = (do
      let ov ← eval o X.env
      standAt apos.atName
      let (f, first) ← holding [ov] (getMethod ov m pl)
      callWith pos f first (backTo pos (starEach [] X.env)) (backToKw pos (keywordEach [] X.env))) := by rfl) :
    PE X (.Call (.Attribute o m apos) [] [] pos) (eOf (kx X) B (aMeth0 L m x)) := by
  refine ⟨fun pins s σ H Q I h => ?_⟩
  obtain ⟨ι, a, S, P, g, h, k0⟩ := h
  refine PySem.W.methodCall_KW (pl := pl) (thn (ho.run pins s σ H (fun v H1 => ∃ ι1 S1 d, Ext (kx X) ι H ι1 H1 ∧ RS (kx X) ι1 H1 S1 ∧ VR (kx X) ι1 H1 v d ∧ (match d with
    | .obj i => rdO S1 i fun o => match o with
      | .ins c fs => fs.lookup m = none ∧ ∃ e, e ∈ L ∧ e.1 = c ∧ e.2.1 (kperm e.2.2 [.obj i] []) S1 P
      | _ => False
    | _ => False)) I ⟨ι, a, S, _, g, h, fun ι1 H1 v d S1 e1 r1 v1 h1 => ⟨ι1, S1, d, e1, r1, v1, h1⟩⟩) fun u s1 ⟨v, H1, I1, ru, ι1, S1, d, e1, r1, v1, h1⟩ => ?_) ht
  cases v1 with
  | obj q1 =>
    rename_i i b
    obtain ⟨o', q2, h1⟩ := rdO_out h1
    have hob := r1.ob _ _ _ q1 q2
    cases o' with
    | ins c fs =>
      obtain ⟨hl, e', he', rfl, h1⟩ := h1
      obtain ⟨dx, ws, a1, a2, a3⟩ := hob
      have hm := hL e' he'
      obtain rfl : u = Value.ref b := ru
      refine getmeth_ok I1 a1 hm.cls hm.mt (fld_none a2 hl) ?_
      refine PySem.W.callWith_K0 (first := [.ref b]) I1.kIn hm.mt.kp ?_
      exact run_meth (us := []) (vs := []) (ws := []) (zs := []) (ds := []) (es := []) hm hr I1 r1 q1 .nil .nil .nil .nil rfl rfl h1 fun ι' H' v d S' e4 r4 v4 h4 => k0 _ _ _ _ _ (e1.trans e4) r4 v4 h4
    | _ => exact h1.elim
  | _ => exact h1.elim
end
theorem mt_nil {X : Cx} {k n : Nat} {m : Str} {ks : List Str} : ∀ e ∈ ([] : List (Str × FN × List Nat)), MtC X k m n ks e := fun e h => by simp at h
theorem mt_cons {X : Cx} {k k' n : Nat} {m c x qual : Str} {ks ps : List Str} {st : Stmt} {sp : FN} {q : List Nat} {L : List (Str × FN × List Nat)} (h1 : Cls X.K (He.ga X.K c)) (h2 : Meth X.K (He.ga X.K c) m (He.ma X.K (He.ga X.K c) m)) (h3 : OkM X.prog X.w X.K X.mg X.base k' c m x qual st ps [] sp) (hk : k' ≤ k) (h4 : KwOkM x qual st ps (n + 1) ks q)
    (h : ∀ e ∈ L, MtC X k m n ks e) : ∀ e ∈ (c, sp, q) :: L, MtC X k m n ks e := fun e he => by
  rcases List.mem_cons.mp he with rfl | he
  · exact ⟨h1, h2, x, qual, st, ps, okm_mono h3 hk, h4⟩
  · exact h e he
end Ab

/-! a dict comprehension with tuples as keys; a dict or a set comprehension assigned to a local name -/
namespace Ab
open PySem L2 PySem.Spec PyProof.Rows
def tPutT (tk tv : TE) (p : Addr) : TB := fun σ H Q => tk σ H fun y H1 => tv σ H1 fun z H2 => ∃ b kvs k, y = .ref b ∧ H2 b = some (.tup (k.map kV)) ∧ H2 p = some (.dT kvs) ∧ kvs.length < sizeLine ∧ Q (upd H2 p (.dT (putK kvs k z)))
theorem d_dictSetT {X : Cx} {pins : List (Addr × Obj)} {σ : L2.St} {H : Hp} {s : Shared} {E : Value → Shared → Prop} {p b : Addr} {kvs : List (List Key × V)} {k : List Key} {v : V} {r : Value} {Q : Unit → Shared → Prop} (hr : (tupleKind (mixKind X.prog X.w)).room X.A) (I : Inv X pins σ H s) (e : H p = some (.dT kvs)) (eb : H b = some (.tup (k.map kV))) (l : kvs.length < sizeLine)
    (rv : RelV v r) (h : ∀ s', Inv X pins σ (upd H p (.dT (putK kvs k v))) s' → Q () s') : wpAny (model X.prog X.w) X.A (dictSet p (.ref b) r) Q E s := by
  obtain ⟨z, hd, xs, rel, dd⟩ := dt_of I.hok e
  have hz : xs.length ≤ sizeLine := by rw [← rel.length]; exact z
  have hl : (putK kvs k v).length ≤ sizeLine := by have := length_putK kvs k v; omega
  refine wpAny_dictSet_heap (hsz := hz) (show (tupleKind (mixKind X.prog X.w)).room X.A from hr) (key_of I.hok eb) dd fun h' dd' hs => h _ ?_
  obtain ⟨q, es, ep, hq, h2, h3, h4, _, h5⟩ := dd'
  refine d_write I (by rw [e]; exact True.intro) hs ⟨q, hq⟩ ⟨hl, hd, _, (rel.put k eb rv).keeps fun c ys ec => ?_, q, es, ep, hq, h2, h3, h4, h5⟩
  rw [upd_ne (L2.ne_of ec e (fun z => nomatch z))]
  exact ec
section
variable {Y : Cx} {kx vx : Expr} {tk tv : TE} {q : Addr}
theorem pb_putT (hu : (tupleKind (mixKind Y.prog Y.w)).room Y.A) (hk : PE Y kx tk) (hv : PE Y vx tv) : PB Y (putB kx vx q Y.env) [] (tPutT tk tv q) := by
  refine ⟨fun pins s σ H Q I h => ?_⟩
  unfold putB
  refine wpAny_bind (thn (hk.run pins s σ H _ I h) fun u s1 ⟨y, H1, I1, r1, q1⟩ => ?_)
  refine wpAny_bind (wpAny_holding (thn (hv.run pins s1 σ H1 _ I1 q1) fun u2 s2 ⟨z, H2, I2, r2, b, kvs, k, ek, eb, hd, hz, q2⟩ => ?_))
  subst ek
  obtain rfl : u = Value.ref b := r1
  exact wpAny_bind (wpAny_standAt (wpAny_holding (d_dictSetT hu I2 hd eb hz r2 fun s3 I3 => ⟨_, I3, q2⟩)))
end
def emT (x y : AE) : Em := fun a S acc K => x a S fun k S1 => y a S1 fun v S2 => match acc with
  | .dT kvs => (match k with
    | .tup l => (match keysD l with | some kk => kvs.length < sizeLine ∧ K (.dT (putD kvs kk v)) S2 | none => False)
    | _ => False)
  | _ => False
section
variable {K : KX} {B : Bs} {x y : AE}
theorem em_dictT : EmR K B (tPutT (eOf K B x) (eOf K B y)) (emT x y) := by
  intro p ι H S a σ acc Kc Q hB gd hp ho h fin
  refine ⟨ι, a, S, _, gd, h, fun ι1 H1 v1 k1 S1 e1 r1 rv1 h1 => ?_⟩
  refine ⟨ι1, a, S1, _, gd.go e1 r1, h1, fun ι2 H2 v2 d2 S2 e2 r2 rv2 h2 => ?_⟩
  obtain ⟨o1, p1⟩ := ho.go hp e1
  obtain ⟨o2, p2⟩ := o1.go p1 e2
  cases acc with
  | dT kvs =>
    obtain ⟨ws, q1, q2⟩ := o2
    have q2 : Prs K ι2 H2 ws kvs := q2
    have rv1 := rv1.up e2
    cases rv1 with
    | tup t1 t2 =>
      simp only at h2
      split at h2
      · rename_i kk ek
        obtain rfl := keysD_kV t2 ek
        have hx : Ex0 K ι2 H2 ι2 (upd H2 p (.dT (putK ws kk v2))) := ⟨fun _ _ z => z, fun b xs z => by rw [upd_ne (fun e => by rw [e, q1] at z; cases z)]; exact z, fun b xs z => by
          rcases z with ⟨u, z⟩ | z
          · exact .inl ⟨u, by rw [upd_ne (fun e => by rw [e, q1] at z; cases z)]; exact z⟩
          · exact .inr z, fun b u0 x z => by rw [upd_ne (fun e => by rw [e, q1] at z; cases z; cases x)]; exact z⟩
        have hg : Go K p ι2 H2 ι2 (upd H2 p (.dT (putK ws kk v2))) := ⟨hx, fun i0 H0 z e => ext_hid e z⟩
        refine ⟨_, ws, kk, rfl, t1, q1, by rw [q2.length]; exact h2.1, fin ι2 _ (.dT (putD kvs kk d2)) S2 ((e1.go.trans e2.go).trans hg) ⟨r2.len, r2.nd, fun n b u z1 z2 => (r2.ob n b u z1 z2).ex0 hx (upd_ne fun e => p2 (e ▸ List.mem_of_getElem? z1))⟩ p2 ?_ h2.2⟩
        have q3 : Prs K ι2 (upd H2 p (.dT (putK ws kk v2))) ws kvs := ⟨q2.1, VRs.ex0 hx _ _ q2.2⟩
        exact ⟨_, upd_same, q3.put kk (VR.ex0 hx _ _ rv2)⟩
      · exact h2.elim
    | _ => exact h2.elim
  | _ => exact h2.elim
theorem or_dt {K : KX} (ι : List Addr) (H : Hp) (p : Addr) : OR K ι (upd H p (.dT [])) p (.dT []) := ⟨[], upd_same, rfl, .nil⟩
end
section
variable {X : Cx} {tg iter ce : Expr} {ifs : List Expr} {gs : List Comprehension} {g : TG} {tt : TT} {scope : Scope} {own : List (Str × Nat)} {wi : TI}
/-- name = a comprehension on one line, the name a local -/
theorem ps_block {i : Nat} {n : Str} {py pos' spos : Pos} {newA : Sem Value} {ob : Obj} {ho : Addr → HO} {b : Addr → Env → Sem Unit} {tb : Addr → TB} {vs1 : List Nat} (hy : X.N[i]? = some n) (hyl : X.env.scope.names.lookup n = some .local)
    (hev : evalThenUse ce X.env (assign (.Name n py) X.env) = (do let _ ← comprehension ce scope X.env pos' newA false (eval iter X.env) (some (assign (.Name n py) X.env)))) (hsw : swapsWith ce (some (.Name n py)) spos.line X.env = pure true)
    (pl : Plain ce) (hcl : clausesOf ce = ⟨tg, iter, ifs, 0⟩ :: gs) (hT : ∀ (p q : Addr) (env : Env), compTurn ce 0 (.ref p) (.ref q) env = turnOf ce tg iter ifs 0 (.ref p) (.ref q) env (b q env))
    (hnew : ∀ {A : Around} {E : Value → Shared → Prop} {t : Shared} {q : Value → Shared → Prop}, q (.ref t.heap.objs.size) { t with heap := t.heap.push ob } → wpAny (model X.prog X.w) A newA q E t)
    (hob : ∀ {pins : List (Addr × Obj)} {σ : L2.St} (t : Shared) (H : Hp), Inv X pins σ H t → ObjOk X.prog X.w (upd H t.heap.objs.size (ho t.heap.objs.size)) (t.heap.push ob) t.heap.objs.size (ho t.heap.objs.size))
    (hc : X.calm = true) (hN : X.N.Nodup) (hi : PI X tg iter wi) (ok : BlkOk X.N X.env.scope scope own)
    (hg : ∀ (s : Shared) (H : Hp) (C : Addr) (cl : List (Str × Addr)) (fp : List Addr), PG (X.blk s H scope (compEnvC scope cl C X.env) fp) tg g) (ht : ∀ (s : Shared) (H : Hp) (C : Addr) (cl : List (Str × Addr)) (fp : List Addr), PTs (X.blk s H scope (compEnvC scope cl C X.env) fp) ifs tt)
    (hb : ∀ (p : Addr) (s : Shared) (H : Hp) (C : Addr) (cl : List (Str × Addr)) (fp : List Addr), PB (X.blk s H scope (compEnvC scope cl C X.env) fp) (b p (compEnvC scope cl C X.env)) vs1 (tb p)) (hv : ∀ u ∈ vs1, u ∈ own.map (·.2))
    (hs : ∀ x, foldedSetIterable iter X.env x = pure x) : PS X (.Assign [.Name n py] ce spos) (tAsg (tCb wi g tt ho tb (own.map (·.2))) (gName i)) := by
  refine ⟨fun pins s σ H D I h => ?_⟩
  rw [exec_Assign_Name_used _ _ _ _ hsw, hev]
  refine wpAny_bind (wpAny_standAt (wpAny_bind ?_))
  have h : tCb wi g tt ho tb (own.map (·.2)) σ H (fun x H1 => gName i x σ H1 D.nx) := h
  refine wpAny_bind (thn (run_block (Qf := fun _ s' => SP X pins D .next s') pl hcl hT hnew (fun t H' I' => hob t H' I') hc hN I hi ok hg ht hb hv hs h fun L C s' m H' I' q hn f => ?_) fun _ s' hq => wpAny_pure (wpAny_pure hq))
  show wpAny _ _ (assign (.Name n py) X.env (.ref L)) _ _ _
  refine wpAny_assign_Name (store_ok2 (v := V.ref L) I' hN hy (.inl hyl) rfl (fun s2 I2 ⟨a, sb, ha⟩ => ?_) (.inr hyl))
  obtain ⟨f0, f1, f2, f3, f4, f5⟩ := f
  have haC : C ≠ a := by
    rcases ha with z | z
    · rw [z]; exact f1
    · exact fun e => f4 n a z e.symm
  refine ⟨m, hn.sameBut sb haC, fun h3 sb3 => ?_⟩
  exact ⟨_, H', I2.turned (t' := s2.toks) (fun b o hb e => (sb3.2 b hb).trans e) f0 f1 f3 f4 f5, q⟩
theorem sw_dict {ke ve : Expr} {gs : List Comprehension} {scope : Scope} {pos py : Pos} {y : Str} {l : Nat} {env : Env} (hk : env.scope.kind = .function) (hy : env.scope.names.lookup y = some .local) (hl : (py.line == pos.line) = true)
    (ha : (scope.names.any fun (n, k) => n == y && (k == .local || k == .cell)) = false) : swapsWith (.DictComp ke ve gs scope pos) (some (.Name y py)) l env = pure true := by
  have ky : env.kindOf y = some .local := hy
  have hb : env.blockKind = .function := by unfold Env.blockKind; rw [hk]; rfl
  unfold swapsWith
  simp only [hb, ky, ha, Expr.pos, hl]
  rfl
theorem sw_set {ke : Expr} {gs : List Comprehension} {scope : Scope} {pos py : Pos} {y : Str} {l : Nat} {env : Env} (hk : env.scope.kind = .function) (hy : env.scope.names.lookup y = some .local) (hl : (py.line == pos.line) = true)
    (ha : (scope.names.any fun (n, k) => n == y && (k == .local || k == .cell)) = false) : swapsWith (.SetComp ke gs scope pos) (some (.Name y py)) l env = pure true := by
  have ky : env.kindOf y = some .local := hy
  have hb : env.blockKind = .function := by unfold Env.blockKind; rw [hk]; rfl
  unfold swapsWith
  simp only [hb, ky, ha, Expr.pos, hl]
  rfl
end
section
variable {X : Cx} {B : Bs} {tg iter tg1 iter1 ke ve elt : Expr} {ifs ifs1 : List Expr} {scope : Scope} {own : List (Str × Nat)} {vs1 : List Nat} {pos : Pos} {it it1 : AI} {g g1 : TG} {ag ag1 : AG} {t t1 : AT} {x y : AE}
/-- {tuple: .. for ..} -/
theorem a_dcT {k : Nat} (hr : Room k X.A) (hN : X.N.Nodup) (hi : PI X tg iter (iOf (kx X) B it)) (ok : BlkOk X.N X.env.scope scope own) (hT : TgOk (kx X) g ag (own.map (·.2)))
    (hg : ∀ (s : Shared) (H : Hp) (C : Addr) (cl : List (Str × Addr)) (fp : List Addr), PG (X.blk s H scope (compEnvC scope cl C X.env) fp) tg g) (ht : ∀ (s : Shared) (H : Hp) (C : Addr) (cl : List (Str × Addr)) (fp : List Addr), PTs (X.blk s H scope (compEnvC scope cl C X.env) fp) ifs (tOf (kx X) B t))
    (hk : ∀ (s : Shared) (H : Hp) (C : Addr) (cl : List (Str × Addr)) (fp : List Addr), PE (X.blk s H scope (compEnvC scope cl C X.env) fp) ke (eOf (kx X) B x))
    (hv : ∀ (s : Shared) (H : Hp) (C : Addr) (cl : List (Str × Addr)) (fp : List Addr), PE (X.blk s H scope (compEnvC scope cl C X.env) fp) ve (eOf (kx X) B y)) (hc : X.calm = true := by rfl) (hs : ∀ x, foldedSetIterable iter X.env x = pure x := by intro _; rfl) :
    PE X (.DictComp ke ve [⟨tg, iter, ifs, 0⟩] scope pos) (eOf (kx X) B (aCb it ag t (emT x y) (own.map (·.2)) (.dT []))) :=
  PE.imp (pe_block (pos' := firstIterPos [⟨tg, iter, ifs, 0⟩] pos) (newA := newDict) (ho := fun _ => .dT []) (b := fun q env => putB ke ve q env) (tb := fun p => tPutT (eOf (kx X) B x) (eOf (kx X) B y) p) (vs1 := []) rfl plain_dict rfl (fun _ _ _ => rfl) new_dict (fun t H I => dt_empty t.heap I.big) hc hN hi ok hg ht
    (fun p s H C cl fp => pb_putT (by have := hr.un; show X.A.units < cLine; omega) (hk s H C cl fp) (hv s H C cl fp)) (fun _ z => nomatch z) hs) fun _ _ _ h => cb_of hT em_dictT or_dt h
/-- an assigned comprehension, read -/
theorem asg_cb {em : Em} {nil : O} {ho : Addr → HO} {tb : Addr → TB} {i : Nat} {vs : List Nat} (hT : TgOk (kx X) g ag vs) (hE : EmR (kx X) B tb em) (hnil : ∀ (ι : List Addr) (H : Hp) (p : Addr), OR (kx X) ι (upd H p (ho p)) p nil) :
    ∀ D σ H, sOf (kx X) B (aAsg (aCb it ag t em vs nil) (gN i)) D σ H → tAsg (tCb (iOf (kx X) B it) g (tOf (kx X) B t) ho tb vs) (gName i) D σ H := fun D σ H h => by
  obtain ⟨ι, a, S, AD, gd, h, k⟩ := h
  exact cb_of (Q := fun v H1 => gName i v σ H1 D.nx) hT hE hnil ⟨ι, a, S, _, gd, h, fun ι1 H1 v d S1 e1 r1 v1 h1 => k.nx _ _ _ _ _ e1 r1 ((gd.sr.up e1).set v1 i) h1⟩
theorem s_setDcT {k : Nat} {i : Nat} {n : Str} {py spos : Pos} (hr : Room k X.A) (hN : X.N.Nodup) (hi : PI X tg iter (iOf (kx X) B it)) (ok : BlkOk X.N X.env.scope scope own) (hT : TgOk (kx X) g ag (own.map (·.2)))
    (hg : ∀ (s : Shared) (H : Hp) (C : Addr) (cl : List (Str × Addr)) (fp : List Addr), PG (X.blk s H scope (compEnvC scope cl C X.env) fp) tg g) (ht : ∀ (s : Shared) (H : Hp) (C : Addr) (cl : List (Str × Addr)) (fp : List Addr), PTs (X.blk s H scope (compEnvC scope cl C X.env) fp) ifs (tOf (kx X) B t))
    (hk : ∀ (s : Shared) (H : Hp) (C : Addr) (cl : List (Str × Addr)) (fp : List Addr), PE (X.blk s H scope (compEnvC scope cl C X.env) fp) ke (eOf (kx X) B x))
    (hv : ∀ (s : Shared) (H : Hp) (C : Addr) (cl : List (Str × Addr)) (fp : List Addr), PE (X.blk s H scope (compEnvC scope cl C X.env) fp) ve (eOf (kx X) B y)) (hc : X.calm = true := by rfl) (hy : X.N[i]? = some n := by rfl) (hyl : X.env.scope.names.lookup n = some .local := by rfl)
    (hsw : swapsWith (.DictComp ke ve [⟨tg, iter, ifs, 0⟩] scope pos) (some (.Name n py)) spos.line X.env = pure true := by exact sw_dict rfl rfl rfl (by decide +kernel)) (hs : ∀ x, foldedSetIterable iter X.env x = pure x := by intro _; rfl) :
    PS X (.Assign [.Name n py] (.DictComp ke ve [⟨tg, iter, ifs, 0⟩] scope pos) spos) (sOf (kx X) B (aAsg (aCb it ag t (emT x y) (own.map (·.2)) (.dT [])) (gN i))) :=
  PS.imp (ps_block (pos' := firstIterPos [⟨tg, iter, ifs, 0⟩] pos) (newA := newDict) (ho := fun _ => .dT []) (b := fun q env => putB ke ve q env) (tb := fun p => tPutT (eOf (kx X) B x) (eOf (kx X) B y) p) (vs1 := []) hy hyl rfl hsw plain_dict rfl (fun _ _ _ => rfl) new_dict (fun t H I => dt_empty t.heap I.big) hc hN hi ok hg ht
    (fun p s H C cl fp => pb_putT (by have := hr.un; show X.A.units < cLine; omega) (hk s H C cl fp) (hv s H C cl fp)) (fun _ z => nomatch z) hs) (asg_cb hT em_dictT or_dt)
theorem s_setDc {i : Nat} {n : Str} {py spos : Pos} (hN : X.N.Nodup) (hi : PI X tg iter (iOf (kx X) B it)) (ok : BlkOk X.N X.env.scope scope own) (hT : TgOk (kx X) g ag (own.map (·.2)))
    (hg : ∀ (s : Shared) (H : Hp) (C : Addr) (cl : List (Str × Addr)) (fp : List Addr), PG (X.blk s H scope (compEnvC scope cl C X.env) fp) tg g) (ht : ∀ (s : Shared) (H : Hp) (C : Addr) (cl : List (Str × Addr)) (fp : List Addr), PTs (X.blk s H scope (compEnvC scope cl C X.env) fp) ifs (tOf (kx X) B t))
    (hk : ∀ (s : Shared) (H : Hp) (C : Addr) (cl : List (Str × Addr)) (fp : List Addr), PE (X.blk s H scope (compEnvC scope cl C X.env) fp) ke (eOf (kx X) B x))
    (hv : ∀ (s : Shared) (H : Hp) (C : Addr) (cl : List (Str × Addr)) (fp : List Addr), PE (X.blk s H scope (compEnvC scope cl C X.env) fp) ve (eOf (kx X) B y)) (hc : X.calm = true := by rfl) (hy : X.N[i]? = some n := by rfl) (hyl : X.env.scope.names.lookup n = some .local := by rfl)
    (hsw : swapsWith (.DictComp ke ve [⟨tg, iter, ifs, 0⟩] scope pos) (some (.Name n py)) spos.line X.env = pure true := by exact sw_dict rfl rfl rfl (by decide +kernel)) (hs : ∀ x, foldedSetIterable iter X.env x = pure x := by intro _; rfl) :
    PS X (.Assign [.Name n py] (.DictComp ke ve [⟨tg, iter, ifs, 0⟩] scope pos) spos) (sOf (kx X) B (aAsg (aCb it ag t (emD x y) (own.map (·.2)) (.dK [])) (gN i))) :=
  PS.imp (ps_block (pos' := firstIterPos [⟨tg, iter, ifs, 0⟩] pos) (newA := newDict) (ho := fun _ => .dK []) (b := fun q env => putB ke ve q env) (tb := fun p => tPut (eOf (kx X) B x) (eOf (kx X) B y) p) (vs1 := []) hy hyl rfl hsw plain_dict rfl (fun _ _ _ => rfl) new_dict (fun t H I => dk_empty t.heap I.big) hc hN hi ok hg ht
    (fun p s H C cl fp => pb_put (hk s H C cl fp) (hv s H C cl fp)) (fun _ z => nomatch z) hs) (asg_cb hT em_dict or_dk)
theorem s_setDc2 {i : Nat} {n : Str} {py spos : Pos} (hN : X.N.Nodup) (hi : PI X tg iter (iOf (kx X) B it)) (ok : BlkOk X.N X.env.scope scope own) (hv1 : ∀ i ∈ vs1, i ∈ own.map (·.2)) (hT : TgOk (kx X) g ag (own.map (·.2))) (hT1 : TgOk (kx X) g1 ag1 vs1)
    (hg : ∀ (s : Shared) (H : Hp) (C : Addr) (cl : List (Str × Addr)) (fp : List Addr), PG (X.blk s H scope (compEnvC scope cl C X.env) fp) tg g) (ht : ∀ (s : Shared) (H : Hp) (C : Addr) (cl : List (Str × Addr)) (fp : List Addr), PTs (X.blk s H scope (compEnvC scope cl C X.env) fp) ifs (tOf (kx X) B t))
    (hi1 : ∀ (s : Shared) (H : Hp) (C : Addr) (cl : List (Str × Addr)) (fp : List Addr), PI (X.blk s H scope (compEnvC scope cl C X.env) fp) tg1 iter1 (iOf (kx X) B it1))
    (hg1 : ∀ (s : Shared) (H : Hp) (C : Addr) (cl : List (Str × Addr)) (fp : List Addr), PG (X.blk s H scope (compEnvC scope cl C X.env) fp) tg1 g1) (ht1 : ∀ (s : Shared) (H : Hp) (C : Addr) (cl : List (Str × Addr)) (fp : List Addr), PTs (X.blk s H scope (compEnvC scope cl C X.env) fp) ifs1 (tOf (kx X) B t1))
    (hk : ∀ (s : Shared) (H : Hp) (C : Addr) (cl : List (Str × Addr)) (fp : List Addr), PE (X.blk s H scope (compEnvC scope cl C X.env) fp) ke (eOf (kx X) B x))
    (hv : ∀ (s : Shared) (H : Hp) (C : Addr) (cl : List (Str × Addr)) (fp : List Addr), PE (X.blk s H scope (compEnvC scope cl C X.env) fp) ve (eOf (kx X) B y)) (hc : X.calm = true := by rfl) (hy : X.N[i]? = some n := by rfl) (hyl : X.env.scope.names.lookup n = some .local := by rfl)
    (hsw : swapsWith (.DictComp ke ve [⟨tg, iter, ifs, 0⟩, ⟨tg1, iter1, ifs1, 0⟩] scope pos) (some (.Name n py)) spos.line X.env = pure true := by exact sw_dict rfl rfl rfl (by decide +kernel)) (hs : ∀ x, foldedSetIterable iter X.env x = pure x := by intro _; rfl) (hs1 : ∀ env x, foldedSetIterable iter1 env x = pure x := by intro _ _; rfl) :
    PS X (.Assign [.Name n py] (.DictComp ke ve [⟨tg, iter, ifs, 0⟩, ⟨tg1, iter1, ifs1, 0⟩] scope pos) spos) (sOf (kx X) B (aAsg (aCb it ag t (emIn it1 ag1 t1 (emD x y) vs1) (own.map (·.2)) (.dK [])) (gN i))) :=
  PS.imp (ps_block (pos' := firstIterPos [⟨tg, iter, ifs, 0⟩, ⟨tg1, iter1, ifs1, 0⟩] pos) (newA := newDict) (ho := fun _ => .dK []) (b := fun q env => nextB (.DictComp ke ve [⟨tg, iter, ifs, 0⟩, ⟨tg1, iter1, ifs1, 0⟩] scope pos) iter1 q env)
    (tb := fun p => tNext (iOf (kx X) B it1) g1 (tOf (kx X) B t1) (tPut (eOf (kx X) B x) (eOf (kx X) B y) p) vs1) (vs1 := vs1) hy hyl rfl hsw plain_dict rfl turn_dict2 new_dict (fun t H I => dk_empty t.heap I.big) hc hN hi ok hg ht
    (fun p s H C cl fp => pb_next (b := putB ke ve p (compEnvC scope cl C X.env)) (vs1 := []) plain_dict rfl (fun _ => rfl) hc (fun _ _ z => z) (hi1 s H C cl fp) (hg1 s H C cl fp) (ht1 s H C cl fp) (pb_put (hk s H C cl fp) (hv s H C cl fp)) (fun _ z => nomatch z) (hs1 _)) hv1 hs) (asg_cb hT (em_next hT1 em_dict) or_dk)
end
/-! ### tuple(d) -/
section
variable {prog : Program} {w : World} {A : Around} {E : Value → Shared → Prop} {s : Shared} {r : Addr}
theorem code_tuple_coll {Q₁ : Value → Shared → Prop} {Pv : List Value → Prop} (hTI : s.TypeIs (.ref r) "dict")
    (col : ∀ {R : List Value → Shared → Prop} {E' : Value → Shared → Prop}, (∀ (us : List Value) (h' : Heap) (tk : Nat), Pv us → us.length ≤ sizeLine → (∀ b o, s.heap.get? b = some o → h'.get? b = some o) → R us { s with heap := h', toks := tk }) → wpAny (model prog w) A.in1 (collect (.ref r)) R E' s)
    (h : ∀ (us : List Value) (h' : Heap) (tk : Nat), Pv us → us.length ≤ sizeLine → (∀ b o, s.heap.get? b = some o → h'.get? b = some o) → Q₁ (.ref h'.objs.size) { s with heap := h'.push { cls := .type "tuple", data := .seq us.toArray }, toks := tk }) :
    codeAny (model prog w) A (.call (.builtin "tuple.__new__") ⟨[.type "tuple", .ref r], []⟩) (wants Q₁ E) s := by
  refine codeAny_of_tree ?_
  show wpAny _ A.in1 (do checkBuiltinCall "tuple.__new__" ⟨[.type "tuple", .ref r], []⟩; again (.builtin "tuple.__new__" ⟨[.type "tuple", .ref r], []⟩)) _ _ s
  refine wpAny_bind (wpAny_of_eq (F.newCall_tuple_1 _) (wpAny_pure ⟨plainId_quiet F.plain_tuple_new _, codeAny_builtin F.entry_tuple_new ?_⟩))
  rw [Around.under_plainId F.plain_tuple_new _]
  have hsub := sub_tuple_self
  have hinit := init_tuple_lookup
  have hmh := madeHere_tuple
  wp_walk using wpAny_typeOf hTI, col
  intro us h' tk pv hz hk
  show wpAny _ _ (Builtin.Tuple.tupleExact us.toArray >>= fun v => ret v) _ _ _
  unfold Builtin.Tuple.tupleExact
  refine wpAny_bind (wpAny_newObj_type ?_ (by show us.toArray.size ≤ sizeLine; rw [List.size_toArray]; exact hz))
  exact wpAny_pure (h us h' tk pv hz hk)
theorem call_tuple_coll {Q : Value → Shared → Prop} {Pv : List Value → Prop} (hTI : s.TypeIs (.ref r) "dict")
    (col : ∀ {R : List Value → Shared → Prop} {E' : Value → Shared → Prop}, (∀ (us : List Value) (h' : Heap) (tk : Nat), Pv us → us.length ≤ sizeLine → (∀ b o, s.heap.get? b = some o → h'.get? b = some o) → R us { s with heap := h', toks := tk }) → wpAny (model prog w) A.in1.in1 (collect (.ref r)) R E' s)
    (hQ : ∀ (us : List Value) (h' : Heap) (tk : Nat), Pv us → us.length ≤ sizeLine → (∀ b o, s.heap.get? b = some o → h'.get? b = some o) → Q (.ref h'.objs.size) { s with heap := h'.push { cls := .type "tuple", data := .seq us.toArray }, toks := tk }) :
    wpAny (model prog w) A (call (.type "tuple") [.ref r]) Q E s := by
  refine callType_codes (Q₁ := fun obj s₁ => s₁.TypeIs obj "tuple" ∧ Q obj s₁) F.called_tuple (F.typeCall_tuple_1 _) F.entry_object_init
    (code_tuple_coll (A := A.in1) hTI col fun us h' tk pv hz hk => ⟨⟨_, Heap.get?_push_size _ rfl, rfl⟩, hQ us h' tk pv hz hk⟩) fun obj s₁ h₁ => ?_
  exact ⟨h₁.1, F.args_object_init_2 obj _, object_init_meets F.called_tuple.init.lookup F.called_tuple.made (by decide) prog w A.in1 _ s₁ ⟨h₁.1, rfl, h₁.2⟩⟩
end
section
variable {X : Cx} {pins : List (Addr × Obj)} {σ : L2.St} {H : Hp} {s : Shared} {A : Around}
/-- the keys of a dict of tuples, collected -/
theorem coll_dT {d : Addr} {kvs : List (List Key × V)} {R : List Value → Shared → Prop} {E : Value → Shared → Prop} (I : Inv X pins σ H s) (hh : A.handled = none) (hd : H d = some (.dT kvs)) (q : ∀ (us : List Value) (h' : Heap) (tk : Nat), (∃ bs, IsKeys H kvs bs ∧ us = bs.map Value.ref) → us.length ≤ sizeLine → (∀ b o, s.heap.get? b = some o → h'.get? b = some o) → R us { s with heap := h', toks := tk }) :
    wpAny (model X.prog X.w) A (collect (.ref d)) R E s := by
  obtain ⟨z, hs, ks, pr, o, es, ep, ho, hx, hdt, he, hn⟩ := (show ObjOk X.prog X.w H s.heap d (.dT kvs) from I.hok d _ hd)
  have l1 : es.size = ks.length := size_of_entries he
  have l2 : kvs.length = ks.length := Paired.length pr
  refine PySem.W.kdu_collect (kdl_raw hs hx hdt) hh ho (by omega) fun h' tk acc' kp it => ?_
  have ea : acc'.toList = ks.map fun x => Value.ref x.2.1 := by
    have hl : acc'.toList.length = ks.length := by rw [Array.length_toList, it.1]; exact l1
    apply List.ext_getElem?
    intro j
    rw [List.getElem?_map]
    cases hj : acc'.toList[j]? with
    | none =>
      have h1 := List.getElem?_eq_none_iff.mp hj
      rw [List.getElem?_eq_none (by omega)]
      all_goals rfl
    | some v =>
      obtain ⟨en, hen, hv⟩ := it.2 j v (by rw [← Array.getElem?_toList]; exact hj)
      have qe := entry_at he j
      rw [hen] at qe
      cases hb : ks[j]? with
      | none =>
        rw [hb] at qe
        exact nomatch (show some en = none from qe)
      | some b =>
        rw [hb] at qe
        have e2 : en = entryOfKey (tupleKind (mixKind X.prog X.w)) b := Option.some.inj qe
        rw [hv, e2]
        all_goals rfl
  refine q _ h' tk ⟨_, isKeys_of pr, ?_⟩ ?_ kp
  · rw [ea, List.map_map]; rfl
  · rw [Array.length_toList, it.1, l1]; omega
def rTupD (K : PySem.W.Frag) : List V → Hp → VK → Prop := fun xs H Q => ∃ d, xs = [.ref d] ∧ ((∃ kvs : List (Key × V), H d = some (.dK kvs) ∧ ∀ p, H p = none → Q (.ref p) (upd H p (.tup (kvs.map fun p => kV p.1)))) ∨
  ∃ kvs : List (List Key × V), H d = some (.dT kvs) ∧ ∀ p bs, H p = none → IsKeys H kvs bs → Q (.ref p) (upd H p (.tup (bs.map V.ref))))
theorem c_tupD (hc : X.calm = true) : CallR X (.type "tuple") (rTupD X.K) := by
  intro pins s σ H xs us Q I r h
  obtain ⟨d, rfl, h⟩ := h
  obtain ⟨u, rfl, rx⟩ := vals1 r
  cases rx
  have fin : ∀ (us : List Value) (ys : List V) (h' : Heap) (tk : Nat), Vals ys us → us.length ≤ sizeLine → (∀ b o, s.heap.get? b = some o → h'.get? b = some o) → (∀ p, H p = none → Q (.ref p) (upd H p (.tup ys))) → EP X pins σ Q (.ref h'.objs.size) { s with heap := h'.push { cls := .type "tuple", data := .seq us.toArray }, toks := tk } := fun us ys h' tk rv hz kp q => by
    have I1 : Inv X pins σ H { s with heap := h', toks := tk } := I.kept (t' := tk) kp
    have I2 : Inv X pins σ (upd H h'.objs.size (.tup ys)) { s with heap := h'.push { cls := .type "tuple", data := .seq us.toArray }, toks := tk } :=
      I1.laid (t' := tk) (fun b o e => Heap.get?_push_of_some _ e) (Nat.le_refl _) (show ObjOk X.prog X.w _ _ _ (.tup ys) from ⟨by rw [rv.length]; exact hz, us, rv, IsTup.new _ _⟩)
    exact ⟨.ref h'.objs.size, _, I2, rfl, q _ (I1.hok.fresh (Nat.le_refl _))⟩
  rcases h with ⟨kvs, hd, q⟩ | ⟨kvs, hd, q⟩
  · have hT : s.TypeIs (.ref d) "dict" := by
      obtain ⟨_, _, _, _, o, _, _, e, ex, _⟩ := I.hok d _ hd
      exact ⟨o, e, ex.1⟩
    exact call_tuple_coll (Pv := fun us => Vals (kvs.map fun p => kV p.1) us) hT (fun k => coll_run (x := V.ref d) I (I.ok.hd hc) (show L2.RelV (V.ref d) (Value.ref d) from rfl) ⟨d, rfl, .inr (.inr ⟨kvs, hd, rfl⟩)⟩ k) fun us h' tk pv hz kp => fin us _ h' tk pv hz kp q
  · have hT : s.TypeIs (.ref d) "dict" := by
      obtain ⟨_, _, _, _, o, _, _, e, ex, _⟩ := I.hok d _ hd
      exact ⟨o, e, ex.1⟩
    refine call_tuple_coll (Pv := fun us => ∃ bs, IsKeys H kvs bs ∧ us = bs.map Value.ref) hT (fun k => coll_dT I (I.ok.hd hc) hd k) fun us h' tk pv hz kp => ?_
    obtain ⟨bs, hk, rfl⟩ := pv
    exact fin _ (bs.map V.ref) h' tk (vals_refs bs) hz kp fun p hp => q p bs hp hk
end
@[irreducible] def tupXD : F1 := fun x S P => match x with
  | .obj n => rdO S n fun o => match o with
    | .dK kvs => P (.tup (kvs.map fun p => keyOfK p.1)) S
    | .dT kvs => P (.tup (kvs.map fun p => .tup (p.1.map keyOfK))) S
    | _ => False
  | _ => False
section
variable {K : KX}
theorem keys_rel {ι : List Addr} {H : Hp} : ∀ {ks : List Key}, VRs K ι H (ks.map kV) (ks.map keyOfK)
  | [] => .nil
  | k :: _ => .cons (keyOfK_rel k) keys_rel
theorem isKeys_rel {ι : List Addr} {H : Hp} : ∀ {kvs : List (List Key × V)} {ds : List (List Key × D)} {bs : List Addr}, IsKeys H kvs bs → kvs.map (·.1) = ds.map (·.1) → VRs K ι H (bs.map V.ref) (ds.map fun p => D.tup (p.1.map keyOfK))
  | [], [], _, h, _ => by cases h; exact .nil
  | [], _ :: _, _, _, e => by simp at e
  | _ :: _, [], _, _, e => by simp at e
  | p :: ps, q :: qs, _, h, e => by
    cases h with
    | cons h1 h2 =>
      simp only [List.map_cons, List.cons.injEq] at e
      refine .cons (.tup h1 ?_) (isKeys_rel h2 e.2)
      rw [← e.1]
      exact keys_rel
theorem tupXA : CallA K (rTupD K.f) (ar1 tupXD) := callA1 fun ι H S x d P Q R rx h k => by
  unfold tupXD at h
  cases rx with
  | obj e1 =>
    obtain ⟨o, e2, h⟩ := rdO_out h
    have ho := R.ob _ _ _ e1 e2
    cases o with
    | dK kvs =>
      obtain ⟨ws, q1, q2, q3⟩ := ho
      refine ⟨_, rfl, .inl ⟨ws, q1, fun p hp => ?_⟩⟩
      have hr : VRs K ι H (ws.map fun p => kV p.1) (kvs.map fun p => keyOfK p.1) := by
        have e1 : (ws.map fun p => kV p.1) = (ws.map (·.1)).map kV := by rw [List.map_map]; rfl
        have e2 : (kvs.map fun p => keyOfK p.1) = (kvs.map (·.1)).map keyOfK := by rw [List.map_map]; rfl
        rw [e1, e2, q2]
        exact keys_rel
      obtain ⟨e2, r2, v2⟩ := new_tup R hp hr
      exact k _ _ _ _ _ e2 r2 v2 h
    | dT kvs =>
      obtain ⟨ws, q1, q2, q3⟩ := ho
      refine ⟨_, rfl, .inr ⟨ws, q1, fun p bs hp hb => ?_⟩⟩
      obtain ⟨e2, r2, v2⟩ := new_tup R hp (isKeys_rel hb q2)
      exact k _ _ _ _ _ e2 r2 v2 h
    | _ => exact h.elim
  | _ => exact h.elim
end
end Ab

/-! dict and set comprehensions of whole numbers; clauses made of lits -/
namespace Ab
open PySem L2
theorem cb_inv {chk : Sto → Prop} {g : AG} {t : AT} {em : Em} {a0 : AS} {K : O → Sto → Prop} {items : List D} {acc0 : O} {S : Sto} (I : Nat → O → Sto → Prop) (h0 : I 0 acc0 S)
    (step : ∀ i d acc S (nx : O → Sto → Prop), items[i]? = some d → I i acc S → (∀ acc' S', I (i + 1) acc' S' → nx acc' S') → chk S ∧ g d a0 S fun a S1 => t a S1 fun b S2 => iteP b (em a S2 acc nx) (nx acc S2))
    (fin : ∀ acc S, I items.length acc S → chk S ∧ K acc S) : cbLoop chk g t em a0 K items acc0 S := by
  have gen : ∀ (m i : Nat), items.length - i = m → i ≤ items.length → ∀ acc S, I i acc S → cbLoop chk g t em a0 K (items.drop i) acc S := by
    intro m
    induction m with
    | zero =>
      intro i hm hi a S h
      have : i = items.length := by omega
      subst this
      rw [List.drop_length]
      exact fin a S h
    | succ m ih =>
      intro i hm hi a S h
      have hl : i < items.length := by omega
      rw [List.drop_eq_getElem_cons hl]
      exact step i _ a S _ (List.getElem?_eq_getElem hl) h fun a' S' h' => ih (i + 1) (by omega) (by omega) a' S' h'
  simpa using gen _ 0 rfl (Nat.zero_le _) acc0 S h0
/-! ### each once -/
def addU {α : Type} [DecidableEq α] (l : List α) (x : α) : List α := if x ∈ l then l else l ++ [x]
def ddF {α : Type} [DecidableEq α] (l xs : List α) : List α := xs.foldl addU l
section
variable {α : Type} [DecidableEq α]
theorem addU_mem {l : List α} {x y : α} : y ∈ addU l x ↔ y ∈ l ∨ y = x := by
  unfold addU
  split
  · rename_i h
    exact ⟨.inl, fun z => z.elim id fun e => e ▸ h⟩
  · simp
theorem addU_nodup {l : List α} {x : α} (h : l.Nodup) : (addU l x).Nodup := by
  unfold addU
  split
  · exact h
  · rename_i q
    exact List.nodup_append.mpr ⟨h, by simp, fun a ha b hb => by simp at hb; subst hb; exact fun z => q (z ▸ ha)⟩
theorem ddF_mem {xs : List α} : ∀ {l : List α} {y : α}, y ∈ ddF l xs ↔ y ∈ l ∨ y ∈ xs := by
  induction xs with
  | nil => intro l y; simp [ddF]
  | cons x xs ih =>
    intro l y
    show y ∈ ddF (addU l x) xs ↔ _
    rw [ih, addU_mem, List.mem_cons, or_assoc]
theorem ddF_nodup {xs : List α} : ∀ {l : List α}, l.Nodup → (ddF l xs).Nodup := by
  induction xs with
  | nil => intro l h; exact h
  | cons x xs ih => intro l h; exact ih (addU_nodup h)
theorem addU_len (l : List α) (x : α) : (addU l x).length ≤ l.length + 1 := by unfold addU; split <;> simp
theorem ddF_len {xs : List α} : ∀ {l : List α}, (ddF l xs).length ≤ l.length + xs.length := by
  induction xs with
  | nil => intro l; simp [ddF]
  | cons x xs ih =>
    intro l
    have h1 := ih (l := addU l x)
    have h2 := addU_len l x
    show (ddF (addU l x) xs).length ≤ _
    simp only [List.length_cons]
    omega
theorem ddF_app {xs ys : List α} {l : List α} : ddF l (xs ++ ys) = ddF (ddF l xs) ys := by unfold ddF; rw [List.foldl_append]
theorem ddF_full {xs : List α} (h : (ddF [] xs).length = xs.length) : xs.Nodup := by
  have gen : ∀ (xs l : List α), l.Nodup → (ddF l xs).length = l.length + xs.length → xs.Nodup ∧ ∀ x ∈ xs, x ∉ l := by
    intro xs
    induction xs with
    | nil => intro l _ _; exact ⟨List.nodup_nil, by simp⟩
    | cons x xs ih =>
      intro l hl h
      have h0 : (ddF (addU l x) xs).length = l.length + (xs.length + 1) := h
      have h1 := ddF_len (xs := xs) (l := addU l x)
      have h2 := addU_len l x
      have hx : x ∉ l := fun z => by
        have : addU l x = l := by unfold addU; rw [if_pos z]
        rw [this] at h1 h0
        omega
      have e : addU l x = l ++ [x] := by unfold addU; rw [if_neg hx]
      obtain ⟨q1, q2⟩ := ih (addU l x) (addU_nodup hl) (by rw [e] at h0 ⊢; simp; omega)
      refine ⟨List.nodup_cons.mpr ⟨fun z => ?_, q1⟩, fun y hy => ?_⟩
      · exact q2 x z (by rw [e]; simp)
      · rcases List.mem_cons.mp hy with rfl | hy
        · exact hx
        · exact fun z => q2 y hy (by rw [e]; simp [z])
  exact (gen xs [] List.nodup_nil (by simpa using h)).1
theorem ddF_of {xs : List α} (h : xs.Nodup) : ddF [] xs = xs := by
  have gen : ∀ (xs l : List α), (l ++ xs).Nodup → ddF l xs = l ++ xs := by
    intro xs
    induction xs with
    | nil => intro l _; simp [ddF]
    | cons x xs ih =>
      intro l h
      have hx : x ∉ l := fun z => by
        have := (List.nodup_append.mp h).2.2 x z x (by simp)
        exact this rfl
      have e : addU l x = l ++ [x] := by unfold addU; rw [if_neg hx]
      show ddF (addU l x) xs = _
      rw [e, ih (l ++ [x]) (by simpa using h)]
      simp
  simpa using gen xs [] (by simpa using h)
end
/-- a dict whose values are all True -/
def oT (l : List Int) : O := .dK (l.map fun k => (Sum.inl k, D.bl true))
def oS (l : List Int) : O := .set (l.map Sum.inl)
theorem any_inl (l : List Int) (k : Int) : ((l.map fun k => ((Sum.inl k : Key), D.bl true)).any fun kv => decide (kv.1 = Sum.inl k)) = decide (k ∈ l) := by
  rw [List.any_map, Bool.eq_iff_iff, List.any_eq_true, decide_eq_true_eq]
  constructor
  · rintro ⟨x, hx, h⟩
    have h : (Sum.inl x : Key) = Sum.inl k := of_decide_eq_true h
    injection h with h
    exact h ▸ hx
  · exact fun h => ⟨k, h, decide_eq_true rfl⟩
theorem putD_T (l : List Int) (k : Int) : putD (l.map fun k => ((Sum.inl k : Key), D.bl true)) (Sum.inl k) (.bl true) = (addU l k).map fun k => (Sum.inl k, D.bl true) := by
  unfold putD addU
  rw [any_inl]
  by_cases h : k ∈ l
  · rw [if_pos (decide_eq_true h), if_pos h, List.map_map]
    refine List.map_congr_left fun x _ => ?_
    simp only [Function.comp]
    split <;> rfl
  · rw [if_neg (by simpa using h), if_neg h, List.map_append]
    rfl
theorem inK_inl (l : List Int) (k : Int) : inK (Sum.inl k) (l.map Sum.inl) = decide (k ∈ l) := by
  unfold inK
  rw [List.any_map, Bool.eq_iff_iff, List.any_eq_true, decide_eq_true_eq]
  constructor
  · rintro ⟨x, hx, h⟩
    have h : (Sum.inl x : Key) = Sum.inl k := of_decide_eq_true h
    injection h with h
    exact h ▸ hx
  · exact fun h => ⟨k, h, decide_eq_true rfl⟩
theorem addK_inl (l : List Int) (k : Int) : addK (l.map Sum.inl) (Sum.inl k) = (addU l k).map Sum.inl := by
  unfold addK addU
  rw [inK_inl]
  by_cases h : k ∈ l
  · rw [if_pos (decide_eq_true h), if_pos h]
  · rw [if_neg (by simpa using h), if_neg h, List.map_append]
    rfl
theorem valD_T (l : List Int) (k : Int) : (valD (l.map fun k => ((Sum.inl k : Key), D.bl true)) (Sum.inl k)).isSome = decide (k ∈ l) := by
  unfold valD
  rw [Option.isSome_map, ← any_inl, Bool.eq_iff_iff, List.find?_isSome, List.any_eq_true]
/-- k in the dict, in the set -/
theorem in_oT {neg : Bool} {k : Int} {l : List Int} {n : Nat} {S : Sto} {P : D → Sto → Prop} (h : S[n]? = some (oT l)) (q : P (.bl (bN neg (decide (k ∈ l)))) S) : inD neg (.int k) (.obj n) S P :=
  rdO_of h (by rw [← valD_T] at q; exact q)
theorem in_oS {neg : Bool} {k : Int} {l : List Int} {n : Nat} {S : Sto} {P : D → Sto → Prop} (h : S[n]? = some (oS l)) (q : P (.bl (bN neg (decide (k ∈ l)))) S) : inD neg (.int k) (.obj n) S P :=
  rdO_of h (by rw [← inK_inl] at q; exact q)
theorem put_oT {k : Int} {l : List Int} {n : Nat} {S : Sto} {P : Sto → Prop} (h : S[n]? = some (oT l)) (hz : l.length ≤ 1000000) (q : P (S.set n (oT (addU l k)))) : setD (.obj n) (.int k) (.bl true) S P :=
  rdO_of h (And.intro (by rw [List.length_map]; exact small_line' hz) (by rw [putD_T]; exact q))
/-- {f y: True for y in xs} -/
theorem cb_dict {α : Type} (xs : List α) (e : α → D) (f : α → Int) (V : Sto → Prop) {chk : Sto → Prop} {g : AG} {x : AE} {a0 : AS} {K : O → Sto → Prop} {items : List D} {l0 : List Int} {S : Sto} (hi : items = xs.map e) (h0 : V S) (hz : l0.length + xs.length ≤ 1000000)
    (step : ∀ y ∈ xs, ∀ S (nx : D → Sto → Prop), V S → (∀ S', V S' → nx (.int (f y)) S') → chk S ∧ g (e y) a0 S fun a S1 => x a S1 nx)
    (fin : ∀ S, V S → chk S ∧ K (oT (ddF l0 (xs.map f))) S) : cbLoop chk g aYes (emD x (aC (.bl true))) a0 K items (oT l0) S := by
  subst hi
  refine cb_inv (fun i acc S => acc = oT (ddF l0 ((xs.take i).map f)) ∧ V S) ⟨by simp [ddF], h0⟩ (fun i d acc S nx hd h k => ?_) (fun acc S h => ?_)
  · obtain ⟨rfl, hV⟩ := h
    obtain ⟨y, hx, rfl⟩ := map_get hd
    have hil : i < xs.length := (List.getElem?_eq_some_iff.mp hx).1
    have hlen := ddF_len (xs := (xs.take i).map f) (l := l0)
    have hti : (xs.take i).length = i := by simp; omega
    rw [List.length_map, hti] at hlen
    obtain ⟨c, h⟩ := step y (List.mem_of_getElem? hx) S (fun k S1 => match keyD k with | some kk => ((ddF l0 ((xs.take i).map f)).map fun k => ((Sum.inl k : Key), D.bl true)).length < sizeLine ∧ nx (.dK (putD ((ddF l0 ((xs.take i).map f)).map fun k => (Sum.inl k, D.bl true)) kk (.bl true))) S1 | none => False) hV (fun S' hV' => by
      refine ⟨small_line' (by rw [List.length_map]; omega), ?_⟩
      rw [putD_T]
      refine k _ _ ⟨?_, hV'⟩
      rw [List.take_add_one, hx, Option.toList, List.map_append, ddF_app]
      rfl)
    refine ⟨c, ?_⟩
    show g (e y) a0 S fun a S1 => iteP true _ _
    have eq : (fun (a : AS) S1 => iteP true (emD x (aC (.bl true)) a S1 (oT (ddF l0 ((xs.take i).map f))) nx) (nx (oT (ddF l0 ((xs.take i).map f))) S1)) = fun a S1 => x a S1 fun k S1 => match keyD k with | some kk => ((ddF l0 ((xs.take i).map f)).map fun k => ((Sum.inl k : Key), D.bl true)).length < sizeLine ∧ nx (.dK (putD ((ddF l0 ((xs.take i).map f)).map fun k => (Sum.inl k, D.bl true)) kk (.bl true))) S1 | none => False := by
      funext a S1
      rw [iteP_def, if_pos rfl]
      rfl
    rw [eq]
    exact h
  · obtain ⟨rfl, hV⟩ := h
    have := fin S hV
    simpa using this
/-- {f y for y in xs} -/
theorem cb_set {α : Type} (xs : List α) (e : α → D) (f : α → Int) (V : Sto → Prop) {chk : Sto → Prop} {g : AG} {x : AE} {a0 : AS} {K : O → Sto → Prop} {items : List D} {l0 : List Int} {S : Sto} (hi : items = xs.map e) (h0 : V S) (hz : l0.length + xs.length ≤ 1000)
    (step : ∀ y ∈ xs, ∀ S (nx : D → Sto → Prop), V S → (∀ S', V S' → nx (.int (f y)) S') → chk S ∧ g (e y) a0 S fun a S1 => x a S1 nx)
    (fin : ∀ S, V S → chk S ∧ K (oS (ddF l0 (xs.map f))) S) : cbLoop chk g aYes (emS x) a0 K items (oS l0) S := by
  subst hi
  refine cb_inv (fun i acc S => acc = oS (ddF l0 ((xs.take i).map f)) ∧ V S) ⟨by simp [ddF], h0⟩ (fun i d acc S nx hd h k => ?_) (fun acc S h => ?_)
  · obtain ⟨rfl, hV⟩ := h
    obtain ⟨y, hx, rfl⟩ := map_get hd
    have hil : i < xs.length := (List.getElem?_eq_some_iff.mp hx).1
    have hlen := ddF_len (xs := (xs.take i).map f) (l := l0)
    have hti : (xs.take i).length = i := by simp; omega
    rw [List.length_map, hti] at hlen
    obtain ⟨c, h⟩ := step y (List.mem_of_getElem? hx) S (fun k S1 => match keyD k with | some kk => ((ddF l0 ((xs.take i).map f)).map (Sum.inl : Int → Key)).length + 1 < scanBound ∧ nx (.set (addK ((ddF l0 ((xs.take i).map f)).map Sum.inl) kk)) S1 | none => False) hV (fun S' hV' => by
      refine ⟨by unfold scanBound; rw [List.length_map]; omega, ?_⟩
      rw [addK_inl]
      refine k _ _ ⟨?_, hV'⟩
      rw [List.take_add_one, hx, Option.toList, List.map_append, ddF_app]
      rfl)
    refine ⟨c, ?_⟩
    show g (e y) a0 S fun a S1 => iteP true _ _
    have eq : (fun (a : AS) S1 => iteP true (emS x a S1 (oS (ddF l0 ((xs.take i).map f))) nx) (nx (oS (ddF l0 ((xs.take i).map f))) S1)) = fun a S1 => x a S1 fun k S1 => match keyD k with | some kk => ((ddF l0 ((xs.take i).map f)).map (Sum.inl : Int → Key)).length + 1 < scanBound ∧ nx (.set (addK ((ddF l0 ((xs.take i).map f)).map Sum.inl) kk)) S1 | none => False := by
      funext a S1
      rw [iteP_def, if_pos rfl]
      rfl
    rw [eq]
    exact h
  · obtain ⟨rfl, hV⟩ := h
    have := fin S hV
    simpa using this
theorem nodup_len {α : Type} [DecidableEq α] : ∀ {l m : List α}, l.Nodup → (∀ x ∈ l, x ∈ m) → l.length ≤ m.length
  | [], _, _, _ => Nat.zero_le _
  | x :: l, m, h, hs => by
    obtain ⟨h1, h2⟩ := List.nodup_cons.mp h
    have hx := hs x (by simp)
    have ih := nodup_len (l := l) (m := m.erase x) h2 fun y hy => (List.mem_erase_of_ne fun z => h1 (by rw [← z]; exact hy)).mpr (hs y (by simp [hy]))
    rw [List.length_erase_of_mem hx] at ih
    have := List.length_pos_of_mem hx
    simp only [List.length_cons]
    omega
/-! ### going through a list or tuple -/
theorem seqI_holds {x : D} {S : Sto} {l : List D} {P : IT → Sto → Prop} (h : Holds x S l) (k : ∀ chk : Sto → Prop, (∀ S', Holds x S' l → chk S') → P ⟨chk, l⟩ S) : seqI x S P := by
  rcases h with rfl | ⟨n, rfl, e⟩
  · exact k _ fun _ _ => trivial
  · refine rdO_of e (k _ fun S' h' => ?_)
    rcases h' with z | ⟨m, z, e'⟩
    · cases z
    · cases z; exact e'
theorem tup_holds {x : D} {S : Sto} {l : List D} {P : D → Sto → Prop} (h : Holds x S l) (k : P (.tup l) S) : tupD x S P := by
  rcases h with rfl | ⟨n, rfl, e⟩
  · exact k
  · exact rdO_of e k
theorem lst_holds {x : D} {S : Sto} {l : List D} {P : D → Sto → Prop} (h : Holds x S l) (k : P (.obj S.length) (S ++ [.lst l])) : lstD x S P := by
  rcases h with rfl | ⟨n, rfl, e⟩
  · exact k
  · exact rdO_of e k
theorem lenX_holds {x : D} {S : Sto} {l : List D} {P : D → Sto → Prop} (h : Holds x S l) (k : P (.int l.length) S) : lenXD x S P := by
  rcases h with rfl | ⟨n, rfl, q⟩
  · exact k
  · exact rdO_of q k
theorem Holds.obj {n : Nat} {S : Sto} {l : List D} (h : S[n]? = some (.lst l)) : Holds (.obj n) S l := .inr ⟨n, rfl, h⟩
theorem Holds.tup {S : Sto} {l : List D} : Holds (.tup l) S l := .inl rfl
/-- a list, a tuple, or a tuple that stood ahead -/
def HoldK (d : D) (S : Sto) (l : List D) : Prop := d = .ktp l ∨ Holds d S l
theorem Holds.k {d : D} {S : Sto} {l : List D} (h : Holds d S l) : HoldK d S l := .inr h
theorem HoldK.keep0 {d : D} {S S' : Sto} {l : List D} (h : HoldK d S l) (k : Keep MZ S S') : HoldK d S' l := h.elim .inl fun z => .inr (z.keep0 k)
theorem seqI_holdK {x : D} {S : Sto} {l : List D} {P : IT → Sto → Prop} (h : HoldK x S l) (k : ∀ chk : Sto → Prop, (∀ S', HoldK x S' l → chk S') → P ⟨chk, l⟩ S) : seqI x S P := by
  rcases h with rfl | h
  · exact k _ fun _ _ => trivial
  · exact seqI_holds h fun chk hc => k chk fun S' h' => by
      rcases h with rfl | ⟨n, rfl, e⟩
      · exact hc _ (.inl rfl)
      · rcases h' with z | h'
        · cases z
        · exact hc _ h'
/-- count of typed data -/
theorem count_of {α : Type} [DecidableEq α] [En α] (a : α) : ∀ l : List α, ((l.map En.py).countP fun z => PyData.eqv z (En.py a)) = l.countP fun b => decide (b = a)
  | [] => rfl
  | b :: l => by
    rw [List.map_cons, List.countP_cons, List.countP_cons, count_of a l, En.eqv]
theorem cnt_en {α : Type} [DecidableEq α] [En α] {a : α} {l : List α} {n : Nat} {S : Sto} {P : D → Sto → Prop} (h : S[n]? = some (.lst (l.map d))) (k : P (.int (l.countP fun b => decide (b = a) : Nat)) S) (hd : En.dep α ≤ 60 := by decide) : cntD (.obj n) [d a] S P :=
  rdO_of h (cntPy_of (En.pyr S a) (pys_of S l) (shaped_of hd a) (shaped_lst hd l) (by rw [count_of]; exact k))
/-! ### single steps, where the unifier needs the head laid bare -/
theorem st_g {i : Nat} {e : D} {a : AS} {S : Sto} {P : AS → Sto → Prop} (h : P (a.set i (some e)) S) : gN i e a S P := h
theorem st_seq {x y : AX} {AD : AEnds} {a : AS} {S : Sto} (h : x { AD with nx := y AD } a S) : aSeq x y AD a S := h
theorem st_if {t : AT} {x y : AX} {AD : AEnds} {a : AS} {S : Sto} (h : t a S fun b S1 => iteP b (x AD a S1) (y AD a S1)) : aIfS t x y AD a S := h
theorem st_or {t u : AT} {a : AS} {S : Sto} {P : Bool → Sto → Prop} (h : t a S fun b S1 => iteP b (P true S1) (u a S1 P)) : aOr t u a S P := h
theorem st_and {t u : AT} {a : AS} {S : Sto} {P : Bool → Sto → Prop} (h : t a S fun b S1 => iteP b (u a S1 P) (P false S1)) : aAnd t u a S P := h
theorem st_b {x : AE} {a : AS} {S : Sto} {P : Bool → Sto → Prop} (h : x a S fun d S1 => match d with | .bl b => P b S1 | _ => False) : aB x a S P := h
theorem st_op {f : F2} {i j : Nat} {x y : D} {a : AS} {S : Sto} {P : D → Sto → Prop} (h1 : slot a i = some x) (h2 : slot a j = some y) (h : f x y S P) : aOp f (aVar i) (aVar j) a S P := by
  unfold aOp aVar
  rw [h1, h2]
  exact h
/-! ### settings and clauses -/
def fitsB (ms c : List Int) : Bool := c.any fun l => decide (ms.getD (ab l - 1).toNat 0 = l)
/-- letters of c are among the n first -/
def In (n : Nat) (c : List Int) : Prop := (∀ l ∈ c, Lit n l) ∧ c.length ≤ 1000
/-! ### the clause of some lits -/
def optD : Option (List Int) → D
  | none => .non
  | some c => d c
instance : En (Option (List Int)) where
  d := optD
  py := fun r => match r with | none => .none | some c => En.py c
  dep := 1
  pyr := fun S r => by
    cases r with
    | none => exact .non
    | some c => exact En.pyr S c
  eqv := fun a b => by
    cases a with
    | none =>
      cases b with
      | none => rfl
      | some c => show PyData.eqv .none (.tuple _) = _; simp [PyData.eqv]
    | some c =>
      cases b with
      | none => show PyData.eqv (.tuple _) .none = _; simp [PyData.eqv]
      | some c' => show PyData.eqv (En.py c) (En.py c') = _; rw [En.eqv]; exact dec_congr (by simp)
  lay := fun r => by
    cases r with
    | none => rfl
    | some c => exact En.lay c
  depth := fun r => by
    cases r with
    | none => show PyData.depth .none ≤ 1; simp [PyData.depth]
    | some c => exact En.depth c
/-- r is the clause of ls, None where a lit stands with its contrary -/
def Made (ls : List Int) : Option (List Int) → Prop
  | none => ∃ l ∈ ls, -l ∈ ls
  | some c => (c.Pairwise fun a b => ab a < ab b) ∧ ∀ x, x ∈ c ↔ x ∈ ls
theorem made_uniq {ls : List Int} {r r' : Option (List Int)} (hn : ∀ l ∈ ls, l ≠ 0) (h : Made ls r) (h' : Made ls r') : r = r' := by
  have clash : ∀ {c : List Int}, Made ls (some c) → ¬ ∃ l ∈ ls, -l ∈ ls := fun {c} ⟨hp, hm⟩ ⟨l, h1, h2⟩ => by
    have a1 := (hm l).mpr h1
    have a2 := (hm (-l)).mpr h2
    have hl := hn l h1
    obtain ⟨i, hi, e1⟩ := List.mem_iff_getElem.mp a1
    obtain ⟨j, hj, e2⟩ := List.mem_iff_getElem.mp a2
    rcases Nat.lt_trichotomy i j with q | q | q
    · have := List.pairwise_iff_getElem.mp hp i j hi hj q
      rw [e1, e2, ab_neg] at this
      omega
    · subst q
      rw [e1] at e2
      omega
    · have := List.pairwise_iff_getElem.mp hp j i hj hi q
      rw [e1, e2, ab_neg] at this
      omega
  cases r with
  | none =>
    cases r' with
    | none => rfl
    | some c => exact absurd h (clash h')
  | some c =>
    cases r' with
    | none => exact absurd h' (clash h)
    | some c' =>
      congr 1
      have nd : ∀ {c : List Int}, (c.Pairwise fun a b => ab a < ab b) → c.Nodup := fun {c} hp => hp.imp fun {a b} q z => by rw [z] at q; omega
      have pm : c.Perm c' := (List.perm_ext_iff_of_nodup (nd h.1) (nd h'.1)).mpr fun x => (h.2 x).trans (h'.2 x).symm
      refine List.Perm.eq_of_pairwise (le := fun a b => ab a < ab b) (fun a b _ _ h1 h2 => ?_) h.1 h'.1 pm
      omega
theorem made_cl {ls c : List Int} (hv : ∀ l ∈ ls, Lit 40 l) (h : Made ls (some c)) : Cl 40 c := ⟨fun l hl => hv l ((h.2 l).mp hl), h.1⟩
theorem cl_len {s : Int} {c : List Int} (h : Cl s c) : c.length ≤ s.toNat := by
  have hn : (c.map fun l => (ab l - 1).toNat).Nodup := by
    rw [List.nodup_iff_pairwise_ne, List.pairwise_map]
    exact h.inc.imp_of_mem fun {a b} ha hb q => by
      have h1 := (h.lit a ha).1
      have h2 := (h.lit b hb).1
      omega
  have hs : ∀ x ∈ c.map (fun l => (ab l - 1).toNat), x ∈ List.range s.toNat := fun x hx => by
    obtain ⟨l, hl, rfl⟩ := List.mem_map.mp hx
    have h1 := h.lit l hl
    have h2 := h1.1
    have h3 := h1.2
    exact List.mem_range.mpr (by omega)
  have := nodup_len hn hs
  simpa using this
theorem lit_ne {s l : Int} (h : Lit s l) : l ≠ 0 := fun z => by
  have := h.1
  rw [z] at this
  exact absurd this (by decide)
theorem made_self {c : List Int} (h : Cl 40 c) : Made c (some c) := ⟨h.inc, fun _ => Iff.rfl⟩
theorem made_perm {ls ls' : List Int} {r : Option (List Int)} (h : ∀ l, l ∈ ls' ↔ l ∈ ls) (m : Made ls r) : Made ls' r := by
  cases r with
  | none => exact m.elim fun l q => ⟨l, (h l).mpr q.1, (h _).mpr q.2⟩
  | some c => exact ⟨m.1, fun x => (m.2 x).trans (h x).symm⟩
theorem erase_perm {α : Type} : ∀ {l : List α} {i : Nat} (h : i < l.length), ([l[i]] ++ l.eraseIdx i).Perm l
  | _ :: _, 0, _ => List.Perm.refl _
  | a :: l, i + 1, h => (List.Perm.swap a _ _).trans (List.Perm.cons a (erase_perm (l := l) (i := i) (by simpa using h)))
theorem erase_map {α β : Type} (f : α → β) : ∀ (l : List α) (i : Nat), (l.map f).eraseIdx i = (l.eraseIdx i).map f
  | [], _ => rfl
  | _ :: _, 0 => rfl
  | _ :: l, i + 1 => by simp [erase_map f l i]
instance {s l : Int} : Decidable (Lit s l) := inferInstanceAs (Decidable (_ ∧ _))
instance : En Bool where
  d := .bl
  py := .bool
  dep := 0
  pyr := fun _ b => .bl b
  eqv := fun a b => by cases a <;> cases b <;> simp [PyData.eqv]
  lay := fun _ => rfl
  depth := fun _ => Nat.le_of_eq (by simp [PyData.depth])
/-- sorted by letters -/
def absort (l : List Int) : List Int := l.mergeSort fun a b => decide (ab a ≤ ab b)
theorem absort_perm (l : List Int) : (absort l).Perm l := List.mergeSort_perm _ _
theorem absort_pw (l : List Int) : (absort l).Pairwise fun a b => ab a ≤ ab b := by
  have := List.pairwise_mergeSort (le := fun a b => decide (ab a ≤ ab b)) (by intro a b c; simp; omega) (by intro a b; simp; omega) l
  exact this.imp fun {a b} z => of_decide_eq_true z
theorem ab_eq {a b : Int} (h : ab a = ab b) : a = b ∨ a = -b := by
  rcases ab_cases a with ⟨a1, a2⟩ | ⟨a1, a2⟩ <;> rcases ab_cases b with ⟨b1, b2⟩ | ⟨b1, b2⟩ <;> omega
theorem absort_lt {l : List Int} (hn : l.Nodup) (hc : ∀ x ∈ l, -x ∉ l) : (absort l).Pairwise fun a b => ab a < ab b := by
  have hnd : (absort l).Nodup := (absort_perm l).nodup_iff.mpr hn
  refine ((absort_pw l).and hnd).imp_of_mem fun {a b} ha hb z => ?_
  have : ab a ≠ ab b := fun e => by
    rcases ab_eq e with e | e
    · exact z.2 e
    · have hb' := (absort_perm l).mem_iff.mp hb
      have ha' := (absort_perm l).mem_iff.mp ha
      exact hc b hb' (e ▸ ha')
  omega
theorem cl_nodup {s : Int} {c : List Int} (h : Cl s c) : c.Nodup := h.inc.imp fun {a b} q z => by rw [z] at q; omega
theorem cl_noneg {s : Int} {c : List Int} (h : Cl s c) {x : Int} (hx : x ∈ c) : -x ∉ c := fun hy => by
  have hl := lit_ne (h.lit x hx)
  have hn := h.inc
  obtain ⟨i, hi, e1⟩ := List.mem_iff_getElem.mp hx
  obtain ⟨j, hj, e2⟩ := List.mem_iff_getElem.mp hy
  rcases Nat.lt_trichotomy i j with q | q | q
  · have := List.pairwise_iff_getElem.mp hn i j hi hj q
    rw [e1, e2, ab_neg] at this
    omega
  · subst q
    rw [e1] at e2
    omega
  · have := List.pairwise_iff_getElem.mp hn j i hj hi q
    rw [e1, e2, ab_neg] at this
    omega
/-! ### sorted lists of rows -/
theorem alike_ints2 : ∀ a b : List Int, PySem.W.alikeAll (a.map PyData.int) (b.map PyData.int) = true
  | [], _ => by simp [PySem.W.alikeAll]
  | _ :: _, [] => by simp [PySem.W.alikeAll]
  | x :: a, y :: b => by simp [PySem.W.alikeAll, PySem.W.alike, alike_ints2 a b]
theorem srt_rows {rows : List (List Int)} {k : List D → Prop} (h : ∀ r ∈ rows, r ≠ []) (q : ∀ out : List (List Int), out.Perm rows → k (out.map d)) : srt (rows.map d) k := by
  refine srt_en (α := List Int) (fun x hx y hy => ?_) (.inl fun x hx => ?_) (q _ (List.mergeSort_perm _ _))
  · obtain ⟨i, _, rfl⟩ := List.mem_map.mp hx
    obtain ⟨j, _, rfl⟩ := List.mem_map.mp hy
    exact alike_ints2 i j
  · obtain ⟨i, hi, rfl⟩ := List.mem_map.mp hx
    cases i with
    | nil => exact absurd rfl (h _ hi)
    | cons a i => exact ⟨_, _, rfl⟩
end Ab

/-! dicts of Trues over clauses; books -/
namespace Ab
open PySem L2
def kC (c : List Int) : List Key := c.map Sum.inl
theorem kC_inj : ∀ {a b : List Int}, kC a = kC b → a = b
  | [], [], _ => rfl
  | [], _ :: _, h => by simp [kC] at h
  | _ :: _, [], h => by simp [kC] at h
  | x :: a, y :: b, h => by
    unfold kC at h
    simp only [List.map_cons, List.cons.injEq] at h
    obtain ⟨h1, h2⟩ := h
    injection h1 with h1
    rw [h1, kC_inj (a := a) (b := b) h2]
theorem keysD_ints : ∀ c : List Int, keysD (c.map D.int) = some (kC c)
  | [] => rfl
  | i :: c => by
    show (match keyD (.int i) with
      | some k => (match keysD (c.map D.int) with | some ks => some (k :: ks) | none => none)
      | none => none) = _
    rw [keysD_ints c]
    rfl
/-- a dict of clauses, all True -/
def oTT (l : List (List Int)) : O := .dT (l.map fun c => (kC c, D.bl true))
theorem any_kC (l : List (List Int)) (c : List Int) : ((l.map fun c => (kC c, D.bl true)).any fun kv => decide (kv.1 = kC c)) = decide (c ∈ l) := by
  rw [List.any_map, Bool.eq_iff_iff, List.any_eq_true, decide_eq_true_eq]
  constructor
  · rintro ⟨x, hx, h⟩
    have h : kC x = kC c := of_decide_eq_true h
    exact kC_inj h ▸ hx
  · exact fun h => ⟨c, h, decide_eq_true rfl⟩
theorem valD_TT (l : List (List Int)) (c : List Int) : (valD (l.map fun c => (kC c, D.bl true)) (kC c)).isSome = decide (c ∈ l) := by
  unfold valD
  rw [Option.isSome_map, ← any_kC, Bool.eq_iff_iff, List.find?_isSome, List.any_eq_true]
theorem putD_TT (l : List (List Int)) (c : List Int) : putD (l.map fun c => (kC c, D.bl true)) (kC c) (.bl true) = (addU l c).map fun c => (kC c, D.bl true) := by
  unfold putD addU
  rw [any_kC]
  by_cases h : c ∈ l
  · rw [if_pos (decide_eq_true h), if_pos h, List.map_map]
    refine List.map_congr_left fun x _ => ?_
    simp only [Function.comp]
    split <;> rfl
  · rw [if_neg (by simpa using h), if_neg h, List.map_append]
    rfl
theorem in_oTT {neg : Bool} {c : List Int} {l : List (List Int)} {n : Nat} {S : Sto} {P : D → Sto → Prop} (h : S[n]? = some (oTT l)) (q : P (.bl (bN neg (decide (c ∈ l)))) S) : inD neg (d c) (.obj n) S P := by
  refine rdO_of h ?_
  show (match keysD (c.map D.int) with | some k => P (.bl (bN neg (valD (l.map fun c => (kC c, D.bl true)) k).isSome)) S | none => False)
  rw [keysD_ints]
  show P (.bl (bN neg (valD (l.map fun c => (kC c, D.bl true)) (kC c)).isSome)) S
  rw [valD_TT]
  exact q
theorem put_oTT {c : List Int} {l : List (List Int)} {n : Nat} {S : Sto} {P : Sto → Prop} (h : S[n]? = some (oTT l)) (hz : l.length ≤ 1000000) (q : P (S.set n (oTT (addU l c)))) : setD (.obj n) (d c) (.bl true) S P := by
  refine rdO_of h ?_
  show (match keysD (c.map D.int) with | some k => (l.map fun c => (kC c, D.bl true)).length < sizeLine ∧ P (S.set n (.dT (putD (l.map fun c => (kC c, D.bl true)) k (.bl true)))) | none => False)
  rw [keysD_ints]
  refine And.intro (by rw [List.length_map]; exact small_line' hz) ?_
  rw [putD_TT]
  exact q
/-! ### books -/
/-- clauses of letters to s, unlike, not too many -/
structure Bk (s : Int) (cs : List (List Int)) : Prop where
  lo : 0 ≤ s
  hi : s ≤ 40
  cl : ∀ c ∈ cs, Cl s c
  nd : cs.Nodup
  few : cs.length ≤ 400
def bookO (s : Int) (cs : List (List Int)) : O := .ins "Book" [("letters", .int s), ("clauses", d cs)]
def BookAt (S : Sto) (b : Nat) (s : Int) (cs : List (List Int)) : Prop := S[b]? = some (bookO s cs)
theorem BookAt.keep {M : Nat → Prop} {S S' : Sto} {b : Nat} {s : Int} {cs : List (List Int)} (h : BookAt S b s cs) (k : Keep M S S') (hm : ¬ M b) : BookAt S' b s cs := k.at h hm
theorem BookAt.keep0 {S S' : Sto} {b : Nat} {s : Int} {cs : List (List Int)} (h : BookAt S b s cs) (k : Keep MZ S S') : BookAt S' b s cs := k.at0 h
theorem in_of {n : Nat} {s : Int} {c : List Int} (h : Cl s c) (hs : s ≤ n) (h40 : s ≤ 40) : In n c := ⟨fun l hl => (h.lit l hl).mono hs, by have := cl_len (h.mono h40); omega⟩
/-- {f y: True for y in xs}, clauses -/
theorem cb_dictT {α : Type} (xs : List α) (e : α → D) (f : α → List Int) (V : Sto → Prop) {chk : Sto → Prop} {g : AG} {x : AE} {a0 : AS} {K : O → Sto → Prop} {items : List D} {l0 : List (List Int)} {S : Sto} (hi : items = xs.map e) (h0 : V S) (hz : l0.length + xs.length ≤ 1000000)
    (step : ∀ y ∈ xs, ∀ S (nx : D → Sto → Prop), V S → (∀ S', V S' → nx (d (f y)) S') → chk S ∧ g (e y) a0 S fun a S1 => x a S1 nx)
    (fin : ∀ S, V S → chk S ∧ K (oTT (ddF l0 (xs.map f))) S) : cbLoop chk g aYes (emT x (aC (.bl true))) a0 K items (oTT l0) S := by
  subst hi
  refine cb_inv (fun i acc S => acc = oTT (ddF l0 ((xs.take i).map f)) ∧ V S) ⟨by simp [ddF], h0⟩ (fun i d' acc S nx hd h k => ?_) (fun acc S h => ?_)
  · obtain ⟨rfl, hV⟩ := h
    obtain ⟨y, hx, rfl⟩ := map_get hd
    have hil : i < xs.length := (List.getElem?_eq_some_iff.mp hx).1
    have hlen := ddF_len (xs := (xs.take i).map f) (l := l0)
    have hti : (xs.take i).length = i := by simp; omega
    rw [List.length_map, hti] at hlen
    obtain ⟨c, h⟩ := step y (List.mem_of_getElem? hx) S (fun k S1 => match k with | .tup l => (match keysD l with | some kk => ((ddF l0 ((xs.take i).map f)).map fun c => (kC c, D.bl true)).length < sizeLine ∧ nx (.dT (putD ((ddF l0 ((xs.take i).map f)).map fun c => (kC c, D.bl true)) kk (.bl true))) S1 | none => False) | _ => False) hV (fun S' hV' => by
      show (match keysD ((f y).map D.int) with | some kk => ((ddF l0 ((xs.take i).map f)).map fun c => (kC c, D.bl true)).length < sizeLine ∧ nx (.dT (putD ((ddF l0 ((xs.take i).map f)).map fun c => (kC c, D.bl true)) kk (.bl true))) S' | none => False)
      rw [keysD_ints]
      refine ⟨small_line' (by rw [List.length_map]; omega), ?_⟩
      rw [putD_TT]
      refine k _ _ ⟨?_, hV'⟩
      rw [List.take_add_one, hx, Option.toList, List.map_append, ddF_app]
      rfl)
    refine ⟨c, ?_⟩
    show g (e y) a0 S fun a S1 => iteP true _ _
    have eq : (fun (a : AS) S1 => iteP true (emT x (aC (.bl true)) a S1 (oTT (ddF l0 ((xs.take i).map f))) nx) (nx (oTT (ddF l0 ((xs.take i).map f))) S1)) = fun a S1 => x a S1 fun k S1 => match k with | .tup l => (match keysD l with | some kk => ((ddF l0 ((xs.take i).map f)).map fun c => (kC c, D.bl true)).length < sizeLine ∧ nx (.dT (putD ((ddF l0 ((xs.take i).map f)).map fun c => (kC c, D.bl true)) kk (.bl true))) S1 | none => False) | _ => False := by
      funext a S1
      rw [iteP_def, if_pos rfl]
      rfl
    rw [eq]
    exact h
  · obtain ⟨rfl, hV⟩ := h
    have := fin S hV
    simpa using this
theorem ddF_self {α : Type} [DecidableEq α] : ∀ {xs l : List α}, (l ++ xs).Nodup → ddF l xs = l ++ xs
  | [], l, _ => by simp [ddF]
  | x :: xs, l, h => by
    have hx : x ∉ l := fun z => (List.nodup_append.mp h).2.2 x z x (by simp) rfl
    show ddF (addU l x) xs = _
    have e : addU l x = l ++ [x] := by unfold addU; rw [if_neg hx]
    rw [e, ddF_self (by rw [List.append_assoc]; exact h), List.append_assoc]
    rfl
theorem ddF_join {α : Type} [DecidableEq α] {cs cs2 : List α} (h : cs.Nodup) : ddF [] (cs ++ cs2) = ddF cs cs2 := by
  show (cs ++ cs2).foldl addU [] = cs2.foldl addU cs
  rw [List.foldl_append]
  congr 1
  exact ddF_self (l := []) h
/-- tuple(d), the clauses of a dict -/
theorem tup_oTT {l : List (List Int)} {n : Nat} {S : Sto} {P : D → Sto → Prop} (h : S[n]? = some (oTT l)) (q : P (d l) S) : tupXD (.obj n) S P := by
  unfold tupXD
  refine rdO_of h ?_
  show P (.tup ((l.map fun c => (kC c, D.bl true)).map fun p => D.tup (p.1.map keyOfK))) S
  have e : ((l.map fun c => (kC c, D.bl true)).map fun p => D.tup (p.1.map keyOfK)) = l.map d := by
    rw [List.map_map]
    refine List.map_congr_left fun c _ => ?_
    show D.tup ((c.map Sum.inl).map keyOfK) = D.tup (c.map D.int)
    rw [List.map_map]
    rfl
  rw [e]
  exact q
/-! ### rows in order -/
theorem dataLe_tups : PySem.W.dataLe false (En.py (α := List Int)) = fun p q => decide (p ≤ q) := by
  have := PySem.W.dataLe_rows (fun x : List Int => x)
  rw [← this]
  funext p q
  show (!PySem.W.dataLt (.tuple (q.map En.py)) (.tuple (p.map En.py))) = !PySem.W.dataLt (.list (q.map .int)) (.list (p.map .int))
  rfl
theorem srt_up {rows : List (List Int)} {k : List D → Prop} (hp : rows.Pairwise (· < ·)) (hn : (∀ r ∈ rows, r ≠ []) ∨ rows = [[]]) (q : k (rows.map d)) : srt (rows.map d) k := by
  rcases hn with hn | rfl
  · refine srt_en (α := List Int) (fun x hx y hy => ?_) (.inl fun x hx => ?_) ?_
    · obtain ⟨i, _, rfl⟩ := List.mem_map.mp hx
      obtain ⟨j, _, rfl⟩ := List.mem_map.mp hy
      exact alike_ints2 i j
    · obtain ⟨i, hi, rfl⟩ := List.mem_map.mp hx
      cases i with
      | nil => exact absurd rfl (hn _ hi)
      | cons a i => exact ⟨_, _, rfl⟩
    · rw [dataLe_tups, List.mergeSort_of_pairwise (hp.imp fun {a b} h => decide_eq_true (List.le_of_lt h))]
      exact q
  · exact srt_unit q
instance : En Unit where
  d := fun _ => .non
  py := fun _ => .none
  dep := 0
  pyr := fun _ _ => .non
  eqv := fun a b => by cases a; cases b; simp [PyData.eqv]
  lay := fun _ => rfl
  depth := fun _ => Nat.le_of_eq (by simp [PyData.depth])
/-! ### lits of unlike letters -/
/-- lits as a tuple, or the default's empty one -/
def LT (x : D) (lits : List Int) : Prop := x = d lits ∨ (x = .ktp [] ∧ lits = [])
theorem LT.k {x : D} {lits : List Int} {S : Sto} (h : LT x lits) : HoldK x S (lits.map d) := by
  rcases h with rfl | ⟨rfl, rfl⟩
  · exact .inr (.inl rfl)
  · exact .inl rfl
/-- lits of unlike letters -/
def Ls (lits : List Int) : Prop := (∀ l ∈ lits, Lit 40 l) ∧ lits.Pairwise fun a b => ab a ≠ ab b
theorem Ls.len {lits : List Int} (h : Ls lits) : lits.length ≤ 40 := by
  have hn : (lits.map fun l => (ab l - 1).toNat).Nodup := by
    rw [List.nodup_iff_pairwise_ne, List.pairwise_map]
    exact h.2.imp_of_mem fun {a b} ha hb q z => by
      have h1 := (h.1 a ha).1
      have h2 := (h.1 b hb).1
      omega
  have := nodup_len (m := List.range 40) hn fun x hx => by
    obtain ⟨l, hl, rfl⟩ := List.mem_map.mp hx
    have h1 := h.1 l hl
    have h2 := h1.1
    have h3 := h1.2
    exact List.mem_range.mpr (by omega)
  simpa using this
theorem mergeD_T (xs : List Int) : ∀ l : List Int, mergeD (l.map fun k => ((Sum.inl k : Key), D.bl true)) (xs.map fun k => ((Sum.inl k : Key), D.bl true)) = (ddF l xs).map fun k => (Sum.inl k, D.bl true) := by
  induction xs with
  | nil => intro l; rfl
  | cons x xs ih =>
    intro l
    show mergeD (putD (l.map fun k => ((Sum.inl k : Key), D.bl true)) (Sum.inl x) (.bl true)) (xs.map _) = _
    rw [putD_T, ih]
    rfl
/-- a setting: the i-th is of letter i + 1 -/
def Setg (ms : List Int) : Prop := ∀ (i : Nat) (h : i < ms.length), ab ms[i] = i + 1
end Ab

/-! defs that are called while no repr is under way; repr of plain data; the head for such a law -/
namespace Ab
open PySem L2 PySem.Spec PyProof.Rows
/-- a def's promise, where no guard stands on the stack -/
structure FnOkG (P : Program) (w : World) (K : PySem.W.Frag) (mg : Str → Option Value) (base : Heap) (k : Nat) (f : Addr) (fd : FuncData) (ps : List Str) (sp : Sp) : Prop where
  len : ∀ vs H Q E, sp vs H Q E → vs.length = ps.length
  run : ∀ (A : Around) (outer : List Env) (s : Shared) (H : Hp) (args : Args) (us : List Value) (vs : List V) (Q : VK) (E : XK), Room k A → A.guards = some [] → Env0 P w K mg base A outer s H → BindsTo s fd args (ps.zip us) → Vals vs us → sp vs H Q E →
    codeAny (model P w) A (.call (.ref f) args) (CR CX0 outer P w H s Q E) s
theorem FnOkG.mono {P : Program} {w : World} {K : PySem.W.Frag} {mg : Str → Option Value} {base : Heap} {j k : Nat} {f : Addr} {fd : FuncData} {ps : List Str} {sp : Sp} (F : FnOkG P w K mg base j f fd ps sp) (h : j ≤ k) :
    FnOkG P w K mg base k f fd ps sp := ⟨F.len, fun A outer s H args us vs Q E hr hg => F.run A outer s H args us vs Q E (hr.mono h) hg⟩
theorem guards_deeper {A : Around} {env : Env} : (A.deeper env).guards = A.guards := rfl
theorem fn_ofG {P : Program} {w : World} {K : PySem.W.Frag} {mg : Str → Option Value} {base : Heap} {k : Nat} {f : Addr} {name qual : Str} {params : Arguments} {body : List Stmt} {scope : Scope} {dV kV doc pm cdv ct oc : Value} {an od : Option Addr}
    {osl : Array (Option Value)} {N ps : List Str} {sp : Sp} (lk : K.lookup f = some ⟨oc, od, .func (PySem.W.fnOf name qual params body scope dV kV doc pm an cdv ct), osl⟩) (hcd : PySem.W.codeIn K cdv qual = true) (S : FnScope N ps scope)
    (len : ∀ vs H Q E, sp vs H Q E → vs.length = ps.length)
    (hbody : ∀ (A : Around) (outer : List Env) (s : Shared) (H : Hp) (vs : List V) (Q : VK) (E : XK), Room k (A.deeper (PyProof.Rows.envOfC qual scope s.heap.objs.size f cdv)) → A.guards = some [] → sp vs H Q E →
      ∃ t, PSs (cxOf CX0 P w K mg base N qual scope f cdv A outer s H E) body t ∧ t { nx := fun _ H' => Q .non H', rt := Q } (start N vs) H) :
    FnOkG P w K mg base (k + 1) f (PySem.W.fnOf name qual params body scope dV kV doc pm an cdv ct) ps sp := by
  refine ⟨len, fun A outer s H args us vs Q E hr hgd e0 hb r hsp => ?_⟩
  have hl := len _ _ _ _ hsp
  have hk := e0.mod.kin.keeps fun b o e => (e0.bs b o e).1
  have lim := e0.mod.nolimit.keeps fun b o e => (e0.bs b o e).1
  refine codeAny_call_function hr.depth (hk _ _ lk) rfl S.co S.gen rfl (PySem.W.codeRec_of hk hcd) (hb _ _ _ _ ?_)
  refine wpAny_newFunctionEnv_cells S.kind (fun ⟨n, v⟩ hy => ?_) fun env he s1 x => ?_
  · rcases S.par n (List.of_mem_zip hy).1 with q | q
    · exact .inl q
    · exact .inr ⟨q, PySem.W.cellsFrom_some _ _ _ (.inl q)⟩
  subst he
  refine ⟨lim.keeps x.toInCall.keep, codeAny_func ?_⟩
  obtain ⟨t, ht, hq⟩ := hbody A outer s H vs Q E (hr.deeper _) hgd hsp
  have I : L2.Inv (cxOf CX0 P w K mg base N qual scope f cdv A outer s H E) [] (start N vs) H s1 := inv_start S hr.hd e0 hl r x
  refine wpAny_mono (ht.run [] s1 (start N vs) H _ I hq) (fun fl s' hs => ?_) fun e s' hs => hs
  match fl, hs with
  | .ret u, ⟨v, σ', H', J, rv, q⟩ => exact ⟨v, H', J.os, J.bare, J.base, J.hok, rv, q⟩
  | .next, ⟨σ', H', J, q⟩ => exact ⟨.non, H', J.os, J.bare, J.base, J.hok, (rfl : L2.RelV V.non Value.none), q⟩
  | .brk, ⟨_, _, _, q⟩ => exact False.elim q
  | .cont, ⟨_, _, _, q⟩ => exact False.elim q
def OkG (P : Program) (w : World) (K : PySem.W.Frag) (mg : Str → Option Value) (base : Heap) (k : Nat) (x : Str) (st : Stmt) (ps : List Str) (sp : FN) : Prop :=
  ∃ fd, FunD K x x (defArgs st) (defBody st) (defScope st) [] [] (He.ga K x) fd ∧ Binds K fd ps [] ∧ FnOkG P w K mg base k (He.ga K x) fd ps (spOf ⟨K, P, w⟩ sp)
theorem okg_of {P : Program} {w : World} {K : PySem.W.Frag} {mg : Str → Option Value} {base : Heap} {x : Str} {st : Stmt} {N ps : List Str} {k n : Nat} {sp : FN} {as : AX} {fd : FuncData} (F : FunD K x x (defArgs st) (defBody st) (defScope st) [] [] (He.ga K x) fd) (C : FnScope N ps (defScope st)) (len : Ar ps.length sp) (hn : N.length = n)
    (hb : ∀ (kV doc pm : Value) (an : Option Addr) (cdv ct : Value) (us : List Value), us.length = ps.length → bindArgs (PySem.W.fnOf x x (defArgs st) (defBody st) (defScope st) .none kV doc pm an cdv ct) ⟨us, []⟩ = pure (ps.zip us))
    (hbody : ∀ (cdv : Value) (A : Around) (outer : List Env) (s : Shared) (H : Hp) (E : XK) (B : Bs), Room k (A.deeper (PyProof.Rows.envOfC x (defScope st) s.heap.objs.size (He.ga K x) cdv)) → A.guards = some [] →
      PSs (cxOf CX0 P w K mg base N x (defScope st) (He.ga K x) cdv A outer s H E).nox (defBody st) (sOf ⟨K, P, w⟩ B as))
    (hsem : ∀ ds S P, sp ds S P → as { nx := fun _ S' => P .non S', rt := P } (aStart n ds) S) : OkG P w K mg base (k + 1) x st ps sp := by
  refine ⟨fd, F, F.bindsN hb, ?_⟩
  obtain ⟨oc, od, dV, kV, doc, pm, an, cdv, ct, osl, e, lk, hcd, hD, _⟩ := F.ex
  subst e
  refine fn_ofG lk hcd C (fun vs H Q E h => ?_) fun A outer s H vs Q E hr hgd h => ?_
  · obtain ⟨ι, ds, S, P, _, v, h, _⟩ := h
    rw [v.length]
    exact len _ _ _ h
  · obtain ⟨ι, ds, S, Pq, r, v, h, k⟩ := h
    refine ⟨_, (hbody cdv A outer s H E ⟨ι, H, fun _ _ _ _ => False⟩ hr hgd).nox, ?_⟩
    refine ⟨ι, aStart n ds, S, _, ⟨.refl, r, ?_⟩, hsem ds S Pq h, ⟨fun ι' H' σ' a' S' e1 r1 _ h1 => k _ _ _ _ _ e1 r1 .non h1, fun ι' H' v d S' e1 r1 v1 h1 => k _ _ _ _ _ e1 r1 v1 h1, fun _ _ _ _ _ _ _ _ h1 => h1, fun _ _ _ _ _ _ _ _ h1 => h1, fun _ _ _ _ _ _ _ _ _ _ _ _ _ _ h1 => h1⟩⟩
    show SR ⟨K, P, w⟩ ι H (vs.map some ++ List.replicate (N.length - vs.length) none) (aStart n ds)
    unfold aStart
    rw [v.length, hn]
    exact sr_start _ v
section
variable {X : Cx} {B : Bs} {st : Stmt} {ps : List Str} {sp : FN} {n : Str} {p pos : Pos} {e : Expr} {es : List Expr} {z : AA} {k : Nat}
/-- f(e, ..), f such a def -/
theorem a_callG (hgd : X.A.guards = some []) (F : OkG X.prog X.w X.K X.mg X.base k n st ps sp) (hr : Room k X.A) (hm : X.mg n = some (.ref (He.ga X.K n))) (ha : PA X (e :: es) (aOf (kx X) B z)) (hg : Gl X n := by rfl)
    (hdb : (n == ("__debug__" : Str)) = false := by decide) (he : starEach (e :: es) X.env = (false, eval e X.env) :: starEach es X.env := by rfl) (hpl : (backTo pos (starEach es X.env)).any (·.1) = false := by rfl) :
    PE X (.Call (.Name n p) (e :: es) [] pos) (eOf (kx X) B (aCall sp z)) := by
  obtain ⟨fd, F1, b, F2⟩ := F
  refine ⟨fun pins s σ H Q I h => ?_⟩
  obtain ⟨ι, a, S, P, g, h, kk⟩ := h
  refine wpAny_Call_Name_kw (ld_glob I hg hm ?_ hdb)
  refine PySem.W.callWith_K (h₀ := X.base) I.ok.mod.kin F1.kp (thn (ha.run pos pins s σ H _ I ⟨ι, a, S, _, g, h, fun ι1 H1 vs ds S1 e1 r1 v1 h1 => (⟨ι1, ds, S1, P, r1, v1, h1, fun ι' H' v d S' e2 r2 v2 h2 => kk _ _ _ _ _ (e1.trans e2) r2 v2 h2⟩ : spOf (kx X) sp vs H1 Q E0)⟩) fun us s1 ⟨vs, H1, I1, r, q⟩ => ⟨I1.kIn, ?_⟩) he hpl
  have hl : us.length = ps.length := by rw [← r.length]; exact F2.len vs H1 Q E0 q
  have bd := b s1 us I1.kIn (by simpa using hl)
  refine wpAny_call (codeAny_mono (F2.run X.A X.stack s1 H1 ⟨us, []⟩ us vs Q E0 hr hgd I1.env0 (by simpa using bd) r q) fun rr s' hq => ?_)
  match rr, hq with
  | .error e, hq => exact (pass0 (X := X) pins σ H1 s1 e s' I1 hq)
  | .ok (.ret u), hq => exact I1.after hq
  | .ok .next, hq => exact False.elim hq
  | .ok .brk, hq => exact False.elim hq
  | .ok .cont, hq => exact False.elim hq
end
/-! ### the head -/
theorem law_callG {P : Program} {w : World} {K : PySem.W.Frag} {mg mb : Str → Option Value} {k : Nat} {fa a : Addr} {fd : FuncData} {x : Str} {sp : Sp} {s₁ : Shared} {vs : List Value} {ns : List Int}
    (KX : K.In s₁.heap) (hns : s₁.heap.Ns mainGlobals mg) (hb : s₁.heap.Ns builtinsNs mb) (hbb : ∀ x : Str, x ≠ "__name__" → mb x = bootBuiltins x) (hlim : s₁.heap.NoLimit) (hg : s₁.gens = #[])
    (ha : s₁.heap.get? a = some { cls := .type "list", data := .seq vs.toArray }) (hi : IntsAre vs ns) (hl : ns.length ≤ sizeLine) (hr : Room k callerA)
    (F : ∀ base : Heap, K.In base → base.Ns mainGlobals mg → FnOkG P w K mg base k fa fd [x] sp) (hbind : ∀ (s : Shared) (u : Value), BindsTo s fd ⟨[u], []⟩ [(x, u)])
    (hsp : ∀ H : Hp, Only H → SqL K H a (ns.map V.int) → sp [.ref a] H (fun v _ => v = .bl true) fun _ _ _ => False) :
    codeAny (model P w) callerA (.call (.ref fa) ⟨[.ref a], []⟩) (fun r s' => r = .ok (.ret (.bool true)) ∧ OldK s₁.heap s'.heap ∧ s'.os = s₁.os ∧ AllBare s'.gens) s₁ := by
  have rv := vals_ints hi
  have lenV := hi.length
  -- H tracks the script alone, or nothing
  have core : ∀ H : Hp, Only H → SqL K H a (ns.map V.int) → HOk P w H s₁.heap → (∀ b, H b ≠ none → b = a) → (H a ≠ none → K.lookup a = none) →
      codeAny (model P w) callerA (.call (.ref fa) ⟨[.ref a], []⟩) (fun r s' => r = .ok (.ret (.bool true)) ∧ OldK s₁.heap s'.heap ∧ s'.os = s₁.os ∧ AllBare s'.gens) s₁ := by
    intro H hO hS hok hA hK
    have off : ∀ {b : Addr}, b ≠ a → H b = none := fun {b} ne => Classical.byContradiction fun z => ne (hA b z)
    have noD : ∀ {b : Addr} {o : Obj} {es : Array DictEntry} {ep : Nat}, s₁.heap.get? b = some o → o.data = .dict es ep → H b = none := fun {b o es ep} e d => off fun z => by
      rw [z, ha] at e
      cases e
      cases d
    have nsK : ∀ {b : Addr} {m : Str → Option Value}, s₁.heap.Ns b m → (hidT s₁.heap H).Ns b m := fun {b m} ⟨o, es, ep, e, d, r⟩ => ⟨o, es, ep, hidT_get e (noD e d), d, r⟩
    have hKb : K.In (hidT s₁.heap H) := fun b o e => hidT_get (KX b o e) (Classical.byContradiction fun z => by
      have e' := hA b z
      subst e'
      rw [hK z] at e
      cases e)
    obtain ⟨mc, l1, l2⟩ := hlim
    have e0 : Env0 P w K mg (hidT s₁.heap H) callerA [] s₁ H := ⟨rfl, ⟨hKb, nsK hns, ⟨mb, nsK hb, hbb⟩, ⟨mc, nsK l1, l2⟩⟩, fun b o e => of_hidT e, Nat.le_of_eq (hidT_size _ _), trivial, fun b z => absurd (show b ∈ ([] : List Addr) from z) (by simp), hok, .of_eq hg⟩
    refine codeAny_mono ((F _ hKb (nsK hns)).run callerA [] s₁ H ⟨[.ref a], []⟩ [.ref a] [.ref a] _ _ hr rfl e0 (hbind s₁ (.ref a)) (.cons rfl .nil) (hsp H hO hS)) fun r s' h => ?_
    match r, h with
    | .error e, h => exact (h : False).elim
    | .ok .next, h => exact False.elim h
    | .ok .brk, h => exact False.elim h
    | .ok .cont, h => exact False.elim h
    | .ok (.ret u), ⟨v, H', os, bare, un, hok', r', q⟩ =>
      have q : v = .bl true := q
      subst q
      obtain rfl : u = Value.bool true := r'
      refine ⟨rfl, OldK.of_keep fun b o e => ?_, os, bare⟩
      rcases hO b with z | ⟨ob, xs, z⟩
      · exact un.keep b o e z (fun y => absurd (show b ∈ ([] : List Addr) from y) (by simp)) (by simp)
      · obtain ⟨e1, _⟩ := hok b _ z
        obtain ⟨e2, _⟩ := hok' b _ (un.frzs b ob _ z)
        rw [e] at e1
        cases e1
        exact e2
  by_cases hk : K.lookup a = none
  · refine core (upd (fun _ => none) a (.frz { cls := .type "list", data := .seq vs.toArray } (.lst (ns.map V.int)))) (fun b => ?_) (.inl (.inr ⟨_, upd_same⟩)) (fun b u z => ?_) (fun b z => Classical.byContradiction fun ne => z (upd_ne ne)) fun _ => hk
    · by_cases e : b = a
      · subst e
        exact .inr ⟨_, _, upd_same⟩
      · exact .inl (upd_ne e)
    · by_cases e : b = a
      · subst e
        rw [upd_same] at z
        cases z
        exact ⟨ha, by rw [List.length_map]; exact hl, vs, _, rv, ha⟩
      · rw [upd_ne e] at z
        cases z
  · cases ek : K.lookup a with
    | none => exact absurd ek hk
    | some o =>
      have e := KX a o ek
      rw [ha] at e
      cases e
      refine core (fun _ => none) (fun _ => .inl rfl) (.inr ⟨_, vs.toArray, _, ek, rfl, rfl, rfl, by rw [List.size_toArray, lenV]; exact hl, by simpa using rv⟩) (fun b u z => by cases (show (none : Option HO) = some u from z)) (fun b z => absurd rfl z) fun z => absurd rfl z
theorem walk_ofG {l : PySem.W.OpenLaw} {n k : Nat} {q : Program} {loose : List Str} {XP : (Str → Option Value) → Heap → Prop} {YP : World → Heap → Prop} {d : DefRec} {x : Str}
    (hn : l.most = some n) (hn2 : n ≤ sizeLine) (hdf : d.params.defaults = []) (hr : Room k callerA)
    (F : ∀ (w : World) (mg : Str → Option Value) (fa : Addr) (h : Heap), YP w h → h.Ns mainGlobals mg → mg d.name = some (.ref fa) →
      ∃ (K : PySem.W.Frag) (fd : FuncData) (sp : Sp), K.In h ∧ (∀ (s : Shared) (u : Value), BindsTo s fd ⟨[u], []⟩ [(x, u)]) ∧
        (∀ (H : Hp) (a : Addr) (ns : List Int), ns.length ≤ n → Only H → SqL K H a (ns.map V.int) → sp [.ref a] H (fun v _ => v = .bl true) fun _ _ _ => False) ∧
        ∀ base : Heap, K.In base → base.Ns mainGlobals mg → FnOkG l.prog w K mg base k fa fd [x] sp) :
    PySem.W.WalkO q loose XP YP l.row.toRowW d [] (fun f vs => PySem.call f vs) := by
  refine Att.attach_call hn hdf fun w s₀ s₁ mg mb fa o pm cd doc a vs ns G Y ho hd hcd hmg hobj hints hlen hg => ?_
  obtain ⟨K, fd, sp, KX, hb, hsp, hF⟩ := F w mg fa _ Y G.T.g hmg
  exact law_callG KX G.T.g G.T.b G.T.builtins G.T.nolimit hg hobj hints (Nat.le_trans hlen hn2) hr hF hb fun H hO hS => hsp H a ns hlen hO hS
/-! ### repr -/
@[irreducible] def repP (x : D) (S : Sto) (k : Str → Prop) : Prop := ∃ p, Py S x p ∧ SeqAt.shaped p = true ∧ p.showable = true ∧ p.shown.length ≤ sizeLine ∧ (∃ l, p = .tuple l) ∧ k p.shown
def reprD : F1 := fun x S P => repP x S fun t => P (.str t) S
def rRepr (K : PySem.W.Frag) : List V → Hp → VK → Prop := fun xs H Q => ∃ v p, xs = [v] ∧ Dp K H v p ∧ SeqAt.shaped p = true ∧ p.showable = true ∧ p.shown.length ≤ sizeLine ∧ (∃ l, p = .tuple l) ∧ Q (.str p.shown) H
theorem c_repr {X : Cx} {k : Nat} (hgd : X.A.guards = some []) (hr : Room k X.A) : CallR X (.builtin "repr") (rRepr X.K) := by
  intro pins s σ H xs us Q I rv h
  obtain ⟨v, p, rfl, hp, s1, hs, hz, ⟨l, rfl⟩, q⟩ := h
  obtain ⟨u, rfl, ru⟩ := rv.one
  obtain ⟨bs, rb⟩ := Dp.reads I _ v u hp ru
  unfold SeqAt.shaped at s1
  rw [Bool.and_eq_true] at s1
  have hd := PyData.hasDict_of_canLay _ s1.1
  have d1 := of_decide_eq_true s1.2
  have hun := hr.un
  cases rb with
  | @tuple l o its n _ _ h1 h2 h3 h4 =>
    refine repr_of_reads' (h₀ := s.heap) (.tuple h1 h2 h3 h4) hs (fun z => by rw [hd] at z; cases z) hgd (by omega) (fun _ _ e => e) (fun h' tu tk kp => ?_) (hsz := hz)
    exact ⟨.str _, H, I.kept kp, ⟨_, rfl⟩, q⟩
section
variable {X : Cx} {B : Bs} {e : Expr} {x : AE} {n : Str} {pos p : Pos} {k : Nat}
theorem reprA {K : KX} : CallA K (rRepr K.f) (ar1 reprD) := callA1 fun ι H S x d P Q R rx h k => by
  unfold reprD repP at h
  obtain ⟨p, g, s1, s2, hz, hl, h⟩ := h
  exact ⟨x, p, rfl, Py.dp R p _ _ g rx, s1, s2, hz, hl, k _ _ _ _ _ .refl R (.str _) h⟩
end
/-! ### what is shown of whole numbers -/
theorem strOk_str (s : String) : PyData.strOk (Str.ofString s) = true := by
  rw [Str.ofString_eq_toList]
  unfold PyData.strOk
  rw [Array.all_eq_true_iff_forall_mem]
  intro c hc
  have hc : c ∈ s.toList.map Char.toNat := by simpa using hc
  obtain ⟨x, _, rfl⟩ := List.mem_map.mp hc
  have := x.valid
  refine decide_eq_true ?_
  rcases this with h | ⟨_, h⟩
  · have h : x.toNat < 55296 := h
    omega
  · exact h
theorem strOk_app {a b : Str} (h1 : PyData.strOk a = true) (h2 : PyData.strOk b = true) : PyData.strOk (a ++ b) = true := by
  show (a.cps ++ b.cps).all (· < 0x110000) = true
  rw [Array.all_append, Bool.and_eq_true]
  exact ⟨h1, h2⟩
theorem strOk_join {sep : Str} (h : PyData.strOk sep = true) : ∀ l : List Str, (∀ x ∈ l, PyData.strOk x = true) → PyData.strOk (Str.join sep l) = true
  | [], _ => by unfold Str.join PyData.strOk Str.empty; simp
  | [x], hx => hx x (by simp)
  | x :: y :: r, hx => strOk_app (strOk_app (hx x (by simp)) h) (strOk_join h (y :: r) fun z hz => hx z (by simp [hz]))
/-- the text of a tuple of whole numbers -/
def shI (ns : List Int) : Str := (PyData.tuple (ns.map .int)).shown
theorem shI_ok (ns : List Int) : PyData.strOk (shI ns) = true := by
  unfold shI
  rw [PyData.shown_tuple]
  refine strOk_app (strOk_app (strOk_str _) (strOk_join (strOk_str _) _ fun x hx => ?_)) ?_
  · rw [PyData.shownAll_ints] at hx
    obtain ⟨n, _, rfl⟩ := List.mem_map.mp hx
    exact strOk_str _
  · split <;> exact strOk_str _
theorem shI_len {ns : List Int} (h1 : ns.length ≤ 1000) (h2 : ∀ n ∈ ns, n.natAbs < 10 ^ 12) : (shI ns).length ≤ sizeLine := by
  have e : shI ns = tupleText (PyData.shownAll (ns.map .int)) := by unfold shI; simp only [PyData.shown]
  rw [e]
  refine Nat.le_trans (tupleText_len_le _) ?_
  have hs : ((PyData.shownAll (ns.map .int)).map (·.length)).sum ≤ 13 * ns.length := by
    rw [PyData.shownAll_ints, List.map_map]
    clear h1 e
    induction ns with
    | nil => simp
    | cons n ns ih =>
      have h3 := PyData.shown_int_le (h2 n (by simp))
      rw [PyData.shown_int] at h3
      have h4 := ih fun m hm => h2 m (by simp [hm])
      simp only [List.map_cons, List.sum_cons, List.length_cons, Function.comp] at h4 ⊢
      omega
  have hl : (PyData.shownAll (ns.map .int)).length = ns.length := by rw [PyData.shownAll_ints]; simp
  rw [hl]
  exact small_line (by omega)
theorem show_ints : ∀ ns : List Int, (∀ n ∈ ns, n.natAbs < 10 ^ 12) → PyData.showableAll (ns.map .int) = true
  | [], _ => rfl
  | n :: ns, h => by
    show (decide (n.natAbs.log2 < 1920) && PyData.showableAll (ns.map .int)) = true
    rw [show_ints ns fun m hm => h m (by simp [hm]), Bool.and_true]
    refine decide_eq_true ?_
    by_cases e : n.natAbs = 0
    · rw [e]; decide
    · exact Nat.lt_of_lt_of_le ((Nat.log2_lt e).mpr (Nat.lt_of_lt_of_le (h n (by simp)) (show 10 ^ 12 ≤ 2 ^ 64 by decide))) (by decide)
theorem rep_ints {ns : List Int} {S : Sto} {k : Str → Prop} (h1 : ns.length ≤ 1000) (h2 : ∀ n ∈ ns, n.natAbs < 10 ^ 12) (q : k (shI ns)) : repP (d ns) S k := by
  unfold repP
  exact ⟨.tuple (ns.map .int), En.pyr S ns, shaped_of (by decide) ns, show_ints ns h2, shI_len h1 h2, ⟨_, rfl⟩, q⟩
theorem str_eq {s : Str} {S : Sto} {P : D → Sto → Prop} (hs : PyData.strOk s = true) (h : P (.bl true) S) : eqD (.str s) (.str s) S P := by
  refine eqD_of_py (eqPy_of false (.str s) (.str s) (by unfold SeqAt.shaped; simp [PyData.canLay0, PyData.depth, hs]) (by unfold SeqAt.shaped; simp [PyData.canLay0, PyData.depth, hs]) ?_)
  have e : PyData.eqv (.str s) (.str s) = true := by simp [PyData.eqv]
  rw [e]
  exact h
end Ab

/-! reversed(range(n)); sorted(set(t)); a promise of nothing -/
namespace Ab
open PySem L2 PySem.Spec PyProof.Rows
def iRevRg (x : AE) : AI := fun a S P => x a S fun d S1 => match d with | .int j => rgOk 0 j ∧ P ⟨always, (rgItems 0 j.toNat).reverse⟩ S1 | _ => False
theorem itr_rev {K : KX} {ι : List Addr} {H : Hp} (n : Nat) : ItR K ι H (Itc ((n : Int) - 1) (-1) n) ⟨always, (rgItems 0 n).reverse⟩ := by
  intro ι1 H1 S1 e1 r1 _
  have hl : (rgItems 0 n).reverse.length = n := by rw [List.length_reverse, rgItems_len]
  refine ⟨fun i hi => ?_, by show n ≤ _; exact Nat.le_of_eq hl.symm⟩
  have hi : i < n := by rw [← hl]; exact hi
  refine ⟨hi, fun x H' y => ?_⟩
  obtain ⟨rfl, rfl⟩ := y
  have e : ((n : Int) - 1 + (i : Nat) * (-1)) = 0 + ((n - 1 - i : Nat) : Int) := by omega
  refine ⟨.int ((n : Int) - 1 + (i : Nat) * (-1)), ?_, .refl, r1, .int _⟩
  rw [List.getElem?_reverse (by rw [rgItems_len]; exact hi), rgItems_len, rgItems_get (by omega), e]
section
variable {X : Cx} {B : Bs} {tg e : Expr} {x : AE} {p p2 pos pos2 : Pos}
theorem i_revrg (hm : X.mg "reversed" = none) (hm2 : X.mg "range" = none) (hx : PE X e (eOf (kx X) B x)) (hg : Gl X "reversed" := by rfl) (hg2 : Gl X "range" := by rfl) (na : starEach [e] X.env = (false, eval e X.env) :: starEach [] X.env := by rfl)
    (hs : starEach [Expr.Call (.Name "range" p2) [e] [] pos2] X.env = (false, eval (Expr.Call (.Name "range" p2) [e] [] pos2) X.env) :: starEach [] X.env := by rfl) :
    PI X tg (.Call (.Name "reversed" p) [.Call (.Name "range" p2) [e] [] pos2] [] pos) (iOf (kx X) B (iRevRg x)) := by
  refine PI.imp (pi_revR hg hm (prg_1 hg2 hm2 hx na) hs) fun σ H R h => ?_
  obtain ⟨ι, a, S, P, g, h, k⟩ := h
  refine ⟨ι, a, S, _, g, h, fun ι1 H1 v d S1 e1 r1 v1 h1 => ?_⟩
  cases v1 with
  | int j =>
    obtain ⟨⟨b1, b2, b3, b4⟩, h1⟩ := h1
    refine ⟨j, rfl, by decide, by decide, by omega, by omega, ?_⟩
    have := k _ _ _ _ _ e1 r1 (itr_rev j.toNat) h1
    rw [show (0 : Int) + (((j - 0).toNat : Nat) : Int) - 1 = ((j.toNat : Nat) : Int) - 1 by rw [Int.sub_zero, Int.zero_add], Int.sub_zero]
    exact this
  | _ => exact h1.elim
end
/-! ### sorted(set(t)) -/
def tSS (K : PySem.W.Frag) (te : TE) : TE := fun σ H Q => te σ H fun x H1 => ∃ (a : Addr) (ns : List Int), x = V.ref a ∧ SqT K H1 a (ns.map V.int) ∧ ns.length < 60 ∧ ∀ (out : List Int) (p : Addr), out.Pairwise (· < ·) → (∀ k, k ∈ out ↔ k ∈ ns) → H1 p = none → Q (.ref p) (upd H1 p (.lst (out.map V.int)))
def aSortSet (x : AE) : AE := fun a S P => x a S fun d S1 => ∃ ns : List Int, d = .tup (ns.map D.int) ∧ ns.length < 60 ∧ ∀ out : List Int, out.Pairwise (· < ·) → (∀ k, k ∈ out ↔ k ∈ ns) → P (.obj S1.length) (S1 ++ [.lst (out.map D.int)])
theorem vrs_ints {K : KX} {ι : List Addr} {H : Hp} : ∀ {vs : List V} {ns : List Int}, VRs K ι H vs (ns.map D.int) → vs = ns.map V.int
  | _, [], h => by cases h; rfl
  | _, n :: ns, h => by
    cases h with
    | cons h1 h2 =>
      cases h1
      rw [vrs_ints h2]
      rfl
section
variable {X : Cx} {B : Bs} {e : Expr} {te : TE} {x : AE} {p p2 pos pos2 : Pos}
theorem pe_sortSet (hc : X.calm = true) (hg : Gl X "sorted") (hm : X.mg "sorted" = none) (hg2 : Gl X "set") (hm2 : X.mg "set" = none) (he : PE X e te) (na : starEach [e] X.env = (false, eval e X.env) :: starEach [] X.env := by rfl)
    (hs : starEach [Expr.Call (.Name "set" p2) [e] [] pos2] X.env = (false, eval (Expr.Call (.Name "set" p2) [e] [] pos2) X.env) :: starEach [] X.env := by rfl) :
    PE X (.Call (.Name "sorted" p) [.Call (.Name "set" p2) [e] [] pos2] [] pos) (tSS X.K te) := by
  refine ⟨fun pins s σ H Q I h => ?_⟩
  refine wpAny_Call_Name_kw (ld_blt I hg hm (by decide +kernel : bootBuiltins "sorted" = some (.builtin "sorted")) ?_ (by decide) (by decide))
  refine PyProof.Rows.callWith_builtin1 (args_cons ?_ hs) hs rfl
  refine Call_ (ld_blt I hg2 hm2 PyProof.Rows.boot_set (PyProof.Rows.callWith_type1 (args_cons (thn (he.run pins s σ H _ I h) fun u s1 ⟨y, H1, I1, r1, a, ns, ey, hq, hl, q⟩ => args_nil ?_) na) na rfl))
  subst ey
  cases r1
  obtain ⟨its, rv, pl, hz⟩ := I1.tuple hq
  have hit : IntsAre its ns := ints_of_vals rv
  refine call_set_tupI ns (I1.ok.hd hc) pl (by simpa using hit) (by unfold scanBound; omega) fun h' tk c R hc' kp => ?_
  have I2 : L2.Inv X pins σ H1 { s1 with heap := h', toks := tk } := I1.kept kp
  refine args_nil ?_
  refine sorted_set R (I2.ok.hd hc) (by omega) fun s3 pp out cc ms k3 g3 o3 hp hgt hi hpw hmem hlen => ?_
  have hlen2 : (ms.map V.int).length ≤ sizeLine := by
    rw [List.length_map, hlen]
    exact small_line (by omega)
  have hn : H1 pp = none := I2.hok.fresh hp
  have J : L2.Inv X pins σ (upd H1 pp (.lst (ms.map V.int))) { ({ s1 with heap := h', toks := tk } : Shared) with heap := s3.heap, gens := s3.gens, drawn := s3.drawn, toks := s3.toks } :=
    I2.call (ch := []) (Un.laid k3 hp hn) (I2.hok.laid k3 hp ⟨hlen2, out.toList, cc, vals_of_ints hi, hgt⟩) (by rw [g3]; exact I2.bare) (fun _ z => nomatch z)
  have e : s3 = { ({ s1 with heap := h', toks := tk } : Shared) with heap := s3.heap, gens := s3.gens, drawn := s3.drawn, toks := s3.toks } := by
    cases s3
    cases s1
    cases o3
    rfl
  rw [e]
  exact ⟨.ref pp, _, J, rfl, q ms pp hpw (fun k => by rw [hmem]; simp) hn⟩
theorem a_sortSet (hc : X.calm = true) (hm : X.mg "sorted" = none) (hm2 : X.mg "set" = none) (he : PE X e (eOf (kx X) B x)) (hg : Gl X "sorted" := by rfl) (hg2 : Gl X "set" := by rfl) (na : starEach [e] X.env = (false, eval e X.env) :: starEach [] X.env := by rfl)
    (hs : starEach [Expr.Call (.Name "set" p2) [e] [] pos2] X.env = (false, eval (Expr.Call (.Name "set" p2) [e] [] pos2) X.env) :: starEach [] X.env := by rfl) :
    PE X (.Call (.Name "sorted" p) [.Call (.Name "set" p2) [e] [] pos2] [] pos) (eOf (kx X) B (aSortSet x)) := by
  refine PE.imp (pe_sortSet hc hg hm hg2 hm2 he na hs) fun σ H Q h => ?_
  obtain ⟨ι, a, S, P, g, h, k⟩ := h
  refine ⟨ι, a, S, _, g, h, fun ι1 H1 v d S1 e1 r1 v1 ⟨ns, ed, hl, h1⟩ => ?_⟩
  subst ed
  cases v1 with
  | tup t1 t2 =>
    obtain rfl := vrs_ints t2
    refine ⟨_, ns, rfl, .of t1, hl, fun out q hpw hmem hq => ?_⟩
    obtain ⟨e2, r2, v2⟩ := new_lst r1 hq (VRs.of_ints (K := kx X) (ι := ι1) (H := H1) out)
    exact k _ _ _ _ _ (e1.trans e2) r2 v2 (h1 out hpw hmem)
end
/-- a promise that promises nothing -/
theorem okf_false {P : Program} {w : World} {K : PySem.W.Frag} {mg : Str → Option Value} {base : Heap} {x : Str} {st : Stmt} {ps : List Str} {k : Nat} {sp : FN} {fd : FuncData} (F : FunD K x x (defArgs st) (defBody st) (defScope st) [] [] (He.ga K x) fd) (no : ∀ ds S P, ¬ sp ds S P)
    (hb : ∀ (kV doc pm : Value) (an : Option Addr) (cdv ct : Value) (us : List Value), us.length = ps.length → bindArgs (PySem.W.fnOf x x (defArgs st) (defBody st) (defScope st) .none kV doc pm an cdv ct) ⟨us, []⟩ = pure (ps.zip us)) : OkF P w K mg base k x st ps sp :=
  ⟨fd, F, F.bindsN hb, ⟨fun vs H Q E ⟨_, _, _, _, _, _, h, _⟩ => absurd h (no _ _ _), fun A outer s H args us vs Q E _ _ _ _ ⟨_, _, _, _, _, _, h, _⟩ => absurd h (no _ _ _)⟩⟩
end Ab

/-! exceptions: defs that raise, try .. except as a reading -/
namespace Ab
open PySem PySem.Spec PyProof.Rows L2
/-! ### a caught exception is read as an object that is never written -/
abbrev frX (oe : Obj) : HO := .frz oe (.ext fun _ => True)
section
variable {X : Cx} {pins : List (Addr × Obj)} {σ : L2.St} {H : Hp} {s : Shared}
theorem Inv.inSuite {a : Addr} (I : Inv X pins σ H s) : Inv (X.suite a (X.pn ++ pins)) [] σ H s where
  ok := I.ok.suite _ _
  os := I.os
  bare := I.bare
  base := I.base
  loc := I.loc
  cell := I.cell
  free := I.free
  freeC := I.freeC
  pin := fun p hp => I.pin p (by simpa using hp)
  hok := I.hok
  len := I.len
theorem Inv.outSuite {a : Addr} {pn' : List (Addr × Obj)} (I : Inv (X.suite a (X.pn ++ pins)) pn' σ H s) (ok : X.Ok) : Inv X pins σ H s where
  ok := ok
  os := I.os
  bare := I.bare
  base := I.base
  loc := I.loc
  cell := I.cell
  free := I.free
  freeC := I.freeC
  pin := fun p hp => I.pin p (List.mem_append_left _ hp)
  hok := I.hok
  len := I.len
/-- an object that nothing tells of is told of from here on -/
theorem Inv.tell {a : Addr} {oe : Obj} {vs : Array Value} (I : Inv X pins σ H s) (ha : s.heap.get? a = some oe) (hd : oe.data = .fields vs) (na : H a = none) (n0 : X.s_0.heap.get? a = none) (nL : a ≠ X.env.locals) (hp : ∀ p ∈ X.pn ++ pins, p.1 ≠ a) : Inv X pins σ (upd H a (frX oe)) s := by
  have z0 : ∀ {b : Addr} {o : Obj}, X.s_0.heap.get? b = some o → b ≠ a := fun {b o} q e => by
    rw [e, n0] at q
    cases q
  have zH : ∀ {b : Addr} {u : HO}, H b = some u → b ≠ a := fun {b u} q e => by
    rw [e, na] at q
    cases q
  refine { I with base := ⟨I.base.keep, I.base.slot, fun b o q n x => ?_, I.base.there, fun b xs q => ?_, fun b o xs q => ?_, fun b ps q => ?_⟩, free := ?_, freeC := fun x c e => ?_, pin := fun p q => ?_, hok := fun b u q => ?_ }
  · rw [upd_ne (z0 q)]
    exact I.base.free b o q n x
  · have w := I.base.tups b xs q
    rw [upd_ne (zH w)]
    exact w
  · have w := I.base.frzs b o xs q
    rw [upd_ne (zH w)]
    exact w
  · obtain ⟨m, w⟩ := I.base.tbls b ps q
    exact ⟨m, by rw [upd_ne (zH w)]; exact w⟩
  · rw [upd_ne (Ne.symm nL)]
    exact I.free
  · have ne : c ≠ a := fun z => by
      obtain ⟨v, o, ho, hv⟩ := I.cell x c e
      rw [z, ha] at ho
      cases ho
      rw [hd] at hv
      cases hv
    rw [upd_ne ne]
    exact I.freeC x c e
  · obtain ⟨w1, w2, w3⟩ := I.pin p q
    exact ⟨w1, by rw [upd_ne (hp p q)]; exact w2, w3⟩
  · by_cases e : b = a
    · subst e
      rw [upd_same] at q
      cases q
      exact ⟨ha, trivial, ⟨oe, ha⟩, fun _ _ _ _ => trivial⟩
    · rw [upd_ne e] at q
      exact (I.hok b u q).stay (fun _ _ _ w => w) (fun c w => by rw [upd_ne (zH w)]; exact w) fun c xs w => by rw [upd_ne (zH w)]; exact w
end
/-- the test of an except clause -/
def TestOk (X : Cx) (test : Expr) (good : Value → Prop) : Prop := ∀ (a : Addr) (pn : List (Addr × Obj)) (σ : L2.St) (H : Hp) (s : Shared) (cls : Value) (Q : Bool → Shared → Prop) (E : Value → Shared → Prop), Inv (X.suite a pn) [] σ H s → PySem.W.Looks (model X.prog X.w) s.heap (typeOf (.ref a)) cls → good cls →
  (∀ h', (∀ b o, s.heap.get? b = some o → h'.get? b = some o) → Q true { s with heap := h' }) → wpAny (model X.prog X.w) (X.A.mark (some (.ref a))) (eval test X.env) (fun c s1 => wpAny (model X.prog X.w) (X.A.mark (some (.ref a))) (excMatches (.ref a) c) Q E s1) E s
/-- a class's name there -/
theorem suite_name {X : Cx} {a : Addr} {pn : List (Addr × Obj)} {σ : L2.St} {H : Hp} {s : Shared} {x : Str} {c : Value} {np : Pos} {Q E : Value → Shared → Prop} (I : Inv (X.suite a pn) [] σ H s) (n : Names X x c) (q : Q c s) : wpAny (model X.prog X.w) (X.A.mark (some (.ref a))) (eval (.Name x np) X.env) Q E s := by
  obtain ⟨g, z, h | ⟨h, v, nn⟩⟩ := n
  · exact ld_glob (X := X.suite a pn) I g h q z
  · exact ld_blt (X := X.suite a pn) I g h v q nn z
theorem test1 {X : Cx} {x : Str} {c : Value} {np : Pos} (n : Names X x c) : TestOk X (.Name x np) fun cls => PySem.W.exmOne X.K cls c = some true := fun a pn σ H s cls Q E I L g q =>
  suite_name I n ((PySem.W.exm_one I.kIn L g).here (q s.heap fun _ _ z => z))
theorem test3 {X : Cx} {x y z : Str} {c d e : Value} {p1 p2 p3 p : Pos} {kk : Nat} (n1 : Names X x c) (n2 : Names X y d) (n3 : Names X z e) : TestOk X (.Tuple [.Name x p1, .Name y p2, .Name z p3] kk p) fun cls => PySem.W.exmAny X.K cls [c, d, e] = some true := fun a pn σ H s cls Q E I L g q =>
  have kp : ∀ b o, s.heap.get? b = some o → (s.heap.push { cls := .type "tuple", data := .seq [c, d, e].toArray }).get? b = some o := fun _ _ w => Heap.get?_push_of_some _ w
  wpAny_Tuple (wpAny_items_cons (suite_name I n1 (wpAny_items_cons (suite_name I n2 (wpAny_items_cons (suite_name I n3 (wpAny_items_nil ⟨by size_fits, (PySem.W.exm_tup3 (I.kIn.keeps kp) (L.keeps kp) (Heap.get?_push_size s.heap rfl) g).here (q _ kp)⟩)))))))
theorem flying_more {B h h' : Heap} {l : List Env} {a : Addr} {Z : Obj → Prop} (f : HandSPX.FlyingZ B l a Z h) (k : ∀ b o, h.get? b = some o → h'.get? b = some o) : HandSPX.FlyingZ B l a Z h' := by
  obtain ⟨f1, f2, f3, oe, vs, T, oT, ts, w1, w2, w3, w4, w5, w6, w7, w8⟩ := f
  exact ⟨fun b o q => k b o (f1 b o q), f2, f3.of_keeps (fun b o q _ => ⟨o, k b o q, rfl⟩), oe, vs, T, oT, ts, k _ _ w1, w2, w3, w4, w5, w6, k _ _ w7, w8⟩
/-- what the one clause wishes: n in slot i -/
def wX (good : Value → Prop) (i : Nat) (ts : Addr → TS) (D : Ends) : WX := fun cls d σ H => good cls ∧ ∀ (a : Addr) (oe : Obj), H a = none → L2N.Zn cls d oe → (∃ vs, oe.data = .fields vs) →
  ts a { nx := fun σ' H' => D.nx (σ'.set i none) H', rt := D.rt, bk := fun σ' H' => D.bk (σ'.set i none) H', ct := fun σ' H' => D.ct (σ'.set i none) H' } (σ.set i (some (.ref a))) (upd H a (frX oe))
section
variable {X : Cx} {n : Str} {i : Nat} {test : Expr} {good : Value → Prop} {body suite : List Stmt} {b₀ : Stmt} {pos pos' : Pos} {tb : WX → TS} {ts : Addr → TS}
/-- try: body, except test as n: suite -/
theorem ps_tryX (hs : X.stack = X.env :: X.outer) (hf : X.env.frame = some X.env.locals) (hex : X.ex = []) (hN : X.N.Nodup) (hi : X.N[i]? = some n) (hln : X.env.kindOf n = some .local) (ht : TestOk X test good)
    (hb : ∀ (W : WX) (pn : List (Addr × Obj)) (xe : Value → Shared → Prop), L2N.Takes (X.tr pn xe) W → PassesOwn (model X.prog X.w) X.A X.env xe → PSs (X.tr pn xe) body (tb W))
    (hsu : ∀ (a : Addr) (pn : List (Addr × Obj)), PSs (X.suite a pn) (b₀ :: suite) (ts a)) :
    PS X (.Try body [.ExceptHandler (some test) (some n) (b₀ :: suite) pos'] [] [] pos) (fun D σ H => tb (wX good i ts D) D σ H) := by
  refine ⟨fun pins s σ H D I h => ?_⟩
  have ok := I.ok
  have fr : X.A.frames = some (X.env :: X.outer) := by rw [ok.frames, hs]
  refine wpAny_Try_except (wpAny_mono ((hb (wX good i ts D) (X.pn ++ pins) (fun e s1 => wpAny (model X.prog X.w) X.A (noteFrame e X.env) (fun _ s2 => wpAny (model X.prog X.w) X.A (setFlight e none)
    (fun _ s3 => wpAny (model X.prog X.w) X.A (handleBy e X.env [.ExceptHandler (some test) (some n) (b₀ :: suite) pos']) (SP X pins D) X.xe s3) X.xe s2) X.xe s1) (fun u s' x => ?_) PassesOwn.looking).run [] s σ H D (I.toTry _) h) (fun f s1 q => ?_) fun e s1 he => he)
  · obtain ⟨a, B, sI, pins', σ', H', cls, d, rfl, J', nb, up, sky, na, os, ag, hg, hw⟩ := x
    have J : Inv X pins σ' H' sI := J'.ofTry ok
    have sky1 : Sky B (X.env :: X.outer) a (L2N.Zn cls d) X.env.locals s'.heap := by
      rw [← hs]
      exact sky
    show wpAny (model X.prog X.w) X.A (noteFrame (.ref a) X.env) _ _ _
    refine L2N.Sky.land L2N.Zn.steady fr hf sky1 fun h3 fl3 up3 => ?_
    obtain ⟨oe3, vs3, he3, hz3, hd3⟩ := fl3.there
    have nfr : a ∉ frs (X.env :: X.outer) := fun hm => by
      obtain ⟨_, o', e', hnf⟩ := fl3.2.2.1.mem hm
      rw [he3] at e'
      cases e'
      exact hnf _ hd3
    have nL : a ≠ X.env.locals := fun z => nfr (List.mem_filterMap.mpr ⟨X.env, List.mem_cons_self, by rw [hf, z]⟩)
    have nB : B.get? a = none := fl3.2.1
    have n0 : X.s_0.heap.get? a = none := by
      cases e0 : X.s_0.heap.get? a with
      | none => rfl
      | some o =>
        obtain ⟨o', e1⟩ := J.base.there a o e0 (by rw [hex]; exact fun z => nomatch z)
        have w := nb a o' e1 (by rw [hs]; exact nfr)
        rw [nB] at w
        cases w
    have np : ∀ p ∈ X.pn ++ pins, p.1 ≠ a := fun p hp z => by
      obtain ⟨w1, _, w3, w4, _⟩ := J.pin p hp
      have w := nb p.1 p.2 w1 fun hm => (List.mem_cons.mp (J.stkSub p.1 hm)).elim w3 w4
      rw [z, nB] at w
      cases w
    have J3 : Inv X pins σ' H' { s' with heap := h3 } := J.landed nb fl3.1 (up.trans up3) os ag
    refine wpAny_handleBy_cons (codeAny_handlers_test ?_) (by intro q; cases q)
    refine ht a (X.pn ++ pins) σ' H' { s' with heap := h3 } cls _ _ (Inv.inSuite J3) (fun A Q E s k q => wpAny_typeOf_ref (k _ _ he3) (by rw [hz3.1]; exact q)) hg fun h4 k4 => ?_
    refine codeAny_handlers_suite_as ?_
    refine HandSPX.lands_againZ (flying_more fl3 k4) fun h5 fl5 up5 => ?_
    have J5 : Inv X pins σ' H' { s' with heap := h5 } := J.landed nb fl5.1 (((up.trans up3).trans (Heap.UpToSlots.of_keeps k4)).trans up5) os ag
    obtain ⟨oe5, vs5, he5, hz5, hd5⟩ := fl5.there
    have S5 : Inv (X.suite a (X.pn ++ pins)) [] σ' (upd H' a (frX oe5)) { s' with heap := h5 } := Inv.inSuite (Inv.tell J5 he5 hd5 na n0 nL np)
    refine store_ok (X := X.suite a (X.pn ++ pins)) (v := .ref a) S5 hN hi (.inl hln) rfl (fun s6 S6 => ?_) (.inr hln)
    refine wpAny_mono ((hsu a (X.pn ++ pins)).run [] s6 _ _ _ S6 (hw a oe5 na hz5 ⟨_, hd5⟩)) (fun f s7 q7 => ?_) (fun _ _ z => False.elim z)
    have back : ∀ {σ7 : L2.St} {H7 : Hp} {Q : Shared → Prop}, Inv (X.suite a (X.pn ++ pins)) [] σ7 H7 s7 → (∀ s8, Inv X pins (σ7.set i none) H7 s8 → Q s8) → wpAny (model X.prog X.w) X.A (do bindName X.env n .none; unbindBehindTheSuite X.env n pos') (fun _ s8 => Q s8) X.xe s7 :=
      fun S7 q => gone_ok (Inv.outSuite S7 ok) hN hi hln q
    match f, q7 with
    | .next, ⟨_, _, S7, q⟩ => exact back S7 fun s8 J8 => ⟨_, _, J8, q⟩
    | .brk, ⟨_, _, S7, q⟩ => exact back S7 fun s8 J8 => ⟨_, _, J8, q⟩
    | .cont, ⟨_, _, S7, q⟩ => exact back S7 fun s8 J8 => ⟨_, _, J8, q⟩
    | .ret u, ⟨_, _, _, S7, r7, q⟩ => exact back S7 fun s8 J8 => ⟨_, _, _, J8, r7, q⟩
  · match f, q with
    | .next, ⟨_, _, J, q⟩ => exact wpAny_execs_nil ⟨_, _, J.ofTry ok, q⟩
    | .brk, ⟨_, _, J, q⟩ => exact ⟨_, _, J.ofTry ok, q⟩
    | .cont, ⟨_, _, J, q⟩ => exact ⟨_, _, J.ofTry ok, q⟩
    | .ret u, ⟨_, _, _, J, r, q⟩ => exact ⟨_, _, _, J.ofTry ok, r, q⟩
end
/-! ### the readings -/
/-- u by an exception of one of the classes; n in slot i -/
def aTry (Cs : List Str) (i : Nat) (t u : AX) : AX := fun AD a S => t { AD with ex := fun C ns ds a1 S1 => C ∈ Cs ∧ u { nx := fun a2 S2 => AD.nx (a2.set i none) S2, rt := AD.rt, bk := fun a2 S2 => AD.bk (a2.set i none) S2, ct := fun a2 S2 => AD.ct (a2.set i none) S2 } (a1.set i (some (.exc C ns ds))) S1 } a S
def Bs.wish (B : Bs) (W : WX) : Bs := ⟨B.i, B.H, W⟩
section
variable {X : Cx} {B : Bs} {n : Str} {i : Nat} {test : Expr} {good : Value → Prop} {body suite : List Stmt} {b₀ : Stmt} {pos pos' : Pos} {t u : AX} {Cs : List Str}
theorem s_try (hN : X.N.Nodup) (hi : X.N[i]? = some n) (ht : TestOk X test good) (hC : ∀ C ∈ Cs, good (.ref (He.ga X.K C)))
    (hb : ∀ (W : WX) (pn : List (Addr × Obj)) (xe : Value → Shared → Prop), L2N.Takes (X.tr pn xe) W → PassesOwn (model X.prog X.w) X.A X.env xe → PSs (X.tr pn xe) body (sOf (kx X) (B.wish W) t))
    (hsu : ∀ (a : Addr) (pn : List (Addr × Obj)), PSs (X.suite a pn) (b₀ :: suite) (sOf (kx X) (B.wish fun _ _ _ _ => False) u))
    (hs : X.stack = X.env :: X.outer := by rfl) (hf : X.env.frame = some X.env.locals := by rfl) (hex : X.ex = [] := by rfl) (hln : X.env.kindOf n = some .local := by rfl) :
    PS X (.Try body [.ExceptHandler (some test) (some n) (b₀ :: suite) pos'] [] [] pos) (sOf (kx X) B (aTry Cs i t u)) := by
  refine PS.imp (ps_tryX (tb := fun W => sOf (kx X) (B.wish W) t) (ts := fun _ => sOf (kx X) (B.wish fun _ _ _ _ => False) u) hs hf hex hN hi hln ht hb hsu) fun D σ H h => ?_
  obtain ⟨ι, a, S, AD, g, h, k⟩ := h
  refine ⟨ι, a, S, _, ⟨g.ext, g.rs, g.sr⟩, h, k.nx, k.rt, k.bk, k.ct, fun ι1 H1 σ1 a1 S1 cls d C ns ds e1 r1 s1 x1 ⟨hc, h1⟩ => ?_⟩
  obtain ⟨rfl, dd, ws, rfl, x3, x4, x5⟩ := x1
  refine ⟨hC C hc, fun ad oe hn hz hd => ?_⟩
  have e2 := ext_fresh (K := kx X) (o := frX oe) hn (r1.out hn)
  have v : VR (kx X) ι1 (upd H1 ad (frX oe)) (.ref ad) (.exc C ns ds) := .exc upd_same ⟨hz, hd⟩ (e2.exc _ _ rfl x3) x4 (x5.up e2)
  have E := e1.trans e2
  exact ⟨ι1, _, S1, _, ⟨g.ext.trans E, r1.fresh hn, (s1.up e2).set v i⟩, h1, fun _ _ _ _ _ e3 r3 s3 h3 => k.nx _ _ _ _ _ (E.trans e3) r3 (s3.unset i none) h3, fun _ _ _ _ _ e3 r3 v3 h3 => k.rt _ _ _ _ _ (E.trans e3) r3 v3 h3,
    fun _ _ _ _ _ e3 r3 s3 h3 => k.bk _ _ _ _ _ (E.trans e3) r3 (s3.unset i none) h3, fun _ _ _ _ _ e3 r3 s3 h3 => k.ct _ _ _ _ _ (E.trans e3) r3 (s3.unset i none) h3, fun _ _ _ _ _ _ _ _ _ _ _ _ _ _ z => z⟩
end
/-! ### defs that may raise -/
abbrev PXT := Str → List Str → List D → Sto → Prop
abbrev FX := List D → Sto → (D → Sto → Prop) → PXT → Prop
abbrev AEX := AS → Sto → (D → Sto → Prop) → PXT → Prop
def ArX (n : Nat) (f : FX) : Prop := ∀ ds S P PX, f ds S P PX → ds.length = n
def spXOf (K : KX) (f : FX) : Sp := fun vs H Q E => ∃ ι ds S P PX, RS K ι H S ∧ VRs K ι H vs ds ∧ f ds S P PX ∧ (∀ ι' H' v d S', Ext K ι H ι' H' → RS K ι' H' S' → VR K ι' H' v d → P d S' → Q v H') ∧
  ∀ ι' H' cls d C ns es S', Ext K ι H ι' H' → RS K ι' H' S' → XR K ι' H' cls d C ns es → PX C ns es S' → E cls d H'
def eXOf (K : KX) (B : Bs) (ax : AEX) : TE := fun σ H Q => ∃ ι a S P PX, Good K B ι σ H a S ∧ ax a S P PX ∧ (∀ ι' H' v d S', Ext K ι H ι' H' → RS K ι' H' S' → VR K ι' H' v d → P d S' → Q v H') ∧
  ∀ ι' H' cls d C ns es S', Ext K ι H ι' H' → RS K ι' H' S' → XR K ι' H' cls d C ns es → PX C ns es S' → B.W cls d σ H'
def OkX (P : Program) (w : World) (K : PySem.W.Frag) (mg : Str → Option Value) (base : Heap) (k : Nat) (x : Str) (st : Stmt) (ps : List Str) (dvs : List V) (sp : FX) : Prop :=
  ∃ fd, FunD K x x (defArgs st) (defBody st) (defScope st) dvs [] (He.ga K x) fd ∧ FnOk P w K mg base (L2N.CX P w) k (He.ga K x) fd ps (spXOf ⟨K, P, w⟩ sp)
theorem okx_of {P : Program} {w : World} {K : PySem.W.Frag} {mg : Str → Option Value} {base : Heap} {x : Str} {st : Stmt} {N ps : List Str} {dvs : List V} {k n : Nat} {sp : FX} {as : AX} {fd : FuncData} (F : FunD K x x (defArgs st) (defBody st) (defScope st) dvs [] (He.ga K x) fd) (C : FnScope N ps (defScope st)) (len : ArX ps.length sp) (hn : N.length = n)
    (hbody : ∀ (cdv : Value) (A : Around) (outer : List Env) (s : Shared) (H : Hp) (E : XK) (B : Bs), Room k (A.deeper (PyProof.Rows.envOfC x (defScope st) s.heap.objs.size (He.ga K x) cdv)) →
      L2N.Takes (cxOf (L2N.CX P w) P w K mg base N x (defScope st) (He.ga K x) cdv A outer s H E) B.W →
      PassesOwn (model P w) (A.deeper (PyProof.Rows.envOfC x (defScope st) s.heap.objs.size (He.ga K x) cdv)) (PyProof.Rows.envOfC x (defScope st) s.heap.objs.size (He.ga K x) cdv) (cxOf (L2N.CX P w) P w K mg base N x (defScope st) (He.ga K x) cdv A outer s H E).xe →
      PSs (cxOf (L2N.CX P w) P w K mg base N x (defScope st) (He.ga K x) cdv A outer s H E) (defBody st) (sOf ⟨K, P, w⟩ B as))
    (hsem : ∀ ds S P PX, sp ds S P PX → as { nx := fun _ S' => P .non S', rt := P, ex := fun C ns es _ S' => PX C ns es S' } (aStart n ds) S) : OkX P w K mg base (k + 1) x st ps dvs sp := by
  refine ⟨fd, F, F.ok C (fun vs H Q E h => ?_) fun cdv A outer s H vs Q E hr h => ?_⟩
  · obtain ⟨ι, ds, S, P, PX, _, v, h, _⟩ := h
    rw [v.length]
    exact len _ _ _ _ h
  · obtain ⟨ι, ds, S, Pq, PX, r, v, h, kq, kx⟩ := h
    refine ⟨_, hbody cdv A outer s H E ⟨ι, H, fun cls d _ H' => E cls d H'⟩ hr (L2N.takes_of rfl rfl rfl rfl) (passes_of (K := fun e s'' => L2N.CX P w outer H s E e s'') (E₁ := fun e s'' => L2N.CX P w outer H s E e s'') rfl), ?_⟩
    refine ⟨ι, aStart n ds, S, _, ⟨.refl, r, ?_⟩, hsem ds S Pq PX h, fun ι' H' σ' a' S' e1 r1 _ h1 => kq _ _ _ _ _ e1 r1 .non h1, fun ι' H' v d S' e1 r1 v1 h1 => kq _ _ _ _ _ e1 r1 v1 h1, fun _ _ _ _ _ _ _ _ h1 => h1, fun _ _ _ _ _ _ _ _ h1 => h1, fun ι' H' σ' a' S' cls d C ns es e1 r1 _ x1 h1 => kx _ _ _ _ _ _ _ _ e1 r1 x1 h1⟩
    show SR ⟨K, P, w⟩ ι H (vs.map some ++ List.replicate (N.length - vs.length) none) (aStart n ds)
    unfold aStart
    rw [v.length, hn]
    exact sr_start _ v
/-! ### .. called -/
/-- f(..): the values by the places in q -/
def aCallX (sp : FX) (q : List Nat) (dds : List D) (n m : Nat) (z zk : AA) : AEX := fun a S P PX => z a S fun ds S1 => zk a S1 fun es S2 => ds.length = n ∧ es.length = m ∧ sp (kperm q ds (dds ++ es)) S2 P PX
section
variable {X : Cx} {B : Bs} {st : Stmt} {ps ks : List Str} {dvs : List V} {dds : List D} {sp : FX} {x : Str} {p pos : Pos} {e : Expr} {es : List Expr} {kws : List Keyword} {z zk : AA} {k : Nat} {q : List Nat} {m j : Nat}
theorem run_fnX {pins : List (Addr × Obj)} {σ : L2.St} {H : Hp} {s : Shared} {Q : VK} {f : Addr} {fd : FuncData} {gs : Sp} {us ws : List Value} {vs zs : List V} {n : Nat} {g : List Value → List Value → List Value} {gV : List V → List V → List V} (F : FnOk X.prog X.w X.K X.mg X.base (L2N.CX X.prog X.w) k f fd ps gs) (hr : Room k X.A) (hb : KBn X.K fd ps n ks g gV) (tk : L2N.Takes X B.W)
    (I : Inv X pins σ H s) (r : Vals vs us) (rz : Vals zs ws) (l1 : vs.length = n) (l2 : zs.length = ks.length) (h : gs (gV vs zs) H Q (WE B.W σ)) : wpAny (model X.prog X.w) X.A (call (.ref f) us (ks.zip ws)) (EP X pins σ Q) X.xe s := by
  refine wpAny_call (codeAny_mono (F.run X.A X.stack s H ⟨us, ks.zip ws⟩ (g us ws) (gV vs zs) Q _ hr I.env0 (hb.to s us ws I.kIn (r.length.symm.trans l1) (rz.length.symm.trans l2)) (hb.rel r rz) h) fun rr s' hq => ?_)
  match rr, hq with
  | .error e, hq => exact L2N.passAt tk σ pins H s e s' I hq
  | .ok (.ret u), hq => exact I.after hq
  | .ok .next, hq => exact False.elim hq
  | .ok .brk, hq => exact False.elim hq
  | .ok .cont, hq => exact False.elim hq
/-- how such a def's call binds -/
inductive KwX (K : PySem.W.Frag) (x : Str) (st : Stmt) (ps : List Str) (dvs : List V) (n : Nat) (ks : List Str) (q : List Nat) : Prop
  | non : dvs = [] → KwOk x st ps n ks q → KwX K x st ps dvs n ks q
  | dfl : dvs ≠ [] → KwOkD x st ps dvs.length n ks q → KwX K x st ps dvs n ks q
theorem kbn_x {K : PySem.W.Frag} {f : Addr} {fd : FuncData} {n : Nat} (F : FunD K x x (defArgs st) (defBody st) (defScope st) dvs [] f fd) (h : KwX K x st ps dvs n ks q) : ∃ its : List Value, KBn K fd ps n ks (fun us ws => kperm q us (its ++ ws)) fun vs zs => kperm q vs (dvs ++ zs) := by
  cases h with
  | non h1 h2 =>
    subst h1
    exact ⟨[], kbn_of F h2⟩
  | dfl h1 h2 => exact kbn_dfl F h1 rfl h2
theorem a_callX (F : OkX X.prog X.w X.K X.mg X.base k x st ps dvs sp) (hr : Room k X.A) (tk : L2N.Takes X B.W) (hm : X.mg x = some (.ref (He.ga X.K x))) (hd : ∀ ι H, VRs (kx X) ι H dvs dds) (hb : KwX X.K x st ps dvs m ks q) (hj : ks.length = j) (ha : PA X (e :: es) (aOf (kx X) B z)) (hkw : PK X kws (aOf (kx X) B zk)) (hg : Gl X x := by rfl)
    (hall : (backToKw pos (keywordEach kws X.env)).all (·.1.isSome) = true := by rfl) (hks : (backToKw pos (keywordEach kws X.env)).filterMap (·.1) = ks := by rfl)
    (hdb : (x == ("__debug__" : Str)) = false := by decide) (he : starEach (e :: es) X.env = (false, eval e X.env) :: starEach es X.env := by rfl)
    (hpl : ((backTo pos (starEach (e :: es) X.env)).any (·.1) || (backToKw pos (keywordEach kws X.env)).any (·.1.isNone)) = false := by rfl) :
    PE X (.Call (.Name x p) (e :: es) kws pos) (eXOf (kx X) B (aCallX sp q dds m j z zk)) := by
  obtain ⟨fd, F1, F2⟩ := F
  obtain ⟨its, hb'⟩ := kbn_x F1 hb
  refine ⟨fun pins s σ H Q I h => ?_⟩
  obtain ⟨ι, a, S, P, PX, g, h, kv, ke⟩ := h
  refine wpAny_Call_Name_kw (ld_glob I hg hm ?_ hdb)
  refine PySem.W.callWith_KW (h₀ := X.base) I.ok.mod.kin F1.kp hall (thn (ha.run pos pins s σ H (fun vs H1 => ∃ ι1 S1 ds, Ext (kx X) ι H ι1 H1 ∧ RS (kx X) ι1 H1 S1 ∧ VRs (kx X) ι1 H1 vs ds ∧ zk a S1 fun es S2 => ds.length = m ∧ es.length = j ∧ sp (kperm q ds (dds ++ es)) S2 P PX) I
    ⟨ι, a, S, _, g, h, fun ι1 H1 vs ds S1 e1 r1 v1 h1 => ⟨ι1, S1, ds, e1, r1, v1, h1⟩⟩) fun us s1 ⟨vs, H1, I1, rv, ι1, S1, ds, e1, r1, v1, h1⟩ => ?_) hpl he
  refine thn (hkw.run pos pins s1 σ H1 (fun zs H2 => ∃ ι2 S2 es, Ext (kx X) ι1 H1 ι2 H2 ∧ RS (kx X) ι2 H2 S2 ∧ VRs (kx X) ι2 H2 zs es ∧ ds.length = m ∧ es.length = j ∧ sp (kperm q ds (dds ++ es)) S2 P PX) I1
    ⟨ι1, a, S1, _, g.go e1 r1, h1, fun ι2 H2 zs es S2 e2 r2 v2 h2 => ⟨ι2, S2, es, e2, r2, v2, h2⟩⟩) fun ws s2 ⟨zs, H2, I2, rz, ι2, S2, es', e2, r2, v2, l1, l2, h2⟩ => ⟨I2.kIn, ?_⟩
  rw [hks]
  have E := e1.trans e2
  exact run_fnX F2 hr hb' tk I2 rv rz (v1.length.trans l1) ((v2.length.trans l2).trans hj.symm) ⟨ι2, _, S2, P, PX, r2, kperm_vrs (v1.up e2) ((hd _ _).append v2), h2, fun _ _ _ _ _ e3 r3 v3 h3 => kv _ _ _ _ _ (E.trans e3) r3 v3 h3, fun _ _ _ _ _ _ _ _ e3 r3 x3 h3 => ke _ _ _ _ _ _ _ _ (E.trans e3) r3 x3 h3⟩
/-- f(k = v ..) -/
theorem a_callX0 (F : OkX X.prog X.w X.K X.mg X.base k x st ps dvs sp) (hr : Room k X.A) (tk : L2N.Takes X B.W) (hm : X.mg x = some (.ref (He.ga X.K x))) (hd : ∀ ι H, VRs (kx X) ι H dvs dds) (hb : KwX X.K x st ps dvs 0 ks q) (hj : ks.length = j) (hkw : PK X kws (aOf (kx X) B zk)) (hg : Gl X x := by rfl)
    (hall : (backToKw pos (keywordEach kws X.env)).all (·.1.isSome) = true := by rfl) (hks : (backToKw pos (keywordEach kws X.env)).filterMap (·.1) = ks := by rfl)
    (hdb : (x == ("__debug__" : Str)) = false := by decide)
    (hpl : ((backTo pos (starEach [] X.env)).any (·.1) || (backToKw pos (keywordEach kws X.env)).any (·.1.isNone)) = false := by rfl) :
    PE X (.Call (.Name x p) [] kws pos) (eXOf (kx X) B (aCallX sp q dds 0 j aNil zk)) := by
  obtain ⟨fd, F1, F2⟩ := F
  obtain ⟨its, hb'⟩ := kbn_x F1 hb
  refine ⟨fun pins s σ H Q I h => ?_⟩
  obtain ⟨ι, a, S, P, PX, g, h, kv, ke⟩ := h
  refine wpAny_Call_Name_kw (ld_glob I hg hm ?_ hdb)
  refine PySem.W.callWith_KW0 (h₀ := X.base) I.ok.mod.kin F1.kp hall ?_ hpl
  refine thn (hkw.run pos pins s σ H (fun zs H2 => ∃ ι2 S2 es, Ext (kx X) ι H ι2 H2 ∧ RS (kx X) ι2 H2 S2 ∧ VRs (kx X) ι2 H2 zs es ∧ ([] : List D).length = 0 ∧ es.length = j ∧ sp (kperm q [] (dds ++ es)) S2 P PX) I
    ⟨ι, a, S, _, g, h, fun ι2 H2 zs es S2 e2 r2 v2 h2 => ⟨ι2, S2, es, e2, r2, v2, h2⟩⟩) fun ws s2 ⟨zs, H2, I2, rz, ι2, S2, es', e2, r2, v2, l1, l2, h2⟩ => ⟨I2.kIn, ?_⟩
  rw [hks]
  exact run_fnX F2 hr hb' tk I2 (us := []) (vs := []) .nil rz rfl ((v2.length.trans l2).trans hj.symm) ⟨ι2, _, S2, P, PX, r2, kperm_vrs (vs := []) (us := []) .nil ((hd _ _).append v2), h2, fun _ _ _ _ _ e3 r3 v3 h3 => kv _ _ _ _ _ (e2.trans e3) r3 v3 h3, fun _ _ _ _ _ _ _ _ e3 r3 x3 h3 => ke _ _ _ _ _ _ _ _ (e2.trans e3) r3 x3 h3⟩
end
/-! ### statements with such a call -/
def aDropX (x : AEX) : AX := fun AD a S => x a S (fun _ S1 => AD.nx a S1) fun C ns ds S1 => AD.ex C ns ds a S1
def aRetX (x : AEX) : AX := fun AD a S => x a S AD.rt fun C ns ds S1 => AD.ex C ns ds a S1
section
variable {X : Cx} {B : Bs} {e : Expr} {x : AEX} {pos : Pos}
theorem s_exprX (he : PE X e (eXOf (kx X) B x)) (hs : swapsWith e none pos.line X.env = pure false := by rfl) : PS X (.Expr e pos) (sOf (kx X) B (aDropX x)) := by
  refine PS.imp (ps_expr he hs) fun D σ H h => ?_
  obtain ⟨ι, a, S, AD, g, h, k⟩ := h
  exact ⟨ι, a, S, _, _, g, h, fun ι1 H1 v d S1 e1 r1 v1 h1 => k.nx _ _ _ _ _ e1 r1 (g.sr.up e1) h1, fun ι1 H1 cls d C ns es S1 e1 r1 x1 h1 => k.ex _ _ _ _ _ _ _ _ _ _ e1 r1 (g.sr.up e1) x1 h1⟩
theorem s_retX (he : PE X e (eXOf (kx X) B x)) : PS X (.Return (some e) pos) (sOf (kx X) B (aRetX x)) := by
  refine PS.imp (ps_ret he) fun D σ H h => ?_
  obtain ⟨ι, a, S, AD, g, h, k⟩ := h
  exact ⟨ι, a, S, _, _, g, h, fun ι1 H1 v d S1 e1 r1 v1 h1 => k.rt _ _ _ _ _ e1 r1 v1 h1, fun ι1 H1 cls d C ns es S1 e1 r1 x1 h1 => k.ex _ _ _ _ _ _ _ _ _ _ e1 r1 (g.sr.up e1) x1 h1⟩
end
end Ab

/-! own exceptions over ValueError, over ArithmeticError: one field stored, made -/
namespace Ab
open PySem PySem.Spec PyProof.Rows L2
/-- the built-in at the root: ArithmeticError, else ValueError -/
def bRt (q : Bool) : String := if q then "ArithmeticError" else "ValueError"
def bNew (q : Bool) : String := if q then "ArithmeticError.__new__" else "ValueError.__new__"
def bIni (q : Bool) : String := if q then "ArithmeticError.__init__" else "ValueError.__init__"
def bTl (q : Bool) : List Value := if q then [.type "ArithmeticError", .type "Exception", .type "BaseException", .type "object"] else [.type "ValueError", .type "Exception", .type "BaseException", .type "object"]
theorem bF : ∀ q, ExcBaseFacts (bRt q) (bNew q) (bIni q) (bTl q)
  | true => PySem.F.excBase_ArithmeticError
  | false => PySem.F.excBase_ValueError
theorem bS : ∀ q, StoreFacts (bRt q) (bTl q) "object.__setattr__" "object"
  | true => PySem.F.store_ArithmeticError
  | false => PySem.F.store_ValueError
/-- an own class over that one -/
structure OexQ (K : PySem.W.Frag) (C : Addr) (q : Bool) : Prop where
  cls : ∃ nm qn N bs bm sn sub ab col dd k0 k1 k2 k3 k5, K.lookup C = some (excClassObj nm qn C N bs bm true sn sub ab col dd k0 k1 k2 k3 k5 (bNew q)) ∧ PySem.W.excTail (bTl q) bm = true
  sa : PySem.W.findIn K (.ref C) "__setattr__" = some (some (.builtin "object.__setattr__"))
  exC : PySem.W.subIn K (.ref C) (.type "BaseException") = some true
  tyC : PySem.W.typeIn K (.ref C) = some (.type "type")
  kC : PySem.W.keepIn K (.ref C) = true
section
variable {prog : Program} {w : World} {A : Around} {E : Value → Shared → Prop} {R : Result → Shared → Prop} {hp : Heap} {g : Array GenState} {d : Drawn} {t : Nat} {os : OsState}
/-- the first field of such an object -/
theorem osaQ {K : PySem.W.Frag} {f : Str} {tk : Tok} {v : Value} {x C : Addr} {fv : Array Value} {cd : ClassData} {bm : List Value} {q : Bool} (X : K.In hp) (hx : hp.get? x = some { cls := .ref C, data := .fields fv }) (hcd : PySem.W.clsIn K C = some cd) (hm : cd.mro = .ref C :: bm)
    (ht : PySem.W.excTail (bTl q) bm = true) (hh : cd.hasDict = true) (ha : PySem.W.findIn K (.ref C) f = some none)
    (hq : ∀ h' tk' dx, (∀ b o, b ≠ x → hp.get? b = some o → h'.get? b = some o) → hp.objs.size ≤ dx → dx ≠ x → h'.get? x = some { cls := .ref C, dict := some dx, data := .fields fv } → h'.Ns1 dx (fun y => if y = f then some v else none) → R (.ok (.ret .none)) ⟨h', g, d, tk', os⟩) :
    codeAny (model prog w) A (.call (.builtin "object.__setattr__") ⟨[.ref x, .str f tk, v], []⟩) R ⟨hp, g, d, t, os⟩ := by
  have In : PySem.W.InstAt hp x { cls := .ref C, data := .fields fv } C none := ⟨hx, rfl, rfl, trivial⟩
  have lt := Heap.lt_size hx
  refine PySem.W.osa_openX (bS q) X In (by unfold PySem.W.excOver; rw [hcd]; simp [hm, ht]) (r := none) (by unfold PySem.W.takerIn; rw [ha]; rfl) fun onT => ?_
  have lc : PySem.W.Looks (model prog w) hp (classData C) cd := PySem.W.looks_clsIn X hcd
  obtain ⟨nm, bs, mro, ns, qn, hd, sn, sb, ab, col, del⟩ := cd
  cases (show hd = true from hh)
  show wpAny _ _ (Builtin.ObjectAttr.storeInOwnDict (.ref x) (.ref C) (.str f tk) f v onT) _ _ _
  unfold Builtin.ObjectAttr.storeInOwnDict Builtin.ObjectAttr.ownDictForStores
  repeat (first | with_reducible refine PySem.HandSPX.store_in_new ?_ ?_ | with_reducible refine wpAny_loadPart_at hx ?_ | with_reducible refine lc.at ?_ | wp_step)
  · exact ⟨_, #[], _, (Heap.get?_update_ne _ _ _ _ (Nat.ne_of_gt lt)).trans (Heap.get?_push_at rfl rfl), rfl, fun e he => absurd he (by simp), fun _ => rfl⟩
  · intro h2 t2 n2 sb2
    have up : ∀ b o, hp.get? b = some o → (hp.push { cls := .type "dict", data := .dict #[] }).get? b = some o := fun b o e => Heap.get?_push_of_some _ e
    refine hq h2 t2 hp.objs.size (fun b o nb eb => ?_) (Nat.le_refl _) (Nat.ne_of_gt lt) ?_ n2
    · rw [sb2.2 b (Nat.ne_of_lt (Heap.lt_size eb)), Heap.get?_update_ne _ _ _ _ nb]
      exact up b o eb
    · rw [sb2.2 x (Nat.ne_of_lt lt)]
      exact Heap.get?_update_self _ (up _ _ hx) rfl
end
section
variable {X : Cx} {pins : List (Addr × Obj)} {σ : L2.St} {H : Hp} {s : Shared} {a C : Addr} {f : Str} {y : V} {u : Value} {E : Value → Shared → Prop} {A : Around} {q : Bool}
theorem ostQ {Q : Unit → Shared → Prop} (T : OexQ X.K C q) (I : Inv X pins σ H s) (ea : H a = some (exo a C none)) (no : PySem.W.findIn X.K (.ref C) f = some none) (ry : RelV y u)
    (k : ∀ dx s', H dx = none → dx ≠ a → Inv X pins σ (upd (upd H dx (exd dx [(f, y)])) a (exo a C (some dx))) s' → Q () s') : wpAny (model X.prog X.w) A (setAttr (.ref a) f u) Q E s := by
  obtain ⟨nm, qn, N, bs, bm, sn, sub, ab, col, dd, k0, k1, k2, k3, k5, eC, tl⟩ := T.cls
  obtain ⟨t1, oa⟩ := exo_at I.hok ea
  obtain ⟨hp, gs, dr, tk, os⟩ := s
  refine PySem.W.set_plain I.kIn (od := none) (ox := { cls := .ref C, dict := none, data := .fields #[.ref t1, .none, .none, .none, .bool false, .none] }) ⟨oa, rfl, rfl, trivial⟩ T.sa ?_
  refine osaQ (q := q) (cd := { name := nm, bases := bs, mro := .ref C :: bm, ns := N, qualname := qn, hasDict := true, slotNames := sn, subclasses := sub, abstract := ab, collection := col, hasDel := false }) I.kIn oa (by unfold PySem.W.clsIn; rw [eC] <;> rfl) rfl tl rfl no fun h2 t2 dx kp ld nda x2 n2 => ?_
  have fd : H dx = none := I.hok.fresh ld
  have old : ∀ {b : Addr} {o : Obj}, hp.get? b = some o → b ≠ dx := fun e => Nat.ne_of_lt (Nat.lt_of_lt_of_le (Heap.lt_size e) ld)
  have fa : ∀ {b : Addr}, H b = none → b ≠ a := fun {b} e z => by
    rw [z, ea] at e
    cases e
  have un : Un X.fs [] H (upd (upd H dx (exd dx [(f, y)])) a (exo a C (some dx))) hp h2 := ⟨fun b o e z _ _ => kp b o (fa z) e, fun b o e z _ _ => ⟨o.slots, kp b o (fa z) e⟩, fun b o e z _ => by rw [upd_ne (fa z), upd_ne (old e)]; exact z, fun b o e _ => ?_, fun b xs e => ?_, fun b o v e => ?_, fun b ps e => ?_⟩
  · refine k dx _ fd nda (I.un (t' := t2) un fun b o e => ?_)
    by_cases z : b = a
    · cases z
      rw [upd_same] at e
      cases e
      exact exo_ok x2
    rw [upd_ne z] at e
    by_cases z2 : b = dx
    · cases z2
      rw [upd_same] at e
      cases e
      exact exd_ok n2 (relO_put (fs := []) ry fun _ => trivial)
    rw [upd_ne z2] at e
    have ow : ∀ {c v}, H c = some (.own v) → upd (upd H dx (exd dx [(f, y)])) a (exo a C (some dx)) c = some (.own v) := fun e2 => by rw [upd_ne (at_ne ea e2 exo_own), upd_ne (ne_of_none e2 fd)]; exact e2
    exact (I.hok b o e).stay (fun c v hc e2 => kp c v (hc.elim (fun e3 => e3 ▸ z) fun e3 => at_ne ea e3 exo_own) e2) (fun c e2 => ow e2) fun c xs e2 => by rw [upd_ne (at_ne ea e2 exo_tup), upd_ne (ne_of_none e2 fd)]; exact e2
  · by_cases z : b = a
    · cases z
      exact ⟨_, x2⟩
    · exact ⟨o, kp b o z e⟩
  · rw [upd_ne (at_ne ea e exo_tup), upd_ne (ne_of_none e fd)]
    exact e
  · rw [upd_ne (at_ne ea e exo_frz), upd_ne (ne_of_none e fd)]
    exact e
  · refine ⟨#[], ?_⟩
    rw [upd_ne (at_ne ea e exo_tbl), upd_ne (ne_of_none e fd), e]
    simp
/-- the built-in's __init__ -/
theorem oinitQ {us : List Value} {Q : Value → Shared → Prop} (T : OexQ X.K C q) (I : Inv X pins σ H s) (ea : H a = some (exo a C none)) (hl : us.length ≤ sizeLine) (k : ∀ s', Inv X pins σ H s' → Q .none s') :
    wpAny (model X.prog X.w) A (call (.builtin (bIni q)) (.ref a :: us)) Q E s := by
  obtain ⟨nm, qn, N, bs, bm, sn, sub, ab, col, dd, k0, k1, k2, k3, k5, eC, tl⟩ := T.cls
  obtain ⟨t1, oa⟩ := exo_at I.hok ea
  obtain ⟨hp, gs, dr, tk, os⟩ := s
  refine wpAny_call (PySem.HandSPX.init_base (bF q) (fun Y => PySem.W.excTail_contains Y bm tl) (I.kIn _ _ eC) oa hl fun h2 t2 kp x2 => ?_)
  have J := I.write (t' := tk) (x := a) (e := a) (o := exo a C none) (by rw [ea]; exact trivial) (.inl rfl) kp ⟨_, x2⟩ (exo_ok x2)
  rw [show upd H a (exo a C none) = H from funext fun b => (Decidable.em (b = a)).elim (fun z => by rw [z, upd_same, ea]) fun z => upd_ne z] at J
  exact k _ J
end
/-! ### readings -/
/-- the built-in's __init__(self, ..) -/
def tVeQ (K : PySem.W.Frag) (q : Bool) (ta : TA) : TE := fun σ H Q => ta σ H fun vs H1 => ∃ a C ws, vs = .ref a :: ws ∧ ws.length ≤ 1000 ∧ OexQ K C q ∧ H1 a = some (exo a C none) ∧ Q .non H1
/-- self.f = e, the only one -/
def tOsQ (K : PySem.W.Frag) (q : Bool) (f : Str) (to te : TE) : TS := fun D σ H => te σ H fun y H1 => to σ H1 fun x H2 => ∃ a C, x = .ref a ∧ OexQ K C q ∧ PySem.W.findIn K (.ref C) f = some none ∧ H2 a = some (exo a C none) ∧ ∀ dx, H2 dx = none → dx ≠ a → D.nx σ (upd (upd H2 dx (exd dx [(f, y)])) a (exo a C (some dx)))
theorem ps_osQ {X : Cx} {o e : Expr} {to te : TE} {f : Str} {p' pos : Pos} {q : Bool} (ho : PE X o to) (he : PE X e te) (hs : swapsWith e (some (.Attribute o f p')) pos.line X.env = pure false := by rfl) : PS X (.Assign [.Attribute o f p'] e pos) (tOsQ X.K q f to te) := by
  refine ⟨fun pins s σ H D I h => plainObj_wpAny_Assign_Attribute (thn (he.run pins s σ H _ I h) fun v s1 ⟨y, H1, I1, r1, h1⟩ => thn (ho.run pins s1 σ H1 _ I1 h1) fun u s2 ⟨x, H2, I2, r2, a, C, ex, T, no, ea, k⟩ => ?_) hs⟩
  subst ex
  cases (show u = Value.ref a from r2)
  exact ostQ T I2 ea no r1 fun dx s' n ne J => ⟨σ, _, J, k dx n ne⟩
end Ab

/-! raise of an own exception with one field; what is asked of a caught one -/
namespace Ab
open PySem PySem.Spec PyProof.Rows L2
section
variable {X : Cx} {e : Expr} {es : List Expr} {ta : TA} {x : Str} {p p1 p2 pos : Pos} {k : Nat} {C fI : Addr} {fd : FuncData} {ps : List Str} {sp : Sp}
/-- C(e, ..), an exception with no context -/
theorem pmkx {q : Bool} (T : OexQ X.K C q) (iC : PySem.W.findIn X.K (.ref C) "__init__" = some (some (.ref fI))) (tI : PySem.W.typeIn X.K (.ref fI) = some (.type "function")) (F : FnOk X.prog X.w X.K X.mg X.base CX0 k fI fd ps sp) (hr : Room (k + 1) X.A) (hb : Binds X.K fd ps []) (hg : Gl X x) (hm : X.mg x = some (.ref C)) (ha : PA X (e :: es) ta)
    (hdb : (x == ("__debug__" : Str)) = false := by decide) (he : starEach (e :: es) X.env = (false, eval e X.env) :: starEach es X.env := by rfl) (hpl : (backTo pos (starEach es X.env)).any (·.1) = false := by rfl) : L2N.PMk X (.Call (.Name x p) (e :: es) [] pos) (tMkO C sp [] ta) := by
  intro pins s σ H Q I h
  obtain ⟨nm, qn, N, bs, bm, sn, sub, ab, col, dd, k0, k1, k2, k3, k5, hC, hbm⟩ := T.cls
  refine wpAny_Call_Name_kw (ld_glob I hg hm (PySem.W.callWith_K (h₀ := X.base) I.ok.mod.kin T.kC (thn (ha.run pos pins s σ H _ I h) fun us s1 ⟨vs, H1, I1, r1, hz, q1⟩ => ⟨I1.kIn, ?_⟩) he hpl) hdb)
  obtain ⟨hp, g, dr, tk, os⟩ := s1
  generalize hA : hp.objs.size + 1 = A
  have lA : hp.objs.size ≤ A := by omega
  have nA : H1 A = none := I1.hok.fresh lA
  have sA := q1 A nA
  rw [List.append_nil] at sA
  have up : ∀ b o, hp.get? b = some o → ((hp.push (PySem.W.kdv_tup us)).push (PySem.HandSPX.excO C hp.objs.size)).get? b = some o := fun b o q => Heap.get?_push_of_some _ (Heap.get?_push_of_some _ q)
  have gA : ((hp.push (PySem.W.kdv_tup us)).push (PySem.HandSPX.excO C hp.objs.size)).get? A = some (PySem.HandSPX.excO C hp.objs.size) := by
    rw [← hA]
    heap_get
  have I2 : Inv X pins σ (upd H1 A (exo A C none)) ⟨(hp.push (PySem.W.kdv_tup us)).push (PySem.HandSPX.excO C hp.objs.size), g, dr, tk, os⟩ := I1.laid (t' := tk) (a := A) (o := exo A C none) (h' := (hp.push (PySem.W.kdv_tup us)).push (PySem.HandSPX.excO C hp.objs.size)) up lA (exo_ok gA)
  have r2 : Vals (V.ref A :: vs) (Value.ref A :: us) := .cons rfl r1
  have ln : (Value.ref A :: us).length = ps.length := r2.length.symm.trans (F.len _ _ _ _ sA)
  have lu : us.length ≤ sizeLine := by
    rw [← Paired.length r1, sizeLine_eq]
    omega
  have b2 := hb _ (Value.ref A :: us) I2.kIn (by rw [List.append_nil]; exact ln)
  rw [List.append_nil] at b2
  subst hA
  refine wpAny_call (PySem.HandSPX.call_own (bF q) (fun Y => PySem.W.excTail_contains Y bm hbm) (I1.kIn _ _ hC) (PySem.W.looks_findIn I1.kIn iC) (fun self => PySem.W.bind_fn I1.kIn self tI) lu
    (codeAny_mono (F.run _ X.stack _ _ ⟨Value.ref (hp.objs.size + 1) :: us, []⟩ (Value.ref (hp.objs.size + 1) :: us) _ _ E0 (hr.make C us []) (I2.env0.make C us []) b2 r2 sA) fun rr s' hq => ?_))
  match rr, hq with
  | .error er, hq => exact pass0 (X := X) pins σ _ _ er s' I2 hq
  | .ok (.ret u), ⟨v, H2, o2, ba2, un2, ok2, rv, ev, d, fs, ea, ed, hd1, q2⟩ =>
    subst ev
    obtain ⟨h2, g2, d2, t2, os'⟩ := s'
    obtain ⟨t0, G, J, kG, ge, hoe, na⟩ := mk_end0 (d2 := d2) (t2 := t2) I1 lA up un2 ok2 o2 ba2 ea ed hd1
    refine ⟨rv, hp.objs.size + 1, _, _, ⟨G, g2, d2, t2, os'⟩, _, .ref C, some d, rfl, J, kG, ge, hoe, ⟨rfl, rfl, fun vs hv => ?_⟩, rfl, rfl, na, rfl, ba2, raises_own T.exC T.tyC, q2⟩
    cases hv
    rfl
  | .ok .next, hq => exact False.elim hq
  | .ok .brk, hq => exact False.elim hq
  | .ok .cont, hq => exact False.elim hq
/-- B.__init__(self, ..), B an own class under the built-in without an __init__ -/
theorem pe_binit {q : Bool} {pl : Sem Bool} {b : Str} {Cb : Addr} {mc : Value} (hg : Gl X b) (hm : X.mg b = some (.ref Cb)) (hsp : PySem.W.specialIn X.K (.ref Cb) "__getattribute__" = some (some (.builtin "type.__getattribute__"))) (hrd : PySem.W.readsIn X.K Cb mc = true)
    (hf : PySem.W.findCls X.K (.ref Cb) mc "__init__" = some (.val (.builtin (bIni q)))) (ha : PA X (e :: es) ta) (hdb : (b == ("__debug__" : Str)) = false := by decide)
    (hc : eval (.Call (.Attribute (.Name b p1) "__init__" p2) (e :: es) [] pos) X.env = (do
      let ov ← eval (.Name b p1) X.env
      standAt p2.atName
      let (f, first) ← holding [ov] (getMethod ov "__init__" pl)
      callWith pos f first (backTo pos (starEach (e :: es) X.env)) (backToKw pos (keywordEach [] X.env))) := by rfl)
    (he : starEach (e :: es) X.env = (false, eval e X.env) :: starEach es X.env := by rfl) (hpl : (backTo pos (starEach es X.env)).any (·.1) = false := by rfl) : PE X (.Call (.Attribute (.Name b p1) "__init__" p2) (e :: es) [] pos) (tVeQ X.K q ta) := by
  refine ⟨fun pins s σ H Q I h => PySem.W.methodCall_KW (ld_glob I hg hm (PySem.W.method_cls I.kIn hsp (PySem.W.cls_value I.kIn hrd hf (by cases q <;> decide +kernel) ?_)) hdb) hc⟩
  show wpAny _ _ (callWith pos (Value.builtin (bIni q)) [] (backTo pos (starEach (e :: es) X.env)) []) _ _ _
  refine PyProof.Rows.callWith_method1 (thn (ha.run pos pins _ σ H _ (I.tok _) h) fun us s1 ⟨vs, H1, I1, r1, a, C, ws, ev, hl, T, ea, q⟩ => ?_) he hpl
  subst ev
  match us, r1 with
  | .cons u ur, .cons ra rr =>
    obtain rfl : u = Value.ref a := ra
    exact oinitQ T I1 ea (by rw [← Paired.length rr, sizeLine_eq]; omega) fun s' J => ⟨.non, H1, J, rfl, q⟩
end
/-! ### such an __init__ -/
/-- it stores its argument in the field f -/
def spInit (K : PySem.W.Frag) (q : Bool) (f : Str) : Sp := fun vs H Q _ => ∃ (a C : Addr) (v : V), vs = [.ref a, v] ∧ OexQ K C q ∧ PySem.W.findIn K (.ref C) f = some none ∧ H a = some (exo a C none) ∧ ∀ dx, H dx = none → dx ≠ a → Q .non (upd (upd H dx (exd dx [(f, v)])) a (exo a C (some dx)))
/-- which classes are over ArithmeticError -/
def ari (c : Str) : Bool := ((["RoomError", "TooMany", "Full"] : List Str)).contains c
/-- a class whose exceptions have the field f and are made so -/
structure XMk (P : Program) (w : World) (K : PySem.W.Frag) (mg : Str → Option Value) (base : Heap) (k : Nat) (c f : Str) : Prop where
  T : OexQ K (He.ga K c) (ari c)
  no : PySem.W.findIn K (.ref (He.ga K c)) f = some none
  it : PySem.W.findIn K (.ref (He.ga K c)) "__init__" = some (some (.ref (He.ma K (He.ga K c) "__init__")))
  ty : PySem.W.typeIn K (.ref (He.ma K (He.ga K c) "__init__")) = some (.type "function")
  ok : ∃ fd ps, FnOk P w K mg base CX0 k (He.ma K (He.ga K c) "__init__") fd ps (spInit K (ari c) f) ∧ Binds K fd ps []
/-- the base class's part -/
structure BIn (K : PySem.W.Frag) (b : Str) : Prop where
  sp : PySem.W.specialIn K (.ref (He.ga K b)) "__getattribute__" = some (some (.builtin "type.__getattribute__"))
  rd : PySem.W.readsIn K (He.ga K b) (.type "type") = true
  fc : PySem.W.findCls K (.ref (He.ga K b)) (.type "type") "__init__" = some (.val (.builtin (bIni (ari b))))
def isVal (s : String) : Option PySem.W.CFound → Bool
  | some (.val (.builtin t)) => t == s
  | _ => false
theorem isVal_ok {s : String} {r : Option PySem.W.CFound} (h : isVal s r = true) : r = some (.val (.builtin s)) := by
  unfold isVal at h
  split at h
  · rw [eq_of_beq h]
  · cases h
def binB (K : PySem.W.Frag) (b : Str) : Bool := He.eqO (PySem.W.specialIn K (.ref (He.ga K b)) "__getattribute__") (some (some (.builtin "type.__getattribute__"))) && (PySem.W.readsIn K (He.ga K b) (.type "type") && isVal (bIni (ari b)) (PySem.W.findCls K (.ref (He.ga K b)) (.type "type") "__init__"))
theorem bin_ok {K : PySem.W.Frag} {b : Str} (h : binB K b = true) : BIn K b := by
  unfold binB at h
  simp only [Bool.and_eq_true] at h
  exact ⟨He.eqO_ok h.1, h.2.1, isVal_ok h.2.2⟩
/-- the body: B.__init__(self, t); self.f = prm -/
abbrev tXI (K : PySem.W.Frag) (q : Bool) (t f : Str) : TS := tSeq (tDrop (tVeQ K q (tCons (tVar 0) (tCons (tC (.str t)) tNil)))) (tOsQ K q f (tVar 0) (tVar 1))
theorem xinit_ok {P : Program} {w : World} {K : PySem.W.Frag} {mg : Str → Option Value} {base : Heap} {q0 : Bool} {x qual prm f t : Str} {st : Stmt} {k : Nat} {fI : Addr} {fd : FuncData} (F : FunD K x qual (defArgs st) (defBody st) (defScope st) [] [] fI fd) (C : FnScope ["self", prm] ["self", prm] (defScope st))
    (hbody : ∀ (cdv : Value) (A : Around) (outer : List Env) (s : Shared) (H : Hp) (E : XK), Room k (A.deeper (PyProof.Rows.envOfC qual (defScope st) s.heap.objs.size fI cdv)) → PSs (cxOf CX0 P w K mg base ["self", prm] qual (defScope st) fI cdv A outer s H E) (defBody st) (tXI K q0 t f)) :
    FnOk P w K mg base CX0 (k + 1) fI fd ["self", prm] (spInit K q0 f) := by
  refine F.ok C (fun vs H Q E h => ?_) fun cdv A outer s H vs Q E hr h => ⟨_, hbody cdv A outer s H E hr, ?_⟩
  · obtain ⟨a, C, v, rfl, _⟩ := h
    rfl
  · obtain ⟨a, C, v, rfl, T, no, ea, q⟩ := h
    exact ⟨.ref a, rfl, a, C, [.str t], rfl, by simp, T, ea, v, rfl, .ref a, rfl, a, C, rfl, T, no, ea, q⟩
/-! ### raise c(e) -/
def aRaise (c f : Str) (x : AE) : AX := fun AD a S => x a S fun d S1 => AD.ex c [f] [d] a S1
theorem del_new {H : Hp} {a dx : Addr} {o u v : HO} (na : H a = none) (ne : dx ≠ a) : upd (del (upd (upd (upd H a o) dx u) a o) a) dx v = upd H dx v := by
  funext b
  by_cases h1 : b = dx
  · rw [h1, upd_same, upd_same]
  · rw [upd_ne h1, upd_ne h1]
    by_cases h2 : b = a
    · rw [h2, del_same, na]
    · rw [del_ne h2, upd_ne h2, upd_ne h1, upd_ne h2]
section
variable {X : Cx} {B : Bs} {c f : Str} {e : Expr} {x : AE} {p pos pos' : Pos} {k : Nat}
theorem s_raise (M : XMk X.prog X.w X.K X.mg X.base k c f) (hr : Room (k + 1) X.A) (tk : L2N.Takes X B.W) (hm : X.mg c = some (.ref (He.ga X.K c))) (he : PE X e (eOf (kx X) B x)) (hc : X.calm = true := by rfl) (hg : Gl X c := by rfl)
    (hdb : (c == ("__debug__" : Str)) = false := by decide) (h1 : starEach [e] X.env = (false, eval e X.env) :: starEach [] X.env := by rfl) (h2 : (backTo pos (starEach [] X.env)).any (·.1) = false := by rfl) :
    PS X (.Raise (some (.Call (.Name c p) [e] [] pos)) none pos') (sOf (kx X) B (aRaise c f x)) := by
  obtain ⟨fd, ps, F, hb⟩ := M.ok
  refine PS.imp (L2N.ps_raise hc tk (pmkx M.T M.it M.ty F hr hb hg hm (pa_cons he pa_nil h1) hdb h1 h2)) fun D σ H h => ?_
  obtain ⟨ι, a, S, AD, g, h, k⟩ := h
  refine ⟨ι, a, S, _, g, h, fun ι1 H1 v d S1 e1 r1 v1 q => ⟨by simp, fun ea na => ⟨ea, _, v, rfl, M.T, M.no, upd_same, fun dx nx ne => ⟨rfl, dx, [(f, v)], upd_same, ?_, ?_, ?_⟩⟩⟩⟩
  · rw [upd_ne ne, upd_same]
  · rw [upd_ne ne] at nx
    exact nx
  · have nd : H1 dx = none := by
      rw [upd_ne ne] at nx
      exact nx
    have ee : upd (del (upd (upd (upd H1 ea (exo ea (He.ga X.K c) none)) dx (exd dx [(f, v)])) ea (exo ea (He.ga X.K c) (some dx))) ea) dx (.xd [(f, v)]) = upd H1 dx (.xd [(f, v)]) := by
      funext b
      by_cases q1 : b = dx
      · rw [q1, upd_same, upd_same]
      · rw [upd_ne q1, upd_ne q1]
        by_cases q2 : b = ea
        · rw [q2, del_same, na]
        · rw [del_ne q2, upd_ne q2, upd_ne q1, upd_ne q2]
    rw [ee]
    have e2 := ext_fresh (K := kx X) (o := .xd [(f, v)]) nd (r1.out nd)
    exact k.ex _ _ _ _ _ _ _ _ _ _ (e1.trans e2) (r1.fresh nd) (g.sr.up (e1.trans e2)) ⟨rfl, dx, _, rfl, upd_same, rfl, .cons (v1.up e2) .nil⟩ q
end
/-! ### e.f of a caught exception -/
/-- the classes whose instances' fields are read -/
structure XfOk (K : PySem.W.Frag) (L : List Str) (f : Str) : Prop where
  ok : ∀ c ∈ L, XfC K (He.ga K c) ∧ PySem.W.findIn K (.ref (He.ga K c)) f = some none
theorem xf_nil {K : PySem.W.Frag} {f : Str} : XfOk K [] f := ⟨fun c h => by simp at h⟩
theorem xf_cons {K : PySem.W.Frag} {L : List Str} {c f : Str} (h1 : XfC K (He.ga K c)) (h2 : PySem.W.findIn K (.ref (He.ga K c)) f = some none) (h : XfOk K L f) : XfOk K (c :: L) f := ⟨fun x hx => by
  rcases List.mem_cons.mp hx with rfl | hx
  · exact ⟨h1, h2⟩
  · exact h.ok x hx⟩
def aXf (L : List Str) (f : Str) (x : AE) : AE := fun a S P => x a S fun d S1 => match d with
  | .exc C ns ds => C ∈ L ∧ fldP (ns.zip ds) f fun v => P v S1
  | _ => False
section
variable {X : Cx} {B : Bs} {e : Expr} {x : AE} {pos : Pos} {L : List Str} {f : Str}
theorem a_xf (hL : XfOk X.K L f) (he : PE X e (eOf (kx X) B x)) (hb : attributeBase e f X.env (eval e X.env) = eval e X.env := by rfl) : PE X (.Attribute e f pos) (eOf (kx X) B (aXf L f x)) := by
  refine ⟨fun pins s σ H Q I h => attr_of hb ?_⟩
  obtain ⟨ι, a, S, P, g, h, k⟩ := h
  refine thn (he.run pins s σ H (fun v H1 => ∃ ι1 S1 d, Ext (kx X) ι H ι1 H1 ∧ RS (kx X) ι1 H1 S1 ∧ VR (kx X) ι1 H1 v d ∧ match d with
    | .exc C ns ds => C ∈ L ∧ fldP (ns.zip ds) f fun v => P v S1
    | _ => False) I ⟨ι, a, S, _, g, h, fun ι1 H1 v d S1 e1 r1 v1 h1 => ⟨ι1, S1, d, e1, r1, v1, h1⟩⟩) fun u s1 ⟨v, H1, I1, ru, ι1, S1, d, e1, r1, v1, h1⟩ => ?_
  cases v1 with
  | @exc ad dd oe C ws ns ds q1 q2 q3 q4 q5 =>
    obtain ⟨hc, h1⟩ := h1
    unfold fldP at h1
    obtain ⟨d, hd, h1⟩ := h1
    obtain ⟨T, no⟩ := hL.ok C hc
    obtain rfl : u = Value.ref ad := ru
    obtain ⟨⟨z1, z2, _⟩, vs, hv⟩ := q2
    obtain ⟨o1, _⟩ := I1.hok ad _ q1
    have o3 : ObjOk X.prog X.w H1 s1.heap dd (.xd ws) := I1.hok dd _ q3
    obtain ⟨mA, hns, rel⟩ := o3
    have q5' : VRs (kx X) ι1 H1 (ws.map (·.2)) ((ns.zip ds).map (·.2)) := by
      rw [List.map_snd_zip (by rw [← q5.length, ← q4]; simp)]
      exact q5
    obtain ⟨v, hl, rv⟩ := fld_look (fs := ns.zip ds) (ws := ws) (by rw [List.map_fst_zip (by rw [← q5.length, ← q4]; simp)]; exact q4) q5' hd
    obtain ⟨od, ho, hk⟩ := lookIn_ns hns
    obtain ⟨u, hu, ru⟩ := RelO.some_of (v := v) (o := mA f) (by rw [← hl]; exact rel f)
    have J : PySem.W.InstAt s1.heap ad oe (He.ga X.K C) (some od) := ⟨o1, z1, by unfold PySem.W.notCls; rw [hv] <;> rfl, by rw [z2]; exact ho⟩
    exact HandSPX.exc_get I1.kIn J T.ga T.gg T.exC (PySem.W.findObj_own T.hdC no rfl (by rw [hk, hu])) (handed_of ru) ⟨v, H1, I1.tok _, ru, k _ _ _ _ _ e1 r1 rv h1⟩
  | _ => exact h1.elim
end
/-! ### isinstance(e, X) of a caught exception -/
structure XcOk (K : PySem.W.Frag) (D : Addr) : Prop where
  cl : (PySem.W.clsIn K D).isSome = true
  ga : PySem.W.findIn K (.ref D) "__getattribute__" = some (some (.builtin "BaseException.__getattribute__"))
  gg : PySem.W.findIn K (.ref D) "__getattr__" = some none
  sb : PySem.W.subIn K (.ref D) (.type "BaseException") = some true
  cs : PySem.W.findIn K (.ref D) "__class__" = some (some (.builtin "object.__class__"))
  sp : PySem.W.specialIn K (.builtin "object.__class__") "__get__" = some (some (.builtin "getset_descriptor.__get__"))
  tk : PySem.W.takesIn K (.builtin "object.__class__") = some true
  mr : PySem.W.mroIn K D (.type "object") = some true
def xcB (K : PySem.W.Frag) (D : Addr) : Bool := (PySem.W.clsIn K D).isSome && (He.eqO (PySem.W.findIn K (.ref D) "__getattribute__") (some (some (.builtin "BaseException.__getattribute__"))) && (He.eqO (PySem.W.findIn K (.ref D) "__getattr__") (some none) && (decide (PySem.W.subIn K (.ref D) (.type "BaseException") = some true) &&
  (He.eqO (PySem.W.findIn K (.ref D) "__class__") (some (some (.builtin "object.__class__"))) && (He.eqO (PySem.W.specialIn K (.builtin "object.__class__") "__get__") (some (some (.builtin "getset_descriptor.__get__"))) && (decide (PySem.W.takesIn K (.builtin "object.__class__") = some true) && decide (PySem.W.mroIn K D (.type "object") = some true)))))))
theorem xc_ok {K : PySem.W.Frag} {D : Addr} (h : xcB K D = true) : XcOk K D := by
  unfold xcB at h
  simp only [Bool.and_eq_true, decide_eq_true_eq] at h
  obtain ⟨h1, h2, h3, h4, h5, h6, h7, h8⟩ := h
  exact ⟨h1, He.eqO_ok h2, He.eqO_ok h3, h4, He.eqO_ok h5, He.eqO_ok h6, h7, h8⟩
/-- what each class answers -/
structure XiOk (K : PySem.W.Frag) (cv : Value) (L : List (Str × Bool)) : Prop where
  ok : ∀ q ∈ L, XcOk K (He.ga K q.1) ∧ PySem.W.kitOne K (.ref (He.ga K q.1)) cv = some q.2
theorem xi_nil {K : PySem.W.Frag} {cv : Value} : XiOk K cv [] := ⟨fun c h => by simp at h⟩
theorem xi_cons {K : PySem.W.Frag} {L : List (Str × Bool)} {cv : Value} {c : Str} {b : Bool} (h1 : XcOk K (He.ga K c)) (h2 : PySem.W.kitOne K (.ref (He.ga K c)) cv = some b) (h : XiOk K cv L) : XiOk K cv ((c, b) :: L) := ⟨fun x hx => by
  rcases List.mem_cons.mp hx with rfl | hx
  · exact ⟨h1, h2⟩
  · exact h.ok x hx⟩
def isXD (L : List (Str × Bool)) : F1 := fun d S P => match d with
  | .exc C _ _ => ∃ b, (C, b) ∈ L ∧ P (.bl b) S
  | _ => False
abbrev aIsX (L : List (Str × Bool)) (x : AE) : AE := aUn (isXD L) x
/-- the exception at a, asked for the class -/
def rIsX (K : KX) (u : Value) (L : List (Str × Bool)) : List V → Hp → VK → Prop := fun xs H Q => ∃ (a : Addr) (c : V) (ι : List Addr) (d : D) (b : Bool) (C : Str) (ns : List Str) (ds : List D), xs = [.ref a, c] ∧ ClsV c u ∧ VR K ι H (.ref a) d ∧ d = .exc C ns ds ∧ (C, b) ∈ L ∧ Q (.bl b) H
theorem call_isX {X : Cx} {u : Value} {L : List (Str × Bool)} (hL : XiOk X.K u L) : CallR X (.builtin "isinstance") (rIsX (kx X) u L) := by
  intro pins s σ H xs us Q I r h
  obtain ⟨a, c, ι, d, b, C, ns, ds, rfl, k, v, rfl, hb, q⟩ := h
  obtain ⟨u1, u2, rfl, r1, r2⟩ := vals2 r
  obtain rfl := k.eq r2
  obtain rfl : u1 = Value.ref a := r1
  obtain ⟨Z, e⟩ := hL.ok _ hb
  cases v with
  | @exc _ dd oe _ ws _ _ q1 q2 q3 q4 q5 =>
    obtain ⟨⟨z1, z2, _⟩, vs, hv⟩ := q2
    obtain ⟨o1, _⟩ := I.hok a _ q1
    have o3 : ObjOk X.prog X.w H s.heap dd (.xd ws) := I.hok dd _ q3
    obtain ⟨mA, hns, rel⟩ := o3
    obtain ⟨od, ho, hk⟩ := lookIn_ns hns
    have J : PySem.W.InstAt s.heap a oe (He.ga X.K C) (some od) := ⟨o1, z1, by unfold PySem.W.notCls; rw [hv] <;> rfl, by rw [z2]; exact ho⟩
    exact PySem.W.kia_one (PySem.W.kitx_exc Z.cl Z.ga Z.gg Z.sb Z.cs Z.sp Z.tk Z.mr) I.kIn J e (fun z => nomatch z) fun tk => ⟨.bl b, H, I.tok tk, rfl, q⟩
section
variable {X : Cx} {B : Bs} {e : Expr} {x : AE} {p p2 pos : Pos} {c : Str} {v : V} {u : Value} {L : List (Str × Bool)}
theorem a_isX (hL : XiOk X.K u L) (hm : X.mg "isinstance" = none) (hv : PE X (.Name c p2) (tC v)) (k : ClsV v u) (he : PE X e (eOf (kx X) B x)) (hg : Gl X "isinstance" := by rfl) (h1 : starEach [e, .Name c p2] X.env = (false, eval e X.env) :: starEach [.Name c p2] X.env := by rfl) (h2 : starEach [.Name c p2] X.env = (false, eval (.Name c p2) X.env) :: starEach [] X.env := by rfl)
    (h3 : (backTo pos (starEach [.Name c p2] X.env)).any (·.1) = false := by rfl) : PE X (.Call (.Name "isinstance" p) [e, .Name c p2] [] pos) (eOf (kx X) B (aIsX L x)) := by
  refine PE.imp (pe_callB (call_isX hL) hg hm (by decide +kernel) (pa_cons he (pa_cons hv pa_nil h2) h1) (by decide) (by decide) h1 h3) fun σ H Q h => ?_
  obtain ⟨ι, a, S, P, g, h, kk⟩ := h
  refine ⟨ι, a, S, _, g, h, fun ι1 H1 w d S1 e1 r1 v1 q => ?_⟩
  cases v1 with
  | @exc ad dd oe C ws ns ds q1 q2 q3 q4 q5 =>
    obtain ⟨b, hb, q⟩ := q
    exact ⟨ad, v, ι1, _, b, C, ns, ds, rfl, k, .exc q1 q2 q3 q4 q5, rfl, hb, kk _ _ _ _ _ e1 r1 (.bl b) q⟩
  | _ => exact q.elim
/-- an own class's name, a built-in one's -/
theorem xn_own (hm : X.mg c = some (.ref (He.ga X.K c))) (hg : Gl X c := by rfl) (hd : (c == ("__debug__" : Str)) = false := by decide) : PE X (.Name c p2) (tC (.ref (He.ga X.K c))) := pe_glob hg hm rfl hd
theorem xn_blt {T : String} (hm : X.mg c = none) (hb : bootBuiltins c = some (.type T) := by decide +kernel) (hg : Gl X c := by rfl) (hn : c ≠ "__name__" := by decide) (hd : (c == ("__debug__" : Str)) = false := by decide) : PE X (.Name c p2) (tC (.ty T)) := pe_bltn (v := .ty T) hg hm hb rfl hn hd
end
end Ab

/-! what a text says of its exceptions -/
namespace Ab
open PySem PySem.Spec PyProof.Rows L2
/-- the object of an own class over the built-in -/
def oexO (q : Bool) (C : Addr) : PySem.Obj → Bool
  | ⟨.type "type", _, .cls cd, sl⟩ => (match cd.mro, sl.toList with
    | .ref C' :: bm, [_, _, _, _, some (.builtin n), _] => C' == C && (n == bNew q && (!cd.hasDel && (cd.hasDict && PySem.W.excTail (bTl q) bm)))
    | _, _ => false)
  | _ => false
theorem oexO_ok {q : Bool} {C : Addr} {o : PySem.Obj} (h : oexO q C o = true) : ∃ nm qn N bs bm sn sub ab col dd k0 k1 k2 k3 k5, o = excClassObj nm qn C N bs bm true sn sub ab col dd k0 k1 k2 k3 k5 (bNew q) ∧ PySem.W.excTail (bTl q) bm = true := by
  unfold oexO at h
  split at h
  · rename_i dd cd sl
    split at h
    · rename_i C' bm k0 k1 k2 k3 n k5 hm hs
      simp only [Bool.and_eq_true, beq_iff_eq, Bool.not_eq_true'] at h
      obtain ⟨h1, h2, h3, h4, h5⟩ := h
      obtain ⟨nm, bs, mro, ns, qn, hd, sn, sub, ab, col, del⟩ := cd
      dsimp only at hm h3 h4
      subst h1 h2 h3 h4 hm
      obtain ⟨l⟩ := sl
      have hs : l = [k0, k1, k2, k3, some (.builtin (bNew q)), k5] := hs
      subst hs
      exact ⟨nm, qn, ns, bs, bm, sn, sub, ab, col, dd, k0, k1, k2, k3, k5, rfl, h5⟩
    · cases h
  · cases h
def oexB (K : PySem.W.Frag) (q : Bool) (C : Addr) : Bool := (match K.lookup C with
  | some o => oexO q C o
  | none => false) && (decide (PySem.W.findIn K (.ref C) "__setattr__" = some (some (.builtin "object.__setattr__"))) && (decide (PySem.W.subIn K (.ref C) (.type "BaseException") = some true) && (decide (PySem.W.typeIn K (.ref C) = some (.type "type")) && PySem.W.keepIn K (.ref C))))
theorem oex_ok {K : PySem.W.Frag} {q : Bool} {C : Addr} (h : oexB K q C = true) : OexQ K C q := by
  unfold oexB at h
  simp only [Bool.and_eq_true, decide_eq_true_eq] at h
  obtain ⟨h1, h2, h3, h4, h5⟩ := h
  split at h1
  · rename_i o ho
    obtain ⟨nm, qn, N, bs, bm, sn, sub, ab, col, dd, k0, k1, k2, k3, k5, rfl, hr⟩ := oexO_ok h1
    exact ⟨⟨nm, qn, N, bs, bm, sn, sub, ab, col, dd, k0, k1, k2, k3, k5, ho, hr⟩, h2, h3, h4, h5⟩
  · cases h1
/-- a class that is raised, with its field -/
structure XmF (K : PySem.W.Frag) (c f : Str) : Prop where
  T : OexQ K (He.ga K c) (ari c)
  no : PySem.W.findIn K (.ref (He.ga K c)) f = some none
  it : PySem.W.findIn K (.ref (He.ga K c)) "__init__" = some (some (.ref (He.ma K (He.ga K c) "__init__")))
  ty : PySem.W.typeIn K (.ref (He.ma K (He.ga K c) "__init__")) = some (.type "function")
def xmB (K : PySem.W.Frag) (c f : Str) : Bool := oexB K (ari c) (He.ga K c) && (decide (PySem.W.findIn K (.ref (He.ga K c)) f = some none) && (decide (PySem.W.findIn K (.ref (He.ga K c)) "__init__" = some (some (.ref (He.ma K (He.ga K c) "__init__")))) && decide (PySem.W.typeIn K (.ref (He.ma K (He.ga K c) "__init__")) = some (.type "function"))))
theorem xm_ok {K : PySem.W.Frag} {c f : Str} (h : xmB K c f = true) : XmF K c f := by
  unfold xmB at h
  simp only [Bool.and_eq_true, decide_eq_true_eq] at h
  exact ⟨oex_ok h.1, h.2.1, h.2.2.1, h.2.2.2⟩
/-- sys.modules stands in the written part -/
def sysB (K : PySem.W.Frag) : Bool := match K.lookup sysModules with
  | some o => decide (o.cls = .type "dict")
  | none => false
def SysF (K : PySem.W.Frag) : Prop := sysB K = true
theorem SysF.ne {K : PySem.W.Frag} {h : Heap} {a : Addr} {o : PySem.Obj} (f : SysF K) (X : K.In h) (e : h.get? a = some o) (hc : o.cls = .type "list") : a ≠ sysModules := fun z => by
  unfold SysF sysB at f
  split at f
  · rename_i o' ho
    have e' := X _ _ ho
    rw [← z, e] at e'
    cases e'
    have f := of_decide_eq_true f
    rw [hc] at f
    injection f with f
    exact absurd f (by decide)
  · cases f
/-- the exceptions' part of a text: raised with a field; base classes; fields read; asked; what is asked of an own class, of a built-in one; caught by classes -/
structure XT where
  xm : List (Str × Str)
  xb : List Str
  xf : List (Str × Str)
  xc : List Str
  xi : List (Str × Str × Bool)
  xt : List (Str × String × Bool)
  xe : List (Str × List Str)
  xo : List (Str × Str)
def exX (t : XT) (K : PySem.W.Frag) : Bool := sysB K && ((t.xm.all fun p => xmB K p.1 p.2) && ((t.xb.all fun b => binB K b) && ((t.xf.all fun p => xfB K (He.ga K p.1) && decide (PySem.W.findIn K (.ref (He.ga K p.1)) p.2 = some none)) && ((t.xc.all fun c => xcB K (He.ga K c)) &&
  ((t.xi.all fun p => decide (PySem.W.kitOne K (.ref (He.ga K p.1)) (.ref (He.ga K p.2.1)) = some p.2.2)) && ((t.xt.all fun p => decide (PySem.W.kitOne K (.ref (He.ga K p.1)) (.type p.2.1) = some p.2.2)) &&
  ((t.xe.all fun p => decide (PySem.W.exmAny K (.ref (He.ga K p.1)) (p.2.map fun x => .ref (He.ga K x)) = some true)) && t.xo.all fun p => decide (PySem.W.exmOne K (.ref (He.ga K p.1)) (.ref (He.ga K p.2)) = some true))))))))
structure TxtX (t : XT) (gl fr : List Str) (is : List (Str × Int)) (es : List (Str × Nat)) (ms : List (Str × Str × Nat)) (cl mk : List Str) (fl mt : List (Str × Str)) (K : PySem.W.Frag) (mg : Str → Option Value) : Prop extends TxtI gl fr is es ms cl mk fl mt K mg where
  sy : SysF K
  xm : ∀ (i : Nat) {c f : Str}, t.xm[i]? = some (c, f) → XmF K c f
  xb : ∀ (i : Nat) {b : Str}, t.xb[i]? = some b → BIn K b
  xf : ∀ (i : Nat) {c f : Str}, t.xf[i]? = some (c, f) → XfC K (He.ga K c) ∧ PySem.W.findIn K (.ref (He.ga K c)) f = some none
  xc : ∀ (i : Nat) {c : Str}, t.xc[i]? = some c → XcOk K (He.ga K c)
  xi : ∀ (i : Nat) {c x : Str} {b : Bool}, t.xi[i]? = some (c, x, b) → PySem.W.kitOne K (.ref (He.ga K c)) (.ref (He.ga K x)) = some b
  xt : ∀ (i : Nat) {c : Str} {x : String} {b : Bool}, t.xt[i]? = some (c, x, b) → PySem.W.kitOne K (.ref (He.ga K c)) (.type x) = some b
  xe : ∀ (i : Nat) {c : Str} {l : List Str}, t.xe[i]? = some (c, l) → PySem.W.exmAny K (.ref (He.ga K c)) (l.map fun x => .ref (He.ga K x)) = some true
  xo : ∀ (i : Nat) {c x : Str}, t.xo[i]? = some (c, x) → PySem.W.exmOne K (.ref (He.ga K c)) (.ref (He.ga K x)) = some true
def exIX (t : XT) (es : List (Str × Nat)) (ms : List (Str × Str × Nat)) (cl mk : List Str) (fl mt : List (Str × Str)) (K : PySem.W.Frag) : Bool := exI es ms cl mk fl mt K && exX t K
theorem txtX_of {t : XT} {gl fr : List Str} {is : List (Str × Int)} {es : List (Str × Nat)} {ms : List (Str × Str × Nat)} {cl mk : List Str} {fl mt : List (Str × Str)} {fn : List He.DefD} {K : PySem.W.Frag} {h : Heap} {mg : Str → Option Value} (X : K.In h) (G : h.Ns mainGlobals mg) (c : SaysE (faOf gl fr is) fn (exIX t es ms cl mk fl mt) K) : TxtX t gl fr is es ms cl mk fl mt K mg := by
  have hx := c.x
  unfold exIX at hx
  rw [Bool.and_eq_true] at hx
  have hy := hx.2
  unfold exX at hy
  simp only [Bool.and_eq_true] at hy
  obtain ⟨h0, h1, h2, h3, h4, h5, h6, h7, h8⟩ := hy
  refine ⟨txtI_of X G ⟨c.d, hx.1⟩, h0, fun i c f e => ?_, fun i b e => ?_, fun i c f e => ?_, fun i c e => ?_, fun i c x b e => ?_, fun i c x b e => ?_, fun i c l e => ?_, fun i c x e => ?_⟩
  · exact xm_ok (List.all_eq_true.mp h1 (c, f) (List.mem_of_getElem? e))
  · exact bin_ok (List.all_eq_true.mp h2 b (List.mem_of_getElem? e))
  · have q := List.all_eq_true.mp h3 (c, f) (List.mem_of_getElem? e)
    rw [Bool.and_eq_true, decide_eq_true_eq] at q
    exact ⟨xfB_ok q.1, q.2⟩
  · exact xc_ok (List.all_eq_true.mp h4 c (List.mem_of_getElem? e))
  · exact of_decide_eq_true (List.all_eq_true.mp h5 (c, x, b) (List.mem_of_getElem? e))
  · exact of_decide_eq_true (List.all_eq_true.mp h6 (c, x, b) (List.mem_of_getElem? e))
  · exact of_decide_eq_true (List.all_eq_true.mp h7 (c, l) (List.mem_of_getElem? e))
  · exact of_decide_eq_true (List.all_eq_true.mp h8 (c, x) (List.mem_of_getElem? e))
/-! ### the objects that the main part's names lead to: the frontier alone is followed -/
def newY : Nat → List Nat → List Nat → List Nat × Nat
  | seen, [], new => (new, seen)
  | seen, a :: as, new => match Nat.beq (Nat.land (Nat.shiftRight seen a) 1) 1 with
    | true => newY seen as new
    | false => newY (Nat.lor seen (Nat.shiftLeft 1 a)) as (a :: new)
def refsY (g : Addr → Option PySem.Obj) : List Addr → List Addr
  | [] => []
  | a :: l => match g a with
    | some o => He.refsD o ++ refsY g l
    | none => refsY g l
def growY (g : Addr → Option PySem.Obj) : Nat → Nat → List Addr → List Addr → List Addr
  | 0, _, out, fr => fr ++ out
  | n + 1, seen, out, fr => match newY seen (refsY g fr) [] with
    | (new, seen') => growY g n seen' (fr ++ out) new
/-- the numbers that have been are kept as bits -/
def asY (g : Addr → Option PySem.Obj) (n : Nat) : List Addr := growY g n (Nat.shiftLeft 1 mainGlobals) [] [mainGlobals]
theorem opt2 {α β γ : Type} {o : Option α} {f : α → β} {g : α → γ} {x : β} {y : γ} (h1 : o.map f = some x) (h2 : o.map g = some y) : o.map (fun s => (f s, g s)) = some (x, y) := by
  cases o with
  | none => cases h1
  | some s =>
    cases h1
    cases h2
    rfl
/-- the hook that looks at sys.modules, too -/
def obsX (n : Nat) (fa : List He.Fa) (fn : List He.DefD) (ex : PySem.W.Frag → Bool) (g : Addr → Option PySem.Obj) : AlE := (He.obsD fa fn (He.frG g (sysModules :: cStatics :: asY g n)), ex (He.frG g (sysModules :: cStatics :: asY g n)))
def hookX (n : Nat) (fa : List He.Fa) (fn : List He.DefD) (ex : PySem.W.Frag → Bool) : PySem.W.Hook where
  α := AlE
  obs := fun s => obsX n fa fn ex s.heap.get?
  val := (hookE n fa fn ex).val
  says := (hookE n fa fn ex).says
  of := fun _ _ e => ⟨_, He.frG_in, ⟨congrArg Prod.fst e, congrArg Prod.snd e⟩⟩
  keeps := (hookE n fa fn ex).keeps
theorem obsX_eq {n : Nat} {fa : List He.Fa} {fn : List He.DefD} {ex : PySem.W.Frag → Bool} {g : Addr → Option PySem.Obj} {s : Shared} (h : ∀ a, g a = s.heap.get? a) : obsX n fa fn ex g = (hookX n fa fn ex).obs s := by
  have e : g = s.heap.get? := funext h
  subst e
  rfl
/-! ### small words of the derivations -/
theorem hcE_nil {K : PySem.W.Frag} {us : List Value} : ∀ C ∈ ([] : List Str), PySem.W.exmAny K (.ref (He.ga K C)) us = some true := fun C h => by simp at h
theorem hcE_cons {K : PySem.W.Frag} {us : List Value} {c : Str} {l : List Str} (h : PySem.W.exmAny K (.ref (He.ga K c)) us = some true) (r : ∀ C ∈ l, PySem.W.exmAny K (.ref (He.ga K C)) us = some true) : ∀ C ∈ c :: l, PySem.W.exmAny K (.ref (He.ga K C)) us = some true := fun C hC => by
  rcases List.mem_cons.mp hC with rfl | hC
  · exact h
  · exact r C hC
theorem hcO_nil {K : PySem.W.Frag} {u : Value} : ∀ C ∈ ([] : List Str), PySem.W.exmOne K (.ref (He.ga K C)) u = some true := fun C h => by simp at h
theorem hcO_cons {K : PySem.W.Frag} {u : Value} {c : Str} {l : List Str} (h : PySem.W.exmOne K (.ref (He.ga K c)) u = some true) (r : ∀ C ∈ l, PySem.W.exmOne K (.ref (He.ga K C)) u = some true) : ∀ C ∈ c :: l, PySem.W.exmOne K (.ref (He.ga K C)) u = some true := fun C hC => by
  rcases List.mem_cons.mp hC with rfl | hC
  · exact h
  · exact r C hC
def arX0 (f : Sto → (D → Sto → Prop) → PXT → Prop) : FX := fun ds S P PX => match ds with | [] => f S P PX | _ => False
def arX1 (f : D → Sto → (D → Sto → Prop) → PXT → Prop) : FX := fun ds S P PX => match ds with | [x] => f x S P PX | _ => False
def arX2 (f : D → D → Sto → (D → Sto → Prop) → PXT → Prop) : FX := fun ds S P PX => match ds with | [x, y] => f x y S P PX | _ => False
def arX3 (f : D → D → D → Sto → (D → Sto → Prop) → PXT → Prop) : FX := fun ds S P PX => match ds with | [x, y, z] => f x y z S P PX | _ => False
theorem arX0_len {f} : ArX 0 (arX0 f) := fun ds S P PX h => by match ds, h with | [], _ => rfl
theorem arX1_len {f} : ArX 1 (arX1 f) := fun ds S P PX h => by match ds, h with | [_], _ => rfl
theorem arX2_len {f} : ArX 2 (arX2 f) := fun ds S P PX h => by match ds, h with | [_, _], _ => rfl
theorem arX3_len {f} : ArX 3 (arX3 f) := fun ds S P PX h => by match ds, h with | [_, _, _], _ => rfl
/-- an exception's making, from its __init__ -/
theorem xmk_of {P : Program} {w : World} {K : PySem.W.Frag} {mg : Str → Option Value} {base : Heap} {k : Nat} {c f qual prm : Str} {st : Stmt} {fd : FuncData} (m : XmF K c f) (F : FunD K "__init__" qual (defArgs st) (defBody st) (defScope st) [] [] (He.ma K (He.ga K c) "__init__") fd)
    (h : FnOk P w K mg base CX0 k (He.ma K (He.ga K c) "__init__") fd ["self", prm] (spInit K (ari c) f)) (hb : ∀ (kV doc pm : Value) (an : Option Addr) (cdv ct : Value) (us : List Value), us.length = (["self", prm] : List Str).length → bindArgs (PySem.W.fnOf "__init__" qual (defArgs st) (defBody st) (defScope st) .none kV doc pm an cdv ct) ⟨us, []⟩ = pure ((["self", prm] : List Str).zip us)) : XMk P w K mg base k c f :=
  ⟨m.T, m.no, m.it, m.ty, fd, _, h, F.bindsN hb⟩
end Ab

/-! what a text says of its texts -/
namespace Ab
open PySem PySem.Spec PyProof.Rows L2
def strsB : List Value → List Str → Bool
  | [], [] => true
  | .str s _ :: us, x :: xs => decide (s = x) && strsB us xs
  | _, _ => false
theorem strsB_ok : ∀ {us : List Value} {xs : List Str}, strsB us xs = true → Vals (xs.map V.str) us
  | [], [], _ => .nil
  | [], _ :: _, h => by cases h
  | u :: us, [], h => by cases u <;> cases h
  | u :: us, x :: xs, h => by
    cases u with
    | str s t =>
      have h0 : (decide (s = x) && strsB us xs) = true := h
      rw [Bool.and_eq_true, decide_eq_true_eq] at h0
      have h1 := strsB_ok h0.2
      rw [← h0.1]
      exact .cons ⟨t, rfl⟩ h1
    | _ => cases h
def tupB (K : PySem.W.Frag) (a : Addr) (xs : List Str) : Bool := match K.lookup a with
  | some ⟨.type c, _, .seq its _, _⟩ => decide (c = "tuple") && (decide (its.size ≤ sizeLine) && strsB its.toList xs)
  | _ => false
theorem tupB_ok {K : KX} {a : Addr} {xs : List Str} (h : tupB K.f a xs = true) : KTu K a (xs.map V.str) := by
  unfold tupB at h
  cases q : K.f.lookup a with
  | none => rw [q] at h; cases h
  | some o =>
    obtain ⟨oc, od, dt, osl⟩ := o
    rw [q] at h
    cases oc with
    | type c =>
      cases dt with
      | seq its n =>
        have h : (decide (c = "tuple") && (decide (its.size ≤ sizeLine) && strsB its.toList xs)) = true := h
        rw [Bool.and_eq_true, Bool.and_eq_true, decide_eq_true_eq, decide_eq_true_eq] at h
        exact ⟨_, its, n, q, congrArg Value.type h.1, rfl, h.2.1, strsB_ok h.2.2⟩
      | _ => cases h
    | _ => cases dt <;> cases h
/-- a tuple of texts by its name -/
def tupN (K : PySem.W.Frag) (x : Str) (xs : List Str) : Bool := match PySem.W.nsIn K mainGlobals x with
  | some (some (.ref a)) => tupB K a xs
  | _ => false
/-! ### what a text says of its texts -/
structure TxtF where
  gs : List (Str × Str)
  gt : List (Str × List Str)
def exT (t : TxtF) (K : PySem.W.Frag) : Bool := (t.gs.all fun p => (He.Fa.str p.1 p.2).ok K) && t.gt.all fun p => tupN K p.1 p.2
structure TxtT (tt : TxtF) (t : XT) (gl fr : List Str) (is : List (Str × Int)) (es : List (Str × Nat)) (ms : List (Str × Str × Nat)) (cl mk : List Str) (fl mt : List (Str × Str)) (K : PySem.W.Frag) (mg : Str → Option Value) : Prop extends TxtX t gl fr is es ms cl mk fl mt K mg where
  gs : ∀ (i : Nat) {x z : Str}, tt.gs[i]? = some (x, z) → ∃ t, mg x = some (.str z t)
  gt : ∀ (i : Nat) {x : Str} {z : List Str}, tt.gt[i]? = some (x, z) → ∃ a, mg x = some (.ref a) ∧ tupB K a z = true
def exIT (tt : TxtF) (t : XT) (es : List (Str × Nat)) (ms : List (Str × Str × Nat)) (cl mk : List Str) (fl mt : List (Str × Str)) (K : PySem.W.Frag) : Bool := exIX t es ms cl mk fl mt K && exT tt K
theorem txtT_of {tt : TxtF} {t : XT} {gl fr : List Str} {is : List (Str × Int)} {es : List (Str × Nat)} {ms : List (Str × Str × Nat)} {cl mk : List Str} {fl mt : List (Str × Str)} {fn : List He.DefD} {K : PySem.W.Frag} {h : Heap} {mg : Str → Option Value} (X : K.In h) (G : h.Ns mainGlobals mg) (c : SaysE (faOf gl fr is) fn (exIT tt t es ms cl mk fl mt) K) : TxtT tt t gl fr is es ms cl mk fl mt K mg := by
  have hx := c.x
  unfold exIT at hx
  rw [Bool.and_eq_true] at hx
  have hy := hx.2
  unfold exT at hy
  simp only [Bool.and_eq_true] at hy
  refine ⟨txtX_of X G ⟨c.d, hx.1⟩, fun i x z e => ?_, fun i x z e => ?_⟩
  · exact He.str_ok X G (List.all_eq_true.mp hy.1 (x, z) (List.mem_of_getElem? e))
  · have q := List.all_eq_true.mp hy.2 (x, z) (List.mem_of_getElem? e)
    have q : (match PySem.W.nsIn K mainGlobals x with
      | some (some (.ref a)) => tupB K a z
      | _ => false) = true := q
    cases e1 : PySem.W.nsIn K mainGlobals x with
    | none => rw [e1] at q; cases q
    | some o =>
      cases o with
      | none => rw [e1] at q; cases q
      | some v =>
        cases v with
        | ref a =>
          rw [e1] at q
          exact ⟨a, PySem.W.mg_of X G e1, q⟩
        | _ => rw [e1] at q; cases q
end Ab

namespace KK
open PySem PySem.Spec PyProof.Rows L2 Ab
def top (i : Nat) : Stmt := PySem.Challenge.pw_clauseshrink_k25_logs_as_texts.main.body.getD i (.Pass ⟨0, 0, 0, 0⟩)
def dfn (x : Str) (i : Nat) : He.DefD := ⟨(x, none), x, x, defArgs (top i), defBody (top i), defScope (top i), [], []⟩
def topc (i j : Nat) : Stmt := match top i with
  | .ClassDef _ _ _ b _ _ _ _ _ _ _ => b.getD j (.Pass ⟨0, 0, 0, 0⟩)
  | _ => .Pass ⟨0, 0, 0, 0⟩
def fn : List He.DefD := [dfn "is_whole" 7, dfn "is_lit" 8, dfn "is_clause" 9, dfn "row_text" 11, dfn "number_in" 14, ⟨("lit_in_booktexts", none), "lit_in", "lit_in", defArgs (top 15), defBody (top 15), defScope (top 15), [], []⟩, dfn "lits_text" 17, dfn "clause_in" 18, dfn "is_line" 21, dfn "line_text" 23, ⟨("lit_in_logtexts", none), "lit_in", "lit_in", defArgs (top 24), defBody (top 24), defScope (top 24), [], []⟩, dfn "line_in" 26, dfn "show_log" 27, dfn "read_log" 28, dfn "_law_cell" 30, dfn "_law_purse" 31, dfn "_law_pick" 32, dfn "_law_whole" 33, dfn "_law_some_clause" 34, dfn "_law_line_text" 35, dfn "_law_shape" 36, dfn "_law_kinds_right" 37, dfn "_law_right" 38, dfn "law" 39]
def ems : List (Str × Nat) := []
def xts_xm : List (Str × Str) := []
def xts_xb : List Str := []
def xts_xf : List (Str × Str) := []
def xts_xc : List Str := []
def xts_xi : List (Str × Str × Bool) := []
def xts_xt : List (Str × String × Bool) := []
def xts_xe : List (Str × List Str) := []
def xts_xo : List (Str × Str) := []
def xts : XT := ⟨xts_xm, xts_xb, xts_xf, xts_xc, xts_xi, xts_xt, xts_xe, xts_xo⟩
def tts : Ab.TxtF := ⟨[("FIGURES", "0123456789")], [("OF_CLAUSE", ["add", "keep", "forget", "drop", "put"])]⟩
def emms : List (Str × Str × Nat) := []
def cls : List Str := []
def mks : List Str := []
def fls : List (Str × Str) := []
def mts : List (Str × Str) := []
def gl : List Str := ["is_whole", "is_lit", "is_clause", "row_text", "number_in", "lit_in", "lit_in_booktexts", "lits_text", "clause_in", "is_line", "line_text", "lit_in_logtexts", "line_in", "show_log", "read_log", "_law_cell", "_law_purse", "_law_pick", "_law_whole", "_law_some_clause", "_law_line_text", "_law_shape", "_law_kinds_right", "_law_right", "law", "ClauseError", "StandError", "NoText", "NoLine"]
def fr : List Str := ["tuple", "isinstance", "len", "min", "max", "range", "int", "sorted", "str", "enumerate", "all", "zip", "abs", "bool", "list", "repr"]
def is : List (Str × Int) := [("MOST_LETTER", 40)]
def loose0 : List Str := ["ClauseError", "StandError", "NoText", "NoLine", "MOST_LETTER", "is_whole", "is_lit", "is_clause", "row_text", "FIGURES", "number_in", "lit_in", "lit_in_booktexts", "lits_text", "clause_in", "OF_CLAUSE", "is_line", "line_text", "lit_in", "lit_in_logtexts", "line_in", "show_log", "read_log", "_law_cell", "_law_purse", "_law_pick", "_law_whole", "_law_some_clause", "_law_line_text", "_law_shape"]
def loose1 : List Str := ["_law_kinds_right", "_law_right"]
def loose : List Str := loose0 ++ loose1
abbrev R : PySem.W.OpenRow := PySem.W.OpenLaw.row PySem.Challenge.rw_clauseshrink_k25_logs_as_texts
abbrev hk : PySem.W.Hook := hookX 5 (faOf gl fr is) fn (exIT tts xts ems emms cls mks fls mts)
def ob (s : PySem.W.SharedT) : AlE := obsX 5 (faOf gl fr is) fn (exIT tts xts ems emms cls mks fls mts) (HandSHeadRun.getT s)
theorem ob_eq (s : PySem.W.SharedT) : ob s = hk.obs s.abs := obsX_eq (HandSHeadRun.getT_eq s)
set_option maxHeartbeats 0 in
theorem run (w : World) : HandSHeadRun.RunEq R (PySem.W.view R.prog [39]) hk ob 6000 loose w := by
  intro os
  kernel_rfl
end KK
namespace Ab
open PySem PySem.Spec PyProof.Rows L2
/-! ### tuple * 0, tuple * 1 -/
theorem tmul_one (l : Addr) (items : Array Value) (n : Nat) (dd : Option Addr) (sl : Array (Option Value)) (u : Tok) : Meets (Builtin.«tuple.__mul__» ⟨[.ref l, .int 1 u], []⟩) (fun _ R s => s.heap.get? l = some { cls := .type "tuple", dict := dd, data := .seq items n, slots := sl } ∧ R (.ok (.ret (.ref l))) s) := .of_wp fun prog w A R s ⟨hl, h⟩ => by
  obtain ⟨hp, g, d, tk, os⟩ := s
  have f1 := AutoSeq1.idx_int
  have c1 : (items.isEmpty || (1 : Int) == 1) = true := by simp
  wp_walk using wpAny_loadPart' hl
  repeat (first
    | (refine wpAny_ite_true (decide_eq_true c1) ?_; wp_walk using wpAny_loadPart' hl)
    | (rw [if_pos c1]; wp_walk using wpAny_loadPart' hl))
  exact ⟨_, rfl, h⟩
theorem tmul_zero (l : Addr) (items : Array Value) (n : Nat) (dd : Option Addr) (sl : Array (Option Value)) (u : Tok) (hi : items.isEmpty = false) :
    Meets (Builtin.«tuple.__mul__» ⟨[.ref l, .int 0 u], []⟩) (fun _ R s => s.heap.get? l = some { cls := .type "tuple", dict := dd, data := .seq items n, slots := sl } ∧ R (.ok (.ret (.ref s.heap.objs.size))) { s with heap := s.heap.push { cls := .type "tuple", data := .seq #[] }, toks := s.toks }) := .of_wp fun prog w A R s ⟨hl, h⟩ => by
  obtain ⟨hp, g, d, tk, os⟩ := s
  have f1 := AutoSeq1.idx_int
  have c1 : (items.isEmpty || (0 : Int) == 1) = false := by rw [hi]; rfl
  wp_walk using wpAny_loadPart' hl
  repeat (first
    | (refine wpAny_ite_false (decide_eq_false (by rw [c1]; exact Bool.false_ne_true)) ?_; wp_walk using wpAny_loadPart' hl))
  exact ⟨_, rfl, h⟩
def rRep01 (K : PySem.W.Frag) : R2 := fun x y H Q => ∃ l xs, x = .ref l ∧ SqT K H l xs ∧ ((y = .int 1 ∧ Q (.ref l) H) ∨ (y = .int 0 ∧ xs ≠ [] ∧ ∀ p, H p = none → Q (.ref p) (upd H p (.tup []))))
theorem op_rep01 {X : Cx} : OpR X (binaryOp .Mult) (rRep01 X.K) := by
  intro pins s σ H x y v u Q I rx ry h
  obtain ⟨l, xs, rfl, hT, h⟩ := h
  obtain rfl : v = Value.ref l := rx
  obtain ⟨its, r, ⟨⟨cls, dd, data, sl⟩, ho, hc, n, hd⟩, hs⟩ := I.tuple hT
  simp only at hc hd
  subst hc hd
  rcases h with ⟨rfl, q⟩ | ⟨rfl, hne, q⟩
  · obtain ⟨t, rfl⟩ := ry
    exact wpAny_binaryOp_repeat_ref (T := "tuple") (U := "int") (by decide) ⟨_, ho, rfl⟩ (fun s' => typeIs_int s' 1 t) noFill_tuple_mul F.fills_int_mul F.slot_int_rmul repeat_tuple F.slot_int_index.lookup (call_meets F.slot_int_rmul (typeIs_int s 1 t) F.entry_int_rmul (F.args_int_rmul_2 _ _) (int_rmul_tuple 1 t l its.toArray n dd sl)
      ⟨ho, rfl, ⟨_, ho, rfl⟩, call_meets F.slot_tuple_mul ⟨_, ho, rfl⟩ F.entry_tuple_mul (F.args_tuple_mul_2 _ _) (tmul_one l its.toArray n dd sl t) ⟨ho, ⟨.ref l, H, I, rfl, q⟩⟩⟩)
  · obtain ⟨t, rfl⟩ := ry
    have hi : its.toArray.isEmpty = false := by
      cases its with
      | nil => cases r; exact absurd rfl hne
      | cons a b => rfl
    exact wpAny_binaryOp_repeat_ref (T := "tuple") (U := "int") (by decide) ⟨_, ho, rfl⟩ (fun s' => typeIs_int s' 0 t) noFill_tuple_mul F.fills_int_mul F.slot_int_rmul repeat_tuple F.slot_int_index.lookup (call_meets F.slot_int_rmul (typeIs_int s 0 t) F.entry_int_rmul (F.args_int_rmul_2 _ _) (int_rmul_tuple 0 t l its.toArray n dd sl)
      ⟨ho, rfl, ⟨_, ho, rfl⟩, call_meets F.slot_tuple_mul ⟨_, ho, rfl⟩ F.entry_tuple_mul (F.args_tuple_mul_2 _ _) (tmul_zero l its.toArray n dd sl t hi) ⟨ho, ⟨.ref s.heap.objs.size, _, I.laid (t' := s.toks) (o := .tup []) (fun b ob q => Heap.get?_push_of_some _ q) (Nat.le_refl _) ⟨by simp, [], .nil, IsTup.new _ _⟩, rfl, q _ (I.hok.fresh (Nat.le_refl _))⟩⟩⟩)
def mulXD : F2 := fun x y S P => match x with
  | .tup l => (match y with | .int k => 0 ≤ k ∧ k ≤ 1000 ∧ l.length ≤ 1000 ∧ l ≠ [] ∧ P (.tup (List.replicate k.toNat l).flatten) S | _ => False)
  | _ => mulD x y S P
def rMulX (K : PySem.W.Frag) : R2 := fun x y H Q => rI CMul (fun i j => .int (i * j)) x y H Q ∨ rRep01 K x y H Q ∨ rRepT K x y H Q
theorem o_mulX {X : Cx} : OpR X (binaryOp .Mult) (rMulX X.K) := op_mul.or (OpR.or (r := rRep01 X.K) op_rep01 op_repT)
theorem VRs.flat {K : KX} {ι : List Addr} {H : Hp} {vs : List V} {ds : List D} (h : VRs K ι H vs ds) : ∀ k : Nat, VRs K ι H (List.replicate k vs).flatten (List.replicate k ds).flatten
  | 0 => .nil
  | k + 1 => by
    rw [List.replicate_succ, List.replicate_succ, List.flatten_cons, List.flatten_cons]
    exact h.append (VRs.flat h k)
theorem mulXA {K : KX} : OpA K (rMulX K.f) mulXD := by
  intro ι H S x y d e P Q R rx ry h k
  cases rx with
  | tup h1 h2 =>
    cases ry with
    | int i =>
      rename_i a xs l
      obtain ⟨i0, i1, hz, hne, h⟩ : 0 ≤ i ∧ i ≤ 1000 ∧ l.length ≤ 1000 ∧ l ≠ [] ∧ P (.tup (List.replicate i.toNat l).flatten) S := h
      have hx : xs ≠ [] := fun z => by
        subst z
        cases h2
        exact hne rfl
      by_cases c0 : i = 0
      · subst c0
        refine .inr (.inl ⟨a, xs, rfl, .of h1, .inr ⟨rfl, hx, fun p hp => ?_⟩⟩)
        obtain ⟨e2, r2, v2⟩ := new_tup R hp (h2.flat 0)
        exact k _ _ _ _ _ e2 r2 v2 h
      · by_cases c1 : i = 1
        · subst c1
          exact .inr (.inl ⟨a, xs, rfl, .of h1, .inl ⟨rfl, k ι H _ _ S .refl R (.tup h1 h2) (by simpa using h)⟩⟩)
        · refine .inr (.inr ⟨a, i, xs, rfl, rfl, .of h1, hx, by omega, i1, by rw [h2.length]; exact hz, fun p hp => ?_⟩)
          obtain ⟨e2, r2, v2⟩ := new_tup R hp (h2.flat i.toNat)
          exact k _ _ _ _ _ e2 r2 v2 h
    | _ => exact h.elim
  | int i => exact .inl (mulA ι H S _ y _ e P Q R (.int i) ry h k)
  | _ => exact h.elim
/-! ### list * k -/
def mulLD : F2 := fun x y S P => match x with
  | .obj n => (match y with | .int k => rdL S n fun l => 0 ≤ k ∧ k ≤ 1000 ∧ l.length ≤ 1000 ∧ P (.obj S.length) (S ++ [.lst (List.replicate k.toNat l).flatten]) | _ => False)
  | _ => False
theorem mulLA {K : KX} : OpA K rRep mulLD := by
  intro ι H S x y d e P Q R rx ry h k
  cases rx with
  | obj h1 =>
    cases ry with
    | int i =>
      obtain ⟨l, q1, i0, i1, hz, h⟩ := rdL_out h
      obtain ⟨vs, a1, a2⟩ := R.ob _ _ _ h1 q1
      refine ⟨_, i, vs, rfl, rfl, a1, by omega, by omega, ?_, fun p hp => ?_⟩
      · rw [a2.length, sizeLine_eq]
        have : l.length * i.toNat ≤ 1000 * 1000 := Nat.mul_le_mul hz (by omega)
        omega
      · obtain ⟨e2, r2, v2⟩ := new_lst R hp (a2.flat i.toNat)
        exact k _ _ _ _ _ e2 r2 v2 h
    | _ => exact h.elim
  | _ => exact h.elim
/-! ### a, b = a list -/
def gLst' (n : Nat) (r : AGs) : AG := fun d a S P => lstP d S fun l => l.length = n ∧ r l a S P
theorem g_lst {X : Cx} {B : Bs} {pos : Pos} {es : List Expr} {j : Nat} {r : AGs} {n : Nat} (hc : X.calm = true) (h : PGs X es (gsOf (kx X) B r)) (hn : (assignEach es X.env).length = n := by rfl) (hst : (assignEach es X.env).findIdx? (·.1) = none := by rfl) : PG X (.Tuple es j pos) (gOf (kx X) B (gLst' n r)) := by
  refine PG.imp (pg_unl hc h hn hst) fun v σ H Q h => ?_
  obtain ⟨ι, d, a, S, P, g, rv, h, k⟩ := h
  obtain ⟨ad, vs, l, rfl, hs, hv, hl, h⟩ := lstP_out g.rs rv h
  exact ⟨ad, vs, rfl, hs, hv.length.trans hl, ι, _, a, S, P, g, hv, h, k⟩
/-! ### f() -/
section
variable {X : Cx} {B : Bs} {st : Stmt} {ps : List Str} {sp : FN} {n : Str} {p pos : Pos} {k : Nat}
theorem a_call0F (F : OkF X.prog X.w X.K X.mg X.base k n st ps sp) (hr : Room k X.A) (hm : X.mg n = some (.ref (He.ga X.K n))) (hg : Gl X n := by rfl) (hdb : (n == ("__debug__" : Str)) = false := by decide) : PE X (.Call (.Name n p) [] [] pos) (eOf (kx X) B (aCall sp aNil)) := by
  obtain ⟨fd, F1, b, F2⟩ := F
  refine PE.imp (pe_call0 (dvs := []) F2 hr hg hm F1.kp b .nil pass0 hdb) fun σ H Q h => ?_
  obtain ⟨ι, a, S, P, g, h, k⟩ := h
  exact ⟨ι, [], S, P, g.rs, .nil, h, k⟩
/-- f(), f a def that wants no repr under way -/
theorem a_call0G (hgd : X.A.guards = some []) (F : OkG X.prog X.w X.K X.mg X.base k n st ps sp) (hr : Room k X.A) (hm : X.mg n = some (.ref (He.ga X.K n))) (hg : Gl X n := by rfl) (hdb : (n == ("__debug__" : Str)) = false := by decide) : PE X (.Call (.Name n p) [] [] pos) (eOf (kx X) B (aCall sp aNil)) := by
  obtain ⟨fd, F1, b, F2⟩ := F
  refine ⟨fun pins s σ H Q I h => ?_⟩
  obtain ⟨ι, a, S, P, g, h, kk⟩ := h
  refine wpAny_Call_Name_kw (ld_glob I hg hm ?_ hdb)
  refine PySem.W.callWith_K0 I.kIn F1.kp ?_
  have q : spOf (kx X) sp [] H Q E0 := ⟨ι, [], S, P, g.rs, .nil, h, kk⟩
  have hl : ps.length = 0 := (F2.len [] H Q E0 q).symm
  have bd := b s [] I.kIn (by simp [hl])
  refine wpAny_call (codeAny_mono (F2.run X.A X.stack s H ⟨[], []⟩ [] [] Q E0 hr hgd I.env0 (by simpa using bd) .nil q) fun rr s' hq => ?_)
  match rr, hq with
  | .error e, hq => exact (pass0 (X := X) pins σ H s e s' I hq)
  | .ok (.ret u), hq => exact I.after hq
  | .ok .next, hq => exact False.elim hq
  | .ok .brk, hq => exact False.elim hq
  | .ok .cont, hq => exact False.elim hq
end
/-! ### str(x) of a number, of a text -/
def strD : F1 := fun x S P => match x with
  | .int i => i.natAbs.log2 < 1920 ∧ P (.str (toString i)) S
  | .str s => P (.str s) S
  | _ => False
def rStr : List V → Hp → VK → Prop := fun xs H Q => (∃ i, xs = [V.int i] ∧ i.natAbs.log2 < 1920 ∧ Q (.str (toString i)) H) ∨ ∃ a, xs = [V.str a] ∧ Q (.str a) H
theorem c_str {X : Cx} : CallR X (.type "str") rStr := CallR.or (r := fun xs H Q => ∃ i, xs = [V.int i] ∧ i.natAbs.log2 < 1920 ∧ Q (.str (toString i)) H) call_str_int SkE.call_str_str
theorem strA {K : KX} : CallA K rStr (ar1 strD) := callA1 fun ι H S x d P Q R rx h k => by
  cases rx with
  | int i => exact .inl ⟨i, rfl, h.1, k _ _ _ _ _ .refl R (.str _) h.2⟩
  | str s => exact .inr ⟨s, rfl, k _ _ _ _ _ .refl R (.str _) h⟩
  | _ => exact h.elim
/-! ### list.index -/
@[irreducible] def idxP (x : D) (l : List D) (S : Sto) (k : Nat → Prop) : Prop := ∃ p ps j z, Py S x p ∧ Pys S l ps ∧ SeqAt.shaped p = true ∧ SeqAt.shaped (.list ps) = true ∧ ps[j]? = some z ∧ PyData.eqv z p = true ∧ (∀ m z', m < j → ps[m]? = some z' → PyData.eqv z' p = false) ∧ k j
def idxD : FM := fun x ds S P => match ds with
  | [y] => lstP x S fun l => idxP y l S fun j => P (.int (j : Nat)) S
  | _ => False
theorem idxA {K : KX} : MtA K (rIndexD K.f) idxD := by
  intro ι H S x xs d ds P Q R rx rs h k
  match ds, rs, h with
  | [y], rs, h =>
    obtain ⟨v, rfl, rv⟩ := rs.one
    obtain ⟨a, vs, l, rfl, hs, hv, h⟩ := lstP_out R rx h
    unfold idxP at h
    obtain ⟨p, ps, j, z, h1, h2, s1, s2, h3, h4, h5, h⟩ := h
    exact ⟨a, v, p, ps, j, z, rfl, rfl, .lst hs (Pys.dp R ps _ _ h2 hv), Py.dp R p _ _ h1 rv, s2, s1, h3, h4, h5, k _ _ _ _ _ .refl R (.int _) h⟩
theorem mtl_index {X : Cx} {k : Nat} (hr : RmU k X.A) : MtR X "list.index" (rIndexD X.K) := mt_indexD (by have := hr.un; omega)
theorem idx_en {α : Type} [DecidableEq α] [En α] {a : α} {l : List α} {S : Sto} {k : Nat → Prop} {j : Nat} (h1 : l[j]? = some a) (h2 : ∀ m, m < j → l[m]? ≠ some a) (q : k j) (hd : En.dep α ≤ 60 := by decide) : idxP (d a) (l.map d) S k := by
  unfold idxP
  refine ⟨En.py a, l.map En.py, j, En.py a, En.pyr S a, pys_of S l, shaped_of hd a, shaped_lst hd l, by rw [List.getElem?_map, h1]; rfl, by rw [En.eqv]; simp, fun m z' hm e => ?_, q⟩
  rw [List.getElem?_map] at e
  cases e1 : l[m]? with
  | none => rw [e1] at e; cases e
  | some b =>
    rw [e1] at e
    cases e
    rw [En.eqv]
    exact decide_eq_false fun z => h2 m hm (by rw [e1, z])
/-! ### repr of plain data -/
mutual
inductive Rp (S : Sto) : D → PyData → Prop
  | non : Rp S .non .none
  | bl (b : Bool) : Rp S (.bl b) (.bool b)
  | int (i : Int) : Rp S (.int i) (.int i)
  | str (s : Str) : Rp S (.str s) (.str s)
  | tup {l : List D} {p : List PyData} : Rps S l p → Rp S (.tup l) (.tuple p)
  | rol {l : List D} {p : List PyData} : Rps S l p → Rp S (.rol l) (.list p)
  | obj {n : Nat} {l : List D} {p : List PyData} : S[n]? = some (.lst l) → Rps S l p → Rp S (.obj n) (.list p)
  | dic {n : Nat} : S[n]? = some (.dK []) → Rp S (.obj n) (.dict [])
inductive Rps (S : Sto) : List D → List PyData → Prop
  | nil : Rps S [] []
  | cons {d : D} {q : PyData} {l : List D} {p : List PyData} : Rp S d q → Rps S l p → Rps S (d :: l) (q :: p)
end
section
variable {X : Cx} {pins : List (Addr × PySem.Obj)} {σ : L2.St} {H : Hp} {s : Shared} {S : Sto} {ι : List Addr}
mutual
theorem Rp.reads (I : Inv X pins σ H s) (f : SysF X.K) (R : RS (kx X) ι H S) : ∀ (p : PyData) (d : D) (v : V) (u : Value), Rp S d p → VR (kx X) ι H v d → RelV v u → ∃ as, Reads s.heap u p as ∧ sysModules ∉ as
  | .none, _, _, _, h, r, q => by cases h; cases r; cases q; exact ⟨_, .none, by simp⟩
  | .bool b, _, _, _, h, r, q => by cases h; cases r; cases q; exact ⟨_, .bool b, by simp⟩
  | .int i, _, _, _, h, r, q => by cases h; cases r; obtain ⟨t, rfl⟩ := q; exact ⟨_, .int i t, by simp⟩
  | .str x, _, _, _, h, r, q => by cases h; cases r; obtain ⟨t, rfl⟩ := q; exact ⟨_, .str x t, by simp⟩
  | .tuple p, _, _, _, h, r, q => by
    have go : ∀ {a : Addr} {xs : List V} {l : List D}, Rps S l p → SqT X.K H a xs → VRs (kx X) ι H xs l → ∃ as, Reads s.heap (.ref a) (.tuple p) as ∧ sysModules ∉ as := fun {a xs l} h1 hs hv => by
      obtain ⟨its, rv, ⟨o, ho, hc, n, hd⟩, _⟩ := I.tuple hs
      obtain ⟨as, hr, na⟩ := Rps.reads I f R p l _ its h1 hv rv
      exact ⟨_, .tuple ho hc hd hr, na⟩
    cases h with
    | tup h1 =>
      cases r with
      | tup r1 r2 => cases q; exact go h1 (.of r1) r2
  | .list p, _, _, _, h, r, q => by
    have go : ∀ {a : Addr} {xs : List V} {l : List D}, Rps S l p → SqL X.K H a xs → VRs (kx X) ι H xs l → ∃ as, Reads s.heap (.ref a) (.list p) as ∧ sysModules ∉ as := fun {a xs l} h1 hs hv => by
      obtain ⟨its, rv, ⟨o, n, ho, hc, _, hd⟩, _⟩ := I.list hs
      obtain ⟨as, hr, na⟩ := Rps.reads I f R p l _ its h1 hv rv
      refine ⟨_, .list ho hc hd hr, fun z => ?_⟩
      rcases List.mem_cons.mp z with z | z
      · exact f.ne I.kIn ho hc z.symm
      · exact na z
    cases h with
    | rol h1 =>
      cases r with
      | rol r1 r2 => cases q; exact go h1 r1.sq r2
    | obj h0 h1 =>
      cases r with
      | obj e =>
        obtain ⟨vs, q1, q2⟩ := R.ob _ _ _ e h0
        cases q
        exact go h1 (.of q1) q2
  | .dict p, _, _, _, h, r, q => by
    cases h with
    | dic h0 =>
      cases r with
      | obj e =>
        obtain ⟨ws, q1, q2⟩ := R.ob _ _ _ e h0
        have q2 : Prs (kx X) ι H ws [] := q2
        have hw : ws = [] := List.eq_nil_of_length_eq_zero q2.length
        subst hw
        cases q
        obtain ⟨_, hS, vs, r0, o, es, ep, ho, hc, hd, hk⟩ := dk_of I.hok q1
        cases r0
        have he : es.toList = [] := by
          obtain ⟨_, hp, _⟩ := hk
          exact List.eq_nil_of_length_eq_zero (by have := hp.length; simpa using this)
        refine ⟨_, .dict (kvs := []) (as := []) (bs := []) ho hc.1 hd (by rw [he]; exact .nil) (by rw [he]; exact .nil), fun z => ?_⟩
        simp at z
        rw [z] at hS
        simp at hS
theorem Rps.reads (I : Inv X pins σ H s) (f : SysF X.K) (R : RS (kx X) ι H S) : ∀ (p : List PyData) (d : List D) (v : List V) (u : List Value), Rps S d p → VRs (kx X) ι H v d → Vals v u → ∃ as, ReadsAll s.heap u p as ∧ sysModules ∉ as
  | [], _, _, _, h, r, q => by cases h; cases r; cases q; exact ⟨_, .nil, by simp⟩
  | x :: p, _, _, _, h, r, q => by
    cases h with
    | cons h1 h2 =>
      cases r with
      | cons r1 r2 =>
        cases q with
        | cons q1 q2 =>
          obtain ⟨as, w1, n1⟩ := Rp.reads I f R x _ _ _ h1 r1 q1
          obtain ⟨bs, w2, n2⟩ := Rps.reads I f R p _ _ _ h2 r2 q2
          exact ⟨_, .cons w1 w2, fun z => (List.mem_append.mp z).elim n1 n2⟩
end
end
@[irreducible] def repXP (x : D) (S : Sto) (k : Str → Prop) : Prop := ∃ p, Rp S x p ∧ p.depth ≤ 60 ∧ p.showable = true ∧ p.shown.length ≤ sizeLine ∧ k p.shown
theorem repXP_of {x : D} {S : Sto} {k : Str → Prop} {p : PyData} (h : Rp S x p) (h1 : p.depth ≤ 60) (h2 : p.showable = true) (h3 : p.shown.length ≤ sizeLine) (q : k p.shown) : repXP x S k := by unfold repXP; exact ⟨p, h, h1, h2, h3, q⟩
def reprXD : F1 := fun x S P => repXP x S fun t => P (.str t) S
def rReprX (K : KX) : List V → Hp → VK → Prop := fun xs H Q => ∃ v p ι S d, xs = [v] ∧ RS K ι H S ∧ VR K ι H v d ∧ Rp S d p ∧ p.depth ≤ 60 ∧ p.showable = true ∧ p.shown.length ≤ sizeLine ∧ Q (.str p.shown) H
theorem c_reprX {X : Cx} {k : Nat} (hgd : X.A.guards = some []) (hr : RmU k X.A) (f : SysF X.K) : CallR X (.builtin "repr") (rReprX (kx X)) := by
  intro pins s σ H xs us Q I rv h
  obtain ⟨v, p, ι, S, d, rfl, R, vd, hp, h1, h2, h3, q⟩ := h
  obtain ⟨u, rfl, ru⟩ := rv.one
  obtain ⟨as, rd, na⟩ := Rp.reads I f R p d v u hp vd ru
  have hun := hr.un
  have big : ∀ {a : Addr}, u = .ref a → wpAny (model X.prog X.w) X.A (call (.builtin "repr") [u]) (EP X pins σ Q) X.xe s := fun {a} e => by
    subst e
    exact repr_of_reads' (h₀ := s.heap) rd h2 (fun _ => na) hgd (by omega) (fun _ _ e => e) (fun h' tu tk kp => ⟨.str _, H, I.kept kp, ⟨_, rfl⟩, q⟩) (hsz := h3)
  cases rd with
  | none => exact PySem.P.repr_of_none ⟨.str _, H, I.tok _, ⟨_, rfl⟩, by simpa only [PyData.shown] using q⟩
  | bool b => exact PySem.P.repr_of_bool ⟨.str _, H, I.tok _, ⟨_, rfl⟩, by simpa only [PyData.shown] using q⟩
  | int i t => exact PySem.P.repr_of_int (of_decide_eq_true h2) ⟨.str _, H, I.tok _, ⟨_, rfl⟩, by simpa only [PyData.shown] using q⟩
  | str x t => exact PySem.P.repr_of_str ⟨.str _, H, I.tok _, ⟨_, rfl⟩, by simpa only [PyData.shown] using q⟩ (by simpa only [PyData.shown] using h3)
  | list _ _ _ _ => exact big rfl
  | tuple _ _ _ _ => exact big rfl
  | dict _ _ _ _ _ => exact big rfl
theorem reprXA {K : KX} : CallA K (rReprX K) (ar1 reprXD) := callA1 fun ι H S x d P Q R rx h k => by
  unfold reprXD repXP at h
  obtain ⟨p, g, h1, h2, h3, h⟩ := h
  exact ⟨x, p, ι, S, d, rfl, R, rx, g, h1, h2, h3, k _ _ _ _ _ .refl R (.str _) h⟩
end Ab

/-! things of plain kinds, as trees; their repr -/
namespace Ab
open PySem PySem.Spec PyProof.Rows L2
/-! ### d stands for the tree p, none of its objects is in M -/
mutual
inductive Rq (M : Nat → Prop) (S : Sto) : D → PyData → Prop
  | non : Rq M S .non .none
  | bl (b : Bool) : Rq M S (.bl b) (.bool b)
  | int (i : Int) : Rq M S (.int i) (.int i)
  | str (s : Str) : Rq M S (.str s) (.str s)
  | tup {l : List D} {p : List PyData} : Rqs M S l p → Rq M S (.tup l) (.tuple p)
  | obj {n : Nat} {l : List D} {p : List PyData} : ¬ M n → S[n]? = some (.lst l) → Rqs M S l p → Rq M S (.obj n) (.list p)
  | dic {n : Nat} : ¬ M n → S[n]? = some (.dK []) → Rq M S (.obj n) (.dict [])
inductive Rqs (M : Nat → Prop) (S : Sto) : List D → List PyData → Prop
  | nil : Rqs M S [] []
  | cons {d : D} {q : PyData} {l : List D} {p : List PyData} : Rq M S d q → Rqs M S l p → Rqs M S (d :: l) (q :: p)
end
section
variable {M : Nat → Prop} {S S' : Sto}
mutual
theorem Rq.keep (k : Keep M S S') : ∀ (p : PyData) (d : D), Rq M S d p → Rq M S' d p
  | .none, _, h => by cases h; exact .non
  | .bool _, _, h => by cases h; exact .bl _
  | .int _, _, h => by cases h; exact .int _
  | .str _, _, h => by cases h; exact .str _
  | .tuple p, _, h => by
    cases h with
    | tup h => exact .tup (Rqs.keep k p _ h)
  | .list p, _, h => by
    cases h with
    | obj h1 h2 h3 => exact .obj h1 (k.at h2 h1) (Rqs.keep k p _ h3)
  | .dict _, _, h => by
    cases h with
    | dic h1 h2 => exact .dic h1 (k.at h2 h1)
theorem Rqs.keep (k : Keep M S S') : ∀ (p : List PyData) (l : List D), Rqs M S l p → Rqs M S' l p
  | [], _, h => by cases h; exact .nil
  | q :: p, _, h => by
    cases h with
    | cons h1 h2 => exact .cons (Rq.keep k q _ h1) (Rqs.keep k p _ h2)
end
mutual
theorem Rq.rp : ∀ (p : PyData) (d : D), Rq M S d p → Rp S d p
  | .none, _, h => by cases h; exact .non
  | .bool _, _, h => by cases h; exact .bl _
  | .int _, _, h => by cases h; exact .int _
  | .str _, _, h => by cases h; exact .str _
  | .tuple p, _, h => by
    cases h with
    | tup h => exact .tup (Rqs.rp p _ h)
  | .list p, _, h => by
    cases h with
    | obj h1 h2 h3 => exact .obj h2 (Rqs.rp p _ h3)
  | .dict _, _, h => by
    cases h with
    | dic h1 h2 => exact .dic h2
theorem Rqs.rp : ∀ (p : List PyData) (l : List D), Rqs M S l p → Rps S l p
  | [], _, h => by cases h; exact .nil
  | q :: p, _, h => by
    cases h with
    | cons h1 h2 => exact .cons (Rq.rp q _ h1) (Rqs.rp p _ h2)
end
mutual
theorem Rq.mz : ∀ (p : PyData) (d : D), Rq M S d p → Rq MZ S d p
  | .none, _, h => by cases h; exact .non
  | .bool _, _, h => by cases h; exact .bl _
  | .int _, _, h => by cases h; exact .int _
  | .str _, _, h => by cases h; exact .str _
  | .tuple p, _, h => by
    cases h with
    | tup h => exact .tup (Rqs.mz p _ h)
  | .list p, _, h => by
    cases h with
    | obj h1 h2 h3 => exact .obj (fun z => z) h2 (Rqs.mz p _ h3)
  | .dict _, _, h => by
    cases h with
    | dic h1 h2 => exact .dic (fun z => z) h2
theorem Rqs.mz : ∀ (p : List PyData) (l : List D), Rqs M S l p → Rqs MZ S l p
  | [], _, h => by cases h; exact .nil
  | q :: p, _, h => by
    cases h with
    | cons h1 h2 => exact .cons (Rq.mz q _ h1) (Rqs.mz p _ h2)
end
theorem Rq.kp {p : PyData} {d : D} (h : Rq M S d p) (k : Keep M S S') : Rq M S' d p := Rq.keep k p d h
theorem Rqs.kp {p : List PyData} {d : List D} (h : Rqs M S d p) (k : Keep M S S') : Rqs M S' d p := Rqs.keep k p d h
theorem Rqs.length : ∀ {p : List PyData} {l : List D}, Rqs M S l p → l.length = p.length
  | [], _, h => by cases h; rfl
  | _ :: _, _, h => by
    cases h with
    | cons _ h2 => simp [Rqs.length h2]
theorem Rqs.append : ∀ {p q : List PyData} {l m : List D}, Rqs M S l p → Rqs M S m q → Rqs M S (l ++ m) (p ++ q)
  | [], _, _, _, h, g => by cases h; exact g
  | _ :: _, _, _, _, h, g => by
    cases h with
    | cons h1 h2 => exact .cons h1 (Rqs.append h2 g)
theorem Rqs.get : ∀ {p : List PyData} {l : List D}, Rqs M S l p → ∀ {i : Nat} {x : D}, l[i]? = some x → ∃ q, p[i]? = some q ∧ Rq M S x q
  | [], _, h, i, x, e => by cases h; simp at e
  | _ :: _, _, h, 0, x, e => by
    cases h with
    | cons h1 h2 =>
      simp at e
      subst e
      exact ⟨_, rfl, h1⟩
  | _ :: _, _, h, i + 1, x, e => by
    cases h with
    | cons h1 h2 =>
      obtain ⟨q, q1, q2⟩ := Rqs.get h2 (i := i) (x := x) (by simpa using e)
      exact ⟨q, by simpa using q1, q2⟩
theorem Rqs.take : ∀ {p : List PyData} {l : List D} (n : Nat), Rqs M S l p → Rqs M S (l.take n) (p.take n)
  | _, _, 0, _ => by simp; exact .nil
  | [], _, _ + 1, h => by cases h; exact .nil
  | _ :: _, _, n + 1, h => by
    cases h with
    | cons h1 h2 => exact .cons h1 (Rqs.take n h2)
theorem Rqs.drop : ∀ {p : List PyData} {l : List D} (n : Nat), Rqs M S l p → Rqs M S (l.drop n) (p.drop n)
  | _, _, 0, h => by simpa using h
  | [], _, _ + 1, h => by cases h; exact .nil
  | _ :: _, _, n + 1, h => by
    cases h with
    | cons h1 h2 => exact Rqs.drop n h2
theorem Rqs.of_map {α : Type} {f : α → D} {g : α → PyData} : ∀ (l : List α), (∀ x ∈ l, Rq M S (f x) (g x)) → Rqs M S (l.map f) (l.map g)
  | [], _ => .nil
  | x :: l, h => .cons (h x (by simp)) (Rqs.of_map l fun y hy => h y (by simp [hy]))
theorem Rqs.ints (l : List Int) : Rqs M S (l.map .int) (l.map .int) := Rqs.of_map l fun x _ => .int x
theorem Rq.cls (l : List Int) : Rq M S (d l) (.tuple (l.map .int)) := .tup (Rqs.ints l)
theorem Rq.rows (cs : List (List Int)) : Rq M S (d cs) (.tuple (cs.map fun c => .tuple (c.map .int))) := .tup (Rqs.of_map cs fun c _ => Rq.cls c)
end
/-! ### clauses and LITs among them -/
def intsOf : List PyData → Option (List Int)
  | [] => some []
  | .int i :: l => (intsOf l).map (i :: ·)
  | _ :: _ => none
theorem intsOf_ints : ∀ l : List Int, intsOf (l.map .int) = some l
  | [] => rfl
  | i :: l => by
    show (intsOf (l.map .int)).map (i :: ·) = _
    rw [intsOf_ints l]
    rfl
theorem intsOf_some : ∀ {p : List PyData} {l : List Int}, intsOf p = some l → p = l.map .int
  | [], l, h => by
    cases h
    rfl
  | .int i :: p, l, h => by
    cases e : intsOf p with
    | none =>
      simp [intsOf, e] at h
    | some m =>
      simp [intsOf, e] at h
      subst h
      rw [intsOf_some e]
      rfl
  | .none :: _, _, h => by cases h
  | .bool _ :: _, _, h => by cases h
  | .str _ :: _, _, h => by cases h
  | .list _ :: _, _, h => by cases h
  | .tuple _ :: _, _, h => by cases h
  | .dict _ :: _, _, h => by cases h
def litB : PyData → Bool
  | .int i => decide (1 ≤ ab i ∧ ab i ≤ 40)
  | _ => false
def riseB (c : List Int) : Bool := (c.zip (c.drop 1)).all fun p => decide (ab p.1 < ab p.2)
def clB (c : List Int) : Bool := (c.all fun i => litB (.int i)) && riseB c
def isClB : PyData → Bool
  | .tuple l => (match intsOf l with | some c => clB c | none => false)
  | _ => false
theorem riseB_iff : ∀ c : List Int, riseB c = true ↔ c.Pairwise fun a b => ab a < ab b
  | [] => by simp [riseB]
  | [x] => by simp [riseB]
  | x :: y :: l => by
    have ih := riseB_iff (y :: l)
    have e : riseB (x :: y :: l) = (decide (ab x < ab y) && riseB (y :: l)) := by simp [riseB]
    rw [e, Bool.and_eq_true, ih, List.pairwise_cons (a := x)]
    constructor
    · rintro ⟨h1, h2⟩
      refine ⟨fun z hz => ?_, h2⟩
      have h1 := of_decide_eq_true h1
      rcases List.mem_cons.mp hz with rfl | hz
      · exact h1
      · exact Int.lt_trans h1 ((List.pairwise_cons.mp h2).1 z hz)
    · rintro ⟨h1, h2⟩
      exact ⟨decide_eq_true (h1 y (by simp)), h2⟩
theorem litB_iff {i : Int} : litB (.int i) = true ↔ Lit 40 i := by simp [litB, Lit]
theorem clB_iff {c : List Int} : clB c = true ↔ Cl 40 c := by
  unfold clB
  rw [Bool.and_eq_true, riseB_iff, List.all_eq_true]
  exact ⟨fun h => ⟨fun l hl => litB_iff.mp (h.1 l hl), h.2⟩, fun h => ⟨fun l hl => litB_iff.mpr (h.lit l hl), h.inc⟩⟩
theorem isClB_cl {c : List Int} (h : Cl 40 c) : isClB (.tuple (c.map .int)) = true := by
  show (match intsOf (c.map .int) with | some c => clB c | none => false) = true
  rw [intsOf_ints]
  exact clB_iff.mpr h
theorem isClB_out {p : PyData} (h : isClB p = true) : ∃ c, p = .tuple (c.map .int) ∧ Cl 40 c := by
  unfold isClB at h
  split at h
  · split at h
    · rename_i c e
      exact ⟨c, by rw [intsOf_some e], clB_iff.mp h⟩
    · cases h
  · cases h
/-! ### what repr wants -/
theorem reprChar_ok {q c : Nat} (h : c < 0x110000) : ∀ x ∈ Builtin.Str.reprChar q c, x < 0x110000 := by
  have dig : ∀ x ∈ (Nat.toDigits 16 c).map Char.toNat, x < 0x110000 := fun x hx => by
    obtain ⟨y, _, rfl⟩ := List.mem_map.mp hx
    have := y.valid
    rcases this with h | ⟨_, h⟩
    · have h : y.toNat < 55296 := h
      omega
    · exact h
  unfold Builtin.Str.reprChar
  dsimp only
  intro x hx
  repeat' split at hx
  all_goals (simp only [List.mem_append, List.mem_cons, List.not_mem_nil, or_false, List.mem_replicate] at hx)
  · rcases hx with rfl | rfl <;> omega
  · rcases hx with rfl | rfl <;> omega
  · rcases hx with rfl | rfl <;> omega
  · rcases hx with rfl | rfl <;> omega
  · subst hx; exact h
  · rcases hx with (rfl | rfl) | ⟨_, rfl⟩ | hx
    · omega
    · omega
    · omega
    · exact dig _ hx
  · rcases hx with (rfl | rfl) | ⟨_, rfl⟩ | hx
    · omega
    · omega
    · omega
    · exact dig _ hx
  · rcases hx with (rfl | rfl) | ⟨_, rfl⟩ | hx
    · omega
    · omega
    · omega
    · exact dig _ hx
theorem ok_push {a : Array Nat} {x : Nat} (h1 : a.all (· < 0x110000) = true) (h2 : x < 0x110000) : (a.push x).all (· < 0x110000) = true := by
  rw [Array.all_eq_true_iff_forall_mem] at h1 ⊢
  intro y hy
  rcases Array.mem_push.mp hy with hy | rfl
  · exact h1 y hy
  · exact decide_eq_true h2
theorem ok_fold {q : Nat} : ∀ (l : List Nat) (acc : Array Nat), (∀ c ∈ l, c < 0x110000) → acc.all (· < 0x110000) = true → (l.foldl (fun out c => out ++ (Builtin.Str.reprChar q c).toArray) acc).all (· < 0x110000) = true
  | [], acc, _, h => h
  | c :: l, acc, hl, h => by
    rw [List.foldl_cons]
    refine ok_fold l _ (fun x hx => hl x (by simp [hx])) ?_
    rw [Array.all_append, h, Bool.true_and, Array.all_eq_true_iff_forall_mem]
    intro y hy
    exact decide_eq_true (reprChar_ok (hl c (by simp)) y (by simpa using hy))
theorem reprText_ok {x : Str} (h : PyData.strOk x = true) : PyData.strOk (reprText x) = true := by
  have hq : reprQuote x < 0x110000 := by
    unfold reprQuote
    split <;> omega
  have hx : ∀ c ∈ x.cps.toList, c < 0x110000 := fun c hc => by
    unfold PyData.strOk at h
    rw [Array.all_eq_true_iff_forall_mem] at h
    exact of_decide_eq_true (h c (Array.mem_toList_iff.mp hc))
  unfold reprText
  show ((x.cps.foldl (fun out c => out ++ (Builtin.Str.reprChar (reprQuote x) c).toArray) #[reprQuote x]).push (reprQuote x)).all (· < 0x110000) = true
  rw [← Array.foldl_toList]
  refine ok_push (ok_fold _ _ hx ?_) hq
  simp [hq]
mutual
/-- all texts in it are fine; its dicts are empty -/
def txtB : PyData → Bool
  | .str x => PyData.strOk x
  | .list l => txtsB l
  | .tuple l => txtsB l
  | .dict l => l.isEmpty
  | _ => true
def txtsB : List PyData → Bool
  | [] => true
  | x :: l => txtB x && txtsB l
end
mutual
/-- how long its repr is at most -/
def wt : PyData → Nat
  | .none => 4
  | .bool _ => 5
  | .int i => (PyData.shown (.int i)).length
  | .str x => 10 * x.length + 2
  | .list l => wts l + 3
  | .tuple l => wts l + 3
  | .dict _ => 2
def wts : List PyData → Nat
  | [] => 0
  | x :: l => wt x + 2 + wts l
end
mutual
theorem shown_ok : ∀ p : PyData, txtB p = true → PyData.strOk p.shown = true
  | .none, _ => by rw [PyData.shown_none]; exact strOk_str _
  | .bool b, _ => by rw [PyData.shown_bool]; cases b <;> exact strOk_str _
  | .int i, _ => by rw [PyData.shown_int]; exact strOk_str _
  | .str x, h => by rw [PyData.shown_str]; exact reprText_ok (by simpa only [txtB] using h)
  | .list l, h => by
    rw [PyData.shown_list]
    exact strOk_app (strOk_app (strOk_str _) (strOk_join (strOk_str _) _ (shownAll_ok l (by simpa only [txtB] using h)))) (strOk_str _)
  | .tuple l, h => by
    rw [PyData.shown_tuple]
    refine strOk_app (strOk_app (strOk_str _) (strOk_join (strOk_str _) _ (shownAll_ok l (by simpa only [txtB] using h)))) ?_
    split <;> exact strOk_str _
  | .dict l, h => by
    have e : l = [] := List.isEmpty_iff.mp (by simpa only [txtB] using h)
    subst e
    rw [PyData.shown_dict]
    exact strOk_app (strOk_app (strOk_str _) (strOk_join (strOk_str _) _ (by simp [PyData.shownKv]))) (strOk_str _)
theorem shownAll_ok : ∀ l : List PyData, txtsB l = true → ∀ x ∈ PyData.shownAll l, PyData.strOk x = true
  | [], _ => by simp [PyData.shownAll]
  | y :: l, h => by
    simp only [txtsB, Bool.and_eq_true] at h
    intro x hx
    simp only [PyData.shownAll, List.mem_cons] at hx
    rcases hx with rfl | hx
    · exact shown_ok y h.1
    · exact shownAll_ok l h.2 x hx
end
mutual
theorem shown_wt : ∀ p : PyData, txtB p = true → p.shown.length ≤ wt p
  | .none, _ => by rw [PyData.shown_none]; exact Nat.le_refl _
  | .bool b, _ => by rw [PyData.shown_bool]; cases b <;> decide
  | .int i, _ => by simp only [wt]; exact Nat.le_refl _
  | .str x, h => by
    rw [PyData.shown_str]
    simp only [wt]
    have h : PyData.strOk x = true := by simpa only [txtB] using h
    unfold PyData.strOk at h
    rw [Array.all_eq_true_iff_forall_mem] at h
    exact StrLaws.reprText_len x fun c hc => Nat.lt_trans (of_decide_eq_true (h c (Array.mem_toList_iff.mp hc))) (by decide)
  | .list l, h => by
    have h' := shownAll_wt l (by simpa only [txtB] using h)
    have e : (PyData.list l).shown = listText (PyData.shownAll l) := by simp only [PyData.shown]
    rw [e]
    simp only [wt]
    have := listText_len_le (PyData.shownAll l)
    omega
  | .tuple l, h => by
    have h' := shownAll_wt l (by simpa only [txtB] using h)
    have e : (PyData.tuple l).shown = tupleText (PyData.shownAll l) := by simp only [PyData.shown]
    rw [e]
    simp only [wt]
    have := tupleText_len_le (PyData.shownAll l)
    omega
  | .dict l, h => by
    have e : l = [] := List.isEmpty_iff.mp (by simpa only [txtB] using h)
    subst e
    rw [PyData.shown_dict]
    exact Nat.le_refl _
theorem shownAll_wt : ∀ l : List PyData, txtsB l = true → ((PyData.shownAll l).map (·.length)).sum + 2 * (PyData.shownAll l).length ≤ wts l
  | [], _ => by simp [PyData.shownAll, wts]
  | y :: l, h => by
    simp only [txtsB, Bool.and_eq_true] at h
    have h1 := shown_wt y h.1
    have h2 := shownAll_wt l h.2
    simp only [PyData.shownAll, wts, List.map_cons, List.sum_cons, List.length_cons]
    omega
end
/-- repr shows it: not too deep, not too long -/
structure Shk (e k : Nat) (p : PyData) : Prop where
  dep : p.depth ≤ e
  shw : p.showable = true
  txt : txtB p = true
  len : wt p ≤ k
theorem Shk.mono {e k e' k' : Nat} {p : PyData} (h : Shk e k p) (h1 : e ≤ e') (h2 : k ≤ k') : Shk e' k' p := ⟨Nat.le_trans h.dep h1, h.shw, h.txt, Nat.le_trans h.len h2⟩
theorem shk_all {e k : Nat} : ∀ {l : List PyData}, (∀ p ∈ l, Shk e k p) → PyData.depthAll l ≤ e ∧ PyData.showableAll l = true ∧ txtsB l = true ∧ wts l ≤ l.length * (k + 2)
  | [], _ => ⟨by simp [PyData.depthAll], rfl, by simp [txtsB], by simp [wts]⟩
  | p :: l, h => by
    obtain ⟨h1, h2, h3, h4⟩ := shk_all (l := l) fun q hq => h q (by simp [hq])
    have hp := h p (by simp)
    have hd := hp.dep
    have hl := hp.len
    refine ⟨by simp only [PyData.depthAll]; omega, ?_, by simp [txtsB, hp.txt, h3], ?_⟩
    · show (PyData.showable p && PyData.showableAll l) = true
      rw [hp.shw, h2]
      rfl
    · simp only [wts, List.length_cons, Nat.add_mul]
      omega
theorem Shk.tup {e k : Nat} {l : List PyData} (h : ∀ p ∈ l, Shk e k p) : Shk (e + 1) (l.length * (k + 2) + 3) (.tuple l) := by
  obtain ⟨h1, h2, h3, h4⟩ := shk_all h
  exact ⟨by simp only [PyData.depth]; omega, by simpa only [PyData.showable] using h2, by simpa only [txtB] using h3, by simp only [wt]; omega⟩
theorem Shk.lst {e k : Nat} {l : List PyData} (h : ∀ p ∈ l, Shk e k p) : Shk (e + 1) (l.length * (k + 2) + 3) (.list l) := by
  obtain ⟨h1, h2, h3, h4⟩ := shk_all h
  exact ⟨by simp only [PyData.depth]; omega, by simpa only [PyData.showable] using h2, by simpa only [txtB] using h3, by simp only [wt]; omega⟩
theorem Shk.int {i : Int} (h : i.natAbs < 10 ^ 12) : Shk 0 13 (.int i) where
  dep := by simp [PyData.depth]
  shw := by
    have := show_ints [i] fun n hn => by simp at hn; subst hn; exact h
    have this : (PyData.showable (.int i) && PyData.showableAll []) = true := this
    rw [Bool.and_eq_true] at this
    exact this.1
  txt := by simp [txtB]
  len := by simp only [wt]; exact PyData.shown_int_le h
theorem Shk.non : Shk 0 13 .none := ⟨by simp [PyData.depth], rfl, by simp [txtB], by simp [wt]⟩
theorem Shk.bl (b : Bool) : Shk 0 13 (.bool b) := ⟨by simp [PyData.depth], rfl, by simp [txtB], by simp [wt]⟩
theorem Shk.str {s : Str} (h : PyData.strOk s = true) : Shk 0 (10 * s.length + 2) (.str s) := ⟨by simp [PyData.depth], rfl, by simpa only [txtB] using h, by simp [wt]⟩
theorem repX_of {M : Nat → Prop} {x : D} {S : Sto} {k : Str → Prop} {p : PyData} (h : Rq M S x p) (s : Shk 60 1000000 p) (q : k p.shown) : repXP x S k := repXP_of (Rq.rp _ _ h) s.dep s.shw (small_line (Nat.le_trans (shown_wt _ s.txt) s.len)) q
/-- a clause, rows of clauses -/
theorem shk_cl {c : List Int} (h : Cl 40 c) : Shk 1 603 (.tuple (c.map .int)) := by
  have l := cl_len h
  refine (Shk.tup (e := 0) (k := 13) fun p hp => ?_).mono (Nat.le_refl _) (by simp; omega)
  obtain ⟨i, hi, rfl⟩ := List.mem_map.mp hp
  have := (h.lit i hi).2
  refine Shk.int ?_
  unfold ab at this
  have : i.natAbs ≤ 40 := by split at this <;> omega
  omega
theorem shk_rows {cs : List (List Int)} (h : ∀ c ∈ cs, Cl 40 c) (hl : cs.length ≤ 100) : Shk 2 60503 (.tuple (cs.map fun c => .tuple (c.map .int))) := by
  refine (Shk.tup (e := 1) (k := 603) fun p hp => ?_).mono (Nat.le_refl _) (by simp; omega)
  obtain ⟨c, hc, rfl⟩ := List.mem_map.mp hp
  exact shk_cl (h c hc)
end Ab

/-! own classes, more: fields as targets, many targets, keyword-only parameters of an __init__, isinstance of an instance, sorted of a dict with tuples as keys, {k: v} -/
namespace Ab
open PySem PySem.Spec PyProof.Rows L2
/-! ### o.f as a target -/
def tgFldT (K : PySem.W.Frag) (to : TE) (f : Str) : TG := fun v σ H Q => to σ H fun x H1 => ∃ a C dx fs, x = .ref a ∧ H1 a = some (.ins C dx fs) ∧ Cls K C ∧ NoAttr K C f ∧ fs.length < 1000 ∧ Q σ (upd H1 a (.ins C dx (putF f v fs)))
theorem pg_fldT {X : Cx} {o : Expr} {f : Str} {pos : Pos} {to : TE} (ho : PE X o to) : PG X (.Attribute o f pos) (tgFldT X.K to f) := by
  refine ⟨fun pins s σ H v u Q I r h => ?_⟩
  rw [assign_Attribute]
  refine wpAny_bind (wpAny_holding (thn (ho.run pins s σ H _ I h) fun ov s1 ⟨x, H1, I1, rx, a, C, dx, fs, ex, ea, c, n, l, q⟩ => ?_))
  subst ex
  obtain rfl : ov = Value.ref a := rx
  refine wpAny_bind (wpAny_standAt (wpAny_bind (wpAny_holding (setattr_ok I1 ea c n l r fun s3 I3 => ?_))))
  exact wpAny_release ⟨σ, _, I3, q⟩
def gFld (L : List Str) (f : Str) (x : AE) : AG := fun d a S P => x a S fun e S1 => match e with
  | .obj n => rdO S1 n fun o => match o with
    | .ins c fs => c ∈ L ∧ fs.length < 1000 ∧ P a (S1.set n (.ins c (putFD f d fs)))
    | _ => False
  | _ => False
section
variable {X : Cx} {B : Bs} {o e : Expr} {pos : Pos} {x : AE} {L : List Str} {f : Str}
theorem g_fld (hf : FlOk X.K L f) (ho : PE X o (eOf (kx X) B x)) : PG X (.Attribute o f pos) (gOf (kx X) B (gFld L f x)) := by
  refine PG.imp (pg_fldT ho) fun v σ H Q h => ?_
  obtain ⟨ι, d, a, S, P, g, rv, h, k⟩ := h
  refine ⟨ι, a, S, _, g, h, fun ι2 H2 u e S2 e2 r2 v2 h2 => ?_⟩
  cases v2 with
  | obj q1 =>
    obtain ⟨o, q2, h2⟩ := rdO_out h2
    have ho := r2.ob _ _ _ q1 q2
    cases o with
    | ins c fs =>
      obtain ⟨hc, hz, h2⟩ := h2
      obtain ⟨dx, ws, a1, a2, a3⟩ := ho
      obtain ⟨c1, c2⟩ := hf.ok c hc
      obtain ⟨i1, i2⟩ := fld_put a2 a3 f (rv.up e2)
      obtain ⟨e3, r3⟩ := put_ins (dx := dx) (c := c) r2 q1 a1 rfl (fun _ z => by cases z) (fun _ _ z => by cases z) i1 i2
      have hl : ws.length = fs.length := by have := congrArg List.length a2; simpa using this
      refine ⟨_, _, _, _, rfl, a1, c1, c2, by rw [hl]; exact hz, ?_⟩
      exact k _ _ _ _ _ (e2.trans e3) r3 (g.sr.up (e2.trans e3)) h2
    | _ => exact h2.elim
  | _ => exact h2.elim
end
/-! ### t1 = t2 = t3 = t4 = e -/
def tAsg4 (te : TE) (g1 g2 g3 g4 : TG) : TS := fun D σ H => te σ H fun x H1 => g1 x σ H1 fun σ1 H2 => g2 x σ1 H2 fun σ2 H3 => g3 x σ2 H3 fun σ3 H4 => g4 x σ3 H4 D.nx
theorem wpAny_Assign_four {prog : Program} {w : World} {A : Around} {E : Value → Shared → Prop} {env : Env} {s : Shared} {t1 t2 t3 t4 value : Expr} {pos : Pos} {Q : Flow → Shared → Prop}
    (h : wpAny (model prog w) A (eval value env) (fun v s1 => wpAny (model prog w) A (assign t1 env v) (fun _ s2 => wpAny (model prog w) A (assign t2 env v) (fun _ s3 => wpAny (model prog w) A (assign t3 env v) (fun _ s4 => wpAny (model prog w) A (assign t4 env v) (fun _ => Q .next) E s4) E s3) E s2) E s1) E s)
    (he : (assignEach [t1, t2, t3, t4] env).map (·.2) = [assign t1 env, assign t2 env, assign t3 env, assign t4 env] := by rfl) (hw : swappedStores [t1, t2, t3, t4] value env = pure none := by rfl) :
    wpAny (model prog w) A (exec (.Assign [t1, t2, t3, t4] value pos) env) Q E s := by
  refine wpAny_Assign_stores (wpAny_mono h (fun v s₁ h₁ => ?_) fun _ _ x => x) rfl hw
  rw [he]
  exact wpAny_bind (wpAny_holding (wpAny_mono h₁ (fun _ s₂ h₂ => wpAny_bind (wpAny_holding (wpAny_mono h₂ (fun _ s3 h3 => wpAny_bind (wpAny_holding h3)) fun _ _ x => x))) fun _ _ x => x))
section
variable {X : Cx} {B : Bs} {t1 t2 t3 t4 e : Expr} {x : AE} {pos : Pos}
theorem ps_asg4 {te : TE} {g1 g2 g3 g4 : TG} (he : PE X e te) (h1 : PG X t1 g1) (h2 : PG X t2 g2) (h3 : PG X t3 g3) (h4 : PG X t4 g4)
    (ha : (assignEach [t1, t2, t3, t4] X.env).map (·.2) = [assign t1 X.env, assign t2 X.env, assign t3 X.env, assign t4 X.env] := by rfl) (hw : swappedStores [t1, t2, t3, t4] e X.env = pure none := by rfl) :
    PS X (.Assign [t1, t2, t3, t4] e pos) (tAsg4 te g1 g2 g3 g4) := by
  refine ⟨fun pins s σ H D I h => ?_⟩
  refine wpAny_Assign_four (thn (he.run pins s σ H _ I h) fun v s1 ⟨x, H1, I1, r1, q1⟩ => ?_) ha hw
  refine thn (h1.run pins s1 σ H1 x v _ I1 r1 q1) fun _ s2 ⟨σ2, H2, I2, q2⟩ => ?_
  refine thn (h2.run pins s2 σ2 H2 x v _ I2 r1 q2) fun _ s3 ⟨σ3, H3, I3, q3⟩ => ?_
  refine thn (h3.run pins s3 σ3 H3 x v _ I3 r1 q3) fun _ s4 ⟨σ4, H4, I4, q4⟩ => ?_
  exact thn (h4.run pins s4 σ4 H4 x v _ I4 r1 q4) fun _ s5 q => q
def aAsg4 (x : AE) (g1 g2 g3 g4 : AG) : AX := fun D a S => x a S fun d S1 => g1 d a S1 fun a1 S2 => g2 d a1 S2 fun a2 S3 => g3 d a2 S3 fun a3 S4 => g4 d a3 S4 D.nx
theorem s_asg4 {g1 g2 g3 g4 : AG} (he : PE X e (eOf (kx X) B x)) (h1 : PG X t1 (gOf (kx X) B g1)) (h2 : PG X t2 (gOf (kx X) B g2)) (h3 : PG X t3 (gOf (kx X) B g3)) (h4 : PG X t4 (gOf (kx X) B g4))
    (ha : (assignEach [t1, t2, t3, t4] X.env).map (·.2) = [assign t1 X.env, assign t2 X.env, assign t3 X.env, assign t4 X.env] := by rfl) (hw : swappedStores [t1, t2, t3, t4] e X.env = pure none := by rfl) :
    PS X (.Assign [t1, t2, t3, t4] e pos) (sOf (kx X) B (aAsg4 x g1 g2 g3 g4)) := by
  refine PS.imp (ps_asg4 he h1 h2 h3 h4 ha hw) fun D σ H h => ?_
  obtain ⟨ι, a, S, AD, g, h, k⟩ := h
  refine ⟨ι, a, S, _, g, h, fun ι1 H1 v d S1 e1 r1 v1 q1 => ?_⟩
  refine ⟨ι1, d, a, S1, _, g.go e1 r1, v1, q1, fun ι2 H2 σ2 a2 S2 e2 r2 s2 q2 => ?_⟩
  refine ⟨ι2, d, a2, S2, _, ⟨(g.ext.trans e1).trans e2, r2, s2⟩, v1.up e2, q2, fun ι3 H3 σ3 a3 S3 e3 r3 s3 q3 => ?_⟩
  refine ⟨ι3, d, a3, S3, _, ⟨((g.ext.trans e1).trans e2).trans e3, r3, s3⟩, (v1.up e2).up e3, q3, fun ι4 H4 σ4 a4 S4 e4 r4 s4 q4 => ?_⟩
  exact ⟨ι4, d, a4, S4, _, ⟨(((g.ext.trans e1).trans e2).trans e3).trans e4, r4, s4⟩, ((v1.up e2).up e3).up e4, q4, fun ι5 H5 σ5 a5 S5 e5 r5 s5 q5 => k.nx _ _ _ _ _ ((((e1.trans e2).trans e3).trans e4).trans e5) r5 s5 q5⟩
end
/-! ### keyword-only parameters of a method -/
def OkMK (P : Program) (w : World) (K : PySem.W.Frag) (mg : Str → Option Value) (base : Heap) (k : Nat) (c m : Str) (x qual : Str) (st : Stmt) (ps : List Str) (kws : List (Str × V)) (sp : FN) : Prop :=
  ∃ fd, FunD K x qual (defArgs st) (defBody st) (defScope st) [] kws (He.ma K (He.ga K c) m) fd ∧ AOk P w K mg base k (He.ma K (He.ga K c) m) fd ps sp
def KwOkMK (x qual : Str) (st : Stmt) (ps : List Str) (ms : List Str) (n : Nat) (ks : List Str) (p : List Nat) : Prop := ∀ (D : Addr) (doc pm : Value) (an : Option Addr) (cdv ct : Value) (us mv ws : List Value), us.length = n → mv.length = ms.length → ws.length = ks.length →
  KwChain D (ms.zip mv) (bindArgs (PySem.W.fnOf x qual (defArgs st) (defBody st) (defScope st) .none (.ref D) doc pm an cdv ct) ⟨us, ks.zip ws⟩) (ps.zip (kperm p us (mv ++ ws)))
theorem kbn_mk {K : PySem.W.Frag} {x qual : Str} {st : Stmt} {f : Addr} {fd : FuncData} {ps ks : List Str} {kws ms : List (Str × V)} {n : Nat} {p : List Nat} (F : FunD K x qual (defArgs st) (defBody st) (defScope st) [] kws f fd) (hk : kws ≠ []) (hms : ∀ q ∈ ms, q ∈ kws) (h : KwOkMK x qual st ps (ms.map (·.1)) n ks p) :
    ∃ mv : List Value, KBn K fd ps n ks (fun us ws => kperm p us (mv ++ ws)) (fun vs zs => kperm p vs (ms.map (·.2) ++ zs)) := by
  obtain ⟨oc, od, dV, kV, doc, pm, an, cdv, ct, osl, rfl, lk, hcd, hD, hK⟩ := F.ex
  rcases hD with ⟨_, rfl⟩ | ⟨e, _⟩
  · rcases hK with e | ⟨D, rfl, hq⟩
    · exact absurd e hk
    · obtain ⟨mv, hl, rk, hks⟩ := kwd_vals (ms := ms) fun q hm => hq q (hms q hm)
      refine ⟨mv, ⟨fun s us ws X l1 l2 => ?_, fun r1 r2 => kperm_vals r1 (rk.append r2)⟩⟩
      exact BindsTo.of_looks fun M => KwChain.looks X hks (h D doc pm an cdv ct us mv ws l1 (by rw [hl, List.length_map]) l2)
  · exact absurd rfl e
section
variable {X : Cx} {B : Bs} {st : Stmt} {ps ks : List Str} {kw ms : List (Str × V)} {dds : List D} {sp : FN} {c x qual : Str} {p pos : Pos} {e : Expr} {es : List Expr} {kws : List Keyword} {z zk : AA} {k : Nat} {q : List Nat} {m j : Nat}
theorem a_makeK (M : Mk X.K (He.ga X.K c) (He.ma X.K (He.ga X.K c) "__init__")) (F : OkMK X.prog X.w X.K X.mg X.base k c "__init__" x qual st ps kw sp) (hr : Room (k + 1) X.A) (hm : X.mg c = some (.ref (He.ga X.K c))) (hne : kw ≠ []) (hms : ∀ q ∈ ms, q ∈ kw) (hd : ∀ ι H, VRs (kx X) ι H (ms.map (·.2)) dds) (hb : KwOkMK x qual st ps (ms.map (·.1)) (m + 1) ks q) (hj : ks.length = j) (ha : PA X (e :: es) (aOf (kx X) B z)) (hkw : PK X kws (aOf (kx X) B zk)) (hg : Gl X c := by rfl)
    (hall : (backToKw pos (keywordEach kws X.env)).all (·.1.isSome) = true := by rfl) (hks : (backToKw pos (keywordEach kws X.env)).filterMap (·.1) = ks := by rfl)
    (hdb : (c == ("__debug__" : Str)) = false := by decide) (he : starEach (e :: es) X.env = (false, eval e X.env) :: starEach es X.env := by rfl)
    (hpl : ((backTo pos (starEach (e :: es) X.env)).any (·.1) || (backToKw pos (keywordEach kws X.env)).any (·.1.isNone)) = false := by rfl) :
    PE X (.Call (.Name c p) (e :: es) kws pos) (eOf (kx X) B (aMake c sp q dds m j z zk)) := by
  obtain ⟨fd, F1, F2⟩ := F
  obtain ⟨mv, hb'⟩ := kbn_mk F1 hne hms hb
  exact PE.imp (pe_makeN M F2 hr hg hm hb' pass0 ha hkw hall hks hdb he hpl) fun σ H Q h => make_of hd hj h
end
theorem okmk_of {P : Program} {w : World} {K : PySem.W.Frag} {mg : Str → Option Value} {base : Heap} {c m x qual : Str} {st : Stmt} {N ps : List Str} {kws : List (Str × V)} {k n : Nat} {sp : FN} {as : AX} {fd : FuncData} (F : FunD K x qual (defArgs st) (defBody st) (defScope st) [] kws (He.ma K (He.ga K c) m) fd) (C : FnScope N ps (defScope st)) (len : Ar ps.length sp) (hn : N.length = n)
    (hbody : ∀ (cdv : Value) (A : Around) (outer : List Env) (s : Shared) (H : Hp) (E : XK) (B : Bs), Room k (A.deeper (PyProof.Rows.envOfC qual (defScope st) s.heap.objs.size (He.ma K (He.ga K c) m) cdv)) →
      PSs (cxOf CX0 P w K mg base N qual (defScope st) (He.ma K (He.ga K c) m) cdv A outer s H E).nox (defBody st) (sOf ⟨K, P, w⟩ B as))
    (hsem : ∀ ds S P, sp ds S P → as { nx := fun _ S' => P .non S', rt := P } (aStart n ds) S) : OkMK P w K mg base (k + 1) c m x qual st ps kws sp := by
  refine ⟨fd, F, ?_⟩
  refine F.ok C (fun vs H Q E h => ?_) (fun cdv A outer s H vs Q E hr h => ?_)
  · obtain ⟨ι, ds, S, P, _, v, h, _⟩ := h
    rw [v.length]
    exact len _ _ _ h
  · obtain ⟨ι, ds, S, Pq, r, v, h, k⟩ := h
    refine ⟨_, (hbody cdv A outer s H E ⟨ι, H, fun _ _ _ _ => False⟩ hr).nox, ?_⟩
    refine ⟨ι, aStart n ds, S, _, ⟨.refl, r, ?_⟩, hsem ds S Pq h, ⟨fun ι' H' σ' a' S' e1 r1 _ h1 => k _ _ _ _ _ e1 r1 .non h1, fun ι' H' v d S' e1 r1 v1 h1 => k _ _ _ _ _ e1 r1 v1 h1, fun _ _ _ _ _ _ _ _ h1 => h1, fun _ _ _ _ _ _ _ _ h1 => h1, fun _ _ _ _ _ _ _ _ _ _ _ _ _ _ h1 => h1⟩⟩
    show SR ⟨K, P, w⟩ ι H (vs.map some ++ List.replicate (N.length - vs.length) none) (aStart n ds)
    unfold aStart
    rw [v.length, hn]
    exact sr_start _ v
/-! ### isinstance(x, a built-in class), x an instance of an own class, too -/
structure IwOk (K : PySem.W.Frag) (L : List Str) : Prop where
  ok : ∀ c ∈ L, ClsF K c ∧ ∀ t : Tg, t ≠ .non → PySem.W.kitOne K (.ref (He.ga K c)) (.type t.name) = some false
theorem iw_nil {K : PySem.W.Frag} : IwOk K [] := ⟨fun c h => by simp at h⟩
theorem iw_cons {K : PySem.W.Frag} {L : List Str} {c : Str} (h1 : ClsF K c) (h2 : ∀ t : Tg, t ≠ .non → PySem.W.kitOne K (.ref (He.ga K c)) (.type t.name) = some false) (h : IwOk K L) : IwOk K (c :: L) := ⟨fun x hx => by
  rcases List.mem_cons.mp hx with rfl | hx
  · exact ⟨h1, h2⟩
  · exact h.ok x hx⟩
def isiWD (L : List Str) : F2 := fun x c S P => match x with
  | .obj m => rdO S m fun o => match o with
    | .ins c' _ => (match c with | .tg n => n ≠ .non ∧ c' ∈ L ∧ P (.bl false) S | _ => False)
    | _ => isiD x c S P
  | _ => isiD x c S P
theorem isiWA {K : KX} {L : List Str} (hL : IwOk K.f L) : CallA K (rIsi K.f) (ar2 (isiWD L)) := callA2 fun ι H S x y d e P Q R rx ry h k => by
  have gen : isiD d e S P → rIsi K.f [x, y] H Q := fun h => isiA ι H S [x, y] [d, e] P Q R (.cons rx (.cons ry .nil)) h k
  cases rx with
  | obj e1 =>
    obtain ⟨o, e2, h⟩ := rdO_out h
    have ho := R.ob _ _ _ e1 e2
    cases o with
    | ins c' fs =>
      obtain ⟨dx, ws, q1, q2⟩ := ho
      cases ry with
      | tg n =>
        obtain ⟨hn, hc, h⟩ := h
        obtain ⟨hK, hb⟩ := hL.ok c' hc
        exact ⟨_, _, _, _, false, rfl, .ty _, .base (.ins q1 hK.cls hK.cat hK.get hK.tak hK.mro), hb n hn, k ι H _ _ S .refl R (.bl _) h⟩
      | _ => exact h.elim
    | _ => exact gen h
  | _ => exact gen h
/-! ### sorted(x), x a dict with tuples as keys, too -/
def sortWD : F1 := fun x S P => match x with
  | .obj n => rdO S n fun o => match o with
    | .dT kvs => srt (kvs.map fun p => .tup (p.1.map keyOfK)) fun m => P (.obj S.length) (S ++ [.lst m])
    | .ins _ _ => False
    | _ => sortD x S P
  | _ => sortD x S P
def rSortW (K : KX) : List V → Hp → VK → Prop := fun xs H Q => ∃ ι S d P x, xs = [x] ∧ RS K ι H S ∧ VR K ι H x d ∧ sortWD d S P ∧ ∀ ι' H' v d S', Ext K ι H ι' H' → RS K ι' H' S' → VR K ι' H' v d → P d S' → Q v H'
theorem sortWA {K : KX} : CallA K (rSortW K) (ar1 sortWD) := callA1 fun ι H S x d P Q R rx h k => ⟨ι, S, d, P, x, rfl, R, rx, h, k⟩
section
variable {X : Cx} {k : Nat}
theorem c_sortW (hr : Room k X.A) (hc : X.calm = true) : CallR X (.builtin "sorted") (rSortW (kx X)) := by
  intro pins s σ H xs us Q I rv h
  obtain ⟨ι, S, dd, P, x, rfl, R, rx, h, fin⟩ := h
  have gen : sortD dd S P → wpAny (model X.prog X.w) X.A (call (.builtin "sorted") us) (EP X pins σ Q) X.xe s := fun h => c_sort hr hc pins s σ H [x] us Q I rv ⟨ι, S, dd, P, x, rfl, R, rx, h, fin⟩
  obtain ⟨v, rfl, rxv⟩ := vals1 rv
  cases rx with
  | @obj n a e1 =>
    obtain ⟨o, e2, h⟩ := rdO_out h
    have ho := R.ob _ _ _ e1 e2
    cases o with
    | dT kvs =>
      obtain ⟨ws, hd, hn, hp⟩ := ho
      cases rxv
      unfold srt at h
      obtain ⟨α, i1, i2, ys, hys, hal, hso, hdep, h⟩ := h
      refine sorted_from (Pv := fun us => ∃ bs, IsKeys H ws bs ∧ us = bs.map Value.ref) (args_sorted1 _) (fun q => coll_dT I (I.ok.hd hc) hd q) fun us h' tk pv hz kp => ?_
      obtain ⟨bs, hk, eu⟩ := pv
      have pv : Vals (bs.map V.ref) us := eu ▸ vals_refs bs
      have hvr : VRs (kx X) ι H (bs.map V.ref) (ys.map d) := hys ▸ isKeys_rel hk hn
      generalize bs.map V.ref = vs at pv hvr
      have l1 : us.length = vs.length := pv.length.symm
      have l2 : vs.length = ys.length := by rw [hvr.length, List.length_map]
      have I' : Inv X pins σ H { s with heap := h', toks := tk } := I.kept (t' := tk) kp
      have ho : (h'.push (seqObj "list" us.toArray 0)).get? h'.objs.size = some (seqObj "list" us.toArray 0) := Heap.get?_push_size _ rfl
      have hun := hr.un
      have rd : ∀ (i : Nat) (u : Value) (x : V) (y : α), us[i]? = some u → vs[i]? = some x → ys[i]? = some y → RelV x u ∧ VR (kx X) ι H x (d y) := fun i u x y e1 e2 e3 => by
        rcases vals_get pv i with ⟨z, _⟩ | ⟨x', u', z1, z2, z3⟩
        · rw [e2] at z; cases z
        · rw [e2] at z1; cases z1
          rw [e1] at z2; cases z2
          obtain ⟨x2, z4, z5⟩ := hvr.get (i := i) (d := d y) (by rw [List.getElem?_map, e3]; rfl)
          rw [e2] at z4; cases z4
          exact ⟨z3, z5⟩
      refine list_sort_data1 (enc := fun p : V × α => En.py p.2) (bs := vs.zip ys) (R := fun u (p : V × α) => RelV p.1 u ∧ VR (kx X) ι H p.1 (d p.2)) ho (each_zip l1 l2 fun i u x y e1 e2 e3 => rd i u x y e1 e2 e3) (each_zip l1 l2 fun i u x y e1 e2 e3 => ?_) ?_ ?_ (by rw [List.length_zip, l2, Nat.min_self, ← l2, ← l1]; exact hz) (fun b hb => ?_) fun out hlen hout => ?_
      · obtain ⟨z1, z2⟩ := rd i u x y e1 e2 e3
        obtain ⟨as, ra⟩ := vr_reads I' R z2 z1
        refine ⟨as, PyProof.Rows.Reads.keeps (fun _ _ e => Heap.get?_push_of_some _ e) ra, fun m => ?_⟩
        exact absurd (reads_live _ _ _ (En.lay y) ra _ m) (Nat.lt_irrefl _)
      · rw [show (vs.zip ys).map (fun p : V × α => En.py p.2) = ((vs.zip ys).map (·.2)).map En.py by rw [List.map_map]; rfl, zip_snd l2]
        exact hal
      · rw [show (vs.zip ys).map (fun p : V × α => En.py p.2) = ((vs.zip ys).map (·.2)).map En.py by rw [List.map_map]; rfl, zip_snd l2]
        exact hso
      · have := En.depth b.2
        show X.A.in1.units + 1 + _ < cLine
        rw [Around.in1_units]
        omega
      · obtain ⟨ep, he⟩ := sortedHeap_at (vs := us) (out := out.toArray) ho
        have e1 := congrArg List.length (show (vs.zip ys).map (fun p : V × α => p.2) = ys from zip_snd l2)
        have hz2 : (vs.zip ys).length ≤ sizeLine := by rw [List.length_zip, l2, Nat.min_self, ← l2, ← l1]; exact hz
        have hvals : Vals (((vs.zip ys).mergeSort (PySem.W.dataLe false fun p : V × α => En.py p.2)).map (·.1)) out := each_vals (hout.mono fun u p z => z.1)
        have hds : VRs (kx X) ι H (((vs.zip ys).mergeSort (PySem.W.dataLe false fun p : V × α => En.py p.2)).map (·.1)) (((vs.zip ys).mergeSort (PySem.W.dataLe false fun p : V × α => En.py p.2)).map fun p => d p.2) := by
          have mem : ∀ p ∈ (vs.zip ys).mergeSort (PySem.W.dataLe false fun p : V × α => En.py p.2), VR (kx X) ι H p.1 (d p.2) := fun p hp => by
            have hp := (List.mergeSort_perm _ _).mem_iff.mp hp
            obtain ⟨i, hi⟩ := List.getElem?_of_mem hp
            obtain ⟨z1, z2⟩ := List.getElem?_zip_eq_some.mp hi
            have lt : i < us.length := by rw [l1]; exact (List.getElem?_eq_some_iff.mp z1).1
            exact (rd i us[i] p.1 p.2 (List.getElem?_eq_getElem lt) z1 z2).2
          revert mem
          generalize (vs.zip ys).mergeSort (PySem.W.dataLe false fun p : V × α => En.py p.2) = L
          intro mem
          induction L with
          | nil => exact .nil
          | cons p L ih => exact .cons (mem p (by simp)) (ih fun q hq => mem q (by simp [hq]))
        have hle : (PySem.W.dataLe false fun p : V × α => En.py p.2) = fun p q => PySem.W.dataLe false En.py p.2 q.2 := rfl
        have e2 : ((vs.zip ys).mergeSort (PySem.W.dataLe false fun p : V × α => En.py p.2)).map (fun p => d p.2) = (ys.mergeSort (PySem.W.dataLe false En.py)).map d := by
          rw [hle, ← sort_snd (le := PySem.W.dataLe false En.py) l2, List.map_map]
          rfl
        rw [e2] at hds
        have hH : H h'.objs.size = none := I'.hok.fresh (Nat.le_refl _)
        obtain ⟨e3, r3, v3⟩ := new_lst R hH hds
        have hlt : ∀ b o, s.heap.get? b = some o → (sortedHeap (h'.push (seqObj "list" us.toArray 0)) h'.objs.size us out.toArray).get? b = some o := fun b o e => by
          have q := kp b o e
          have lt := Heap.lt_size q
          rw [sortedHeap_old (Nat.ne_of_lt lt) (by rw [size_push']; exact Nat.lt_succ_of_lt lt)]
          exact Heap.get?_push_of_some _ q
        refine ⟨.ref h'.objs.size, _, I'.laid (t' := tk) (o := .lst (((vs.zip ys).mergeSort (PySem.W.dataLe false fun p : V × α => En.py p.2)).map (·.1))) (fun b o e => ?_) (Nat.le_refl _) ⟨?_, out, ep, hvals, he⟩, rfl, fin _ _ _ _ _ e3 r3 v3 h⟩
        · have lt := Heap.lt_size e
          show (sortedHeap (h'.push (seqObj "list" us.toArray 0)) h'.objs.size us out.toArray).get? b = some o
          rw [sortedHeap_old (Nat.ne_of_lt lt) (by rw [size_push']; exact Nat.lt_succ_of_lt lt)]
          exact Heap.get?_push_of_some _ e
        · rw [List.length_map, List.length_mergeSort]
          exact hz2
    | ins c fs => exact h.elim
    | _ => exact gen h
  | _ => exact gen h
end
/-! ### {i: j} -/
def aDic1 (i j : Int) : AE := fun a S P => P (.obj S.length) (S ++ [.dK [(.inl i, .int j)]])
section
variable {X : Cx} {B : Bs} {pos p1 p2 : Pos} {i j : Int} {k1 k2 : Nat}
theorem a_dic1 : PE X (.Dict [some (.Constant (.int i) k1 p1)] [.Constant (.int j) k2 p2] pos) (eOf (kx X) B (aDic1 i j)) := by
  refine PE.imp (pe_disp (pps_cons pe_int pe_int pps_nil) rfl rfl (by simp) (by simp)) fun σ H Q h => ?_
  obtain ⟨ι, a, S, P, g, h, k⟩ := h
  intro p hp
  obtain ⟨e2, r2, v2⟩ := new_dK (vs := [(.inl i, V.int j)]) (ds := [(.inl i, .int j)]) g.rs hp ⟨rfl, .cons (.int j) .nil⟩
  refine ⟨upd_same, [(.inl i, V.int j)], rfl, by simp, ?_⟩
  rw [upd_upd]
  exact k _ _ _ _ _ e2 r2 v2 h
end
end Ab

/-! within an except suite: iteration's end, unpacking, calls, while an exception is handled -/
namespace Ab
open PySem PySem.Spec PyProof.Rows L2 HotX
section
variable {prog : Program} {w : World} {A : Around} {E : Value → Shared → Prop} {s : Shared}
theorem hot_keep {x1 : Addr} {h h' : Heap} (hot : HotAt A x1 h) (k : ∀ o, h.get? x1 = some o → h'.get? x1 = some o) : HotAt A x1 h' := by
  obtain ⟨hh, o, vs, e, d, c⟩ := hot
  exact ⟨hh, o, vs, k o e, d, c⟩
theorem next_list_end_hot {it l x1 : Addr} {i : Nat} {items : Array Value} {Q : Option Value → Shared → Prop} (hot : HotAt A x1 s.heap) (hne : x1 ≠ it)
    (hit : s.heap.IsListIter it l i) (hl : s.heap.IsList l items) (hx : items[i]? = none)
    (hQ : ∀ h', Heap.ExtBut it s.heap h' → Q none { s with heap := h' }) : wpAny (model prog w) A (pyNext (.ref it)) Q E s := by
  obtain ⟨o, ho, hc, hd⟩ := id hit
  obtain ⟨ol, hol, _, nl, hdl⟩ := hl
  obtain ⟨hh, o1, vs1, h1, d1, c1⟩ := hot
  unfold pyNext
  refine wpAny_bind (wpAny_attempt (wpAny_callSpecial?_slot (name := Str.ofString "__next__") hit.typeIs slot_listiter_next
    (wpAny_call_entry slot_listiter_next hit.typeIs entry_listiter_next ?_ (args_listiter_next _))))
  show wpAny _ _ (field (.ref it) 0 >>= _) _ _ s
  refine wpAny_bind (wpAny_field ho hd (x := .ref l) rfl ?_)
  show wpAny _ _ (if (Value.ref l == Value.none) = true then _ else _) _ _ s
  rw [if_neg (show ¬ ((Value.ref l == Value.none) = true) from Bool.false_ne_true)]
  show wpAny _ _ (field (.ref it) 1 >>= _) _ _ s
  refine wpAny_bind (wpAny_field ho hd (x := .int i 0) rfl ?_)
  show wpAny _ _ (seqItems? (.ref l) >>= _) _ _ s
  refine wpAny_bind (wpAny_seqItems hol hdl ?_)
  simp only [Int.toNat_natCast, hx]
  refine wpAny_bind (wpAny_rule (wpAny_bind (wpAny_setField ho hd (by simp) ?_)))
  show wpAny _ _ (newExc (.type "StopIteration") [] >>= _) _ _ _
  refine wpAny_bind ?_
  simp only [newExc, newTuple]
  refine wpAny_bind (wpAny_newObj_type ?_ (by size_fits))
  refine wpAny_bind (m := firstArgMember _ _) (wpAny_of_eq (a := Value.none) (by first | rfl | (simp only [firstArgMember]; rfl)) ?_)
  refine wpAny_newObj_type ?_ (by size_fits)
  have h1' : ∀ f : Obj → Obj, (s.heap.update it f).get? x1 = some o1 := fun f => by rw [Heap.get?_update_other _ _ (Ne.symm hne)]; exact h1
  refine raiseNew_hot ⟨hh, o1, vs1, Heap.get?_push_of_some _ (Heap.get?_push_of_some _ (h1' _)), d1, c1⟩ (Nat.ne_of_lt (Heap.lt_size (Heap.get?_push_of_some _ (h1' _)))) (Heap.get?_push_size _ rfl) rfl (by first | (simp; done) | (simp; omega) | (simp only [Array.size_append]; simp; omega)) ?_
  refine wpAny_bind (wpAny_isInstance (T := "StopIteration") (b := true) ⟨_, Heap.get?_update_self _ (Heap.get?_push_size _ rfl) rfl, rfl⟩ isSubtype_stop ?_)
  refine wpAny_pure (hQ _ fun b o hb e => ?_)
  have e1 : ∀ f : Obj → Obj, (s.heap.update it f).get? b = some o := fun f => by rw [Heap.get?_update_other _ _ (Ne.symm hb)]; exact e
  rw [Heap.get?_update_other _ _ (Nat.ne_of_gt (Heap.lt_size (Heap.get?_push_of_some _ (e1 _))))]
  exact Heap.get?_push_of_some _ (Heap.get?_push_of_some _ (e1 _))
theorem next_tuple_end_hot {it l x1 : Addr} {i : Nat} {items : Array Value} {Q : Option Value → Shared → Prop} (hot : HotAt A x1 s.heap) (hne : x1 ≠ it)
    (hit : IsTupIter s.heap it l i) (hl : IsTup s.heap l items) (hx : items[i]? = none)
    (hQ : ∀ h', Heap.ExtBut it s.heap h' → Q none { s with heap := h' }) : wpAny (model prog w) A (pyNext (.ref it)) Q E s := by
  obtain ⟨o, ho, hc, hd⟩ := id hit
  obtain ⟨ol, hol, _, nl, hdl⟩ := hl
  obtain ⟨hh, o1, vs1, h1, d1, c1⟩ := hot
  unfold pyNext
  refine wpAny_bind (wpAny_attempt (wpAny_callSpecial?_slot (name := Str.ofString "__next__") hit.typeIs slot_tupleiter_next
    (wpAny_call_entry slot_tupleiter_next hit.typeIs entry_tupleiter_next ?_ (args_tupleiter_next _))))
  show wpAny _ _ (field (.ref it) 0 >>= _) _ _ s
  refine wpAny_bind (wpAny_field ho hd (x := .ref l) rfl ?_)
  show wpAny _ _ (if (Value.ref l == Value.none) = true then _ else _) _ _ s
  rw [if_neg (show ¬ ((Value.ref l == Value.none) = true) from Bool.false_ne_true)]
  show wpAny _ _ (field (.ref it) 1 >>= _) _ _ s
  refine wpAny_bind (wpAny_field ho hd (x := .int i 0) rfl ?_)
  show wpAny _ _ (seqItems? (.ref l) >>= _) _ _ s
  refine wpAny_bind (wpAny_seqItems hol hdl ?_)
  simp only [Int.toNat_natCast, hx]
  refine wpAny_bind (wpAny_rule (wpAny_bind (wpAny_setField ho hd (by simp) ?_)))
  show wpAny _ _ (newExc (.type "StopIteration") [] >>= _) _ _ _
  refine wpAny_bind ?_
  simp only [newExc, newTuple]
  refine wpAny_bind (wpAny_newObj_type ?_ (by size_fits))
  refine wpAny_bind (m := firstArgMember _ _) (wpAny_of_eq (a := Value.none) (by first | rfl | (simp only [firstArgMember]; rfl)) ?_)
  refine wpAny_newObj_type ?_ (by size_fits)
  have h1' : ∀ f : Obj → Obj, (s.heap.update it f).get? x1 = some o1 := fun f => by rw [Heap.get?_update_other _ _ (Ne.symm hne)]; exact h1
  refine raiseNew_hot ⟨hh, o1, vs1, Heap.get?_push_of_some _ (Heap.get?_push_of_some _ (h1' _)), d1, c1⟩ (Nat.ne_of_lt (Heap.lt_size (Heap.get?_push_of_some _ (h1' _)))) (Heap.get?_push_size _ rfl) rfl (by first | (simp; done) | (simp; omega) | (simp only [Array.size_append]; simp; omega)) ?_
  refine wpAny_bind (wpAny_isInstance (T := "StopIteration") (b := true) ⟨_, Heap.get?_update_self _ (Heap.get?_push_size _ rfl) rfl, rfl⟩ isSubtype_stop ?_)
  refine wpAny_pure (hQ _ fun b o hb e => ?_)
  have e1 : ∀ f : Obj → Obj, (s.heap.update it f).get? b = some o := fun f => by rw [Heap.get?_update_other _ _ (Ne.symm hb)]; exact e
  rw [Heap.get?_update_other _ _ (Nat.ne_of_gt (Heap.lt_size (Heap.get?_push_of_some _ (e1 _))))]
  exact Heap.get?_push_of_some _ (Heap.get?_push_of_some _ (e1 _))
theorem unpackItems_hot {t x1 : Addr} {items : Array Value} {Q : List Value → Shared → Prop} (hot : HotAt A x1 s.heap) (ht : IsTup s.heap t items)
    (hQ : ∀ h', Heap.ExtBut s.heap.objs.size s.heap h' → Q items.toList { s with heap := h' }) : wpAny (model prog w) A (unpackItems (.ref t) items.size none) Q E s := by
  have hlt : t ≠ s.heap.objs.size := by obtain ⟨o, ho, _⟩ := ht; exact Nat.ne_of_lt (Heap.lt_size ho)
  have hne : x1 ≠ s.heap.objs.size := by obtain ⟨_, o, _, ho, _⟩ := id hot; exact Nat.ne_of_lt (Heap.lt_size ho)
  unfold unpackItems
  refine wpAny_bind ?_
  · unfold notIterableAtAll
    refine wpAny_bind (wpAny_specialOf ht.typeIs slot_tuple_iter.lookup ?_)
    refine wpAny_pure ?_
    simp only [Bool.false_eq_true, if_false]
    refine wpAny_bind (wpAny_holding (iter_tuple ht ?_))
    refine wpAny_bind (wpAny_holding (draw_tuple hlt items.size 0 _ _ ⟨_, Heap.get?_push_size _ rfl, rfl, rfl⟩ (ht.push _) (by omega) fun h₁ hit₁ hs₁ => ?_))
    have hall : List.take items.size (List.drop 0 items.toList) = items.toList := by
      rw [List.drop_zero]; exact List.take_of_length_le (by simp)
    rw [hall]
    rw [if_neg (by simp)]
    have ht₁ : IsTup h₁ t items := (ht.push _).extBut hs₁.extBut hlt
    have hot₁ : HotAt A x1 h₁ := hot_keep hot fun o e => hs₁.extBut x1 o hne (Heap.get?_push_of_some _ e)
    refine wpAny_bind (wpAny_holding (next_tuple_end_hot (s := { s with heap := h₁ }) hot₁ hne hit₁ ht₁ (by simp) fun h₂ he₂ => ?_))
    simp only [Option.isSome_none, Bool.false_eq_true, if_false]
    refine wpAny_pure (hQ h₂ fun b o hb e => he₂ b o hb (hs₁.extBut b o hb (Heap.get?_push_of_some _ e)))
theorem assign_tuple_hot {env : Env} {elts : List Expr} {k : Nat} {pos : Pos} {t x1 : Addr} {items : Array Value} {Q : Unit → Shared → Prop} (hot : HotAt A x1 s.heap) (ht : IsTup s.heap t items)
    (hn : (assignEach elts env).length = items.size) (hstar : (assignEach elts env).findIdx? (·.1) = none)
    (h : ∀ h', Heap.ExtBut s.heap.objs.size s.heap h' → wpAny (model prog w) A (assignInOrder ((assignEach elts env).map (·.2)) items.toList) Q E { s with heap := h' }) :
    wpAny (model prog w) A (assign (.Tuple elts k pos) env (.ref t)) Q E s := by
  rw [PyProof.Rows.assign_Tuple]
  refine wpAny_bind (wpAny_standAt ?_)
  unfold unpack
  rw [hn, hstar]
  exact wpAny_bind (wpAny_holding (unpackItems_hot hot ht h))
end
/-! ### the handled exception is told of, its context is None -/
def HotH (A : Around) (H : Hp) : Prop := ∃ (x1 : Addr) (oe : Obj) (vs : Array Value), A.handled = some (.ref x1) ∧ H x1 = some (frX oe) ∧ oe.data = .fields vs ∧ vs[2]? = some .none
theorem HotH.at {X : Cx} {pins : List (Addr × Obj)} {σ : L2.St} {H : Hp} {s : Shared} (h : HotH X.A H) (I : Inv X pins σ H s) : ∃ x1, HotAt X.A x1 s.heap ∧ H x1 ≠ none := by
  obtain ⟨x1, oe, vs, e1, e2, e3, e4⟩ := h
  obtain ⟨o1, _⟩ := I.hok x1 _ e2
  exact ⟨x1, ⟨e1, oe, vs, o1, e3, e4⟩, by rw [e2]; exact fun z => nomatch z⟩
theorem HotH.ext {K : KX} {A : Around} {ι ι' : List Addr} {H H' : Hp} (h : HotH A H) (e : Ext K ι H ι' H') : HotH A H' := by
  obtain ⟨x1, oe, vs, e1, e2, e3, e4⟩ := h
  exact ⟨x1, oe, vs, e1, e.exc _ _ rfl e2, e3, e4⟩
theorem HotH.ex0 {K : KX} {A : Around} {ι ι' : List Addr} {H H' : Hp} (h : HotH A H) (e : Ex0 K ι H ι' H') : HotH A H' := by
  obtain ⟨x1, oe, vs, e1, e2, e3, e4⟩ := h
  exact ⟨x1, oe, vs, e1, e.exc _ _ rfl e2, e3, e4⟩
/-- turns while an exception is handled: the stop knows it -/
structure TurnX (A0 : Around) (P : Program) (w : World) (K : PySem.W.Frag) (tg : Expr) (J : It) (fp : List Addr) (it : Addr) (tn : Nat → Heap → Prop) : Prop where
  mem : it ∈ fp
  obj : ∀ i h, tn i h → ∀ b ∈ fp, ∃ o, h.get? b = some o ∧ ∀ v, o.data ≠ .cell v
  keep : ∀ i h h', tn i h → (∀ b ∈ fp, ∀ o, h.get? b = some o → h'.get? b = some o) → tn i h'
  item : ∀ (X : Cx), X.prog = P → X.w = w → X.K = K → ∀ (i : Nat) (pins : List (Addr × Obj)) (s : Shared) (σ : L2.St) (H : Hp) (E : Value → Shared → Prop), Inv X pins σ H s → (∀ b ∈ fp, FpOk X pins H b) → tn i s.heap → J.go i H →
    wpAny (model P w) X.A (pyNext (.ref it)) (fun r s1 => ∃ u, r = some u ∧
      wpAny (model P w) X.A (letOwnedTupleGo tg (.ref it) u) (fun _ s2 => ∃ x H', Inv X pins σ H' s2 ∧ RelV x u ∧ J.yld i H x H' ∧ tn (i + 1) s2.heap ∧ ∀ b ∈ fp, H' b = none) E s1) E s
  done : ∀ (X : Cx), X.prog = P → X.w = w → X.K = K → X.A = A0 → ∀ (i : Nat) (pins : List (Addr × Obj)) (s : Shared) (σ : L2.St) (H : Hp) (E : Value → Shared → Prop), Inv X pins σ H s → (∀ b ∈ fp, FpOk X pins H b) → tn i s.heap → J.stop i H →
    wpAny (model P w) X.A (pyNext (.ref it)) (fun r s1 => r = none ∧ Inv X pins σ H s1) E s
  self : ∀ (A : Around) (i : Nat) (s : Shared) (Q : Value → Shared → Prop) (E : Value → Shared → Prop), tn i s.heap → Q (.ref it) s → wpAny (model P w) A (pyIter (.ref it)) Q E s
/-- the list at a, walked there -/
def Itlx (A : Around) (K : PySem.W.Frag) (a : Addr) : It := ⟨(Itl K a).go, (Itl K a).yld, fun i H => (Itl K a).stop i H ∧ HotH A H⟩
theorem turn_listX {A0 : Around} {P : Program} {w : World} {K : PySem.W.Frag} {tg : Expr} (a it : Addr) : TurnX A0 P w K tg (Itlx A0 K a) [it] it (fun i h => h.IsListIter it a i) where
  mem := by simp
  obj := fun i h st b hb => by
    have e : b = it := by simpa using hb
    subst e
    obtain ⟨o, e, c, d⟩ := st
    exact ⟨o, e, fun v z => by rw [d] at z; cases z⟩
  keep := fun i h h' st k => st.at fun o e => k it (by simp) o e
  item := by
    intro X hP hw hK i pins s σ H E I hf st hg
    subst hP hw hK
    obtain ⟨xs, x, hq, hx⟩ := hg
    obtain ⟨its, rv, p, hz⟩ := I.list hq
    obtain ⟨u, hu, ru⟩ := rv.get hx
    obtain ⟨f0, f1, f2, f3, f4, f5⟩ := hf it (by simp)
    refine wpAny_pyNext_list_item st p.isList (x := u) (by simpa using hu) fun h' st' sb => ?_
    have I1 : Inv X pins σ H { s with heap := h' } := I.turned (t' := s.toks) (fun b o hb e => (sb.2 b hb).trans e) f0 f1 f3 f4 f5
    obtain ⟨o, e, c, d⟩ := id st'
    exact ⟨u, rfl, go_of (s := { s with heap := h' }) e c d (by decide) ⟨x, H, I1, ru, ⟨rfl, fun ys hy => by rw [I.list_inj hy hq]; exact hx⟩, st', fun b hb => (hf b hb).1⟩⟩
  done := by
    intro X hP hw hK hA i pins s σ H E I hf st hg
    subst hP hw hK hA
    obtain ⟨⟨xs, hq, hx⟩, hot⟩ := hg
    obtain ⟨its, rv, p, hz⟩ := I.list hq
    obtain ⟨f0, f1, f2, f3, f4, f5⟩ := hf it (by simp)
    obtain ⟨x1, ha, hn⟩ := hot.at I
    have hl := rv.length
    exact next_list_end_hot ha (fun z => hn (z ▸ f0)) st p.isList (by simp; omega) fun h' eb => ⟨rfl, I.turned (t' := s.toks) (fun b o hb e => eb b o hb e) f0 f1 f3 f4 f5⟩
  self := fun _ _ _ _ _ st h => wpAny_pyIter_listiter st h
def PIEX (X : Cx) (pins : List (Addr × Obj)) (σ : L2.St) (tg : Expr) (R : It → Hp → Prop) (itv : Value) (s2 : Shared) : Prop :=
  ∃ (it : Addr) (fp : List Addr) (tn : Nat → Heap → Prop) (J : It) (H' : Hp), itv = .ref it ∧ Inv X pins σ H' s2 ∧ TurnX X.A X.prog X.w X.K tg J fp it tn ∧ tn 0 s2.heap ∧ (∀ b ∈ fp, FpOk X pins H' b) ∧ R J H'
structure PIX (X : Cx) (tg iter : Expr) (wi : TI) : Prop where
  run : ∀ (pins : List (Addr × Obj)) (s : Shared) (σ : L2.St) (H : Hp) (R : It → Hp → Prop), Inv X pins σ H s → wi σ H R →
    wpAny (model X.prog X.w) X.A (eval iter X.env) (fun v s1 => wpAny (model X.prog X.w) X.A (pyIter v) (PIEX X pins σ tg R) X.xe s1) X.xe s
theorem PIX.imp {X : Cx} {tg iter : Expr} {t t' : TI} (h : PIX X tg iter t) (k : ∀ σ H R, t' σ H R → t σ H R) : PIX X tg iter t' := ⟨fun pins s σ H R I q => h.run pins s σ H R I (k σ H R q)⟩
def iLstX (A : Around) (K : PySem.W.Frag) (te : TE) : TI := fun σ H R => te σ H fun x H1 => ∃ a, x = .ref a ∧ (∃ xs, SqL K H1 a xs) ∧ R (Itlx A K a) H1
theorem pix_list {X : Cx} {tg l : Expr} {tl : TE} (hl : PE X l tl) : PIX X tg l (iLstX X.A X.K tl) := by
  refine ⟨fun pins s σ H R I h => ?_⟩
  refine thn (hl.run pins s σ H _ I h) fun v s1 ⟨x, H1, I1, r1, q1⟩ => ?_
  obtain ⟨a, e, ⟨xs, hq⟩, q⟩ := q1
  subst e
  cases r1
  obtain ⟨its, rv, p, hz⟩ := I1.list hq
  refine PySem.wpAny_pyIter_list p.isList ?_
  refine ⟨s1.heap.objs.size, [s1.heap.objs.size], _, _, H1, rfl, I1.kept (t' := s1.toks) fun b o e => Heap.get?_push_of_some _ e, turn_listX a _, ⟨_, Heap.get?_push_size _ rfl, rfl, rfl⟩, fun b hb => ?_, q⟩
  have e : b = s1.heap.objs.size := by simpa using hb
  subst e
  exact I1.fpOk (Nat.le_refl _) (I1.hok.fresh (Nat.le_refl _))
/-- what the derivation began with knows the handled exception -/
def HotB (X : Cx) (B : Bs) : Prop := HotH X.A B.H
theorem itr_objX {K : KX} {A : Around} {ι : List Addr} {H : Hp} {a : Addr} {n : Nat} {ds : List D} (hot : HotH A H) (h : ι[n]? = some a) : ItR K ι H (Itlx A K.f a) ⟨isAt n ds, ds⟩ := by
  intro ι1 H1 S1 e1 r1 hc
  obtain ⟨h1, h2⟩ := itr_obj h ι1 H1 S1 e1 r1 hc
  exact ⟨h1, h2, hot.ex0 e1⟩
theorem i_lstX {X : Cx} {B : Bs} {tg e : Expr} {x : AE} (hot : HotB X B) (he : PE X e (eOf (kx X) B x)) : PIX X tg e (iOf (kx X) B fun a S P => x a S fun d S1 => match d with | .obj n => rdL S1 n fun l => P ⟨isAt n l, l⟩ S1 | _ => False) := by
  refine PIX.imp (pix_list he) fun σ H R h => ?_
  obtain ⟨ι, a, S, P, g, h, k⟩ := h
  refine ⟨ι, a, S, _, g, h, fun ι1 H1 v d S1 e1 r1 v1 h1 => ?_⟩
  cases v1 with
  | obj h2 =>
    obtain ⟨l, e2, h1⟩ := rdL_out h1
    obtain ⟨vs, q1, q2⟩ := r1.ob _ _ _ h2 e2
    exact ⟨_, rfl, ⟨_, .of q1⟩, k _ _ _ _ _ e1 r1 (itr_objX (hot.ext (g.ext.trans e1)) h2) h1⟩
  | _ => exact h1.elim
end Ab

/-! [elt for target in a list if ..], while an exception is handled -/
namespace Ab
open PySem PySem.Spec PyProof.Rows L2 HotX
section
variable {X : Cx} {elt tg iter : Expr} {ifs : List Expr} {scope : Scope} {own : List (Str × Nat)} {wi : TI} {g : TG} {tt : TT} {te : TE}
/-- the block of a comprehension as one reads it: its target, its tests, its item -/
structure BlkX (X : Cx) (tg : Expr) (ifs : List Expr) (elt : Expr) (scope : Scope) (g : TG) (tt : TT) (te : TE) : Prop where
  pg : ∀ (s : Shared) (H : Hp) (C : Addr) (cl : List (Str × Addr)) (fp : List Addr), PG (X.blk s H scope (compEnvC scope cl C X.env) fp) tg g
  pt : ∀ (s : Shared) (H : Hp) (C : Addr) (cl : List (Str × Addr)) (fp : List Addr), PTs (X.blk s H scope (compEnvC scope cl C X.env) fp) ifs tt
  pe : ∀ (s : Shared) (H : Hp) (C : Addr) (cl : List (Str × Addr)) (fp : List Addr), PE (X.blk s H scope (compEnvC scope cl C X.env) fp) elt te
theorem lcX_run {pins : List (Addr × Obj)} {s : Shared} {σ : L2.St} {H : Hp} {Q : VK} {pos pos' : Pos} {use : Option (Value → Sem Unit)} {Qf : Value → Shared → Prop}
    (hN : X.N.Nodup) (I : Inv X pins σ H s) (hi : PIX X tg iter wi) (ok : BlkOk X.N X.env.scope scope own) (b : BlkX X tg ifs elt scope g tt te) (hs : ∀ x, foldedSetIterable iter X.env x = pure x) (h : tLc wi g tt te (own.map (·.2)) σ H Q)
    (hR : ∀ D C s' m H', Inv X pins σ H' s' → Q (.ref D) H' → s'.heap.Ns C m → FpOk X pins H' C → compPost (model X.prog X.w) X.A X.xe use Qf (.ref D) C (.ok .next) s') :
    wpAny (model X.prog X.w) X.A (comprehension (.ListComp elt [⟨tg, iter, ifs, 0⟩] scope pos) scope X.env pos' (newList []) false (eval iter X.env) use) Qf X.xe s := by
  have free : ∀ y ∈ scope.names, y.2 = .free → ∃ c, X.env.cells.lookup y.1 = some c := fun y hy e => (ok.free y hy e).elim (fun k => I.ok.has _ (.inl k)) fun k => I.ok.has _ (.inr k)
  refine wpAny_comprehension_free (use := use) rfl hs (closure_ok free) ok.kind (fun y hy e => by rw [ok.uniq y hy, e])
    (thn (hi.run pins s σ H _ I h) fun xv s1 hx => thn hx fun itv s2 h2 => ?_)
  obtain ⟨it, fp, tn, J, H2, rfl, I2, T, st2, f2, q⟩ := h2
  refine wpAny_newObj_type (newEnv_comp ?_) (by show 0 ≤ sizeLine; decide)
  obtain ⟨D, hD⟩ : ∃ D, D = s2.heap.objs.size := ⟨_, rfl⟩
  rw [← hD]
  have nD : H2 D = none := I2.hok.fresh (Nat.le_of_eq hD.symm)
  obtain ⟨W, ⟨m0, w0⟩, turn⟩ := q D nD
  obtain ⟨s3, e3⟩ : ∃ s3 : Shared, s3 = { s2 with heap := s2.heap.push { cls := .type "list", data := .seq ([] : List Value).toArray } } := ⟨_, rfl⟩
  rw [← e3]
  have I3 : Inv X pins σ (upd H2 D (.lst [])) s3 := by
    rw [e3]
    refine I2.laid (t' := s2.toks) (fun b o e => Heap.get?_push_of_some _ e) (Nat.le_of_eq hD.symm) ⟨Nat.zero_le _, [], 0, .nil, ?_⟩
    rw [hD]
    exact Heap.get?_push_size _ rfl
  have h3 : s3.heap = s2.heap.push { cls := .type "list", data := .seq ([] : List Value).toArray } := by rw [e3]
  have f3 : ∀ b ∈ fp, FpOk X pins (upd H2 D (.lst [])) b ∧ b < s3.heap.objs.size := fun b hb => by
    obtain ⟨o, e, _⟩ := T.obj _ _ st2 b hb
    have lt := Heap.lt_size e
    exact ⟨⟨by rw [upd_ne (by rw [hD]; exact Nat.ne_of_lt lt)]; exact (f2 b hb).1, (f2 b hb).2⟩, by rw [h3, Heap.size_push]; exact Nat.lt_succ_of_lt lt⟩
  have st3 : tn 0 s3.heap := T.keep _ _ _ st2 fun b _ o e => by rw [h3]; exact Heap.get?_push_of_some _ e
  have I4 := block_start I3 ok hN f3
  have pg := b.pg s3 (upd H2 D (.lst [])) s3.heap.objs.size (cellsFrom (s3.heap.objs.size + 1) scope.names (cloFrom X.env.cells scope.names [])) fp
  have pt := b.pt s3 (upd H2 D (.lst [])) s3.heap.objs.size (cellsFrom (s3.heap.objs.size + 1) scope.names (cloFrom X.env.cells scope.names [])) fp
  have pe := b.pe s3 (upd H2 D (.lst [])) s3.heap.objs.size (cellsFrom (s3.heap.objs.size + 1) scope.names (cloFrom X.env.cells scope.names [])) fp
  show codeAny _ _ (.compStart (.ListComp elt [⟨tg, iter, ifs, 0⟩] scope pos) 0 (.ref it) (.ref D) (compEnvC scope (cellsFrom (s3.heap.objs.size + 1) scope.names (cloFrom X.env.cells scope.names [])) s3.heap.objs.size X.env)) (compPost (model X.prog X.w) X.A X.xe use Qf (.ref D) s3.heap.objs.size) { s3 with heap := pushCells (s3.heap.push { cls := .type "dict", data := .dict #[] }) scope.names }
  have n3 : ∀ b ∈ fp, (upd H2 D (.lst [])) b = none := fun b hb => (f3 b hb).1.1
  generalize hce : compEnvC scope (cellsFrom (s3.heap.objs.size + 1) scope.names (cloFrom X.env.cells scope.names [])) s3.heap.objs.size X.env = ce at I4 pg pt pe ⊢
  have cL : ce.locals = s3.heap.objs.size := by subst hce; rfl
  generalize upd H2 D (.lst []) = H3 at I3 I4 pg pt pe w0 n3 f3
  generalize hs4 : ({ s3 with heap := pushCells (s3.heap.push { cls := .type "dict", data := .dict #[] }) scope.names } : Shared) = s4 at I4 ⊢
  have st4 : tn 0 s4.heap := T.keep _ _ _ st3 fun b _ o e => by rw [← hs4]; exact pushCells_keeps _ _ _ _ (Heap.get?_push_of_some _ e)
  have stat : ∀ {σ' : L2.St} {H' : Hp} {s' : Shared}, Inv (X.blk s3 H3 scope ce fp) [] σ' H' s' → (∀ b ∈ fp, H' b = none) → ∀ b ∈ fp, FpOk (X.blk s3 H3 scope ce fp) [] H' b := fun {σ' H' s'} I' hn b hb =>
    ⟨hn b hb, (I'.ok.exf b hb).1, I'.ok.exfs b hb, .inl hb, fun x c e => (I'.ok.exf b hb).2 x c e, fun p hp => absurd (show p ∈ ([] : List (Addr × Obj)) ++ [] from hp) (by simp)⟩
  have loop : codeAny (model X.prog X.w) X.A (.compLoop (.ListComp elt [⟨tg, iter, ifs, 0⟩] scope pos) 0 (.ref it) (.ref D) ce) (compPost (model X.prog X.w) X.A X.xe use Qf (.ref D) s3.heap.objs.size) s4 := by
    refine compLoop_any (fun n s' => ∃ i H', Inv (X.blk s3 H3 scope ce fp) [] (wipe σ (own.map (·.2))) H' s' ∧ tn i s'.heap ∧ (∀ b ∈ fp, H' b = none) ∧ W i n H') (fun n s5 ⟨i, H5, I5, st5, n5, w5⟩ => ?_) m0 ⟨0, H3, I4, st4, n3, w0⟩
    rcases turn i n H5 w5 with ⟨stop, qq⟩ | ⟨go, Nx, hNx, step⟩
    · refine thnF (T.done (X.blk s3 H3 scope ce fp) rfl rfl rfl rfl i [] s5 _ H5 (fun _ _ => False) I5 (stat I5 n5) st5 stop) fun r s6 ⟨hr, I6⟩ => ?_
      subst hr
      have I7 : Inv X pins σ H5 s6 := I3.call' (ch := fp) I6.os I6.base I6.hok I6.bare fun b hb => ⟨(f3 b hb).1.2.2.2.1, (f3 b hb).1.2.1, (f3 b hb).1.2.2.2.2.1, (f3 b hb).1.2.2.2.2.2⟩
      have nC : H5 s3.heap.objs.size = none := cL ▸ I6.free
      obtain ⟨m, hn, _⟩ := I6.loc
      exact hR D s3.heap.objs.size s6 m H5 I7 qq (cL ▸ hn) (I3.fpOk (Nat.le_refl _) nC)
    · refine thnF (T.item (X.blk s3 H3 scope ce fp) rfl rfl rfl i [] s5 _ H5 (fun _ _ => False) I5 (stat I5 n5) st5 go) fun r s6 ⟨u, hr, h6⟩ => ?_
      subst hr
      refine thnF h6 fun _ s7 ⟨x, H7, I7, r7, y7, st7, n7⟩ => ?_
      refine thnF (pg.run _ s7 _ H7 x u _ (I7.pinned (stat I7 n7) (T.obj _ _ st7)) r7 (step x H7 y7)) fun _ s8 ⟨σ8, H8, I8, hw8, q8⟩ => ?_
      refine thnF (pt.run _ s8 σ8 H8 _ I8 q8) fun b s9 ⟨H9, I9, q9⟩ => ?_
      have fin : ∀ {s' : Shared} {H' : Hp}, Inv (X.blk s3 H3 scope ce fp) ([] ++ pinsAt fp s7.heap) σ8 H' s' → Nx H' → ∃ m, m < n ∧ ∃ i H', Inv (X.blk s3 H3 scope ce fp) [] (wipe σ (own.map (·.2))) H' s' ∧ tn i s'.heap ∧ (∀ b ∈ fp, H' b = none) ∧ W i m H' := fun {s' H'} I' nx => by
        obtain ⟨m', hm, w'⟩ := hNx H' nx
        have pin' : ∀ b ∈ fp, ∀ o, s7.heap.get? b = some o → s'.heap.get? b = some o ∧ H' b = none := fun b hb o e =>
          have z := I'.pin (b, o) (List.mem_append_right _ (List.mem_append_right _ (mem_pinsAt hb e)))
          ⟨z.1, z.2.1⟩
        refine ⟨m', hm, i + 1, H', (I'.unpinned (pins := [])).weak (by rw [← hw8, wipe_length]) (fun j v e => ?_), T.keep _ _ _ st7 fun b hb o e => (pin' b hb o e).1, fun b hb => ?_, w'⟩
        · rw [← hw8] at e
          exact (wipe_some e).1
        · obtain ⟨o, e, _⟩ := T.obj _ _ st7 b hb
          exact (pin' b hb o e).2
      cases b with
      | false =>
        simp only [Bool.false_eq_true, if_false] at q9 ⊢
        exact fin I9 q9
      | true =>
        simp only [if_true] at q9 ⊢
        refine thnF (pe.run _ s9 σ8 H9 _ I9 q9) fun z s10 ⟨yv, H10, I10, r10, acc, hD10, hz10, nx⟩ => ?_
        exact app_ok (X := X.blk s3 H3 scope ce fp) I10 hD10 hz10 r10 fun s11 I11 => fin I11 nx
  exact codeAny_compStart_list loop (T.self X.A 0 _ _ _ st4 loop)
theorem pe_lcX {pos : Pos} (hN : X.N.Nodup) (hi : PIX X tg iter wi) (ok : BlkOk X.N X.env.scope scope own) (b : BlkX X tg ifs elt scope g tt te) (hs : ∀ x, foldedSetIterable iter X.env x = pure x := by intro _; rfl) :
    PE X (.ListComp elt [⟨tg, iter, ifs, 0⟩] scope pos) (tLc wi g tt te (own.map (·.2))) := by
  refine ⟨fun pins s σ H Q I h => ?_⟩
  rw [eval_ListComp]
  refine lcX_run hN I hi ok b hs h fun D C s' m H' I' q hn f => ⟨m, hn, fun h'' sb => ?_⟩
  obtain ⟨f0, f1, f2, f3, f4, f5⟩ := f
  exact ⟨.ref D, H', I'.turned (t' := s'.toks) (fun b o hb e => (sb.2 b hb).trans e) f0 f1 f3 f4 f5, rfl, q⟩
end
/-! ### unpacking a tuple there -/
def gTupX (A : Around) (K : PySem.W.Frag) (n : Nat) (t : TGs) : TG := fun v σ H Q => HotH A H ∧ gTup K n t v σ H Q
theorem pg_tupX {X : Cx} {pos : Pos} {es : List Expr} {k n : Nat} {t : TGs} (h : PGs X es t) (hn : (assignEach es X.env).length = n := by rfl) (hst : (assignEach es X.env).findIdx? (·.1) = none := by rfl) : PG X (.Tuple es k pos) (gTupX X.A X.K n t) := by
  refine ⟨fun pins s σ H v u Q I r ⟨hot, hw⟩ => ?_⟩
  obtain ⟨a, xs, rfl, hq, hl, hw⟩ := hw
  cases r
  obtain ⟨its, rv, ht, hz⟩ := I.tuple hq
  obtain ⟨x1, ha, _⟩ := hot.at I
  refine assign_tuple_hot ha ht (by simp [hn, ← hl, rv.length]) hst fun h' hx => ?_
  exact h.run pins _ σ H xs _ Q (I.kept (t' := s.toks) fun b o e => hx b o (Nat.ne_of_lt (Heap.lt_size e)) e) (by simpa using rv) hw
def TgOkX (A : Around) (K : KX) (g : TG) (ag : AG) (vs : List Nat) : Prop := ∀ (ι : List Addr) (H : Hp) (S : Sto) (x : V) (d : D) (σ : L2.St) (a : AS) (P : AS → Sto → Prop) (R : L2.St → Hp → Prop), HotH A H → VR K ι H x d → SR K ι H (L2.wipe σ vs) a → ag d a S P →
  (∀ σ2 a2, L2.wipe σ2 vs = L2.wipe σ vs → SR K ι H σ2 a2 → P a2 S → R σ2 H) → g x (L2.wipe σ vs) H R
theorem TgOk.x {A : Around} {K : KX} {g : TG} {ag : AG} {vs : List Nat} (h : TgOk K g ag vs) : TgOkX A K g ag vs := fun ι H S x d σ a P R _ r s q k => h ι H S x d σ a P R r s q k
theorem tg_twoX {A : Around} {K : KX} {i j : Nat} {vs : List Nat} (hi : i ∈ vs) (hj : j ∈ vs) : TgOkX A K (gTupX A K.f 2 (gCons (gName i) (gCons (gName j) gNil))) (gN2 i j) vs := fun ι H S x d σ a P R ho r s h k => ⟨ho, by
  cases r with
  | @tup ad xs ds h1 h2 =>
    obtain ⟨hl, h⟩ : _ ∧ _ := h
    match ds, h2, hl, h with
    | [d1, d2], h2, _, h =>
      obtain ⟨v, u, rfl, rv, ru⟩ := h2.two
      exact ⟨ad, _, rfl, .of h1, rfl, _, _, rfl, _, _, rfl, rfl, k _ _ (by rw [wipe_set hj, wipe_set hi, wipe_wipe]) ((s.set rv i).set ru j) h⟩
  | _ => exact h.elim⟩
section
variable {X : Cx} {B : Bs}
theorem lc_ofX {it : AI} {g : TG} {ag : AG} {t : AT} {x : AE} {vs : List Nat} {σ : L2.St} {H : Hp} {Q : VK} (hot : HotB X B) (hg : TgOkX X.A (kx X) g ag vs) (h : eOf (kx X) B (aLc it ag t x vs) σ H Q) : tLc (iOf (kx X) B it) g (tOf (kx X) B t) (eOf (kx X) B x) vs σ H Q := by
  obtain ⟨ι, a, S, P, gd, h, k⟩ := h
  refine ⟨ι, a, S, _, gd, h, fun ι1 H1 S1 J I e1 r1 J1 h1 => fun D hD => ?_⟩
  have E1 := gd.ext.trans e1
  have D1 := r1.out hD
  refine ⟨fun i m H => m = I.items.length - i ∧ i ≤ I.items.length ∧ ∃ ι S acc us, Ext (kx X) ι1 H1 ι H ∧ RS (kx X) ι H S ∧ D ∉ ι ∧ H D = some (.lst us) ∧ VRs (kx X) ι H us acc ∧ lcLoop I.chk ag t x (wipeA a vs) (fun ys S2 => P (.obj S2.length) (S2 ++ [.lst ys])) (I.items.drop i) acc S,
    ⟨I.items.length, by simp, Nat.zero_le _, ι1, S1, [], [], ext_fresh hD D1, r1.fresh hD, D1, upd_same, .nil, by simpa using h1⟩, ?_⟩
  rintro i m H2 ⟨rfl, hi, ι2, S2, acc, us, e2, r2, D2, hD2, v2, h2⟩
  by_cases hl : i < I.items.length
  · rw [List.drop_eq_getElem_cons hl] at h2
    obtain ⟨hc, h2⟩ : I.chk S2 ∧ _ := h2
    obtain ⟨go, yl⟩ := (J1 ι2 H2 S2 e2.to0 r2 hc).1 i hl
    refine .inr ⟨go, fun H => ∃ ι S acc us, Ext (kx X) ι1 H1 ι H ∧ RS (kx X) ι H S ∧ D ∉ ι ∧ H D = some (.lst us) ∧ VRs (kx X) ι H us acc ∧ lcLoop I.chk ag t x (wipeA a vs) (fun ys S2 => P (.obj S2.length) (S2 ++ [.lst ys])) (I.items.drop (i + 1)) acc S, fun H' n => ⟨_, by omega, rfl, hl, n⟩, fun y H' yy => ?_⟩
    obtain ⟨d, hd, e3, r3, v3⟩ := yl y H' yy
    have ed : I.items[i] = d := Option.some.inj ((List.getElem?_eq_getElem hl).symm.trans hd)
    rw [ed] at h2
    have D3 : H' D = some (.lst us) := e3.frame D _ D2 hD2
    have s3 := ((gd.sr.up e1).wipe vs)
    have s3' : SR (kx X) ι2 H' (L2.wipe σ vs) (wipeA a vs) := (s3.up e2).up e3
    refine hg ι2 H' S2 y d σ _ _ _ (hot.ext ((E1.trans e2).trans e3)) v3 s3' h2 fun σ5 a5 w5 s5 h5 => ⟨w5, ?_⟩
    have E3 := (E1.trans e2).trans e3
    refine ⟨ι2, a5, S2, _, ⟨E3, r3, s5⟩, h5, fun ι6 H6 b S6 e6 r6 h6 => ?_⟩
    rw [iteP_def] at h6
    have D6 : H6 D = some (.lst us) := e6.frame D _ D2 D3
    have N6 : D ∉ ι6 := fun m => by
      have z := e6.fresh D m D2
      rw [D3] at z
      cases z
    have E6 : Ext (kx X) ι1 H1 ι6 H6 := (e2.trans e3).trans e6
    cases b with
    | true =>
      rw [if_pos rfl] at h6 ⊢
      refine ⟨ι6, a5, S6, _, ⟨E3.trans e6, r6, s5.up e6⟩, h6, fun ι7 H7 z dz S7 e7 r7 v7 h7 => ?_⟩
      have D7 : H7 D = some (.lst us) := e7.frame D _ N6 D6
      have N7 : D ∉ ι7 := fun m => by
        have q := e7.fresh D m N6
        rw [D6] at q
        cases q
      have v2' : VRs (kx X) ι7 H7 us acc := ((v2.up e3).up e6).up e7
      have x0 := ex0_hid (K := (kx X)) (ι := ι7) (o := .lst (us ++ [z])) D7
      refine ⟨us, D7, by rw [v2.length]; exact h7.1, ι7, S7, acc ++ [dz], us ++ [z], ext_hid (E6.trans e7) hD, r7.hid D7 N7, N7, upd_same, ?_, h7.2⟩
      exact VRs.append (VRs.ex0 x0 _ _ v2') (.cons (VR.ex0 x0 _ _ v7) .nil)
    | false =>
      rw [if_neg Bool.false_ne_true] at h6 ⊢
      exact ⟨ι6, S6, acc, us, E6, r6, N6, D6, (v2.up e3).up e6, h6⟩
  · have ei : i = I.items.length := by omega
    subst ei
    rw [List.drop_length] at h2
    obtain ⟨hc, h2⟩ : I.chk S2 ∧ _ := h2
    exact .inl ⟨(J1 ι2 H2 S2 e2.to0 r2 hc).2, k _ _ _ _ _ (e1.trans (ext_adopt e2 hD)) (r2.adopt hD2 D2 v2) (by rw [← r2.len]; exact VR.new) h2⟩
/-- [elt for target in a list if ..], of a list with an identity -/
def iObj (x : AE) : AI := fun a S P => x a S fun d S1 => match d with | .obj n => rdL S1 n fun l => P ⟨isAt n l, l⟩ S1 | _ => False
theorem a_lcX {elt tg e : Expr} {ifs : List Expr} {scope : Scope} {own : List (Str × Nat)} {pos : Pos} {y : AE} {g : TG} {ag : AG} {t : AT} {x : AE} (hot : HotB X B) (hN : X.N.Nodup) (hy : PE X e (eOf (kx X) B y)) (ok : BlkOk X.N X.env.scope scope own) (hT : TgOkX X.A (kx X) g ag (own.map (·.2)))
    (hg : ∀ (s : Shared) (H : Hp) (C : Addr) (cl : List (Str × Addr)) (fp : List Addr), PG (X.blk s H scope (compEnvC scope cl C X.env) fp) tg g) (ht : ∀ (s : Shared) (H : Hp) (C : Addr) (cl : List (Str × Addr)) (fp : List Addr), PTs (X.blk s H scope (compEnvC scope cl C X.env) fp) ifs (tOf (kx X) B t))
    (he : ∀ (s : Shared) (H : Hp) (C : Addr) (cl : List (Str × Addr)) (fp : List Addr), PE (X.blk s H scope (compEnvC scope cl C X.env) fp) elt (eOf (kx X) B x)) (hs : ∀ x, foldedSetIterable e X.env x = pure x := by intro _; rfl) :
    PE X (.ListComp elt [⟨tg, e, ifs, 0⟩] scope pos) (eOf (kx X) B (aLc (iObj y) ag t x (own.map (·.2)))) :=
  PE.imp (pe_lcX hN (i_lstX hot hy) ok ⟨hg, ht, he⟩ hs) fun _ _ _ h => lc_ofX hot hT h
end
end Ab

/-! defs that are called while an exception is handled -/
theorem L2H.RoomH.u {k : Nat} {A : PySem.Around} (r : L2H.RoomH k A) : Ab.RmU k A := ⟨r.un⟩
theorem L2H.RoomH.units {k : Nat} {A : PySem.Around} (r : L2H.RoomH k A) : A.units + 64 < PySem.cLine := by have := r.un; omega
namespace Ab
open PySem PySem.Spec PyProof.Rows L2 HotX
open L2H (RoomH)
/-- as A, where nothing is handled -/
abbrev coolA (A : Around) : Around := { A with handled := none }
/-- a def's promise there -/
structure FnHot (P : Program) (w : World) (K : PySem.W.Frag) (mg : Str → Option Value) (base : Heap) (k : Nat) (f : Addr) (fd : FuncData) (ps : List Str) (sp : Sp) : Prop where
  len : ∀ vs H Q E, sp vs H Q E → vs.length = ps.length
  run : ∀ (A : Around) (outer : List Env) (s : Shared) (H : Hp) (args : Args) (us : List Value) (vs : List V) (Q : VK) (E : XK), RoomH k A → HotH A H → Env0 P w K mg base A outer s H → BindsTo s fd args (ps.zip us) → Vals vs us → sp vs H Q E →
    codeAny (model P w) A (.call (.ref f) args) (CR CX0 outer P w H s Q E) s
/-- the context of such a def's body -/
def cxHot (P : Program) (w : World) (K : PySem.W.Frag) (mg : Str → Option Value) (base : Heap) (N : List Str) (qual : Str) (scope : Scope) (f : Addr) (cd : Value) (A : Around) (outer : List Env) (s : Shared) (H : Hp) (E : XK) : Cx :=
  { cxOf CX0 P w K mg base N qual scope f cd A outer s H E with calm := false }
theorem inv_hot {P : Program} {w : World} {K : PySem.W.Frag} {mg : Str → Option Value} {base : Heap} {N ps : List Str} {qual : Str} {scope : Scope} {f : Addr} {cd : Value} {A : Around} {outer : List Env} {s s1 : Shared} {H : Hp} {E : XK} {us : List Value} {vs : List V}
    (S : FnScope N ps scope) (e0 : Env0 P w K mg base A outer s H) (hl : vs.length = ps.length) (r : Vals vs us)
    (x : InCallC s s.heap.objs.size (bindL (PyProof.Rows.envOfC qual scope s.heap.objs.size f cd).kindOf (ps.zip us) fun _ => none) (cellsFrom (s.heap.objs.size + 1) scope.names []) (bindC (PyProof.Rows.envOfC qual scope s.heap.objs.size f cd).kindOf (ps.zip us) fun _ => none) s1) :
    L2.Inv (cxHot P w K mg base N qual scope f cd A outer s H E) [] (start N vs) H s1 := by
  have e1 : Env0 P w K mg base (coolA A) outer s H := ⟨e0.frames, e0.mod, e0.bs, e0.bsz, e0.funs, e0.frf, e0.hok, e0.bare⟩
  have I := inv_start (CX := CX0) (E := E) (A := coolA A) S rfl e1 hl r x
  exact ⟨⟨I.ok.mod, I.ok.kind, I.ok.glob, I.ok.blt, I.ok.above, I.ok.inj, I.ok.has, I.ok.cab, (fun z => absurd (show false = true from z) Bool.false_ne_true), I.ok.frames, I.ok.stk, I.ok.exf, I.ok.bs, I.ok.bsz, I.ok.noex, I.ok.exfs, I.ok.funs, I.ok.frf⟩, I.os, I.bare, I.base, I.loc, I.cell, I.free, I.freeC, I.pin, I.hok, I.len⟩
theorem fn_hot {P : Program} {w : World} {K : PySem.W.Frag} {mg : Str → Option Value} {base : Heap} {k : Nat} {f : Addr} {name qual : Str} {params : Arguments} {body : List Stmt} {scope : Scope} {dV kV doc pm cdv ct oc : Value} {an od : Option Addr}
    {osl : Array (Option Value)} {N ps : List Str} {sp : Sp} (lk : K.lookup f = some ⟨oc, od, .func (PySem.W.fnOf name qual params body scope dV kV doc pm an cdv ct), osl⟩) (hcd : PySem.W.codeIn K cdv qual = true) (S : FnScope N ps scope)
    (len : ∀ vs H Q E, sp vs H Q E → vs.length = ps.length)
    (hbody : ∀ (A : Around) (outer : List Env) (s : Shared) (H : Hp) (vs : List V) (Q : VK) (E : XK), RoomH k (A.deeper (PyProof.Rows.envOfC qual scope s.heap.objs.size f cdv)) → HotH A H → sp vs H Q E →
      ∃ t, PSs (cxHot P w K mg base N qual scope f cdv A outer s H E) body t ∧ t { nx := fun _ H' => Q .non H', rt := Q } (start N vs) H) :
    FnHot P w K mg base (k + 1) f (PySem.W.fnOf name qual params body scope dV kV doc pm an cdv ct) ps sp := by
  refine ⟨len, fun A outer s H args us vs Q E hr hot e0 hb r hsp => ?_⟩
  have hl := len _ _ _ _ hsp
  have hk := e0.mod.kin.keeps fun b o e => (e0.bs b o e).1
  have lim := e0.mod.nolimit.keeps fun b o e => (e0.bs b o e).1
  refine codeAny_call_function hr.depth (hk _ _ lk) rfl S.co S.gen rfl (PySem.W.codeRec_of hk hcd) (hb _ _ _ _ ?_)
  refine wpAny_newFunctionEnv_cells S.kind (fun ⟨n, v⟩ hy => ?_) fun env he s1 x => ?_
  · rcases S.par n (List.of_mem_zip hy).1 with q | q
    · exact .inl q
    · exact .inr ⟨q, PySem.W.cellsFrom_some _ _ _ (.inl q)⟩
  subst he
  refine ⟨lim.keeps x.toInCall.keep, codeAny_func ?_⟩
  obtain ⟨t, ht, hq⟩ := hbody A outer s H vs Q E (hr.deeper _) hot hsp
  have I : L2.Inv (cxHot P w K mg base N qual scope f cdv A outer s H E) [] (start N vs) H s1 := inv_hot S e0 hl r x
  refine wpAny_mono (ht.run [] s1 (start N vs) H _ I hq) (fun fl s' hs => ?_) fun e s' hs => hs
  match fl, hs with
  | .ret u, ⟨v, σ', H', J, rv, q⟩ => exact ⟨v, H', J.os, J.bare, J.base, J.hok, rv, q⟩
  | .next, ⟨σ', H', J, q⟩ => exact ⟨.non, H', J.os, J.bare, J.base, J.hok, (rfl : L2.RelV V.non Value.none), q⟩
  | .brk, ⟨_, _, _, q⟩ => exact False.elim q
  | .cont, ⟨_, _, _, q⟩ => exact False.elim q
def OkHot (P : Program) (w : World) (K : PySem.W.Frag) (mg : Str → Option Value) (base : Heap) (k : Nat) (x : Str) (st : Stmt) (ps : List Str) (sp : FN) : Prop :=
  ∃ fd, FunD K x x (defArgs st) (defBody st) (defScope st) [] [] (He.ga K x) fd ∧ Binds K fd ps [] ∧ FnHot P w K mg base k (He.ga K x) fd ps (spOf ⟨K, P, w⟩ sp)
theorem okhot_of {P : Program} {w : World} {K : PySem.W.Frag} {mg : Str → Option Value} {base : Heap} {x : Str} {st : Stmt} {N ps : List Str} {k n : Nat} {sp : FN} {as : AX} {fd : FuncData} (F : FunD K x x (defArgs st) (defBody st) (defScope st) [] [] (He.ga K x) fd) (C : FnScope N ps (defScope st)) (len : Ar ps.length sp) (hn : N.length = n)
    (hb : ∀ (kV doc pm : Value) (an : Option Addr) (cdv ct : Value) (us : List Value), us.length = ps.length → bindArgs (PySem.W.fnOf x x (defArgs st) (defBody st) (defScope st) .none kV doc pm an cdv ct) ⟨us, []⟩ = pure (ps.zip us))
    (hbody : ∀ (cdv : Value) (A : Around) (outer : List Env) (s : Shared) (H : Hp) (E : XK) (B : Bs), RoomH k (A.deeper (PyProof.Rows.envOfC x (defScope st) s.heap.objs.size (He.ga K x) cdv)) → HotH A B.H →
      PSs (cxHot P w K mg base N x (defScope st) (He.ga K x) cdv A outer s H E).nox (defBody st) (sOf ⟨K, P, w⟩ B as))
    (hsem : ∀ ds S P, sp ds S P → as { nx := fun _ S' => P .non S', rt := P } (aStart n ds) S) : OkHot P w K mg base (k + 1) x st ps sp := by
  refine ⟨fd, F, F.bindsN hb, ?_⟩
  obtain ⟨oc, od, dV, kV, doc, pm, an, cdv, ct, osl, e, lk, hcd, hD, _⟩ := F.ex
  subst e
  refine fn_hot lk hcd C (fun vs H Q E h => ?_) fun A outer s H vs Q E hr hot h => ?_
  · obtain ⟨ι, ds, S, P, _, v, h, _⟩ := h
    rw [v.length]
    exact len _ _ _ h
  · obtain ⟨ι, ds, S, Pq, r, v, h, k⟩ := h
    refine ⟨_, (hbody cdv A outer s H E ⟨ι, H, fun _ _ _ _ => False⟩ hr hot).nox, ?_⟩
    refine ⟨ι, aStart n ds, S, _, ⟨.refl, r, ?_⟩, hsem ds S Pq h, ⟨fun ι' H' σ' a' S' e1 r1 _ h1 => k _ _ _ _ _ e1 r1 .non h1, fun ι' H' v d S' e1 r1 v1 h1 => k _ _ _ _ _ e1 r1 v1 h1, fun _ _ _ _ _ _ _ _ h1 => h1, fun _ _ _ _ _ _ _ _ h1 => h1, fun _ _ _ _ _ _ _ _ _ _ _ _ _ _ h1 => h1⟩⟩
    show SR ⟨K, P, w⟩ ι H (vs.map some ++ List.replicate (N.length - vs.length) none) (aStart n ds)
    unfold aStart
    rw [v.length, hn]
    exact sr_start _ v
section
variable {X : Cx} {B : Bs} {st : Stmt} {ps : List Str} {sp : FN} {n : Str} {p pos : Pos} {e : Expr} {es : List Expr} {z : AA} {k : Nat}
/-- f(e, ..) there -/
theorem a_callHot (hot : HotB X B) (F : OkHot X.prog X.w X.K X.mg X.base k n st ps sp) (hr : RoomH k X.A) (hm : X.mg n = some (.ref (He.ga X.K n))) (ha : PA X (e :: es) (aOf (kx X) B z)) (hg : Gl X n := by rfl)
    (hdb : (n == ("__debug__" : Str)) = false := by decide) (he : starEach (e :: es) X.env = (false, eval e X.env) :: starEach es X.env := by rfl) (hpl : (backTo pos (starEach es X.env)).any (·.1) = false := by rfl) :
    PE X (.Call (.Name n p) (e :: es) [] pos) (eOf (kx X) B (aCall sp z)) := by
  obtain ⟨fd, F1, b, F2⟩ := F
  refine ⟨fun pins s σ H Q I h => ?_⟩
  obtain ⟨ι, a, S, P, g, h, kk⟩ := h
  refine wpAny_Call_Name_kw (ld_glob I hg hm ?_ hdb)
  refine PySem.W.callWith_K (h₀ := X.base) I.ok.mod.kin F1.kp (thn (ha.run pos pins s σ H (fun vs H1 => HotH X.A H1 ∧ spOf (kx X) sp vs H1 Q E0) I ⟨ι, a, S, _, g, h, fun ι1 H1 vs ds S1 e1 r1 v1 h1 => ⟨hot.ext (g.ext.trans e1), ι1, ds, S1, P, r1, v1, h1, fun ι' H' v d S' e2 r2 v2 h2 => kk _ _ _ _ _ (e1.trans e2) r2 v2 h2⟩⟩) fun us s1 ⟨vs, H1, I1, r, hot1, q⟩ => ⟨I1.kIn, ?_⟩) he hpl
  have hl : us.length = ps.length := by rw [← r.length]; exact F2.len vs H1 Q E0 q
  have bd := b s1 us I1.kIn (by simpa using hl)
  refine wpAny_call (codeAny_mono (F2.run X.A X.stack s1 H1 ⟨us, []⟩ us vs Q E0 hr hot1 I1.env0 (by simpa using bd) r q) fun rr s' hq => ?_)
  match rr, hq with
  | .error e, hq => exact (pass0 (X := X) pins σ H1 s1 e s' I1 hq)
  | .ok (.ret u), hq => exact I1.after hq
  | .ok .next, hq => exact False.elim hq
  | .ok .brk, hq => exact False.elim hq
  | .ok .cont, hq => exact False.elim hq
end
end Ab

/-! try .. except whose suite calls defs -/
namespace Ab
open PySem PySem.Spec PyProof.Rows L2 HotX
theorem pss_some {X : Cx} {body : List Stmt} {P : Bs → Prop} {t : Bs → TS} (h : ∀ B, P B → PSs X body (t B)) : PSs X body (fun D σ H => ∃ B, P B ∧ t B D σ H) := ⟨fun pins s σ H D I ⟨B, hp, q⟩ => (h B hp).run pins s σ H D I q⟩
section
variable {X : Cx} {B : Bs} {n : Str} {i : Nat} {test : Expr} {good : Value → Prop} {body suite : List Stmt} {b₀ : Stmt} {pos pos' : Pos} {t u : AX} {Cs : List Str}
theorem s_tryH (hN : X.N.Nodup) (hi : X.N[i]? = some n) (ht : TestOk X test good) (hC : ∀ C ∈ Cs, good (.ref (He.ga X.K C)))
    (hb : ∀ (W : WX) (pn : List (Addr × Obj)) (xe : Value → Shared → Prop), L2N.Takes (X.tr pn xe) W → PassesOwn (model X.prog X.w) X.A X.env xe → PSs (X.tr pn xe) body (sOf (kx X) (B.wish W) t))
    (hsu : ∀ (a : Addr) (pn : List (Addr × Obj)) (B' : Bs), HotB (X.suite a pn) B' → PSs (X.suite a pn) (b₀ :: suite) (sOf (kx X) B' u))
    (hs : X.stack = X.env :: X.outer := by rfl) (hf : X.env.frame = some X.env.locals := by rfl) (hex : X.ex = [] := by rfl) (hln : X.env.kindOf n = some .local := by rfl) :
    PS X (.Try body [.ExceptHandler (some test) (some n) (b₀ :: suite) pos'] [] [] pos) (sOf (kx X) B (aTry Cs i t u)) := by
  refine PS.imp (ps_tryX (tb := fun W => sOf (kx X) (B.wish W) t) (ts := fun a D σ H => ∃ B', HotB (X.suite a []) B' ∧ sOf (kx X) B' u D σ H) hs hf hex hN hi hln ht hb fun a pn => pss_some fun B' hB => hsu a pn B' hB) fun D σ H h => ?_
  obtain ⟨ι, a, S, AD, g, h, k⟩ := h
  refine ⟨ι, a, S, _, ⟨g.ext, g.rs, g.sr⟩, h, k.nx, k.rt, k.bk, k.ct, fun ι1 H1 σ1 a1 S1 cls d C ns es e1 r1 s1 x1 ⟨hc, h1⟩ => ?_⟩
  obtain ⟨rfl, dd, ws, rfl, x3, x4, x5⟩ := x1
  refine ⟨hC C hc, fun ad oe hn hz hd => ?_⟩
  have e2 := ext_fresh (K := kx X) (o := frX oe) hn (r1.out hn)
  have v : VR (kx X) ι1 (upd H1 ad (frX oe)) (.ref ad) (.exc C ns es) := .exc upd_same ⟨hz, hd⟩ (e2.exc _ _ rfl x3) x4 (x5.up e2)
  have E := e1.trans e2
  have hot : HotB (X.suite ad []) ⟨ι1, upd H1 ad (frX oe), fun _ _ _ _ => False⟩ := by
    obtain ⟨vs, hv⟩ := hd
    exact ⟨ad, oe, vs, rfl, upd_same, hv, hz.2.2 vs hv⟩
  exact ⟨⟨ι1, upd H1 ad (frX oe), fun _ _ _ _ => False⟩, hot, ι1, _, S1, _, ⟨.refl, r1.fresh hn, (s1.up e2).set v i⟩, h1, fun _ _ _ _ _ e3 r3 s3 h3 => k.nx _ _ _ _ _ (E.trans e3) r3 (s3.unset i none) h3, fun _ _ _ _ _ e3 r3 v3 h3 => k.rt _ _ _ _ _ (E.trans e3) r3 v3 h3,
    fun _ _ _ _ _ e3 r3 s3 h3 => k.bk _ _ _ _ _ (E.trans e3) r3 (s3.unset i none) h3, fun _ _ _ _ _ e3 r3 s3 h3 => k.ct _ _ _ _ _ (E.trans e3) r3 (s3.unset i none) h3, fun _ _ _ _ _ _ _ _ _ _ _ _ _ _ z => z⟩
end
end Ab

/-! name = [..] on one line, while an exception is handled -/
namespace Ab
open PySem PySem.Spec PyProof.Rows L2 HotX
section
variable {X : Cx} {elt tg iter : Expr} {ifs : List Expr} {scope : Scope} {own : List (Str × Nat)} {wi : TI} {g : TG} {tt : TT} {te : TE}
theorem ps_setLcX {i : Nat} {y : Str} {py pos spos : Pos} (hN : X.N.Nodup) (hy : X.N[i]? = some y) (hyl : X.env.scope.names.lookup y = some .local)
    (hsw : swapsWith (.ListComp elt [⟨tg, iter, ifs, 0⟩] scope pos) (some (.Name y py)) spos.line X.env = pure true) (hi : PIX X tg iter wi) (ok : BlkOk X.N X.env.scope scope own) (b : BlkX X tg ifs elt scope g tt te) (hs : ∀ x, foldedSetIterable iter X.env x = pure x := by intro _; rfl) :
    PS X (.Assign [.Name y py] (.ListComp elt [⟨tg, iter, ifs, 0⟩] scope pos) spos) (tAsg (tLc wi g tt te (own.map (·.2))) (gName i)) := by
  refine ⟨fun pins s σ H D I h => ?_⟩
  rw [exec_Assign_Name_used _ _ _ _ hsw]
  refine wpAny_bind (wpAny_standAt (wpAny_bind ?_))
  show wpAny _ X.A (do let _ ← comprehension (.ListComp elt [⟨tg, iter, ifs, 0⟩] scope pos) scope X.env (firstIterPos [⟨tg, iter, ifs, 0⟩] pos) (newList []) false (eval iter X.env) (some (assign (.Name y py) X.env))) _ _ s
  have h : tLc wi g tt te (own.map (·.2)) σ H (fun x H1 => gName i x σ H1 D.nx) := h
  refine wpAny_bind (thn (lcX_run (Qf := fun _ s' => SP X pins D .next s') hN I hi ok b hs h fun L C s' m H' I' q hn f => ?_) fun _ s' hq => wpAny_pure (wpAny_pure hq))
  show wpAny _ _ (assign (.Name y py) X.env (.ref L)) _ _ _
  refine wpAny_assign_Name (store_ok2 (v := V.ref L) I' hN hy (.inl hyl) rfl (fun s2 I2 ⟨a, sb, ha⟩ => ?_) (.inr hyl))
  obtain ⟨f0, f1, f2, f3, f4, f5⟩ := f
  have haC : C ≠ a := by
    rcases ha with z | z
    · rw [z]; exact f1
    · exact fun e => f4 y a z e.symm
  refine ⟨m, hn.sameBut sb haC, fun h3 sb3 => ?_⟩
  exact ⟨_, H', I2.turned (t' := s2.toks) (fun b o hb e => (sb3.2 b hb).trans e) f0 f1 f3 f4 f5, q⟩
end
section
variable {X : Cx} {B : Bs}
theorem s_setLcX {elt tg e : Expr} {ifs : List Expr} {scope : Scope} {own : List (Str × Nat)} {py pos spos : Pos} {i : Nat} {n : Str} {y : AE} {g : TG} {ag : AG} {t : AT} {x : AE} (hot : HotB X B) (hN : X.N.Nodup) (hy : PE X e (eOf (kx X) B y)) (ok : BlkOk X.N X.env.scope scope own) (hT : TgOkX X.A (kx X) g ag (own.map (·.2)))
    (hg : ∀ (s : Shared) (H : Hp) (C : Addr) (cl : List (Str × Addr)) (fp : List Addr), PG (X.blk s H scope (compEnvC scope cl C X.env) fp) tg g) (ht : ∀ (s : Shared) (H : Hp) (C : Addr) (cl : List (Str × Addr)) (fp : List Addr), PTs (X.blk s H scope (compEnvC scope cl C X.env) fp) ifs (tOf (kx X) B t))
    (he : ∀ (s : Shared) (H : Hp) (C : Addr) (cl : List (Str × Addr)) (fp : List Addr), PE (X.blk s H scope (compEnvC scope cl C X.env) fp) elt (eOf (kx X) B x)) (hn : X.N[i]? = some n := by rfl) (hnl : X.env.scope.names.lookup n = some .local := by rfl)
    (hsw : swapsWith (.ListComp elt [⟨tg, e, ifs, 0⟩] scope pos) (some (.Name n py)) spos.line X.env = pure true := by exact sw_true rfl rfl rfl (by decide +kernel)) (hs : ∀ x, foldedSetIterable e X.env x = pure x := by intro _; rfl) :
    PS X (.Assign [.Name n py] (.ListComp elt [⟨tg, e, ifs, 0⟩] scope pos) spos) (sOf (kx X) B (aAsg (aLc (iObj y) ag t x (own.map (·.2))) (gN i))) := by
  refine PS.imp (ps_setLcX hN hn hnl hsw (i_lstX hot hy) ok ⟨hg, ht, he⟩ hs) fun D σ H h => ?_
  obtain ⟨ι, a, S, AD, gd, h, k⟩ := h
  exact lc_ofX (Q := fun v H1 => gName i v σ H1 D.nx) hot hT ⟨ι, a, S, _, gd, h, fun ι1 H1 v d S1 e1 r1 v1 h1 => k.nx _ _ _ _ _ e1 r1 ((gd.sr.up e1).set v1 i) h1⟩
end
theorem roomSuite {X : Cx} {k : Nat} (hr : L2H.RoomH k X.A) (a : Addr) (pn : List (Addr × Obj)) : L2H.RoomH k (X.suite a pn).A := ⟨hr.dp, hr.un⟩
theorem roomTr {X : Cx} {k : Nat} (hr : L2.Room k X.A) (pn : List (Addr × Obj)) (xe : Value → Shared → Prop) : L2.Room k (X.tr pn xe).A := hr
end Ab

/-! x or y, x of any kind -/
namespace Ab
open PySem PySem.Spec PyProof.Rows L2
def aOrT (x y : AE) : AE := fun a S P => x a S fun d S1 => truD d S1 fun b S2 => iteP b (P d S2) (y a S2 P)
section
variable {X : Cx} {B : Bs}
theorem tru_out {K : KX} {ι : List Addr} {H : Hp} {S : Sto} {v : V} {d : D} {P : Bool → Sto → Prop} (r1 : RS K ι H S) (v1 : VR K ι H v d) (h1 : truD d S P) : ∃ b, TruV K.f v H b ∧ P b S := by
  cases v1 with
  | non => exact ⟨false, rfl, h1⟩
  | bl b => exact ⟨b, rfl, h1⟩
  | int b => exact ⟨_, rfl, h1⟩
  | str b => exact ⟨_, ⟨h1.1, rfl⟩, h1.2⟩
  | tup h2 h3 => exact ⟨_, .inr (.inl ⟨_, .of h2, rfl⟩), by rw [isEmpty_len h3.length]; exact h1⟩
  | ktp h2 h3 => exact ⟨_, .inr (.inl ⟨_, h2.sq, rfl⟩), by rw [isEmpty_len h3.length]; exact h1⟩
  | rol h2 h3 => exact ⟨_, .inl ⟨_, h2.sq, rfl⟩, by rw [isEmpty_len h3.length]; exact h1⟩
  | obj h2 =>
    obtain ⟨o, e2, h1⟩ := rdO_out h1
    have ho := r1.ob _ _ _ h2 e2
    cases o with
    | lst l =>
      obtain ⟨vs, q1, q2⟩ := ho
      exact ⟨_, .inl ⟨_, .of q1, rfl⟩, by rw [isEmpty_len q2.length]; exact h1⟩
    | dK l =>
      obtain ⟨ws, q1, q2⟩ := ho
      have q2 : Prs K ι H ws l := q2
      exact ⟨_, .inr (.inr ⟨_, q1, rfl⟩), by rw [isEmpty_len q2.length]; exact h1⟩
    | _ => exact h1.elim
  | _ => exact h1.elim
theorem a_orT {a b : Expr} {rest : List Expr} {x y : AE} {pos : Pos} (ha : PE X a (eOf (kx X) B x)) (hb : PE X (.BoolOp .Or (b :: rest) pos) (eOf (kx X) B y)) : PE X (.BoolOp .Or (a :: b :: rest) pos) (eOf (kx X) B (aOrT x y)) := by
  refine PE.imp (pe_orT ha hb) fun σ H Q h => ?_
  obtain ⟨ι, a, S, P, g, h, k⟩ := h
  refine ⟨ι, a, S, _, g, h, fun ι1 H1 v d S1 e1 r1 v1 h1 => ?_⟩
  have h1 : truD d S1 fun b S2 => iteP b (P d S2) (y a S2 P) := h1
  obtain ⟨c, t, h1⟩ := tru_out r1 v1 h1
  refine ⟨c, t, ?_⟩
  rw [iteP_def] at h1
  cases c with
  | false =>
    rw [if_neg Bool.false_ne_true] at h1 ⊢
    exact ⟨ι1, a, S1, P, g.go e1 r1, h1, fun ι2 H2 c d S2 e2 r2 v2 h2 => k ι2 H2 c d S2 (e1.trans e2) r2 v2 h2⟩
  | true =>
    rw [if_pos rfl] at h1 ⊢
    exact k ι1 H1 _ _ S1 e1 r1 v1 h1
end
end Ab

/-! defs called while an exception is handled, where no repr is under way -/
namespace Ab
open PySem PySem.Spec PyProof.Rows L2 HotX
open L2H (RoomH)
/-- a def's promise there -/
structure FnHotG (P : Program) (w : World) (K : PySem.W.Frag) (mg : Str → Option Value) (base : Heap) (k : Nat) (f : Addr) (fd : FuncData) (ps : List Str) (sp : Sp) : Prop where
  len : ∀ vs H Q E, sp vs H Q E → vs.length = ps.length
  run : ∀ (A : Around) (outer : List Env) (s : Shared) (H : Hp) (args : Args) (us : List Value) (vs : List V) (Q : VK) (E : XK), RoomH k A → HotH A H → A.guards = some [] → Env0 P w K mg base A outer s H → BindsTo s fd args (ps.zip us) → Vals vs us → sp vs H Q E →
    codeAny (model P w) A (.call (.ref f) args) (CR CX0 outer P w H s Q E) s
theorem fn_hotG {P : Program} {w : World} {K : PySem.W.Frag} {mg : Str → Option Value} {base : Heap} {k : Nat} {f : Addr} {name qual : Str} {params : Arguments} {body : List Stmt} {scope : Scope} {dV kV doc pm cdv ct oc : Value} {an od : Option Addr}
    {osl : Array (Option Value)} {N ps : List Str} {sp : Sp} (lk : K.lookup f = some ⟨oc, od, .func (PySem.W.fnOf name qual params body scope dV kV doc pm an cdv ct), osl⟩) (hcd : PySem.W.codeIn K cdv qual = true) (S : FnScope N ps scope)
    (len : ∀ vs H Q E, sp vs H Q E → vs.length = ps.length)
    (hbody : ∀ (A : Around) (outer : List Env) (s : Shared) (H : Hp) (vs : List V) (Q : VK) (E : XK), RoomH k (A.deeper (PyProof.Rows.envOfC qual scope s.heap.objs.size f cdv)) → HotH A H → A.guards = some [] → sp vs H Q E →
      ∃ t, PSs (cxHot P w K mg base N qual scope f cdv A outer s H E) body t ∧ t { nx := fun _ H' => Q .non H', rt := Q } (start N vs) H) :
    FnHotG P w K mg base (k + 1) f (PySem.W.fnOf name qual params body scope dV kV doc pm an cdv ct) ps sp := by
  refine ⟨len, fun A outer s H args us vs Q E hr hot hgd e0 hb r hsp => ?_⟩
  have hl := len _ _ _ _ hsp
  have hk := e0.mod.kin.keeps fun b o e => (e0.bs b o e).1
  have lim := e0.mod.nolimit.keeps fun b o e => (e0.bs b o e).1
  refine codeAny_call_function hr.depth (hk _ _ lk) rfl S.co S.gen rfl (PySem.W.codeRec_of hk hcd) (hb _ _ _ _ ?_)
  refine wpAny_newFunctionEnv_cells S.kind (fun ⟨n, v⟩ hy => ?_) fun env he s1 x => ?_
  · rcases S.par n (List.of_mem_zip hy).1 with q | q
    · exact .inl q
    · exact .inr ⟨q, PySem.W.cellsFrom_some _ _ _ (.inl q)⟩
  subst he
  refine ⟨lim.keeps x.toInCall.keep, codeAny_func ?_⟩
  obtain ⟨t, ht, hq⟩ := hbody A outer s H vs Q E (hr.deeper _) hot hgd hsp
  have I : L2.Inv (cxHot P w K mg base N qual scope f cdv A outer s H E) [] (start N vs) H s1 := inv_hot S e0 hl r x
  refine wpAny_mono (ht.run [] s1 (start N vs) H _ I hq) (fun fl s' hs => ?_) fun e s' hs => hs
  match fl, hs with
  | .ret u, ⟨v, σ', H', J, rv, q⟩ => exact ⟨v, H', J.os, J.bare, J.base, J.hok, rv, q⟩
  | .next, ⟨σ', H', J, q⟩ => exact ⟨.non, H', J.os, J.bare, J.base, J.hok, (rfl : L2.RelV V.non Value.none), q⟩
  | .brk, ⟨_, _, _, q⟩ => exact False.elim q
  | .cont, ⟨_, _, _, q⟩ => exact False.elim q
def OkHotG (P : Program) (w : World) (K : PySem.W.Frag) (mg : Str → Option Value) (base : Heap) (k : Nat) (x : Str) (st : Stmt) (ps : List Str) (sp : FN) : Prop :=
  ∃ fd, FunD K x x (defArgs st) (defBody st) (defScope st) [] [] (He.ga K x) fd ∧ Binds K fd ps [] ∧ FnHotG P w K mg base k (He.ga K x) fd ps (spOf ⟨K, P, w⟩ sp)
theorem okhotg_of {P : Program} {w : World} {K : PySem.W.Frag} {mg : Str → Option Value} {base : Heap} {x : Str} {st : Stmt} {N ps : List Str} {k n : Nat} {sp : FN} {as : AX} {fd : FuncData} (F : FunD K x x (defArgs st) (defBody st) (defScope st) [] [] (He.ga K x) fd) (C : FnScope N ps (defScope st)) (len : Ar ps.length sp) (hn : N.length = n)
    (hb : ∀ (kV doc pm : Value) (an : Option Addr) (cdv ct : Value) (us : List Value), us.length = ps.length → bindArgs (PySem.W.fnOf x x (defArgs st) (defBody st) (defScope st) .none kV doc pm an cdv ct) ⟨us, []⟩ = pure (ps.zip us))
    (hbody : ∀ (cdv : Value) (A : Around) (outer : List Env) (s : Shared) (H : Hp) (E : XK) (B : Bs), RoomH k (A.deeper (PyProof.Rows.envOfC x (defScope st) s.heap.objs.size (He.ga K x) cdv)) → HotH A B.H → A.guards = some [] →
      PSs (cxHot P w K mg base N x (defScope st) (He.ga K x) cdv A outer s H E).nox (defBody st) (sOf ⟨K, P, w⟩ B as))
    (hsem : ∀ ds S P, sp ds S P → as { nx := fun _ S' => P .non S', rt := P } (aStart n ds) S) : OkHotG P w K mg base (k + 1) x st ps sp := by
  refine ⟨fd, F, F.bindsN hb, ?_⟩
  obtain ⟨oc, od, dV, kV, doc, pm, an, cdv, ct, osl, e, lk, hcd, hD, _⟩ := F.ex
  subst e
  refine fn_hotG lk hcd C (fun vs H Q E h => ?_) fun A outer s H vs Q E hr hot hgd h => ?_
  · obtain ⟨ι, ds, S, P, _, v, h, _⟩ := h
    rw [v.length]
    exact len _ _ _ h
  · obtain ⟨ι, ds, S, Pq, r, v, h, k⟩ := h
    refine ⟨_, (hbody cdv A outer s H E ⟨ι, H, fun _ _ _ _ => False⟩ hr hot hgd).nox, ?_⟩
    refine ⟨ι, aStart n ds, S, _, ⟨.refl, r, ?_⟩, hsem ds S Pq h, ⟨fun ι' H' σ' a' S' e1 r1 _ h1 => k _ _ _ _ _ e1 r1 .non h1, fun ι' H' v d S' e1 r1 v1 h1 => k _ _ _ _ _ e1 r1 v1 h1, fun _ _ _ _ _ _ _ _ h1 => h1, fun _ _ _ _ _ _ _ _ h1 => h1, fun _ _ _ _ _ _ _ _ _ _ _ _ _ _ h1 => h1⟩⟩
    show SR ⟨K, P, w⟩ ι H (vs.map some ++ List.replicate (N.length - vs.length) none) (aStart n ds)
    unfold aStart
    rw [v.length, hn]
    exact sr_start _ v
section
variable {X : Cx} {B : Bs} {st : Stmt} {ps : List Str} {sp : FN} {n : Str} {p pos : Pos} {e : Expr} {es : List Expr} {z : AA} {k : Nat}
/-- f(e, ..) there -/
theorem a_callHotG (hot : HotB X B) (hgd : X.A.guards = some []) (F : OkHotG X.prog X.w X.K X.mg X.base k n st ps sp) (hr : RoomH k X.A) (hm : X.mg n = some (.ref (He.ga X.K n))) (ha : PA X (e :: es) (aOf (kx X) B z)) (hg : Gl X n := by rfl)
    (hdb : (n == ("__debug__" : Str)) = false := by decide) (he : starEach (e :: es) X.env = (false, eval e X.env) :: starEach es X.env := by rfl) (hpl : (backTo pos (starEach es X.env)).any (·.1) = false := by rfl) :
    PE X (.Call (.Name n p) (e :: es) [] pos) (eOf (kx X) B (aCall sp z)) := by
  obtain ⟨fd, F1, b, F2⟩ := F
  refine ⟨fun pins s σ H Q I h => ?_⟩
  obtain ⟨ι, a, S, P, g, h, kk⟩ := h
  refine wpAny_Call_Name_kw (ld_glob I hg hm ?_ hdb)
  refine PySem.W.callWith_K (h₀ := X.base) I.ok.mod.kin F1.kp (thn (ha.run pos pins s σ H (fun vs H1 => HotH X.A H1 ∧ spOf (kx X) sp vs H1 Q E0) I ⟨ι, a, S, _, g, h, fun ι1 H1 vs ds S1 e1 r1 v1 h1 => ⟨hot.ext (g.ext.trans e1), ι1, ds, S1, P, r1, v1, h1, fun ι' H' v d S' e2 r2 v2 h2 => kk _ _ _ _ _ (e1.trans e2) r2 v2 h2⟩⟩) fun us s1 ⟨vs, H1, I1, r, hot1, q⟩ => ⟨I1.kIn, ?_⟩) he hpl
  have hl : us.length = ps.length := by rw [← r.length]; exact F2.len vs H1 Q E0 q
  have bd := b s1 us I1.kIn (by simpa using hl)
  refine wpAny_call (codeAny_mono (F2.run X.A X.stack s1 H1 ⟨us, []⟩ us vs Q E0 hr hot1 hgd I1.env0 (by simpa using bd) r q) fun rr s' hq => ?_)
  match rr, hq with
  | .error e, hq => exact (pass0 (X := X) pins σ H1 s1 e s' I1 hq)
  | .ok (.ret u), hq => exact I1.after hq
  | .ok .next, hq => exact False.elim hq
  | .ok .brk, hq => exact False.elim hq
  | .ok .cont, hq => exact False.elim hq
end
end Ab

/-! [.. for i in range(n)], while an exception is handled -/
namespace Ab
open PySem PySem.Spec PyProof.Rows L2 HotX
/-- lo, lo + 1, .., walked there -/
def Itrx (A : Around) (lo : Int) (n : Nat) : It := ⟨(Itr lo n).go, (Itr lo n).yld, fun i H => (Itr lo n).stop i H ∧ HotH A H⟩
theorem turn_rgX {A0 : Around} {P : Program} {w : World} {K : PySem.W.Frag} {tg : Expr} (r : Addr) (lo : Int) (n : Nat) : TurnX A0 P w K tg (Itrx A0 lo n) [r] r (fun i h => IsRangeIter h r (lo + (i : Nat) * 1) ((n : Int) - (i : Nat)) 1) := by
  refine ⟨List.mem_singleton_self r, fun i h st b hb => ?_, fun i h h' st k => k r (List.mem_singleton_self r) _ st, fun X eP ew eK i pins s σ H E I hf st hg => ?_, fun X eP ew eK eA i pins s σ H E I hf st hg => ?_, fun _ _ _ _ _ st h => wpAny_pyIter_rangeiter st h⟩
  · rw [List.mem_singleton] at hb
    subst hb
    refine ⟨_, st, fun v z => ?_⟩
    cases (show Data.fields _ = Data.cell v from z)
  · subst eP ew eK
    obtain ⟨f0, f1, f2, f3, f4, f5⟩ := hf r (List.mem_singleton_self r)
    have li : i < n := hg
    refine wpAny_pyNext_range_item st (by omega) fun h2 st2 sb => ?_
    have st3 : IsRangeIter h2 r (lo + ((i + 1 : Nat) : Int) * 1) ((n : Int) - ((i + 1 : Nat) : Int)) 1 := by
      rw [show lo + ((i + 1 : Nat) : Int) * 1 = lo + ((i : Nat) : Int) * 1 + 1 by omega, show (n : Int) - ((i + 1 : Nat) : Int) = (n : Int) - ((i : Nat) : Int) - 1 by omega]
      exact st2
    have J : Inv X pins σ H { s with heap := h2, toks := s.toks + 1 } := I.turned (fun b o nb e => (sb.2 b nb).trans e) f0 f1 f3 f4 f5
    refine ⟨_, rfl, go_of (n := "range_iterator") (s := { s with heap := h2, toks := s.toks + 1 }) st3 rfl rfl (by decide) ⟨.int (lo + i), H, J, ⟨s.toks, by rw [Int.mul_one]⟩, ⟨rfl, rfl⟩, st3, fun b hb => (hf b hb).1⟩⟩
  · subst eP ew eK eA
    obtain ⟨f0, f1, f2, f3, f4, f5⟩ := hf r (List.mem_singleton_self r)
    obtain ⟨hs, hot⟩ := hg
    obtain ⟨x1, ha, hn⟩ := hot.at I
    have hs : n ≤ i := hs
    exact pyNext_range_end_hot ha st (by omega) fun h2 eb => ⟨rfl, I.turned (t' := s.toks) (fun b o nb e => eb b o e) f0 f1 f3 f4 f5⟩
def iRngX (A : Around) (ta : TA) : TI := fun σ H R => ta σ H fun vs H1 => ∃ j : Int, vs = [V.int j] ∧ (-(2 ^ 62) ≤ j ∧ j < 2 ^ 62) ∧ R (Itrx A 0 j.toNat) H1
theorem pix_range {X : Cx} {tg a : Expr} {ta : TA} {p pos : Pos} (hg : Gl X "range") (hm : X.mg "range" = none) (ha : PA X [a] ta) (hs : starEach [a] X.env = [(false, eval a X.env)] := by rfl) : PIX X tg (.Call (.Name "range" p) [a] [] pos) (iRngX X.A ta) := by
  refine ⟨fun pins s σ H R I h => Call_ (ld_blt I hg hm boot_range (PyProof.Rows.callWith_type1 (thn (ha.run pos pins s σ H _ I h) fun us s1 ⟨vs, H1, I1, r1, j, e, ⟨j1, j2⟩, q⟩ => ?_) hs rfl))⟩
  subst e
  cases r1 with
  | cons ru rn =>
    cases rn
    obtain ⟨t, rfl⟩ := ru
    refine call_range_1 (PySem.wpAny_pyIter_range (IsRange.new ..) (small_one (by omega) (by omega) j1 j2) ?_)
    generalize ro : ({ cls := .type "range", data := .fields #[.int 0 s1.toks, .int j t, .int 1 (s1.toks + 1)] } : PySem.Obj) = o1
    have J1 : Inv X pins σ H1 { s1 with heap := s1.heap.push o1, toks := s1.toks + 1 + 1 } := I1.kept (t' := s1.toks + 1 + 1) fun b o e => Heap.get?_push_of_some _ e
    generalize ({ s1 with heap := s1.heap.push o1, toks := s1.toks + 1 + 1 } : Shared) = s2 at J1
    refine ⟨s2.heap.objs.size, [s2.heap.objs.size], _, _, H1, rfl, J1.kept (t' := s2.toks) fun b o e => Heap.get?_push_of_some _ e, turn_rgX _ 0 j.toNat, ?_, fun b hb => ?_, q⟩
    · have e1 : Builtin.Range.rangeSize 0 j 1 = ((j.toNat : Nat) : Int) - ((0 : Nat) : Int) := by
        rw [rangeSize_one]
        split <;> omega
      rw [e1]
      exact Heap.get?_push_size _ rfl
    · rw [List.mem_singleton] at hb
      subst hb
      exact J1.fpOk (Nat.le_refl _) (J1.hok.fresh (Nat.le_refl _))
theorem i_rg1X {X : Cx} {B : Bs} {tg a : Expr} {z : AA} {p pos : Pos} (hot : HotB X B) (hm : X.mg "range" = none) (ha : PA X [a] (aOf (kx X) B z)) (hg : Gl X "range" := by rfl) (hs : starEach [a] X.env = [(false, eval a X.env)] := by rfl) : PIX X tg (.Call (.Name "range" p) [a] [] pos) (iOf (kx X) B (iRg1 z)) := by
  refine PIX.imp (pix_range hg hm ha hs) fun σ H R h => ?_
  obtain ⟨ι, a, S, P, g, h, k⟩ := h
  refine ⟨ι, a, S, _, g, h, fun ι1 H1 vs ds S1 e1 r1 v1 h1 => ?_⟩
  match ds, v1, h1 with
  | [.int j], v1, ⟨hj, h1⟩ =>
    obtain ⟨v, rfl, rv⟩ := v1.one
    cases rv
    refine ⟨j, rfl, hj, k _ _ _ _ _ e1 r1 (fun ι2 H2 S2 e2 r2 hc => ?_) h1⟩
    obtain ⟨q1, q2⟩ := itr_rg (K := kx X) (ι := ι1) (H := H1) 0 j.toNat ι2 H2 S2 e2 r2 hc
    exact ⟨q1, q2, (hot.ext (g.ext.trans e1)).ex0 e2⟩
theorem a_lcR {X : Cx} {B : Bs} {elt tg a : Expr} {ifs : List Expr} {scope : Scope} {own : List (Str × Nat)} {p pos pos' : Pos} {z : AA} {g : TG} {ag : AG} {t : AT} {x : AE} (hot : HotB X B) (hN : X.N.Nodup) (hm : X.mg "range" = none) (ha : PA X [a] (aOf (kx X) B z)) (ok : BlkOk X.N X.env.scope scope own) (hT : TgOkX X.A (kx X) g ag (own.map (·.2)))
    (hg : ∀ (s : Shared) (H : Hp) (C : Addr) (cl : List (Str × Addr)) (fp : List Addr), PG (X.blk s H scope (compEnvC scope cl C X.env) fp) tg g) (ht : ∀ (s : Shared) (H : Hp) (C : Addr) (cl : List (Str × Addr)) (fp : List Addr), PTs (X.blk s H scope (compEnvC scope cl C X.env) fp) ifs (tOf (kx X) B t))
    (he : ∀ (s : Shared) (H : Hp) (C : Addr) (cl : List (Str × Addr)) (fp : List Addr), PE (X.blk s H scope (compEnvC scope cl C X.env) fp) elt (eOf (kx X) B x)) (hgl : Gl X "range" := by rfl) (hse : starEach [a] X.env = [(false, eval a X.env)] := by rfl) (hs : ∀ x, foldedSetIterable (.Call (.Name "range" p) [a] [] pos') X.env x = pure x := by intro _; rfl) :
    PE X (.ListComp elt [⟨tg, .Call (.Name "range" p) [a] [] pos', ifs, 0⟩] scope pos) (eOf (kx X) B (aLc (iRg1 z) ag t x (own.map (·.2)))) :=
  PE.imp (pe_lcX hN (i_rg1X hot hm ha hgl hse) ok ⟨hg, ht, he⟩ hs) fun _ _ _ h => lc_ofX hot hT h
end Ab

/-! != of tuples whose items are the same objects, or equal data -/
theorem Ab.RmU.u65 {k : Nat} {A : PySem.Around} (r : Ab.RmU k A) : A.units + 65 < PySem.cLine := by have := r.un; omega
namespace Ab
open PySem PySem.Spec PyProof.Rows L2
/-- the one object, or equal data -/
def SmV (K : PySem.W.Frag) (H : Hp) (x y : V) : Prop := (∃ a, x = .ref a ∧ y = .ref a) ∨ ∃ d e, Dp K H x d ∧ Dp K H y e ∧ SeqAt.shaped d = true ∧ SeqAt.shaped e = true ∧ PyData.eqv d e = true
def rNeZ (K : PySem.W.Frag) : R2 := fun x y H Q => rNeD K x y H Q ∨ ∃ a b xs ys, x = .ref a ∧ y = .ref b ∧ SqT K H a xs ∧ SqT K H b ys ∧ Paired (SmV K H) xs ys ∧ Q (.bl false) H
theorem smv_items {X : Cx} {pins : List (Addr × PySem.Obj)} {σ : L2.St} {H : Hp} {s : Shared} {A : Around} (hu : A.units + 64 < cLine) (I : Inv X pins σ H s) {xs ys : List V} (h : Paired (SmV X.K H) xs ys) : ∀ {us ws : List Value}, Vals xs us → Vals ys ws → ∀ j (h1 : j < us.length) (h2 : j < ws.length), SeqAt.EqAt A s us[j] ws[j] true := by
  induction h with
  | nil =>
    intro us ws r1 r2 j h1 h2
    cases r1
    simp at h1
  | cons h _ ih =>
    intro us ws r1 r2 j h1 h2
    cases r1 with
    | cons a1 b1 =>
      cases r2 with
      | cons a2 b2 =>
        cases j with
        | succ j => exact ih b1 b2 j (by simpa using h1) (by simpa using h2)
        | zero =>
          rcases h with ⟨a, rfl, rfl⟩ | ⟨d, e, k1, k2, k3, k4, k5⟩
          · cases a1
            cases a2
            exact SeqAt.EqAt.same _
          · obtain ⟨as, q1⟩ := Dp.reads I d _ _ k1 a1
            obtain ⟨bs, q2⟩ := Dp.reads I e _ _ k2 a2
            have := SeqAt.eqAt_reads d e A s _ _ as bs q1 q2 (SeqAt.canLay_of_shaped k3) (SeqAt.canLay_of_shaped k4) (SeqAt.room_of_shaped k3 hu)
            rw [k5] at this
            exact this
theorem op_neZ {X : Cx} (hu : X.A.units + 65 < cLine) : OpR X (compareOp .NotEq) (rNeZ X.K) := by
  intro pins s σ H x y v u Q I rx ry h
  rcases h with h | ⟨a, b, xs, ys, rfl, rfl, ha, hb, hp, q⟩
  · exact op_neD (by omega) pins s σ H x y v u Q I rx ry h
  · cases (show v = Value.ref a from rx)
    cases (show u = Value.ref b from ry)
    obtain ⟨us, r1, p1, _⟩ := I.tuple ha
    obtain ⟨ws, r2, p2, _⟩ := I.tuple hb
    have el : ∀ j (h1 : j < us.toArray.size) (h2 : j < ws.toArray.size), SeqAt.EqAt X.A.in1 s us.toArray[j] ws.toArray[j] true := fun j h1 h2 => by
      have := smv_items (A := X.A.in1) (by show X.A.units + 1 + 64 < cLine; omega) I hp r1 r2 j (by simpa using h1) (by simpa using h2)
      simpa using this
    have ln : us.length = ws.length := by rw [← r1.length, ← r2.length]; exact Paired.length hp
    have R := SeqAt.RcNeAt.tuples (e := fun _ => true) p1 p2 (by omega) el
    have ez : (!((List.range (min us.toArray.size ws.toArray.size)).all (fun _ => true) && us.toArray.size == ws.toArray.size)) = false := by
      simp [ln]
    rw [ez] at R
    exact R X.prog X.w _ _ ⟨.bl false, H, I, rfl, q⟩
def SmD (S : Sto) (x y : D) : Prop := (∃ n, x = .obj n ∧ y = .obj n) ∨ ∃ p q, Py S x p ∧ Py S y q ∧ SeqAt.shaped p = true ∧ SeqAt.shaped q = true ∧ PyData.eqv p q = true
def SmDs (S : Sto) : List D → List D → Prop
  | [], [] => True
  | x :: l, y :: m => SmD S x y ∧ SmDs S l m
  | _, _ => False
def neZ : F2 := fun x y S P => neD x y S P ∨ ∃ l m, x = .tup l ∧ y = .tup m ∧ SmDs S l m ∧ P (.bl false) S
theorem neZ_of {l m : List D} {S : Sto} {P : D → Sto → Prop} (h : SmDs S l m) (q : P (.bl false) S) : neZ (.tup l) (.tup m) S P := .inr ⟨l, m, rfl, rfl, h, q⟩
theorem neZ_d {x y : D} {S : Sto} {P : D → Sto → Prop} (h : neD x y S P) : neZ x y S P := .inl h
theorem sms_v {K : KX} {ι : List Addr} {H : Hp} {S : Sto} (R : RS K ι H S) : ∀ {l m : List D} {xs ys : List V}, SmDs S l m → VRs K ι H xs l → VRs K ι H ys m → Paired (SmV K.f H) xs ys
  | [], [], _, _, _, r1, r2 => by
    cases r1
    cases r2
    exact .nil
  | x :: l, y :: m, _, _, ⟨h, t⟩, r1, r2 => by
    cases r1 with
    | cons a1 b1 =>
      cases r2 with
      | cons a2 b2 =>
        refine .cons ?_ (sms_v R t b1 b2)
        rcases h with ⟨n, rfl, rfl⟩ | ⟨p, q, k1, k2, k3, k4, k5⟩
        · cases a1 with
          | obj h1 =>
            cases a2 with
            | obj h2 =>
              rw [h1] at h2
              cases h2
              exact .inl ⟨_, rfl, rfl⟩
        · exact .inr ⟨_, _, Py.dp R p _ _ k1 a1, Py.dp R q _ _ k2 a2, k3, k4, k5⟩
theorem neZA {K : KX} : OpA K (rNeZ K.f) neZ := by
  intro ι H S x y d e P Q R rx ry h k
  rcases h with h | ⟨l, m, rfl, rfl, h, q⟩
  · exact .inl (neA ι H S x y d e P Q R rx ry h k)
  · cases rx with
    | tup h1 v1 =>
      cases ry with
      | tup h2 v2 => exact .inr ⟨_, _, _, _, rfl, rfl, .of h1, .of h2, sms_v R h v1 v2, k ι H _ _ S .refl R (.bl _) q⟩
end Ab

/-! texts: split, join, f-strings, signs -/
namespace Ab
open PySem PySem.Spec PyProof.Rows L2
section
variable {K : KX} {ι : List Addr} {H : Hp}
theorem vrs_strs : ∀ ys : List Str, VRs K ι H (ys.map V.str) (ys.map D.str)
  | [] => .nil
  | y :: ys => .cons (.str y) (vrs_strs ys)
theorem strs_vrs : ∀ {ys : List Str} {vs : List V}, VRs K ι H vs (ys.map D.str) → vs = ys.map V.str
  | [], _, h => by cases h; rfl
  | y :: ys, _, h => by
    cases h with
    | cons h1 h2 =>
      cases h1
      rw [strs_vrs h2]
      rfl
end
section
variable {K : KX}
def splD : FM := fun x ds S P => ∃ a b, x = .str a ∧ ds = [.str b] ∧ (b.length == 0) = false ∧ a.length + 2 ≤ sizeLine ∧ P (.obj S.length) (S ++ [.lst ((Txt.split a b).map D.str)])
theorem splA : MtA K (fun x xs H Q => ∃ a b, x = .str a ∧ xs = [.str b] ∧ (b.length == 0) = false ∧ a.length + 2 ≤ sizeLine ∧ rNewStrs (Txt.split a b) H Q) splD := by
  intro ι H S x xs d ds P Q R rx rs h k
  obtain ⟨a, b, rfl, rfl, hb, hz, h⟩ := h
  cases rx
  obtain ⟨v, rfl, rv⟩ := rs.one
  cases rv
  refine ⟨a, b, rfl, rfl, hb, hz, fun p hp => ?_⟩
  obtain ⟨e, r, v⟩ := new_lst R hp (vrs_strs (Txt.split a b))
  exact k _ _ _ _ _ e r v h
def joinD : FM := fun x ds S P => ∃ a n ys, x = .str a ∧ ds = [.obj n] ∧ S[n]? = some (.lst (ys.map D.str)) ∧ (ys.map (·.length)).sum + ys.length * a.length ≤ 16777216 ∧ P (.str (Txt.join a ys)) S
theorem joinA : MtA K (fun x xs H Q => ∃ a p, ∃ ys : List Str, x = .str a ∧ xs = [.ref p] ∧ (SqL K.f H p (ys.map V.str) ∨ SqT K.f H p (ys.map V.str)) ∧
    (ys.map (·.length)).sum + ys.length * a.length ≤ 16777216 ∧ Q (.str (Txt.join a ys)) H) joinD := by
  intro ι H S x xs d ds P Q R rx rs h k
  obtain ⟨a, n, ys, rfl, rfl, hn, hz, h⟩ := h
  cases rx
  obtain ⟨v, rfl, rv⟩ := rs.one
  cases rv with
  | obj e1 =>
    obtain ⟨vs, q1, q2⟩ := R.ob _ _ _ e1 hn
    rw [strs_vrs q2] at q1
    exact ⟨a, _, ys, rfl, rfl, .inl (.of q1), hz, k _ _ _ _ _ .refl R (.str _) h⟩
def sidxD : FM := fun x ds S P => ∃ a b i rest, x = .str a ∧ ds = [.str b] ∧ Builtin.Str.occurrences a b 0 a.length 1 = i :: rest ∧ P (.int (i : Nat)) S
def rSidx : V → List V → Hp → VK → Prop := fun x xs H Q => ∃ a b i rest, x = .str a ∧ xs = [.str b] ∧ Builtin.Str.occurrences a b 0 a.length 1 = i :: rest ∧ Q (.int (i : Nat)) H
theorem mt_sidx {X : Cx} : MtR X "str.index" rSidx := by
  intro pins s σ H x xs v us Q I rx rs h
  obtain ⟨a, b, i, rest, rfl, rfl, ho, h⟩ := h
  obtain ⟨t, rfl⟩ := rx
  cases rs with
  | cons r1 rs =>
    cases rs
    obtain ⟨u, rfl⟩ := r1
    exact PySem.SC.index ho ⟨.int (i : Nat), H, I.tok (s.toks + 1), ⟨_, rfl⟩, h⟩
theorem sidxA : MtA K rSidx sidxD := by
  intro ι H S x xs d ds P Q R rx rs h k
  obtain ⟨a, b, i, rest, rfl, rfl, ho, h⟩ := h
  cases rx
  obtain ⟨v, rfl, rv⟩ := rs.one
  cases rv
  exact ⟨a, b, i, rest, rfl, rfl, ho, k _ _ _ _ _ .refl R (.int _) h⟩
end
/-- a method of a text with one argument -/
def aM1 (f : FM) (x y : AE) : AE := fun a S P => x a S fun d S1 => (∃ s, d = .str s) ∧ y a S1 fun e S2 => f d [e] S2 P
section
variable {X : Cx} {B : Bs} {o e : Expr} {x y : AE} {apos pos : Pos}
theorem m1_imp {r : V → List V → Hp → VK → Prop} {f : FM} {σ : L2.St} {H : Hp} {Q : VK} (hf : MtA (kx X) r f) (h : eOf (kx X) B (aM1 f x y) σ H Q) : tM1 r (eOf (kx X) B x) (eOf (kx X) B y) σ H Q := by
  obtain ⟨ι, a, S, P, g, h, k⟩ := h
  refine ⟨ι, a, S, _, g, h, fun ι1 H1 v d S1 e1 r1 v1 h1 => ?_⟩
  obtain ⟨⟨s, rfl⟩, h1⟩ := h1
  cases v1
  refine ⟨⟨s, rfl⟩, ι1, a, S1, _, g.go e1 r1, h1, fun ι2 H2 u e S2 e2 r2 v2 h2 => ?_⟩
  exact hf ι2 H2 S2 _ [u] _ [e] P Q r2 (.str s) (.cons v2 .nil) h2 fun ι3 H3 v d S3 e3 r3 v3 h3 => k _ _ _ _ _ ((e1.trans e2).trans e3) r3 v3 h3
theorem a_split (ho : PE X o (eOf (kx X) B x)) (he : PE X e (eOf (kx X) B y)) (hs : starEach [e] X.env = [(false, eval e X.env)] := by rfl) (hbase : attributeBase o "split" X.env (eval o X.env) = eval o X.env := by rfl) (hline : (apos.endLine == pos.line) = true := by rfl) :
    PE X (.Call (.Attribute o "split" apos) [e] [] pos) (eOf (kx X) B (aM1 splD x y)) := PE.imp (pe_split ho he hs hbase hline) fun _ _ _ h => m1_imp splA h
theorem a_join (ho : PE X o (eOf (kx X) B x)) (he : PE X e (eOf (kx X) B y)) (hs : starEach [e] X.env = [(false, eval e X.env)] := by rfl) (hbase : attributeBase o "join" X.env (eval o X.env) = eval o X.env := by rfl) (hline : (apos.endLine == pos.line) = true := by rfl) :
    PE X (.Call (.Attribute o "join" apos) [e] [] pos) (eOf (kx X) B (aM1 joinD x y)) := PE.imp (pe_join ho he hs hbase hline) fun _ _ _ h => m1_imp joinA h
theorem a_sidx (ho : PE X o (eOf (kx X) B x)) (he : PE X e (eOf (kx X) B y)) (hs : starEach [e] X.env = [(false, eval e X.env)] := by rfl) (hbase : attributeBase o "index" X.env (eval o X.env) = eval o X.env := by rfl) (hline : (apos.endLine == pos.line) = true := by rfl) :
    PE X (.Call (.Attribute o "index" apos) [e] [] pos) (eOf (kx X) B (aM1 sidxD x y)) := PE.imp (pe_m1 F.slot_str_index F.type_str_index mt_sidx ho he hs hbase hline) fun _ _ _ h => m1_imp sidxA h
/-! f-strings -/
def fmtD : F1 := fun d S P => match d with
  | .str y => y.length ≤ sizeLine ∧ P (.str y) S
  | .int i => i.natAbs.log2 < 1920 ∧ P (.str (toString i)) S
  | _ => False
theorem a_fmt (he : PE X e (eOf (kx X) B x)) : PE X (.FormattedValue e (-1) none pos) (eOf (kx X) B (aUn fmtD x)) := by
  refine PE.imp (pe_fmt he) fun σ H Q h => ?_
  obtain ⟨ι, a, S, P, g, h, k⟩ := h
  refine ⟨ι, a, S, _, g, h, fun ι1 H1 v d S1 e1 r1 v1 h1 => ?_⟩
  cases v1 with
  | str y => exact .inl ⟨y, rfl, h1.1, k _ _ _ _ _ e1 r1 (.str _) h1.2⟩
  | int i => exact .inr ⟨i, rfl, h1.1, k _ _ _ _ _ e1 r1 (.str _) h1.2⟩
  | _ => exact h1.elim
abbrev AJ := AS → Str → Sto → (Str → Sto → Prop) → Prop
def jNil : AJ := fun _ acc S P => P acc S
def jCons (x : AE) (r : AJ) : AJ := fun a acc S P => x a S fun d S1 => ∃ y, d = .str y ∧ (acc ++ y).length ≤ sizeLine ∧ r a (acc ++ y) S1 P
def aJoined (r : AJ) : AE := fun a S P => r a Str.empty S fun out S1 => P (.str out) S1
def JOk (X : Cx) (B : Bs) (es : List Expr) (r : AJ) : Prop := ∃ ts, PJ X es ts ∧ ∀ (ι : List Addr) (σ : L2.St) (H : Hp) (a : AS) (S : Sto) (acc : Str) (P : Str → Sto → Prop) (Q : Str → Hp → Prop), Good (kx X) B ι σ H a S → r a acc S P →
  (∀ ι' H' out S', Ext (kx X) ι H ι' H' → RS (kx X) ι' H' S' → P out S' → Q out H') → tJs ts acc σ H Q
theorem j_nil : JOk X B [] jNil := ⟨[], .nil, fun ι σ H a S acc P Q g h k => k ι H acc S .refl g.rs h⟩
theorem j_cons {es : List Expr} {r : AJ} (he : PE X e (eOf (kx X) B x)) (hr : JOk X B es r) : JOk X B (e :: es) (jCons x r) := by
  obtain ⟨ts, h1, h2⟩ := hr
  refine ⟨eOf (kx X) B x :: ts, .cons he h1, fun ι σ H a S acc P Q g h k => ?_⟩
  refine ⟨ι, a, S, _, g, h, fun ι1 H1 v d S1 e1 r1 v1 hd => ?_⟩
  obtain ⟨y, rfl, hz, h3⟩ := hd
  cases v1
  exact ⟨y, rfl, hz, h2 ι1 σ H1 a S1 (acc ++ y) P Q (g.go e1 r1) h3 fun ι2 H2 out S2 e2 r2 h4 => k ι2 H2 out S2 (e1.trans e2) r2 h4⟩
theorem a_joined {e2 : Expr} {es : List Expr} {r : AJ} (h : JOk X B (e :: e2 :: es) r) : PE X (.JoinedStr (e :: e2 :: es) pos) (eOf (kx X) B (aJoined r)) := by
  obtain ⟨ts, h1, h2⟩ := h
  refine PE.imp (pe_joined h1) fun σ H Q h => ?_
  obtain ⟨ι, a, S, P, g, h, k⟩ := h
  exact h2 ι σ H a S Str.empty _ _ g h fun ι1 H1 out S1 e1 r1 h3 => k _ _ _ _ _ e1 r1 (.str _) h3
/-! a sign of a text -/
def getSD : F2 := fun x y S P => ∃ z i c, x = .str z ∧ y = .int i ∧ 0 ≤ i ∧ i < 2 ^ 63 ∧ i < z.length ∧ z.cps[i.toNat]? = some c ∧ P (.str ⟨#[c]⟩) S
theorem getSA {K : KX} : OpA K (fun x y H Q => ∃ z i c, x = .str z ∧ y = .int i ∧ 0 ≤ i ∧ i < 2 ^ 63 ∧ i < z.length ∧ z.cps[i.toNat]? = some c ∧ Q (.str ⟨#[c]⟩) H) getSD := by
  intro ι H S x y d e P Q R rx ry h k
  obtain ⟨z, i, c, rfl, rfl, h0, h1, h2, h3, h⟩ := h
  cases rx
  cases ry
  exact ⟨z, i, c, rfl, rfl, h0, h1, h2, h3, k _ _ _ _ _ .refl R (.str _) h⟩
theorem a_getS (ha : PE X o (eOf (kx X) B x)) (hb : PE X e (eOf (kx X) B y)) (hs : PlainIxT e := by exact fun _ _ => rfl) : PE X (.Subscript o e pos) (eOf (kx X) B (aOp getSD x y)) :=
  PE.imp (pe_item_str ha hb hs) fun _ _ _ h => two getSA h
def inSD (neg : Bool) : F2 := fun x y S P => ∃ (c : Nat) (z : Str), x = .str ⟨#[c]⟩ ∧ y = .str z ∧ P (.bl (bN neg (decide (c ∈ z.cps.toList)))) S
theorem inSA {K : KX} : OpA K (fun x y H Q => ∃ (c : Nat) (z : Str), x = .str ⟨#[c]⟩ ∧ y = .str z ∧ Q (.bl (decide (c ∈ z.cps.toList))) H) (inSD false) := by
  intro ι H S x y d e P Q R rx ry h k
  obtain ⟨c, z, rfl, rfl, h⟩ := h
  cases rx
  cases ry
  exact ⟨c, z, rfl, rfl, k _ _ _ _ _ .refl R (.bl _) h⟩
/-! the signs of a text, one by one -/
def iTxt (x : AE) : AI := fun a S P => x a S fun d S1 => ∃ s, d = .str s ∧ P ⟨always, s.cps.toList.map fun c => .str ⟨#[c]⟩⟩ S1
theorem itr_txt {K : KX} {ι : List Addr} {H : Hp} (s : Str) : ItR K ι H (Its s) ⟨always, s.cps.toList.map fun c => .str ⟨#[c]⟩⟩ := by
  intro ι1 H1 S1 e1 r1 _
  have hl : (s.cps.toList.map fun c => D.str ⟨#[c]⟩).length = s.cps.size := by simp
  refine ⟨fun i hi => ?_, by show s.cps.size ≤ _; rw [hl]; exact Nat.le_refl _⟩
  rw [hl] at hi
  refine ⟨hi, fun v H' yl => ?_⟩
  obtain ⟨rfl, c, hc, rfl⟩ := yl
  refine ⟨_, ?_, .refl, r1, .str _⟩
  rw [List.getElem?_map, Array.getElem?_toList, hc]
  rfl
theorem i_txt {tg : Expr} (he : PE X e (eOf (kx X) B x)) : PI X tg e (iOf (kx X) B (iTxt x)) := by
  refine PI.imp (pi_str he) fun σ H R h => ?_
  obtain ⟨ι, a, S, P, g, h, k⟩ := h
  refine ⟨ι, a, S, _, g, h, fun ι1 H1 v d S1 e1 r1 v1 h1 => ?_⟩
  obtain ⟨s, rfl, h1⟩ := h1
  cases v1
  exact ⟨s, rfl, k _ _ _ _ _ e1 r1 (itr_txt s) h1⟩
/-! texts and tuples of texts among the main part's names -/
theorem a_gstr {n z : Str} (h : ∃ t, X.mg n = some (.str z t)) (hg : Gl X n := by rfl) (hd : (n == ("__debug__" : Str)) = false := by decide) : PE X (.Name n pos) (eOf (kx X) B (aC (.str z))) := by
  obtain ⟨t, h⟩ := h
  exact a_glob (v := .str z) h ⟨t, rfl⟩ (fun _ _ => .str z) hg hd
end
theorem a_gtup {X : Cx} {B : Bs} {pos : Pos} {n : Str} {xs : List Str} (h : ∃ a, X.mg n = some (.ref a) ∧ tupB X.K a xs = true) (hg : Gl X n := by rfl) (hd : (n == ("__debug__" : Str)) = false := by decide) : PE X (.Name n pos) (eOf (kx X) B (aC (.ktp (xs.map D.str)))) := by
  obtain ⟨a, h1, h2⟩ := h
  exact a_glob (v := .ref a) h1 rfl (fun ι H => .ktp (tupB_ok (K := kx X) h2) (vrs_strs xs)) hg hd
end Ab

/-! first, *others = a tuple; what a text says of its texts -/
namespace Ab
open PySem PySem.Spec PyProof.Rows L2 PySem.W
theorem star_itemsT {prog : Program} {w : World} {A : Around} {E : Value → Shared → Prop} {s : Shared} {l : Addr} {u : Value} {us : List Value} {Q : List Value → Shared → Prop} (hl : IsTup s.heap l (u :: us).toArray) (hh : A.handled = none) (hz : us.length ≤ 10000)
    (h : ∀ (h' : Heap) tk, (∀ b o, s.heap.get? b = some o → h'.get? b = some o) → Q [u, .ref h'.objs.size] { s with heap := h'.push (seqObj "list" us.toArray 0), toks := tk }) : wpAny (model prog w) A (unpackItems (.ref l) 2 (some 1)) Q E s := by
  have hlt : l ≠ s.heap.objs.size := by obtain ⟨o, ho, _⟩ := hl; exact Nat.ne_of_lt (Heap.lt_size ho)
  have hsz : (u :: us).toArray.size = us.length + 1 := by simp
  unfold unpackItems
  refine wpAny_bind ?_
  unfold notIterableAtAll
  refine wpAny_bind (wpAny_specialOf hl.typeIs PySem.F.slot_tuple_iter.lookup ?_)
  refine wpAny_pure ?_
  simp only [Bool.false_eq_true, if_false]
  refine wpAny_bind (wpAny_holding (iter_tuple hl ?_))
  refine wpAny_bind (wpAny_holding (draw_tuple hlt 1 0 _ _ ⟨_, Heap.get?_push_size _ rfl, rfl, rfl⟩ (hl.push _) (by omega) fun h₁ hit₁ hs₁ => ?_))
  have hl₁ : IsTup h₁ l (u :: us).toArray := (hl.push _).extBut hs₁.extBut hlt
  rw [Nat.zero_add] at hit₁
  have hit₁' := hit₁
  obtain ⟨oi, hoi, _⟩ := hit₁'
  have hl₁' := hl₁
  obtain ⟨ol, hol, _⟩ := hl₁'
  rw [if_neg (show ¬ ((((u :: us).toArray.toList.drop 0).take 1).length < 1) by simp)]
  refine wpAny_bind (wpAny_holding (kun_collect (s := { s with heap := h₁ }) (T := "tuple_iterator") (.inr (.inr (.inr rfl))) (Walks.tuple (A := A.in1) hh s.heap.objs.size l hlt (u :: us).toArray) (fun j u st => st.1.typeIs) (k := 1) (by omega) ⟨hit₁, hl₁⟩ (Heap.lt_size hoi) (Heap.lt_size hol) (fun h₂ tk hk => ?_) (by rw [sizeLine_eq]; omega)))
  have e1 : (u :: us).toArray.toList.drop 1 = us := rfl
  rw [e1]
  show wpAny _ _ (if us.length < 0 then _ else _) _ _ _
  rw [if_neg (by omega)]
  show wpAny _ _ (newList (us.take (us.length - 0)) >>= fun d => pure ([u] ++ [d] ++ us.drop (us.length - 0))) _ _ _
  rw [Nat.sub_zero, List.take_length, List.drop_length]
  refine wpAny_bind (wpAny_newList ?_ (by rw [sizeLine_eq]; omega))
  refine wpAny_pure ?_
  have he : ∀ b o, s.heap.get? b = some o → h₂.get? b = some o := fun b o e => hk b o (Nat.ne_of_lt (Heap.lt_size e)) (hs₁.extBut b o (Nat.ne_of_lt (Heap.lt_size e)) (Heap.get?_push_of_some _ e))
  exact h h₂ tk he
def gStarT1 (K : PySem.W.Frag) (t : TGs) : TG := fun v σ H Q => ∃ a x xs, v = .ref a ∧ SqT K H a (x :: xs) ∧ xs.length ≤ 10000 ∧ ∀ p, H p = none → t [x, .ref p] σ (upd H p (.lst xs)) Q
section
variable {X : Cx} {pos : Pos}
theorem pg_starT1 {es : List Expr} {k : Nat} {t : TGs} (hc : X.calm = true) (h : PGs X es t)
    (hn : (assignEach es X.env).length = 2 := by rfl) (hst : (assignEach es X.env).findIdx? (·.1) = some 1 := by rfl) : PG X (.Tuple es k pos) (gStarT1 X.K t) := by
  refine ⟨fun pins s σ H v u Q I r hw => ?_⟩
  obtain ⟨a, x, xs, e1, hq, hl, hw⟩ := hw
  subst e1
  cases r
  obtain ⟨its, rv, pl, hz⟩ := I.tuple hq
  cases rv with
  | cons r1 r2 =>
    rename_i ux us
    rw [PyProof.Rows.assign_Tuple]
    refine wpAny_bind (wpAny_standAt ?_)
    unfold unpack
    rw [hn, hst]
    refine wpAny_bind (wpAny_holding (star_itemsT pl (I.ok.hd hc) (by rw [← r2.length]; exact hl) fun h' tk kp => ?_))
    have I0 : Inv X pins σ H { s with heap := h', toks := tk } := I.kept (t' := tk) kp
    have hf : H h'.objs.size = none := I0.hok.fresh (Nat.le_refl _)
    have I1 : Inv X pins σ (upd H h'.objs.size (.lst xs)) { s with heap := h'.push (seqObj "list" us.toArray 0), toks := tk } :=
      I0.laid (t' := tk) (fun b u e => Heap.get?_push_of_some _ e) (Nat.le_refl _) ⟨by rw [sizeLine_eq]; omega, us, 0, r2, Heap.get?_push_size _ rfl⟩
    exact h.run pins _ σ _ [x, .ref h'.objs.size] _ Q I1 (.cons r1 (.cons rfl .nil)) (hw _ hf)
end
/-- first, *others = a tuple -/
def gStarT (r : AGs) : AG := fun d a S P => ∃ x xs, d = .tup (x :: xs) ∧ xs.length ≤ 10000 ∧ r [x, .obj S.length] a (S ++ [.lst xs]) P
section
variable {X : Cx} {B : Bs} {pos : Pos}
theorem g_starT {es : List Expr} {j : Nat} {r : AGs} (hc : X.calm = true) (h : PGs X es (gsOf (kx X) B r)) (hn : (assignEach es X.env).length = 2 := by rfl) (hst : (assignEach es X.env).findIdx? (·.1) = some 1 := by rfl) : PG X (.Tuple es j pos) (gOf (kx X) B (gStarT r)) := by
  refine PG.imp (pg_starT1 hc h hn hst) fun v σ H Q h => ?_
  obtain ⟨ι, d, a, S, P, g, rv, h, k⟩ := h
  obtain ⟨x, xs, rfl, hz, h⟩ := h
  cases rv with
  | tup h1 h2 =>
    cases h2 with
    | cons v1 v2 =>
      refine ⟨_, _, _, rfl, .of h1, by rw [v2.length]; exact hz, fun p hp => ?_⟩
      obtain ⟨e2, r2, w2⟩ := new_lst g.rs hp v2
      exact ⟨_, _, a, _, P, g.go e2 r2, .cons (v1.up e2) (.cons w2 .nil), h, fun ι' H' σ' a' S' e3 r3 s3 h3 => k _ _ _ _ _ (e2.trans e3) r3 s3 h3⟩
end
end Ab
namespace Ab
open PySem PySem.Spec PyProof.Rows L2
/-- a def by another name of the main part: x; its own name nm -/
def OkFA (P : Program) (w : World) (K : PySem.W.Frag) (mg : Str → Option Value) (base : Heap) (k : Nat) (x nm : Str) (st : Stmt) (ps : List Str) (sp : FN) : Prop :=
  ∃ fd, FunD K nm nm (defArgs st) (defBody st) (defScope st) [] [] (He.ga K x) fd ∧ Binds K fd ps [] ∧ AOk P w K mg base k (He.ga K x) fd ps sp
section
variable {X : Cx} {B : Bs} {st : Stmt} {ps ks : List Str} {sp : FN} {n nm : Str} {p pos : Pos} {e : Expr} {es : List Expr} {z : AA} {k : Nat}
theorem a_callFA (F : OkFA X.prog X.w X.K X.mg X.base k n nm st ps sp) (hr : Room k X.A) (hm : X.mg n = some (.ref (He.ga X.K n))) (ha : PA X (e :: es) (aOf (kx X) B z)) (hg : Gl X n := by rfl)
    (hdb : (n == ("__debug__" : Str)) = false := by decide) (he : starEach (e :: es) X.env = (false, eval e X.env) :: starEach es X.env := by rfl) (hpl : (backTo pos (starEach es X.env)).any (·.1) = false := by rfl) :
    PE X (.Call (.Name n p) (e :: es) [] pos) (eOf (kx X) B (aCall sp z)) := by
  obtain ⟨fd, F1, b, F2⟩ := F
  exact a_call F2 hr hm F1.kp b ha hg hdb he hpl
end
theorem okfa_of {P : Program} {w : World} {K : PySem.W.Frag} {mg : Str → Option Value} {base : Heap} {x nm : Str} {st : Stmt} {N ps : List Str} {k n : Nat} {sp : FN} {as : AX} {fd : FuncData} (F : FunD K nm nm (defArgs st) (defBody st) (defScope st) [] [] (He.ga K x) fd) (C : FnScope N ps (defScope st)) (len : Ar ps.length sp) (hn : N.length = n)
    (hb : ∀ (kV doc pm : Value) (an : Option Addr) (cdv ct : Value) (us : List Value), us.length = ps.length → bindArgs (PySem.W.fnOf nm nm (defArgs st) (defBody st) (defScope st) .none kV doc pm an cdv ct) ⟨us, []⟩ = pure (ps.zip us))
    (hbody : ∀ (cdv : Value) (A : Around) (outer : List Env) (s : Shared) (H : Hp) (E : XK) (B : Bs), Room k (A.deeper (PyProof.Rows.envOfC nm (defScope st) s.heap.objs.size (He.ga K x) cdv)) →
      PSs (cxOf CX0 P w K mg base N nm (defScope st) (He.ga K x) cdv A outer s H E).nox (defBody st) (sOf ⟨K, P, w⟩ B as))
    (hsem : ∀ ds S P, sp ds S P → as { nx := fun _ S' => P .non S', rt := P } (aStart n ds) S) : OkFA P w K mg base (k + 1) x nm st ps sp :=
  ⟨fd, F, F.bindsN hb, aok (fun_of F) C len hn hbody hsem⟩
end Ab

/-! plain laws of texts -/
namespace Ab
open PySem PySem.Spec PyProof.Rows L2 TL
/-- a whole number as a text -/
def nS (i : Int) : Str := Str.ofString (toString i)
theorem tl_nS (n : Nat) : tl (nS n) = numL n := tl_num n
theorem tl_nS_neg (n : Nat) (h : 1 ≤ n) : tl (nS (-(n : Int))) = 45 :: numL n := by
  obtain ⟨m, rfl⟩ : ∃ m, n = m + 1 := ⟨n - 1, by omega⟩
  have e : toString (-((m + 1 : Nat) : Int)) = "-" ++ toString (((m + 1 : Nat)) : Int) := rfl
  unfold nS
  rw [e, tl_ofString, String.toList_append, List.map_append, ← tl_ofString, ← tl_ofString, tl_num]
  rfl
theorem numL_head {n : Nat} (h : 1 ≤ n) : ∃ c r, numL n = c :: r ∧ 49 ≤ c ∧ c ≤ 57 := by
  induction n using Nat.strongRecOn with
  | _ n ih =>
    by_cases h1 : n < 10
    · exact ⟨48 + n, [], numL_lt h1, by omega, by omega⟩
    · obtain ⟨c, r, e, h2, h3⟩ := ih (n / 10) (by omega) (by omega)
      exact ⟨c, r ++ [48 + n % 10], by rw [numL_step (by omega), e]; rfl, h2, h3⟩
def digB (c : Nat) : Bool := decide (48 ≤ c ∧ c ≤ 57)
/-- the number that figures write -/
def numB (l : List Nat) : Option Nat := if l ≠ [] ∧ (l.head? = some 48 → l = [48]) ∧ l.all digB = true then some (NumText.digitsVal l) else none
theorem numB_numL (n : Nat) : numB (numL n) = some n := by
  unfold numB
  rw [if_pos, numL_val]
  refine ⟨numL_ne n, fun h => ?_, List.all_eq_true.mpr fun c hc => ?_⟩
  · by_cases h1 : 1 ≤ n
    · obtain ⟨c, r, e, h2, h3⟩ := numL_head h1
      rw [e] at h
      simp at h
      omega
    · have : n = 0 := by omega
      subst this
      exact numL_lt (by decide)
  · have := numL_digits n c hc
    unfold digB
    exact decide_eq_true (by omega)
/-- the lit that a word writes -/
def litT (l : List Nat) : Option Int := if l.head? = some 45 then (match numB (l.drop 1) with
  | some n => if n = 0 then none else some (0 - (n : Int))
  | none => none) else (numB l).map Int.ofNat
theorem numL_no45 (n : Nat) : (numL n).head? ≠ some 45 := fun h => by
  have hm : 45 ∈ numL n := List.mem_of_head? h
  exact numL_free (.inl (by decide)) hm
theorem nS_cases (i : Int) : (∃ n : Nat, i = n ∧ tl (nS i) = numL n) ∨ ∃ n : Nat, 1 ≤ n ∧ i = -(n : Int) ∧ tl (nS i) = 45 :: numL n := by
  rcases Int.lt_or_le i 0 with h | h
  · obtain ⟨n, rfl⟩ : ∃ n : Nat, i = -(n : Int) := ⟨(-i).toNat, by omega⟩
    exact .inr ⟨n, by omega, rfl, tl_nS_neg n (by omega)⟩
  · obtain ⟨n, rfl⟩ : ∃ n : Nat, i = n := ⟨i.toNat, by omega⟩
    exact .inl ⟨n, rfl, tl_nS n⟩
theorem litT_nS (i : Int) : litT (tl (nS i)) = some i := by
  rcases nS_cases i with ⟨n, rfl, e⟩ | ⟨n, h, rfl, e⟩
  · rw [e]
    unfold litT
    rw [if_neg (numL_no45 n), numB_numL]
    rfl
  · rw [e]
    unfold litT
    have h0 : (45 :: numL n).head? = some 45 := rfl
    have h1 : (45 :: numL n).drop 1 = numL n := rfl
    rw [if_pos h0, h1, numB_numL]
    show (if n = 0 then none else some (0 - (n : Int))) = _
    rw [if_neg (by omega)]
    simp
theorem nS_free {i : Int} {s : Nat} (h : s < 48 ∨ 57 < s) (h2 : s ≠ 45) : s ∉ tl (nS i) := by
  rcases nS_cases i with ⟨n, rfl, e⟩ | ⟨n, h1, rfl, e⟩
  · rw [e]
    exact numL_free h
  · rw [e]
    intro z
    rcases List.mem_cons.mp z with z | z
    · exact h2 z
    · exact numL_free h z
theorem strOk_tl {x : Str} (h : ∀ c ∈ tl x, c < 0x110000) : PyData.strOk x = true := by
  unfold PyData.strOk
  rw [Array.all_eq_true_iff_forall_mem]
  intro c hc
  exact decide_eq_true (h c (by simpa using hc))
theorem tl_strOk {x : Str} (h : PyData.strOk x = true) : ∀ c ∈ tl x, c < 0x110000 := by
  unfold PyData.strOk at h
  rw [Array.all_eq_true_iff_forall_mem] at h
  exact fun c hc => of_decide_eq_true (h c (by simpa using hc))
theorem strOk_nS (i : Int) : PyData.strOk (nS i) = true := strOk_str _
theorem sh_str {s : Str} (hs : PyData.strOk s = true) : SeqAt.shaped (.str s) = true := by unfold SeqAt.shaped; simp [PyData.canLay0, PyData.depth, hs]
theorem eqv_str (a b : Str) : PyData.eqv (.str a) (.str b) = decide (a = b) := by
  have e : PyData.eqv (.str a) (.str b) = (a == b) := by simp [PyData.eqv]
  rw [e, Bool.eq_iff_iff, beq_iff_eq, decide_eq_true_eq]
theorem eq_str {a b : Str} {S : Sto} {P : D → Sto → Prop} (ha : PyData.strOk a = true) (hb : PyData.strOk b = true) (h : P (.bl (decide (a = b))) S) : eqD (.str a) (.str b) S P := by
  refine eqD_of_py (eqPy_of false (.str a) (.str b) (sh_str ha) (sh_str hb) ?_)
  rw [eqv_str]
  exact h
theorem ne_str {a b : Str} {S : Sto} {P : D → Sto → Prop} (ha : PyData.strOk a = true) (hb : PyData.strOk b = true) (h : P (.bl (!decide (a = b))) S) : neD (.str a) (.str b) S P := by
  refine neD_of_py (eqPy_of true (.str a) (.str b) (sh_str ha) (sh_str hb) ?_)
  rw [eqv_str]
  exact h
/-- a tuple with itself -/
theorem ne_self {l : List D} {p : List PyData} {S : Sto} {P : D → Sto → Prop} (hp : Pys S l p) (hs : SeqAt.shaped (.tuple p) = true) (he : PyData.eqv (.tuple p) (.tuple p) = true) (h : P (.bl false) S) : neD (.tup l) (.tup l) S P := by
  refine neD_of_py (eqPy_of true (.tup hp) (.tup hp) hs hs ?_)
  rw [he]
  exact h
/-! lists of texts -/
theorem pys_strs {S : Sto} : ∀ l : List Str, Pys S (l.map D.str) (l.map .str)
  | [] => .nil
  | x :: l => .cons (.str x) (pys_strs l)
theorem lay_strs : ∀ {l : List Str}, (∀ x ∈ l, PyData.strOk x = true) → PyData.canLayAll0 (l.map .str) = true
  | [], _ => rfl
  | x :: l, h => by
    have h1 : PyData.canLay0 (.str x) = true := by simp [PyData.canLay0, h x (by simp)]
    have h2 := lay_strs (l := l) fun y hy => h y (by simp [hy])
    rw [List.map_cons, PyData.canLayAll0, h1, h2]
    rfl
theorem dep_strs : ∀ l : List Str, PyData.depthAll (l.map .str) = 0
  | [] => rfl
  | x :: l => by
    rw [List.map_cons, PyData.depthAll, dep_strs l, PyData.depth]
    rfl
theorem eqv_strs : ∀ l k : List Str, PyData.eqvAll (l.map .str) (k.map .str) = decide (l = k)
  | [], [] => rfl
  | [], _ :: _ => rfl
  | _ :: _, [] => rfl
  | x :: l, y :: k => by
    rw [List.map_cons, List.map_cons, PyData.eqvAll, eqv_str, eqv_strs l k]
    by_cases h1 : x = y <;> by_cases h2 : l = k <;> simp [h1, h2]
theorem sh_strs {l : List Str} (h : ∀ x ∈ l, PyData.strOk x = true) : SeqAt.shaped (.list (l.map .str)) = true := by
  unfold SeqAt.shaped
  simp [PyData.canLay0, PyData.depth, lay_strs h, dep_strs]
theorem eq_strs {n m : Nat} {l k : List Str} {S : Sto} {P : D → Sto → Prop} (h1 : S[n]? = some (.lst (l.map D.str))) (h2 : S[m]? = some (.lst (k.map D.str))) (hl : ∀ x ∈ l, PyData.strOk x = true) (hk : ∀ x ∈ k, PyData.strOk x = true) (h : P (.bl (decide (l = k))) S) : eqD (.obj n) (.obj m) S P := by
  refine eqD_of_py (eqPy_of false (.obj h1 (pys_strs l)) (.obj h2 (pys_strs k)) (sh_strs hl) (sh_strs hk) ?_)
  have e : PyData.eqv (.list (l.map .str)) (.list (k.map .str)) = decide (l = k) := by rw [PyData.eqv, eqv_strs]
  rw [e]
  exact h
theorem ne_strs {n m : Nat} {l k : List Str} {S : Sto} {P : D → Sto → Prop} (h1 : S[n]? = some (.lst (l.map D.str))) (h2 : S[m]? = some (.lst (k.map D.str))) (hl : ∀ x ∈ l, PyData.strOk x = true) (hk : ∀ x ∈ k, PyData.strOk x = true) (h : P (.bl (!decide (l = k))) S) : neD (.obj n) (.obj m) S P := by
  refine neD_of_py (eqPy_of true (.obj h1 (pys_strs l)) (.obj h2 (pys_strs k)) (sh_strs hl) (sh_strs hk) ?_)
  have e : PyData.eqv (.list (l.map .str)) (.list (k.map .str)) = decide (l = k) := by rw [PyData.eqv, eqv_strs]
  rw [e]
  exact h
/-- a text among texts -/
theorem in_strs {neg : Bool} {x : Str} {l : List Str} {S : Sto} {P : D → Sto → Prop} (hx : PyData.strOk x = true) (hl : ∀ y ∈ l, PyData.strOk y = true) (h : P (.bl (bN neg (decide (x ∈ l)))) S) : inD neg (.str x) (.ktp (l.map D.str)) S P := by
  refine inPy_of neg (.str x) (pys_strs l) (sh_str hx) (sh_strs hl) ?_
  have e : ((l.map PyData.str).any fun z => PyData.eqv z (.str x)) = decide (x ∈ l) := by
    rw [Bool.eq_iff_iff, List.any_eq_true, decide_eq_true_eq]
    constructor
    · rintro ⟨z, hz, e⟩
      obtain ⟨y, hy, rfl⟩ := List.mem_map.mp hz
      rw [eqv_str] at e
      rw [← of_decide_eq_true e]
      exact hy
    · intro h
      exact ⟨_, List.mem_map.mpr ⟨x, h, rfl⟩, by rw [eqv_str]; exact decide_eq_true rfl⟩
  rw [e]
  cases neg <;> exact h
end Ab
namespace Ab
open PySem PySem.Spec PyProof.Rows L2 TL
def numD : Option Nat → D
  | none => .non
  | some n => .int (n : Nat)
def litD : Option Int → D
  | none => .non
  | some n => .int n
/-- a clause's words, its text -/
def rowW (c : List Int) : List Str := if c = [] then [Str.ofString "."] else c.map nS
def rowT (c : List Int) : Str := Txt.join (Str.ofString " ") (rowW c)
theorem rowW_ok (c : List Int) : ∀ w ∈ rowW c, PyData.strOk w = true := by
  unfold rowW
  split
  · intro w hw
    rw [List.mem_singleton.mp hw]
    exact strOk_str _
  · intro w hw
    obtain ⟨i, _, rfl⟩ := List.mem_map.mp hw
    exact strOk_nS i
end Ab
namespace Ab
open PySem PySem.Spec PyProof.Rows L2 TL
theorem log2_few {n : Nat} (h : n < 2 ^ 200) : n.log2 < 1920 := by
  by_cases h0 : n = 0
  · subst h0
    decide
  · have := (Nat.log2_lt h0).mpr h
    omega
theorem nS_len {i : Int} {k : Nat} (hk : 0 < k) (h : i.natAbs < 10 ^ k) : (nS i).length ≤ k + 1 := by
  rcases nS_cases i with ⟨n, rfl, e⟩ | ⟨n, h1, rfl, e⟩
  · rw [len_tl, e]
    have := numL_len hk (n := n) (by simpa using h)
    omega
  · rw [len_tl, e, List.length_cons]
    have := numL_len hk (n := n) (by simpa using h)
    omega
theorem sum_le {l : List Str} {m : Nat} (h : ∀ x ∈ l, x.length ≤ m) : (l.map (·.length)).sum ≤ l.length * m := by
  induction l with
  | nil => simp
  | cons x l ih =>
    rw [List.map_cons, List.sum_cons, List.length_cons]
    have h1 := h x (by simp)
    have h2 := ih fun y hy => h y (by simp [hy])
    rw [Nat.succ_mul]
    omega
theorem joinL_len {s : Nat} : ∀ {l : List (List Nat)} {m : Nat}, (∀ x ∈ l, x.length ≤ m) → (joinL [s] l).length ≤ l.length * (m + 1)
  | [], _, _ => by simp [joinL]
  | [p], m, h => by
    have := h p (by simp)
    show p.length ≤ _
    rw [List.length_singleton]
    omega
  | p :: q :: r, m, h => by
    have h1 := h p (by simp)
    have h2 := joinL_len (s := s) (l := q :: r) (m := m) fun y hy => h y (List.mem_cons_of_mem _ hy)
    show (p ++ ([s] ++ joinL [s] (q :: r))).length ≤ _
    rw [List.length_append, List.length_append, List.length_singleton, List.length_cons]
    rw [Nat.succ_mul]
    omega
theorem tl_joinT (y : Str) (l : List Str) : tl (Txt.join y l) = joinL (tl y) (l.map tl) := by rw [join_eq, tl_join]
theorem join_len {y : Str} {s : Nat} {l : List Str} {m : Nat} (hy : tl y = [s]) (h : ∀ x ∈ l, x.length ≤ m) : (Txt.join y l).length ≤ l.length * (m + 1) := by
  rw [len_tl, tl_joinT, hy]
  have := joinL_len (s := s) (l := l.map tl) (m := m) fun x hx => by
    obtain ⟨z, hz, rfl⟩ := List.mem_map.mp hx
    rw [← len_tl]
    exact h z hz
  simpa using this
theorem tl_blank : tl (Str.ofString " ") = [32] := by decide +kernel
theorem tl_row : tl (Str.ofString "\n") = [10] := by decide +kernel
theorem joinL_mem {s c : Nat} : ∀ {l : List (List Nat)}, c ∈ joinL [s] l → c = s ∨ ∃ x ∈ l, c ∈ x
  | [], h => by simp [joinL] at h
  | [p], h => .inr ⟨p, by simp, h⟩
  | p :: q :: r, h => by
    have h : c ∈ p ++ ([s] ++ joinL [s] (q :: r)) := h
    rw [List.mem_append, List.mem_append, List.mem_singleton] at h
    rcases h with h | h | h
    · exact .inr ⟨p, by simp, h⟩
    · exact .inl h
    · rcases joinL_mem h with h | ⟨x, hx, h⟩
      · exact .inl h
      · exact .inr ⟨x, List.mem_cons_of_mem _ hx, h⟩
theorem join_ok {y : Str} {s : Nat} {l : List Str} (hy : tl y = [s]) (hs : s < 0x110000) (h : ∀ x ∈ l, PyData.strOk x = true) : PyData.strOk (Txt.join y l) = true := by
  refine strOk_tl fun c hc => ?_
  rw [tl_joinT, hy] at hc
  rcases joinL_mem hc with rfl | ⟨x, hx, h1⟩
  · exact hs
  · obtain ⟨z, hz, rfl⟩ := List.mem_map.mp hx
    exact tl_strOk (h z hz) c h1
theorem rowT_ok (c : List Int) : PyData.strOk (rowT c) = true := join_ok tl_blank (by decide) (rowW_ok c)
/-- a joined text with a first part that isn't empty is none -/
theorem joinL_ne {s : Nat} {p : List Nat} {l : List (List Nat)} (h : p ≠ []) : joinL [s] (p :: l) ≠ [] := by
  cases l with
  | nil => exact h
  | cons q r =>
    show p ++ ([s] ++ joinL [s] (q :: r)) ≠ []
    intro z
    exact h (List.append_eq_nil_iff.mp z).1
theorem nS_ne (i : Int) : tl (nS i) ≠ [] := by
  rcases nS_cases i with ⟨n, rfl, e⟩ | ⟨n, h1, rfl, e⟩
  · rw [e]
    exact numL_ne n
  · rw [e]
    simp
theorem lit_len {s : Int} {i : Int} (h : Lit s i) (hs : s ≤ 40) : (nS i).length ≤ 3 := nS_len (k := 2) (by decide) (by
  have := h.2
  unfold ab at this
  split at this <;> omega)
theorem rowW_len {s : Int} {c : List Int} (h : Cl s c) (hs : s ≤ 40) : ∀ w ∈ rowW c, w.length ≤ 3 := by
  unfold rowW
  split
  · intro w hw
    rw [List.mem_singleton.mp hw]
    decide +kernel
  · intro w hw
    obtain ⟨i, hi, rfl⟩ := List.mem_map.mp hw
    exact lit_len (h.lit i hi) hs
theorem rowW_many {s : Int} {c : List Int} (h : Cl s c) (hs : s ≤ 40) : (rowW c).length ≤ 40 := by
  have := cl_len (h.mono hs)
  unfold rowW
  split
  · simp
  · simpa using this
theorem rowT_len {s : Int} {c : List Int} (h : Cl s c) (hs : s ≤ 40) : (rowT c).length ≤ 160 := by
  have h1 := join_len (m := 3) tl_blank (rowW_len h hs)
  have h2 := rowW_many h hs
  unfold rowT
  omega
theorem rowW_ne (c : List Int) : rowW c ≠ [] := by
  unfold rowW
  split
  · simp
  · rename_i h
    intro z
    exact h (List.map_eq_nil_iff.mp z)
theorem rowW_free {n : Nat} (h : n < 45) (c : List Int) : ∀ w ∈ rowW c, n ∉ tl w := by
  unfold rowW
  split
  · intro w hw
    rw [List.mem_singleton.mp hw]
    have e : tl (Str.ofString ".") = [46] := by decide +kernel
    rw [e]
    simp
    omega
  · intro w hw
    obtain ⟨i, _, rfl⟩ := List.mem_map.mp hw
    exact nS_free (.inl (by omega)) (by omega)
end Ab
namespace Ab
open PySem PySem.Spec PyProof.Rows L2 TL
theorem cut_drop {w : Str} (k : Nat) : tl (cutS w (some (k : Int)) none) = (tl w).drop k := by
  have e : tl (cutS w (some (k : Int)) none) = ((tl w).drop (HT.sIx w.length 0 (some (k : Int)))).take (HT.sIx w.length w.length none - HT.sIx w.length 0 (some (k : Int))) := rfl
  rw [e, HT.sIx_nat, HT.sIx_none, len_tl]
  by_cases h : k ≤ (tl w).length
  · rw [Nat.min_eq_left h, List.take_of_length_le (by rw [List.length_drop]; omega)]
  · have h : (tl w).length ≤ k := by omega
    rw [Nat.min_eq_right h, List.drop_length, List.take_nil, List.drop_eq_nil_of_le h]
theorem cut_take1 {w : Str} : tl (cutS w none (some 1)) = (tl w).take 1 := by
  have e : tl (cutS w none (some 1)) = ((tl w).drop (HT.sIx w.length 0 none)).take (HT.sIx w.length w.length (some ((1 : Nat) : Int)) - HT.sIx w.length 0 none) := rfl
  rw [e, HT.sIx_nat, HT.sIx_none, List.drop_zero, len_tl, Nat.sub_zero]
  cases tl w with
  | nil => rfl
  | cons c r => rw [List.length_cons, Nat.min_eq_left (by omega)]
theorem cut_ok {w : Str} (i j : Option Int) (h : PyData.strOk w = true) : PyData.strOk (cutS w i j) = true := strOk_tl fun c hc => by
  have hc : c ∈ ((tl w).drop (HT.sIx w.length 0 i)).take (HT.sIx w.length w.length j - HT.sIx w.length 0 i) := hc
  exact tl_strOk h c (List.mem_of_mem_drop (List.mem_of_mem_take hc))
theorem cut_minus {w : Str} : decide (cutS w none (some 1) = Str.ofString "-") = decide ((tl w).head? = some 45) := by
  have e0 : tl (Str.ofString "-") = [45] := by decide +kernel
  rw [Bool.eq_iff_iff, decide_eq_true_eq, decide_eq_true_eq]
  constructor
  · intro h
    have h1 := cut_take1 (w := w)
    rw [h, e0] at h1
    cases hw : tl w with
    | nil => rw [hw] at h1; cases h1
    | cons c r =>
      rw [hw] at h1
      injection h1 with h1 _
      rw [h1]
      rfl
  · intro h
    refine ext_tl ?_
    rw [cut_take1, e0]
    cases hw : tl w with
    | nil => rw [hw] at h; cases h
    | cons c r =>
      rw [hw] at h
      rw [Option.some.inj h]
      rfl
end Ab

namespace KK
open PySem PySem.Spec PyProof.Rows L2 Ab
@[irreducible] def p_is_whole : FN := ar1 fun x S P => ∃ i, x = .int i ∧ P (.bl true) S
theorem is_whole_of {i : Int} {S : Sto} {P : D → Sto → Prop} (q : P (.bl true) S) : p_is_whole [.int i] S P := by
  unfold p_is_whole
  exact ⟨i, rfl, q⟩

@[irreducible] def p_is_lit : FN := ar1 fun x S P => ∃ i, x = .int i ∧ Lit 40 i ∧ P (.bl true) S
theorem is_lit_of {i : Int} {S : Sto} {P : D → Sto → Prop} (h : Lit 40 i) (q : P (.bl true) S) : p_is_lit [.int i] S P := by
  unfold p_is_lit
  exact ⟨i, rfl, h, q⟩

@[irreducible] def p_is_clause : FN := ar1 fun x S P => ∃ c, x = d c ∧ Cl 40 c ∧ c.length ≤ 1000 ∧ ∀ S', Keep MZ S S' → P (.bl true) S'
theorem is_clause_of {c : List Int} {S : Sto} {P : D → Sto → Prop} (h : Cl 40 c) (hl : c.length ≤ 1000) (q : ∀ S', Keep MZ S S' → P (.bl true) S') : p_is_clause [d c] S P := by
  unfold p_is_clause
  exact ⟨c, rfl, h, hl, q⟩

@[irreducible] def p_row_text : FN := ar1 fun x S P => ∃ c, x = d c ∧ Cl 40 c ∧ ∀ S', Keep MZ S S' → P (.str (rowT c)) S'
theorem row_text_of {c : List Int} {S : Sto} {P : D → Sto → Prop} (h : Cl 40 c) (q : ∀ S', Keep MZ S S' → P (.str (rowT c)) S') : p_row_text [d c] S P := by
  unfold p_row_text
  exact ⟨c, rfl, h, q⟩

@[irreducible] def p_number_in : FN := ar1 fun x S P => ∃ w : Str, x = .str w ∧ PyData.strOk w = true ∧ w.length ≤ 100000 ∧ ∀ S', Keep MZ S S' → P (numD (numB (TL.tl w))) S'
theorem number_in_of {w : Str} {S : Sto} {P : D → Sto → Prop} (h : PyData.strOk w = true) (hl : w.length ≤ 100000) (q : ∀ S', Keep MZ S S' → P (numD (numB (TL.tl w))) S') : p_number_in [.str w] S P := by
  unfold p_number_in
  exact ⟨w, rfl, h, hl, q⟩

@[irreducible] def p_lit_in_booktexts : FN := ar1 fun x S P => ∃ w : Str, x = .str w ∧ PyData.strOk w = true ∧ w.length ≤ 100000 ∧ ∀ S', Keep MZ S S' → P (litD (litT (TL.tl w))) S'
theorem lit_in_booktexts_of {w : Str} {S : Sto} {P : D → Sto → Prop} (h : PyData.strOk w = true) (hl : w.length ≤ 100000) (q : ∀ S', Keep MZ S S' → P (litD (litT (TL.tl w))) S') : p_lit_in_booktexts [.str w] S P := by
  unfold p_lit_in_booktexts
  exact ⟨w, rfl, h, hl, q⟩

@[irreducible] def p_lits_text : FN := ar1 fun x S P => ∃ c, x = d c ∧ Cl 40 c ∧ ∀ S', Keep MZ S S' → P (.str (rowT c)) S'
theorem lits_text_of {c : List Int} {S : Sto} {P : D → Sto → Prop} (h : Cl 40 c) (q : ∀ S', Keep MZ S S' → P (.str (rowT c)) S') : p_lits_text [d c] S P := by
  unfold p_lits_text
  exact ⟨c, rfl, h, q⟩

/-! k25 -/
/-- a line -/
inductive Ln | of (w : Str) (c : List Int) | lv (c : List Int) (l : Int) | bk (n : Nat)
def OFW : List Str := ["add", "keep", "forget", "drop", "put"]
def Ln.d : Ln → D
  | .of w c => .tup [.str w, Ab.d c]
  | .lv c l => .tup [.str "leave", Ab.d c, .int l]
  | .bk n => .tup [.str "back", .int (n : Nat)]
def Ln.words : Ln → List Str
  | .of w c => w :: rowW c
  | .lv c l => Str.ofString "leave" :: nS l :: rowW c
  | .bk n => [Str.ofString "back", nS (n : Nat)]
def Ln.text (l : Ln) : Str := Txt.join (Str.ofString " ") l.words
def Ln.ok : Ln → Prop
  | .of w c => w ∈ OFW ∧ Cl 40 c
  | .lv c l => Cl 40 c ∧ l ∈ c
  | .bk n => n < 10 ^ 12
def logT (ls : List Ln) : Str := Txt.join (Str.ofString "\n") (ls.map Ln.text)
def logD (ls : List Ln) : D := .tup (ls.map Ln.d)
def Log (ls : List Ln) : Prop := (∀ l ∈ ls, l.ok) ∧ ls.length ≤ 12
@[irreducible] def p_lit_in_logtexts : FN := ar1 fun x S P => ∃ i : Int, x = .str (nS i) ∧ i.natAbs ≤ 40 ∧ ∀ S', Keep MZ S S' → P (.int i) S'
theorem lit_in_logtexts_of {i : Int} {S : Sto} {P : D → Sto → Prop} (h : i.natAbs ≤ 40) (q : ∀ S', Keep MZ S S' → P (.int i) S') : p_lit_in_logtexts [.str (nS i)] S P := by
  unfold p_lit_in_logtexts
  exact ⟨i, rfl, h, q⟩
@[irreducible] def p_clause_in : FN := ar1 fun x S P => ∃ n c, x = .obj n ∧ S[n]? = some (.lst ((rowW c).map D.str)) ∧ Cl 40 c ∧ ∀ S', Keep MZ S S' → P (d c) S'
theorem clause_in_of {n : Nat} {c : List Int} {S : Sto} {P : D → Sto → Prop} (h : S[n]? = some (.lst ((rowW c).map D.str))) (hc : Cl 40 c) (q : ∀ S', Keep MZ S S' → P (d c) S') : p_clause_in [.obj n] S P := by
  unfold p_clause_in
  exact ⟨n, c, rfl, h, hc, q⟩
@[irreducible] def p_is_line : FN := ar1 fun x S P => ∃ l : Ln, x = l.d ∧ l.ok ∧ ∀ S', Keep MZ S S' → P (.bl true) S'
theorem is_line_of {l : Ln} {S : Sto} {P : D → Sto → Prop} (h : l.ok) (q : ∀ S', Keep MZ S S' → P (.bl true) S') : p_is_line [l.d] S P := by
  unfold p_is_line
  exact ⟨l, rfl, h, q⟩
@[irreducible] def p_line_text : FN := ar1 fun x S P => ∃ l : Ln, x = l.d ∧ l.ok ∧ ∀ S', Keep MZ S S' → P (.str l.text) S'
theorem line_text_of {l : Ln} {S : Sto} {P : D → Sto → Prop} (h : l.ok) (q : ∀ S', Keep MZ S S' → P (.str l.text) S') : p_line_text [l.d] S P := by
  unfold p_line_text
  exact ⟨l, rfl, h, q⟩
@[irreducible] def p_law_line_text : FN := ar1 fun x S P => ∃ l : Ln, x = l.d ∧ l.ok ∧ ∀ S', Keep MZ S S' → P (.str l.text) S'
theorem law_line_text_of {l : Ln} {S : Sto} {P : D → Sto → Prop} (h : l.ok) (q : ∀ S', Keep MZ S S' → P (.str l.text) S') : p_law_line_text [l.d] S P := by
  unfold p_law_line_text
  exact ⟨l, rfl, h, q⟩
@[irreducible] def p_line_in : FN := ar1 fun x S P => ∃ l : Ln, x = .str l.text ∧ l.ok ∧ ∀ S', Keep MZ S S' → P l.d S'
theorem line_in_of {l : Ln} {S : Sto} {P : D → Sto → Prop} (h : l.ok) (q : ∀ S', Keep MZ S S' → P l.d S') : p_line_in [.str l.text] S P := by
  unfold p_line_in
  exact ⟨l, rfl, h, q⟩
@[irreducible] def p_show_log : FN := ar1 fun x S P => ∃ ls, x = logD ls ∧ Log ls ∧ ∀ S', Keep MZ S S' → P (.str (logT ls)) S'
theorem show_log_of {ls : List Ln} {S : Sto} {P : D → Sto → Prop} (h : Log ls) (q : ∀ S', Keep MZ S S' → P (.str (logT ls)) S') : p_show_log [logD ls] S P := by
  unfold p_show_log
  exact ⟨ls, rfl, h, q⟩
@[irreducible] def p_read_log : FN := ar1 fun x S P => ∃ ls, x = .str (logT ls) ∧ Log ls ∧ ∀ S', Keep MZ S S' → P (logD ls) S'
theorem read_log_of {ls : List Ln} {S : Sto} {P : D → Sto → Prop} (h : Log ls) (q : ∀ S', Keep MZ S S' → P (logD ls) S') : p_read_log [.str (logT ls)] S P := by
  unfold p_read_log
  exact ⟨ls, rfl, h, q⟩
@[irreducible] def p_law_shape : FN := ar2 fun x y S P => ∃ n s, x = .obj n ∧ y = .int s ∧ Pu S n ∧ 1 ≤ s ∧ s ≤ 40 ∧ ∀ (l : Ln) S', l.ok → Keep (MO n) S S' → Pu S' n → P l.d S'
theorem law_shape_of {n : Nat} {s : Int} {S : Sto} {P : D → Sto → Prop} (hp : Pu S n) (h1 : 1 ≤ s) (h2 : s ≤ 40) (q : ∀ (l : Ln) S', l.ok → Keep (MO n) S S' → Pu S' n → P l.d S') : p_law_shape [.obj n, .int s] S P := by
  unfold p_law_shape
  exact ⟨n, s, rfl, rfl, hp, h1, h2, q⟩
@[irreducible] def p_law_kinds_right : FN := ar1 fun x S P => ∃ ls, x = logD ls ∧ Log ls ∧ ∀ S', Keep MZ S S' → P (.bl true) S'
theorem law_kinds_right_of {ls : List Ln} {S : Sto} {P : D → Sto → Prop} (h : Log ls) (q : ∀ S', Keep MZ S S' → P (.bl true) S') : p_law_kinds_right [logD ls] S P := by
  unfold p_law_kinds_right
  exact ⟨ls, rfl, h, q⟩
@[irreducible] def p_law_right : FN := ar1 fun x S P => ∃ ls, x = logD ls ∧ Log ls ∧ ∀ S', Keep MZ S S' → P (.bl true) S'
theorem law_right_of {ls : List Ln} {S : Sto} {P : D → Sto → Prop} (h : Log ls) (q : ∀ S', Keep MZ S S' → P (.bl true) S') : p_law_right [logD ls] S P := by
  unfold p_law_right
  exact ⟨ls, rfl, h, q⟩
def p_law : FN := pLaw

abbrev s_is_whole : Stmt := top 7
abbrev n_is_whole : List Str := ["thing"]
theorem c_is_whole : FnScope n_is_whole ["thing"] (defScope s_is_whole) := ⟨rfl, rfl, rfl, by decide +kernel, rfl, by decide +kernel, by decide +kernel⟩
def t_is_whole : AX := (aRet (aAndV (aCall (ar2 isiD) (aCons (aVar 0) (aCons (aC (.tg .int)) aNil))) (aNotV (aCall (ar2 isiD) (aCons (aVar 0) (aCons (aC (.tg .bl)) aNil))))))
abbrev s_is_lit : Stmt := top 8
abbrev n_is_lit : List Str := ["thing"]
theorem c_is_lit : FnScope n_is_lit ["thing"] (defScope s_is_lit) := ⟨rfl, rfl, rfl, by decide +kernel, rfl, by decide +kernel, by decide +kernel⟩
def t_is_lit : AX := (aRet (aAndV (aCall p_is_whole (aCons (aVar 0) aNil)) (aChain leD leD (aC (.int 1)) (aCall (ar1 absD) (aCons (aVar 0) aNil)) (aC (.int 40)))))
abbrev s_is_clause : Stmt := top 9
abbrev n_is_clause : List Str := ["thing", "lit", "one", "other"]
theorem c_is_clause : FnScope n_is_clause ["thing"] (defScope s_is_clause) := ⟨rfl, rfl, rfl, by decide +kernel, rfl, by decide +kernel, by decide +kernel⟩
def t_is_clause : AX := (aSeq (aIfS (aOr (aNot (aTr (aCall (ar2 isiD) (aCons (aVar 0) (aCons (aC (.tg .tup)) aNil))))) (aNot (aTr (aCall (ar1 allD) (aCons (aLc (iSeq (aVar 0)) (gN 1) aYes (aCall p_is_lit (aCons (aVar 1) aNil)) [1]) aNil))))) (aRet (aC (.bl false))) aNext) (aRet (aCall (ar1 allD) (aCons (aLc (iZip' (aCons (aVar 0) (aCons (aSl (aVar 0) (aPt (aC (.int 1))) aNo) aNil))) (gN2 2 3) aYes (aOp ltD (aCall (ar1 absD) (aCons (aVar 2) aNil)) (aCall (ar1 absD) (aCons (aVar 3) aNil))) [2, 3]) aNil))))
abbrev s_row_text : Stmt := top 11
abbrev n_row_text : List Str := ["clause", "lit"]
theorem c_row_text : FnScope n_row_text ["clause"] (defScope s_row_text) := ⟨rfl, rfl, rfl, by decide +kernel, rfl, by decide +kernel, by decide +kernel⟩
def t_row_text : AX := (aRet (aOrT (aM1 joinD (aC (.str " ")) (aLc (iSeq (aVar 0)) (gN 1) aYes (aCall (ar1 strD) (aCons (aVar 1) aNil)) [1])) (aC (.str "."))))
abbrev s_number_in : Stmt := top 14
abbrev n_number_in : List Str := ["word", "found", "sign"]
theorem c_number_in : FnScope n_number_in ["word"] (defScope s_number_in) := ⟨rfl, rfl, rfl, by decide +kernel, rfl, by decide +kernel, by decide +kernel⟩
def t_number_in : AX := (aSeq (aIfS (aOr (aB (aOp eqD (aVar 0) (aC (.str "")))) (aOr (aAnd (aB (aOp eqD (aOp getSD (aVar 0) (aC (.int 0))) (aC (.str "0")))) (aB (aOp neD (aVar 0) (aC (.str "0"))))) (aNot (aTr (aCall (ar1 allD) (aCons (aLc (iTxt (aVar 0)) (gN 2) aYes (aOp (inSD false) (aVar 2) (aC (.str "0123456789"))) [2]) aNil)))))) (aRet (aC .non)) aNext) (aSeq (aAsg (aC (.int 0)) (gN 1)) (aSeq (aFor (iTxt (aVar 0)) (gN 2) (aAsg (aOp addD (aOp mulD (aC (.int 10)) (aVar 1)) (aM1 sidxD (aC (.str "0123456789")) (aVar 2))) (gN 1))) (aRet (aVar 1)))))
abbrev s_lit_in_booktexts : Stmt := top 15
abbrev n_lit_in_booktexts : List Str := ["word", "under", "found"]
theorem c_lit_in_booktexts : FnScope n_lit_in_booktexts ["word"] (defScope s_lit_in_booktexts) := ⟨rfl, rfl, rfl, by decide +kernel, rfl, by decide +kernel, by decide +kernel⟩
def t_lit_in_booktexts : AX := (aSeq (aAsg (aOp eqD (aSl (aVar 0) aNo (aPt (aC (.int 1)))) (aC (.str "-"))) (gN 1)) (aSeq (aAsg (aCall p_number_in (aCons (aSl (aVar 0) (aPt (aCall (ar1 intCD) (aCons (aVar 1) aNil))) aNo) aNil)) (gN 2)) (aSeq (aIfS (aOr (aB (aOp isND (aVar 2) (aC .non))) (aAnd (aTr (aVar 1)) (aB (aOp eqD (aVar 2) (aC (.int 0)))))) (aRet (aC .non)) aNext) (aRet (aIf (aTr (aVar 1)) (aOp subD (aC (.int 0)) (aVar 2)) (aVar 2))))))
abbrev s_lits_text : Stmt := top 17
abbrev n_lits_text : List Str := ["clause"]
theorem c_lits_text : FnScope n_lits_text ["clause"] (defScope s_lits_text) := ⟨rfl, rfl, rfl, by decide +kernel, rfl, by decide +kernel, by decide +kernel⟩
def t_lits_text : AX := (aRet (aCall p_row_text (aCons (aVar 0) aNil)))
abbrev s_clause_in : Stmt := top 18
abbrev n_clause_in : List Str := ["words", "found", "word"]
theorem c_clause_in : FnScope n_clause_in ["words"] (defScope s_clause_in) := ⟨rfl, rfl, rfl, by decide +kernel, rfl, by decide +kernel, by decide +kernel⟩
def t_clause_in : AX := (aSeq (aIfS (aB (aOp eqD (aCall (ar1 lstD) (aCons (aVar 0) aNil)) (aLst (aCons (aC (.str ".")) aNil)))) (aRet (aTup aNil)) aNext) (aSeq (aAsg (aCall (ar1 tupD) (aCons (aLc (iSeq (aVar 0)) (gN 2) aYes (aCall p_lit_in_booktexts (aCons (aVar 2) aNil)) [2]) aNil)) (gN 1)) (aRet (aIf (aAnd (aB (aOp neD (aVar 1) (aTup aNil))) (aTr (aCall p_is_clause (aCons (aVar 1) aNil)))) (aVar 1) (aC .non)))))
abbrev s_is_line : Stmt := top 21
abbrev n_is_line : List Str := ["thing", "word", "rest"]
theorem c_is_line : FnScope n_is_line ["thing"] (defScope s_is_line) := ⟨rfl, rfl, rfl, by decide +kernel, rfl, by decide +kernel, by decide +kernel⟩
def t_is_line : AX := (aSeq (aIfS (aOr (aNot (aTr (aCall (ar2 isiD) (aCons (aVar 0) (aCons (aC (.tg .tup)) aNil))))) (aOr (aB (aOp ltD (aCall (ar1 lenXD) (aCons (aVar 0) aNil)) (aC (.int 2)))) (aNot (aTr (aCall (ar2 isiD) (aCons (aOp getD (aVar 0) (aC (.int 0))) (aCons (aC (.tg .str)) aNil))))))) (aRet (aC (.bl false))) aNext) (aSeq (aAsg (aVar 0) (gStarT (gCons' (gN 1) (gCons' (gN 2) gNil')))) (aSeq (aIfS (aB (aOp eqD (aVar 1) (aC (.str "back")))) (aRet (aAndV (aOp eqD (aCall (ar1 lenXD) (aCons (aVar 2) aNil)) (aC (.int 1))) (aAndV (aCall p_is_whole (aCons (aOp getD (aVar 2) (aC (.int 0))) aNil)) (aOp geD (aOp getD (aVar 2) (aC (.int 0))) (aC (.int 0)))))) aNext) (aSeq (aIfS (aB (aOp eqD (aVar 1) (aC (.str "leave")))) (aRet (aAndV (aOp eqD (aCall (ar1 lenXD) (aCons (aVar 2) aNil)) (aC (.int 2))) (aAndV (aCall p_is_clause (aCons (aOp getD (aVar 2) (aC (.int 0))) aNil)) (aAndV (aCall p_is_whole (aCons (aOp getD (aVar 2) (aC (.int 1))) aNil)) (aOp (inD false) (aOp getD (aVar 2) (aC (.int 1))) (aOp getD (aVar 2) (aC (.int 0)))))))) aNext) (aRet (aAndV (aOp (inD false) (aVar 1) (aC (.ktp ((["add", "keep", "forget", "drop", "put"] : List Str).map D.str)))) (aAndV (aOp eqD (aCall (ar1 lenXD) (aCons (aVar 2) aNil)) (aC (.int 1))) (aCall p_is_clause (aCons (aOp getD (aVar 2) (aC (.int 0))) aNil)))))))))
abbrev s_line_text : Stmt := top 23
abbrev n_line_text : List Str := ["line", "word", "rest"]
theorem c_line_text : FnScope n_line_text ["line"] (defScope s_line_text) := ⟨rfl, rfl, rfl, by decide +kernel, rfl, by decide +kernel, by decide +kernel⟩
def t_line_text : AX := (aSeq (aAsg (aVar 0) (gStarT (gCons' (gN 1) (gCons' (gN 2) gNil')))) (aSeq (aIfS (aB (aOp eqD (aVar 1) (aC (.str "back")))) (aRet (aJoined (jCons (aC (.str "back ")) (jCons (aUn fmtD (aOp getD (aVar 2) (aC (.int 0)))) jNil)))) aNext) (aSeq (aIfS (aB (aOp eqD (aVar 1) (aC (.str "leave")))) (aRet (aJoined (jCons (aC (.str "leave ")) (jCons (aUn fmtD (aOp getD (aVar 2) (aC (.int 1)))) (jCons (aC (.str " ")) (jCons (aUn fmtD (aCall p_lits_text (aCons (aOp getD (aVar 2) (aC (.int 0))) aNil))) jNil)))))) aNext) (aRet (aOp addD (aOp addD (aVar 1) (aC (.str " "))) (aCall p_lits_text (aCons (aOp getD (aVar 2) (aC (.int 0))) aNil)))))))
abbrev s_lit_in_logtexts : Stmt := top 24
abbrev n_lit_in_logtexts : List Str := ["word", "number"]
theorem c_lit_in_logtexts : FnScope n_lit_in_logtexts ["word"] (defScope s_lit_in_logtexts) := ⟨rfl, rfl, rfl, by decide +kernel, rfl, by decide +kernel, by decide +kernel⟩
def t_lit_in_logtexts : AX := (aSeq (aIfS (aB (aOp eqD (aSl (aVar 0) aNo (aPt (aC (.int 1)))) (aC (.str "-")))) (aSeq (aAsg (aCall p_number_in (aCons (aSl (aVar 0) (aPt (aC (.int 1))) aNo) aNil)) (gN 1)) (aRet (aIf (aB (aOp isND (aVar 1) (aC .non))) (aC .non) (aOp subD (aC (.int 0)) (aVar 1))))) aNext) (aRet (aCall p_number_in (aCons (aVar 0) aNil))))
abbrev s_line_in : Stmt := top 26
abbrev n_line_in : List Str := ["row", "word", "rest", "found"]
theorem c_line_in : FnScope n_line_in ["row"] (defScope s_line_in) := ⟨rfl, rfl, rfl, by decide +kernel, rfl, by decide +kernel, by decide +kernel⟩
def t_line_in : AX := (aSeq (aAsg (aM1 splD (aVar 0) (aC (.str " "))) (gStar (gCons' (gN 1) (gCons' (gN 2) gNil')))) (aSeq (aAsg (aC .non) (gN 3)) (aSeq (aIfS (aAnd (aB (aOp eqD (aVar 1) (aC (.str "back")))) (aB (aOp eqD (aCall (ar1 lenXD) (aCons (aVar 2) aNil)) (aC (.int 1))))) (aAsg (aTup (aCons (aC (.str "back")) (aCons (aCall p_number_in (aCons (aOp getD (aVar 2) (aC (.int 0))) aNil)) aNil))) (gN 3)) (aIfS (aAnd (aB (aOp eqD (aVar 1) (aC (.str "leave")))) (aB (aOp neD (aVar 2) (aLst aNil)))) (aAsg (aTup (aCons (aC (.str "leave")) (aCons (aCall p_clause_in (aCons (aSl (aVar 2) (aPt (aC (.int 1))) aNo) aNil)) (aCons (aCall p_lit_in_logtexts (aCons (aOp getD (aVar 2) (aC (.int 0))) aNil)) aNil)))) (gN 3)) (aIfS (aB (aOp (inD false) (aVar 1) (aC (.ktp ((["add", "keep", "forget", "drop", "put"] : List Str).map D.str))))) (aAsg (aTup (aCons (aVar 1) (aCons (aCall p_clause_in (aCons (aVar 2) aNil)) aNil))) (gN 3)) aNext))) (aRet (aIf (aAnd (aB (aOp notND (aVar 3) (aC .non))) (aTr (aCall p_is_line (aCons (aVar 3) aNil)))) (aVar 3) (aC .non))))))
abbrev s_show_log : Stmt := top 27
abbrev n_show_log : List Str := ["log", "number", "line"]
theorem c_show_log : FnScope n_show_log ["log"] (defScope s_show_log) := ⟨rfl, rfl, rfl, by decide +kernel, rfl, by decide +kernel, by decide +kernel⟩
def t_show_log : AX := (aSeq (aIfS (aNot (aTr (aCall (ar2 isiD) (aCons (aVar 0) (aCons (aC (.tg .tup)) aNil))))) (aNever) aNext) (aSeq (aFor (iEnum' (aCons (aVar 0) aNil)) (gTup' 2 (gCons' (gN 1) (gCons' (gN 2) gNil'))) (aIfS (aNot (aTr (aCall p_is_line (aCons (aVar 2) aNil)))) (aNever) aNext)) (aRet (aM1 joinD (aC (.str "\n")) (aLc (iSeq (aVar 0)) (gN 2) aYes (aCall p_line_text (aCons (aVar 2) aNil)) [2])))))
abbrev s_read_log : Stmt := top 28
abbrev n_read_log : List Str := ["text", "found", "number", "row", "line"]
theorem c_read_log : FnScope n_read_log ["text"] (defScope s_read_log) := ⟨rfl, rfl, rfl, by decide +kernel, rfl, by decide +kernel, by decide +kernel⟩
def t_read_log : AX := (aSeq (aIfS (aNot (aTr (aCall (ar2 isiD) (aCons (aVar 0) (aCons (aC (.tg .str)) aNil))))) (aNever) aNext) (aSeq (aIfS (aB (aOp eqD (aVar 0) (aC (.str "")))) (aRet (aTup aNil)) aNext) (aSeq (aAsg (aLst aNil) (gN 1)) (aSeq (aFor (iEnum' (aCons (aM1 splD (aVar 0) (aC (.str "\n"))) aNil)) (gTup' 2 (gCons' (gN 2) (gCons' (gN 3) gNil'))) (aSeq (aAsg (aCall p_line_in (aCons (aVar 3) aNil)) (gN 4)) (aSeq (aIfS (aB (aOp isND (aVar 4) (aC .non))) (aNever) aNext) (aDrop (aMtL appD (aVar 1) (aCons (aVar 4) aNil)))))) (aRet (aCall (ar1 tupD) (aCons (aVar 1) aNil)))))))
abbrev s_law_cell : Stmt := top 30
abbrev n_law_cell : List Str := ["_law_script", "_law_k", "_law_state", "_law_cell_here"]
theorem c_law_cell : FnScope n_law_cell ["_law_script", "_law_k"] (defScope s_law_cell) := ⟨rfl, rfl, rfl, by decide +kernel, rfl, by decide +kernel, by decide +kernel⟩
def t_law_cell : AX := (aSeq (aIfS (aB (aOp ltD (aVar 1) (aCall (ar1 lenXD) (aCons (aVar 0) aNil)))) (aRet (aOp getD (aVar 0) (aVar 1))) aNext) (aSeq (aAsg (aOp modD (aOp mulD (aC (.int 50021)) (aOp addD (aOp addD (aOp mulD (aVar 1) (aVar 1)) (aOp mulD (aC (.int 3)) (aVar 1))) (aC (.int 17)))) (aC (.int 1000000021))) (gN 2)) (aSeq (aFor (iSeq (aSl (aVar 0) aNo (aPt (aC (.int 4))))) (gN 3) (aAsg (aOp modD (aOp addD (aOp mulD (aVar 2) (aC (.int 20011))) (aVar 3)) (aC (.int 1000000021))) (gN 2))) (aRet (aVar 2)))))
abbrev s_law_purse : Stmt := top 31
abbrev n_law_purse : List Str := ["_law_cell_here"]
theorem c_law_purse : FnScope n_law_purse ["_law_cell_here"] (defScope s_law_purse) := ⟨rfl, rfl, rfl, by decide +kernel, rfl, by decide +kernel, by decide +kernel⟩
def t_law_purse : AX := (aRet (aLst (aCons (aOp addD (aOp mulD (aOp modD (aVar 0) (aC (.int 1000000021))) (aC (.int 6007))) (aC (.int 2711))) (aCons (aOp getD (aLst (aCons (aC (.int 0)) (aCons (aVar 0) aNil))) (aCall (ar1 intCD) (aCons (aOp geD (aVar 0) (aOp powD (aC (.int 10)) (aC (.int 18)))) aNil))) (aCons (aC (.int 0)) aNil)))))
abbrev s_law_pick : Stmt := top 32
abbrev n_law_pick : List Str := ["_law_purse_here", "_law_many", "_law_state", "_law_taken"]
theorem c_law_pick : FnScope n_law_pick ["_law_purse_here", "_law_many"] (defScope s_law_pick) := ⟨rfl, rfl, rfl, by decide +kernel, rfl, by decide +kernel, by decide +kernel⟩
def t_law_pick : AX := (aSeq (aAsg (aOp addD (aOp getD (aVar 0) (aC (.int 2))) (aC (.int 1))) (gSet (aVar 0) (aC (.int 2)))) (aSeq (aAsg (aOp modD (aOp getD (aVar 0) (aC (.int 0))) (aC (.int 1000000021))) (gN 2)) (aSeq (aAsg (aOp addD (aOp mulD (aVar 2) (aOp addD (aOp modD (aVar 2) (aC (.int 40009))) (aC (.int 20021)))) (aOp mulD (aC (.int 60013)) (aOp getD (aVar 0) (aC (.int 2))))) (gSet (aVar 0) (aC (.int 0)))) (aSeq (aIfS (aB (aOp gtD (aOp getD (aVar 0) (aC (.int 1))) (aC (.int 0)))) (aSeq (aAsg (aOp modD (aOp getD (aVar 0) (aC (.int 1))) (aVar 1)) (gN 3)) (aSeq (aAsg (aOp divWD (aOp getD (aVar 0) (aC (.int 1))) (aVar 1)) (gSet (aVar 0) (aC (.int 1)))) (aRet (aVar 3)))) aNext) (aRet (aOp modD (aOp divD (aOp modD (aOp getD (aVar 0) (aC (.int 0))) (aC (.int 1000000021))) (aC (.int 16))) (aVar 1)))))))
abbrev s_law_whole : Stmt := top 33
abbrev n_law_whole : List Str := ["_law_thing"]
theorem c_law_whole : FnScope n_law_whole ["_law_thing"] (defScope s_law_whole) := ⟨rfl, rfl, rfl, by decide +kernel, rfl, by decide +kernel, by decide +kernel⟩
def t_law_whole : AX := (aRet (aAndV (aCall (ar2 isiD) (aCons (aVar 0) (aCons (aC (.tg .int)) aNil))) (aNotV (aCall (ar2 isiD) (aCons (aVar 0) (aCons (aC (.tg .bl)) aNil))))))
abbrev s_law_some_clause : Stmt := top 34
abbrev n_law_some_clause : List Str := ["_law_purse_here", "_law_size", "_law_upto", "_law_marks", "_law_k", "_law_mark"]
theorem c_law_some_clause : FnScope n_law_some_clause ["_law_purse_here", "_law_size", "_law_upto"] (defScope s_law_some_clause) := ⟨rfl, rfl, rfl, by decide +kernel, rfl, by decide +kernel, by decide +kernel⟩
def t_law_some_clause : AX := (aSeq (aAsg (aLst aNil) (gN 3)) (aSeq (aFor (iRg1 (aCons (aOp addD (aC (.int 1)) (aCall p_law_pick (aCons (aVar 0) (aCons (aVar 2) aNil)))) aNil)) (gN 4) (aSeq (aAsg (aOp addD (aC (.int 1)) (aCall p_law_pick (aCons (aVar 0) (aCons (aVar 1) aNil)))) (gN 5)) (aIfS (aB (aOp (inD true) (aVar 5) (aVar 3))) (aDrop (aMtL appD (aVar 3) (aCons (aVar 5) aNil))) aNext))) (aRet (aCall (ar1 tupD) (aCons (aLc (iSeq (aCall (ar1 sortD) (aCons (aVar 3) aNil))) (gN 5) aYes (aOp mulD (aVar 5) (aOp getD (aLst (aCons (aC (.int 1)) (aCons (aUn negD (aC (.int 1))) aNil))) (aCall p_law_pick (aCons (aVar 0) (aCons (aC (.int 2)) aNil))))) [5]) aNil)))))
abbrev s_law_line_text : Stmt := top 35
abbrev n_law_line_text : List Str := ["_law_line", "_law_words", "_law_mark"]
theorem c_law_line_text : FnScope n_law_line_text ["_law_line"] (defScope s_law_line_text) := ⟨rfl, rfl, rfl, by decide +kernel, rfl, by decide +kernel, by decide +kernel⟩
def t_law_line_text : AX := (aSeq (aIfS (aB (aOp eqD (aOp getD (aVar 0) (aC (.int 0))) (aC (.str "back")))) (aRet (aOp addD (aC (.str "back ")) (aCall (ar1 strD) (aCons (aOp getD (aVar 0) (aC (.int 1))) aNil)))) aNext) (aSeq (aAsg (aLst (aCons (aOp getD (aVar 0) (aC (.int 0))) aNil)) (gN 1)) (aSeq (aIfS (aB (aOp eqD (aOp getD (aVar 0) (aC (.int 0))) (aC (.str "leave")))) (aDrop (aMtL appD (aVar 1) (aCons (aCall (ar1 strD) (aCons (aOp getD (aVar 0) (aC (.int 2))) aNil)) aNil))) aNext) (aRet (aM1 joinD (aC (.str " ")) (aOp addD (aOp addD (aVar 1) (aLc (iSeq (aOp getD (aVar 0) (aC (.int 1)))) (gN 2) aYes (aCall (ar1 strD) (aCons (aVar 2) aNil)) [2])) (aOp mulLD (aLst (aCons (aC (.str ".")) aNil)) (aCall (ar1 intCD) (aCons (aOp eqD (aOp getD (aVar 0) (aC (.int 1))) (aTup aNil)) aNil)))))))))
abbrev s_law_shape : Stmt := top 36
abbrev n_law_shape : List Str := ["_law_purse_here", "_law_size", "_law_branch", "_law_row", "_law_word"]
theorem c_law_shape : FnScope n_law_shape ["_law_purse_here", "_law_size"] (defScope s_law_shape) := ⟨rfl, rfl, rfl, by decide +kernel, rfl, by decide +kernel, by decide +kernel⟩
def t_law_shape : AX := (aSeq (aPar 2 3 (aCons (aCall p_law_pick (aCons (aVar 0) (aCons (aC (.int 8)) aNil))) (aCons (aCall p_law_some_clause (aCons (aVar 0) (aCons (aVar 1) (aCons (aC (.int 4)) aNil)))) aNil))) (aSeq (aIfS (aB (aOp eqD (aCall p_law_pick (aCons (aVar 0) (aCons (aC (.int 8)) aNil))) (aC (.int 3)))) (aAsg (aTup aNil) (gN 3)) aNext) (aSeq (aAsg (aOp getD (aLst (aCons (aC (.str "add")) (aCons (aC (.str "keep")) (aCons (aC (.str "forget")) (aCons (aC (.str "drop")) (aCons (aC (.str "put")) (aCons (aC (.str "leave")) (aCons (aC (.str "back")) (aCons (aC (.str "leave")) aNil))))))))) (aVar 2)) (gN 4)) (aSeq (aIfS (aB (aOp eqD (aVar 4) (aC (.str "back")))) (aRet (aTup (aCons (aC (.str "back")) (aCons (aOp getD (aLst (aCons (aCall p_law_pick (aCons (aVar 0) (aCons (aC (.int 12)) aNil))) (aCons (aCall p_law_pick (aCons (aVar 0) (aCons (aOp powD (aC (.int 10)) (aC (.int 12))) aNil))) aNil))) (aCall p_law_pick (aCons (aVar 0) (aCons (aC (.int 2)) aNil)))) aNil)))) aNext) (aSeq (aIfS (aAnd (aB (aOp eqD (aVar 4) (aC (.str "leave")))) (aB (aOp neD (aVar 3) (aTup aNil)))) (aRet (aTup (aCons (aC (.str "leave")) (aCons (aVar 3) (aCons (aOp getD (aVar 3) (aCall p_law_pick (aCons (aVar 0) (aCons (aCall (ar1 lenXD) (aCons (aVar 3) aNil)) aNil)))) aNil))))) aNext) (aRet (aTup (aCons (aOp getD (aLst (aCons (aC (.str "add")) (aCons (aVar 4) aNil))) (aCall (ar1 intCD) (aCons (aOp neD (aVar 4) (aC (.str "leave"))) aNil))) (aCons (aVar 3) aNil)))))))))
abbrev s_law_kinds_right : Stmt := top 37
abbrev n_law_kinds_right : List Str := ["_law_told", "_law_line", "_law_marks", "_law_mark"]
theorem c_law_kinds_right : FnScope n_law_kinds_right ["_law_told"] (defScope s_law_kinds_right) := ⟨rfl, rfl, rfl, by decide +kernel, rfl, by decide +kernel, by decide +kernel⟩
def t_law_kinds_right : AX := (aSeq (aFor (iSeq (aVar 0)) (gN 1) (aSeq (aIfS (aOr (aNot (aTr (aCall (ar2 isiD) (aCons (aVar 1) (aCons (aC (.tg .tup)) aNil))))) (aNot (aTr (aCall (ar2 isiD) (aCons (aOp getD (aVar 1) (aC (.int 0))) (aCons (aC (.tg .str)) aNil)))))) (aRet (aC (.bl false))) aNext) (aSeq (aIfS (aAnd (aB (aOp neD (aOp getD (aVar 1) (aC (.int 0))) (aC (.str "back")))) (aNot (aTr (aCall (ar2 isiD) (aCons (aOp getD (aVar 1) (aC (.int 1))) (aCons (aC (.tg .tup)) aNil)))))) (aRet (aC (.bl false))) aNext) (aSeq (aAsg (aIf (aB (aOp eqD (aOp getD (aVar 1) (aC (.int 0))) (aC (.str "back")))) (aLst (aCons (aOp getD (aVar 1) (aC (.int 1))) aNil)) (aOp addD (aCall (ar1 lstD) (aCons (aOp getD (aVar 1) (aC (.int 1))) aNil)) (aCall (ar1 lstD) (aCons (aSl (aVar 1) (aPt (aC (.int 2))) aNo) aNil)))) (gN 2)) (aIfS (aNot (aTr (aCall (ar1 allD) (aCons (aLc (iSeq (aVar 2)) (gN 3) aYes (aCall p_law_whole (aCons (aVar 3) aNil)) [3]) aNil)))) (aRet (aC (.bl false))) aNext))))) (aRet (aCall (ar2 isiD) (aCons (aVar 0) (aCons (aC (.tg .tup)) aNil)))))
abbrev s_law_right : Stmt := top 38
abbrev n_law_right : List Str := ["_law_lines", "_law_verse", "_law_kept", "_law_told", "_law_line"]
theorem c_law_right : FnScope n_law_right ["_law_lines"] (defScope s_law_right) := ⟨rfl, rfl, rfl, by decide +kernel, rfl, by decide +kernel, by decide +kernel⟩
def t_law_right : AX := (aSeq (aAsg (aM1 joinD (aC (.str "\n")) (aLc (iSeq (aVar 0)) (gN 4) aYes (aCall p_law_line_text (aCons (aVar 4) aNil)) [4])) (gN 1)) (aSeq (aAsg (aCall (ar1 reprXD) (aCons (aVar 0) aNil)) (gN 2)) (aSeq (aIfS (aOr (aB (aOp neD (aCall p_show_log (aCons (aVar 0) aNil)) (aVar 1))) (aB (aOp neD (aCallN p_show_log [0] 0 1 aNil (aCons (aVar 0) aNil)) (aVar 1)))) (aRet (aC (.bl false))) aNext) (aSeq (aAsg (aCall p_read_log (aCons (aVar 1) aNil)) (gN 3)) (aSeq (aIfS (aOr (aNot (aTr (aCall p_law_kinds_right (aCons (aVar 3) aNil)))) (aOr (aB (aOp neD (aVar 3) (aVar 0))) (aB (aOp neD (aCallN p_read_log [0] 0 1 aNil (aCons (aVar 1) aNil)) (aVar 0))))) (aRet (aC (.bl false))) aNext) (aRet (aAndV (aOp eqD (aCall p_show_log (aCons (aVar 3) aNil)) (aVar 1)) (aOp eqD (aCall (ar1 reprXD) (aCons (aVar 0) aNil)) (aVar 2)))))))))
abbrev s_law : Stmt := top 39
abbrev n_law : List Str := ["_law_script", "_law_k", "_law_purse_here", "_law_size", "_law_turn"]
theorem c_law : FnScope n_law ["_law_script"] (defScope s_law) := ⟨rfl, rfl, rfl, by decide +kernel, rfl, by decide +kernel, by decide +kernel⟩
def t_law : AX := (aSeq (aIfS (aOr (aNot (aTr (aCall p_law_right (aCons (aTup aNil) aNil)))) (aOr (aB (aOp neD (aCall p_read_log (aCons (aC (.str "")) aNil)) (aTup aNil))) (aNot (aTr (aCall (ar2 isiD) (aCons (aCall p_read_log (aCons (aC (.str "")) aNil)) (aCons (aC (.tg .tup)) aNil))))))) (aRet (aC (.bl false))) aNext) (aSeq (aFor (iRg1 (aCons (aCall (ar2 max2D) (aCons (aC (.int 2)) (aCons (aCall (ar2 min2D) (aCons (aCall (ar1 lenXD) (aCons (aVar 0) aNil)) (aCons (aC (.int 4)) aNil))) aNil))) aNil)) (gN 1) (aSeq (aAsg (aCall p_law_purse (aCons (aCall p_law_cell (aCons (aVar 0) (aCons (aVar 1) aNil))) aNil)) (gN 2)) (aSeq (aAsg (aOp getD (aLst (aCons (aC (.int 6)) (aCons (aC (.int 40)) aNil))) (aCall p_law_pick (aCons (aVar 2) (aCons (aC (.int 2)) aNil)))) (gN 3)) (aFor (iRg1 (aCons (aC (.int 3)) aNil)) (gN 4) (aIfS (aNot (aTr (aCall p_law_right (aCons (aCall (ar1 tupD) (aCons (aLc (iRg1 (aCons (aCall p_law_pick (aCons (aVar 2) (aCons (aC (.int 13)) aNil))) aNil)) (gN 1) aYes (aCall p_law_shape (aCons (aVar 2) (aCons (aVar 3) aNil))) [1]) aNil)) aNil)))) (aRet (aC (.bl false))) aNext))))) (aRet (aC (.bl true)))))
theorem kb0 : KwOk "show_log" s_show_log ["log"] 0 ["log"] [0] := fun _ _ _ _ _ _ us ws h1 h2 => match us, h1, ws, h2 with | [], _, [_], _ => rfl
theorem kb1 : KwOk "read_log" s_read_log ["text"] 0 ["text"] [0] := fun _ _ _ _ _ _ us ws h1 h2 => match us, h1, ws, h2 with | [], _, [_], _ => rfl
section
variable {P : Program} {w : World} {K : PySem.W.Frag} {mg : Str → Option Value} {base : Heap}
theorem d_is_whole (C : TxtT tts xts gl fr is ems emms cls mks fls mts K mg) {cdv : Value} {A : Around} {outer : List Env} {s : Shared} {H : Hp} {E : XK} {B : Bs} (hr : Room 0 (A.deeper (PyProof.Rows.envOfC "is_whole" (defScope s_is_whole) s.heap.objs.size (He.ga K "is_whole") cdv))) :
    PSs (cxOf CX0 P w K mg base n_is_whole "is_whole" (defScope s_is_whole) (He.ga K "is_whole") cdv A outer s H E).nox (defBody s_is_whole) (sOf ⟨K, P, w⟩ B t_is_whole) :=
  (ss_one (s_ret (a_and (a_callB call_isi isiA (C.fr 1 rfl) (l_cons (av 0) (l_cons (a_tg (t := .int) (C.fr 6 rfl) (by decide +kernel)) l_nil))) (a_one (a_not (a_callB call_isi isiA (C.fr 1 rfl) (l_cons (av 0) (l_cons (a_tg (t := .bl) (C.fr 13 rfl) (by decide +kernel)) l_nil))))))))
theorem d_is_lit (C : TxtT tts xts gl fr is ems emms cls mks fls mts K mg) (g_is_whole : OkF P w K mg base 1 "is_whole" s_is_whole ["thing"] p_is_whole) {cdv : Value} {A : Around} {outer : List Env} {s : Shared} {H : Hp} {E : XK} {B : Bs} (hr : Room 1 (A.deeper (PyProof.Rows.envOfC "is_lit" (defScope s_is_lit) s.heap.objs.size (He.ga K "is_lit") cdv))) :
    PSs (cxOf CX0 P w K mg base n_is_lit "is_lit" (defScope s_is_lit) (He.ga K "is_lit") cdv A outer s H E).nox (defBody s_is_lit) (sOf ⟨K, P, w⟩ B t_is_lit) :=
  (ss_one (s_ret (a_and (a_callF g_is_whole (hr.mono (by decide)) (C.gl 0 rfl) (l_cons (av 0) l_nil)) (a_one (a_chain op_le op_le leA leA (a_int) (a_callB c_abs absA (C.fr 12 rfl) (l_cons (av 0) l_nil)) (a_gint (C.is 0 rfl)))))))
theorem d_is_clause (C : TxtT tts xts gl fr is ems emms cls mks fls mts K mg) (g_is_lit : OkF P w K mg base 2 "is_lit" s_is_lit ["thing"] p_is_lit) {cdv : Value} {A : Around} {outer : List Env} {s : Shared} {H : Hp} {E : XK} {B : Bs} (hr : Room 2 (A.deeper (PyProof.Rows.envOfC "is_clause" (defScope s_is_clause) s.heap.objs.size (He.ga K "is_clause") cdv))) :
    PSs (cxOf CX0 P w K mg base n_is_clause "is_clause" (defScope s_is_clause) (He.ga K "is_clause") cdv A outer s H E).nox (defBody s_is_clause) (sOf ⟨K, P, w⟩ B t_is_clause) :=
  (ss_cons (s_if ((qw_or (q_not (q_tr (a_callB call_isi isiA (C.fr 1 rfl) (l_cons (av 0) (l_cons (a_tg (t := .tup) (C.fr 0 rfl) (by decide +kernel)) l_nil))))) (qw_or1 (q_not (q_tr (a_callB (cr_all rfl) allA (C.fr 10 rfl) (l_cons (a_lc (own := [("lit", 1)]) c_is_clause.nd (i_seq (av 0)) (blkOk_by (own := [("lit", 1)]) (by kernel_rfl)) (tg_name (by decide)) (fun _ _ _ _ _ => (pg_name (i := 1) c_is_clause.nd rfl (by first | exact .inl rfl | exact .inr rfl))) (fun _ _ _ _ _ => qs_nil) (fun _ _ _ _ _ => (a_callF g_is_lit (hr.mono (by decide)) (C.gl 1 rfl) (l_cons (av 1) l_nil)))) l_nil)))))).pt) (ss_one (s_ret (a_bl))) ss_nil)
    (ss_one (s_ret (a_callB (cr_all rfl) allA (C.fr 10 rfl) (l_cons (a_lc (own := [("one", 2), ("other", 3)]) c_is_clause.nd (i_zip (C.fr 11 rfl) (l_cons (av 0) (l_cons (a_sl (av 0) (o_pt (a_int)) o_no) l_nil))) (blkOk_by (own := [("one", 2), ("other", 3)]) (by kernel_rfl)) (tg_two (by decide) (by decide)) (fun _ _ _ _ _ => (pg_tup rfl (pgs_cons (pg_name (i := 2) c_is_clause.nd rfl (by first | exact .inl rfl | exact .inr rfl)) (pgs_cons (pg_name (i := 3) c_is_clause.nd rfl (by first | exact .inl rfl | exact .inr rfl)) pgs_nil)))) (fun _ _ _ _ _ => qs_nil) (fun _ _ _ _ _ => (a_cmp op_lt ltA (a_callB c_abs absA (C.fr 12 rfl) (l_cons (av 2) l_nil)) (a_callB c_abs absA (C.fr 12 rfl) (l_cons (av 3) l_nil))))) l_nil)))))
theorem d_row_text (C : TxtT tts xts gl fr is ems emms cls mks fls mts K mg) {cdv : Value} {A : Around} {outer : List Env} {s : Shared} {H : Hp} {E : XK} {B : Bs} (hr : Room 0 (A.deeper (PyProof.Rows.envOfC "row_text" (defScope s_row_text) s.heap.objs.size (He.ga K "row_text") cdv))) :
    PSs (cxOf CX0 P w K mg base n_row_text "row_text" (defScope s_row_text) (He.ga K "row_text") cdv A outer s H E).nox (defBody s_row_text) (sOf ⟨K, P, w⟩ B t_row_text) :=
  (ss_one (s_ret (a_orT (a_join (a_str) (a_lc (own := [("lit", 1)]) c_row_text.nd (i_seq (av 0)) (blkOk_by (own := [("lit", 1)]) (by kernel_rfl)) (tg_name (by decide)) (fun _ _ _ _ _ => (pg_name (i := 1) c_row_text.nd rfl (by first | exact .inl rfl | exact .inr rfl))) (fun _ _ _ _ _ => qs_nil) (fun _ _ _ _ _ => (a_callTy c_str strA (C.fr 8 rfl) (l_cons (av 1) l_nil))))) (a_one (a_str)))))
theorem d_number_in (C : TxtT tts xts gl fr is ems emms cls mks fls mts K mg) {cdv : Value} {A : Around} {outer : List Env} {s : Shared} {H : Hp} {E : XK} {B : Bs} (hr : Room 0 (A.deeper (PyProof.Rows.envOfC "number_in" (defScope s_number_in) s.heap.objs.size (He.ga K "number_in") cdv))) :
    PSs (cxOf CX0 P w K mg base n_number_in "number_in" (defScope s_number_in) (He.ga K "number_in") cdv A outer s H E).nox (defBody s_number_in) (sOf ⟨K, P, w⟩ B t_number_in) :=
  (ss_cons (s_if ((qw_or (q_cmp (op_eqD hr.units) eqA (av 0) (a_str)) (qw_or ((qw_and (q_cmp (op_eqD hr.units) eqA (a_getS (av 0) (a_int)) (a_str)) (qw_and1 (q_cmp (op_neD hr.units) neA (av 0) (a_str)))).pt) (qw_or1 (q_not (q_tr (a_callB (cr_all rfl) allA (C.fr 10 rfl) (l_cons (a_lc (own := [("sign", 2)]) c_number_in.nd (i_txt (av 0)) (blkOk_by (own := [("sign", 2)]) (by kernel_rfl)) (tg_name (by decide)) (fun _ _ _ _ _ => (pg_name (i := 2) c_number_in.nd rfl (by first | exact .inl rfl | exact .inr rfl))) (fun _ _ _ _ _ => qs_nil) (fun _ _ _ _ _ => (a_cmp op_in_sign inSA (av 2) (a_gstr (C.gs 0 rfl))))) l_nil))))))).pt) (ss_one (s_ret (a_non))) ss_nil)
    (ss_cons (s_set (i := 1) c_number_in.nd (a_int))
    (ss_cons (s_for (i_txt (av 0)) (g_name (i := 2) c_number_in.nd) (ss_one (s_set (i := 1) c_number_in.nd (a_op o_add addA (a_op op_mul mulA (a_int) (av 1)) (a_sidx (a_gstr (C.gs 0 rfl)) (av 2))))))
    (ss_one (s_ret (av 1))))))
theorem d_lit_in_booktexts (C : TxtT tts xts gl fr is ems emms cls mks fls mts K mg) (g_number_in : OkF P w K mg base 1 "number_in" s_number_in ["word"] p_number_in) {cdv : Value} {A : Around} {outer : List Env} {s : Shared} {H : Hp} {E : XK} {B : Bs} (hr : Room 1 (A.deeper (PyProof.Rows.envOfC "lit_in" (defScope s_lit_in_booktexts) s.heap.objs.size (He.ga K "lit_in_booktexts") cdv))) :
    PSs (cxOf CX0 P w K mg base n_lit_in_booktexts "lit_in" (defScope s_lit_in_booktexts) (He.ga K "lit_in_booktexts") cdv A outer s H E).nox (defBody s_lit_in_booktexts) (sOf ⟨K, P, w⟩ B t_lit_in_booktexts) :=
  (ss_cons (s_set (i := 1) c_lit_in_booktexts.nd (a_cmp (op_eqD hr.units) eqA (a_sl (av 0) o_no (o_pt (a_int))) (a_str)))
    (ss_cons (s_set (i := 2) c_lit_in_booktexts.nd (a_callF g_number_in (hr.mono (by decide)) (C.gl 4 rfl) (l_cons (a_sl (av 0) (o_pt (a_callTy c_int intCA (C.fr 6 rfl) (l_cons (av 1) l_nil))) o_no) l_nil)))
    (ss_cons (s_if ((qw_or (q_cmp op_isN isNA (av 2) (a_non)) (qw_or1 ((qw_and (q_tr (av 1)) (qw_and1 (q_cmp (op_eqD hr.units) eqA (av 2) (a_int)))).pt))).pt) (ss_one (s_ret (a_non))) ss_nil)
    (ss_one (s_ret (a_if (q_tr (av 1)) (a_op op_sub subA (a_int) (av 2)) (av 2)))))))
theorem d_lits_text (C : TxtT tts xts gl fr is ems emms cls mks fls mts K mg) (g_row_text : OkF P w K mg base 1 "row_text" s_row_text ["clause"] p_row_text) {cdv : Value} {A : Around} {outer : List Env} {s : Shared} {H : Hp} {E : XK} {B : Bs} (hr : Room 1 (A.deeper (PyProof.Rows.envOfC "lits_text" (defScope s_lits_text) s.heap.objs.size (He.ga K "lits_text") cdv))) :
    PSs (cxOf CX0 P w K mg base n_lits_text "lits_text" (defScope s_lits_text) (He.ga K "lits_text") cdv A outer s H E).nox (defBody s_lits_text) (sOf ⟨K, P, w⟩ B t_lits_text) :=
  (ss_one (s_ret (a_callF g_row_text (hr.mono (by decide)) (C.gl 3 rfl) (l_cons (av 0) l_nil))))
theorem d_clause_in (C : TxtT tts xts gl fr is ems emms cls mks fls mts K mg) (g_lit_in_booktexts : OkFA P w K mg base 2 "lit_in_booktexts" "lit_in" s_lit_in_booktexts ["word"] p_lit_in_booktexts) (g_is_clause : OkF P w K mg base 3 "is_clause" s_is_clause ["thing"] p_is_clause) {cdv : Value} {A : Around} {outer : List Env} {s : Shared} {H : Hp} {E : XK} {B : Bs} (hr : Room 3 (A.deeper (PyProof.Rows.envOfC "clause_in" (defScope s_clause_in) s.heap.objs.size (He.ga K "clause_in") cdv))) :
    PSs (cxOf CX0 P w K mg base n_clause_in "clause_in" (defScope s_clause_in) (He.ga K "clause_in") cdv A outer s H E).nox (defBody s_clause_in) (sOf ⟨K, P, w⟩ B t_clause_in) :=
  (ss_cons (s_if (q_cmp (op_eqD hr.units) eqA (a_callTy c_lst lstA (C.fr 14 rfl) (l_cons (av 0) l_nil)) (a_lst (l_cons (a_str) l_nil))) (ss_one (s_ret (a_tup l_nil))) ss_nil)
    (ss_cons (s_set (i := 1) c_clause_in.nd (a_callTy c_tup tupA (C.fr 0 rfl) (l_cons (a_lc (own := [("word", 2)]) c_clause_in.nd (i_seq (av 0)) (blkOk_by (own := [("word", 2)]) (by kernel_rfl)) (tg_name (by decide)) (fun _ _ _ _ _ => (pg_name (i := 2) c_clause_in.nd rfl (by first | exact .inl rfl | exact .inr rfl))) (fun _ _ _ _ _ => qs_nil) (fun _ _ _ _ _ => (a_callFA g_lit_in_booktexts (hr.mono (by decide)) (C.gl 6 rfl) (l_cons (av 2) l_nil)))) l_nil)))
    (ss_one (s_ret (a_if ((qw_and (q_cmp (op_neD hr.units) neA (av 1) (a_tup l_nil)) (qw_and1 (q_tr (a_callF g_is_clause (hr.mono (by decide)) (C.gl 2 rfl) (l_cons (av 1) l_nil))))).pt) (av 1) (a_non))))))
theorem d_is_line (C : TxtT tts xts gl fr is ems emms cls mks fls mts K mg) (g_is_whole : OkF P w K mg base 1 "is_whole" s_is_whole ["thing"] p_is_whole) (g_is_clause : OkF P w K mg base 3 "is_clause" s_is_clause ["thing"] p_is_clause) {cdv : Value} {A : Around} {outer : List Env} {s : Shared} {H : Hp} {E : XK} {B : Bs} (hr : Room 3 (A.deeper (PyProof.Rows.envOfC "is_line" (defScope s_is_line) s.heap.objs.size (He.ga K "is_line") cdv))) :
    PSs (cxOf CX0 P w K mg base n_is_line "is_line" (defScope s_is_line) (He.ga K "is_line") cdv A outer s H E).nox (defBody s_is_line) (sOf ⟨K, P, w⟩ B t_is_line) :=
  (ss_cons (s_if ((qw_or (q_not (q_tr (a_callB call_isi isiA (C.fr 1 rfl) (l_cons (av 0) (l_cons (a_tg (t := .tup) (C.fr 0 rfl) (by decide +kernel)) l_nil))))) (qw_or (q_cmp op_lt ltA (a_callB c_lenX lenXA (C.fr 2 rfl) (l_cons (av 0) l_nil)) (a_int)) (qw_or1 (q_not (q_tr (a_callB call_isi isiA (C.fr 1 rfl) (l_cons (a_get hr.u (av 0) (a_int)) (l_cons (a_tg (t := .str) (C.fr 8 rfl) (by decide +kernel)) l_nil)))))))).pt) (ss_one (s_ret (a_bl))) ss_nil)
    (ss_cons (s_asg (av 0) (g_starT rfl (gs_cons (g_name (i := 1) c_is_line.nd) (gs_starred (g_name (i := 2) c_is_line.nd) gs_nil))))
    (ss_cons (s_if (q_cmp (op_eqD hr.units) eqA (av 1) (a_str)) (ss_one (s_ret (a_and (a_cmp (op_eqD hr.units) eqA (a_callB c_lenX lenXA (C.fr 2 rfl) (l_cons (av 2) l_nil)) (a_int)) (a_and (a_callF g_is_whole (hr.mono (by decide)) (C.gl 0 rfl) (l_cons (a_get hr.u (av 2) (a_int)) l_nil)) (a_one (a_cmp op_ge geA (a_get hr.u (av 2) (a_int)) (a_int))))))) ss_nil)
    (ss_cons (s_if (q_cmp (op_eqD hr.units) eqA (av 1) (a_str)) (ss_one (s_ret (a_and (a_cmp (op_eqD hr.units) eqA (a_callB c_lenX lenXA (C.fr 2 rfl) (l_cons (av 2) l_nil)) (a_int)) (a_and (a_callF g_is_clause (hr.mono (by decide)) (C.gl 2 rfl) (l_cons (a_get hr.u (av 2) (a_int)) l_nil)) (a_and (a_callF g_is_whole (hr.mono (by decide)) (C.gl 0 rfl) (l_cons (a_get hr.u (av 2) (a_int)) l_nil)) (a_one (a_cmp (o_in hr.u) inA (a_get hr.u (av 2) (a_int)) (a_get hr.u (av 2) (a_int))))))))) ss_nil)
    (ss_one (s_ret (a_and (a_cmp (o_in hr.u) inA (av 1) (a_gtup (C.gt 0 rfl))) (a_and (a_cmp (op_eqD hr.units) eqA (a_callB c_lenX lenXA (C.fr 2 rfl) (l_cons (av 2) l_nil)) (a_int)) (a_one (a_callF g_is_clause (hr.mono (by decide)) (C.gl 2 rfl) (l_cons (a_get hr.u (av 2) (a_int)) l_nil)))))))))))
theorem d_line_text (C : TxtT tts xts gl fr is ems emms cls mks fls mts K mg) (g_lits_text : OkF P w K mg base 2 "lits_text" s_lits_text ["clause"] p_lits_text) {cdv : Value} {A : Around} {outer : List Env} {s : Shared} {H : Hp} {E : XK} {B : Bs} (hr : Room 2 (A.deeper (PyProof.Rows.envOfC "line_text" (defScope s_line_text) s.heap.objs.size (He.ga K "line_text") cdv))) :
    PSs (cxOf CX0 P w K mg base n_line_text "line_text" (defScope s_line_text) (He.ga K "line_text") cdv A outer s H E).nox (defBody s_line_text) (sOf ⟨K, P, w⟩ B t_line_text) :=
  (ss_cons (s_asg (av 0) (g_starT rfl (gs_cons (g_name (i := 1) c_line_text.nd) (gs_starred (g_name (i := 2) c_line_text.nd) gs_nil))))
    (ss_cons (s_if (q_cmp (op_eqD hr.units) eqA (av 1) (a_str)) (ss_one (s_ret (a_joined (j_cons (a_str) (j_cons (a_fmt (a_get hr.u (av 2) (a_int))) j_nil))))) ss_nil)
    (ss_cons (s_if (q_cmp (op_eqD hr.units) eqA (av 1) (a_str)) (ss_one (s_ret (a_joined (j_cons (a_str) (j_cons (a_fmt (a_get hr.u (av 2) (a_int))) (j_cons (a_str) (j_cons (a_fmt (a_callF g_lits_text (hr.mono (by decide)) (C.gl 7 rfl) (l_cons (a_get hr.u (av 2) (a_int)) l_nil))) j_nil))))))) ss_nil)
    (ss_one (s_ret (a_op o_add addA (a_op o_add addA (av 1) (a_str)) (a_callF g_lits_text (hr.mono (by decide)) (C.gl 7 rfl) (l_cons (a_get hr.u (av 2) (a_int)) l_nil))))))))
theorem d_lit_in_logtexts (C : TxtT tts xts gl fr is ems emms cls mks fls mts K mg) (g_number_in : OkF P w K mg base 1 "number_in" s_number_in ["word"] p_number_in) {cdv : Value} {A : Around} {outer : List Env} {s : Shared} {H : Hp} {E : XK} {B : Bs} (hr : Room 1 (A.deeper (PyProof.Rows.envOfC "lit_in" (defScope s_lit_in_logtexts) s.heap.objs.size (He.ga K "lit_in_logtexts") cdv))) :
    PSs (cxOf CX0 P w K mg base n_lit_in_logtexts "lit_in" (defScope s_lit_in_logtexts) (He.ga K "lit_in_logtexts") cdv A outer s H E).nox (defBody s_lit_in_logtexts) (sOf ⟨K, P, w⟩ B t_lit_in_logtexts) :=
  (ss_cons (s_if (q_cmp (op_eqD hr.units) eqA (a_sl (av 0) o_no (o_pt (a_int))) (a_str)) (ss_cons (s_set (i := 1) c_lit_in_logtexts.nd (a_callF g_number_in (hr.mono (by decide)) (C.gl 4 rfl) (l_cons (a_sl (av 0) (o_pt (a_int)) o_no) l_nil)))
    (ss_one (s_ret (a_if (q_cmp op_isN isNA (av 1) (a_non)) (a_non) (a_op op_sub subA (a_int) (av 1)))))) ss_nil)
    (ss_one (s_ret (a_callF g_number_in (hr.mono (by decide)) (C.gl 4 rfl) (l_cons (av 0) l_nil)))))
theorem d_line_in (C : TxtT tts xts gl fr is ems emms cls mks fls mts K mg) (g_number_in : OkF P w K mg base 1 "number_in" s_number_in ["word"] p_number_in) (g_lit_in_logtexts : OkFA P w K mg base 2 "lit_in_logtexts" "lit_in" s_lit_in_logtexts ["word"] p_lit_in_logtexts) (g_clause_in : OkF P w K mg base 4 "clause_in" s_clause_in ["words"] p_clause_in) (g_is_line : OkF P w K mg base 4 "is_line" s_is_line ["thing"] p_is_line) {cdv : Value} {A : Around} {outer : List Env} {s : Shared} {H : Hp} {E : XK} {B : Bs} (hr : Room 4 (A.deeper (PyProof.Rows.envOfC "line_in" (defScope s_line_in) s.heap.objs.size (He.ga K "line_in") cdv))) :
    PSs (cxOf CX0 P w K mg base n_line_in "line_in" (defScope s_line_in) (He.ga K "line_in") cdv A outer s H E).nox (defBody s_line_in) (sOf ⟨K, P, w⟩ B t_line_in) :=
  (ss_cons (s_asg (a_split (av 0) (a_str)) (g_star rfl (gs_cons (g_name (i := 1) c_line_in.nd) (gs_starred (g_name (i := 2) c_line_in.nd) gs_nil))))
    (ss_cons (s_set (i := 3) c_line_in.nd (a_non))
    (ss_cons (s_if ((qw_and (q_cmp (op_eqD hr.units) eqA (av 1) (a_str)) (qw_and1 (q_cmp (op_eqD hr.units) eqA (a_callB c_lenX lenXA (C.fr 2 rfl) (l_cons (av 2) l_nil)) (a_int)))).pt) (ss_one (s_set (i := 3) c_line_in.nd (a_tup (l_cons (a_str) (l_cons (a_callF g_number_in (hr.mono (by decide)) (C.gl 4 rfl) (l_cons (a_get hr.u (av 2) (a_int)) l_nil)) l_nil))))) (ss_one (s_if ((qw_and (q_cmp (op_eqD hr.units) eqA (av 1) (a_str)) (qw_and1 (q_cmp (op_neD hr.units) neA (av 2) (a_lst l_nil)))).pt) (ss_one (s_set (i := 3) c_line_in.nd (a_tup (l_cons (a_str) (l_cons (a_callF g_clause_in (hr.mono (by decide)) (C.gl 8 rfl) (l_cons (a_sl (av 2) (o_pt (a_int)) o_no) l_nil)) (l_cons (a_callFA g_lit_in_logtexts (hr.mono (by decide)) (C.gl 11 rfl) (l_cons (a_get hr.u (av 2) (a_int)) l_nil)) l_nil)))))) (ss_one (s_if (q_cmp (o_in hr.u) inA (av 1) (a_gtup (C.gt 0 rfl))) (ss_one (s_set (i := 3) c_line_in.nd (a_tup (l_cons (av 1) (l_cons (a_callF g_clause_in (hr.mono (by decide)) (C.gl 8 rfl) (l_cons (av 2) l_nil)) l_nil))))) ss_nil)))))
    (ss_one (s_ret (a_if ((qw_and (q_cmp op_notN notNA (av 3) (a_non)) (qw_and1 (q_tr (a_callF g_is_line (hr.mono (by decide)) (C.gl 9 rfl) (l_cons (av 3) l_nil))))).pt) (av 3) (a_non)))))))
theorem d_show_log (C : TxtT tts xts gl fr is ems emms cls mks fls mts K mg) (g_is_line : OkF P w K mg base 4 "is_line" s_is_line ["thing"] p_is_line) (g_line_text : OkF P w K mg base 3 "line_text" s_line_text ["line"] p_line_text) {cdv : Value} {A : Around} {outer : List Env} {s : Shared} {H : Hp} {E : XK} {B : Bs} (hr : Room 4 (A.deeper (PyProof.Rows.envOfC "show_log" (defScope s_show_log) s.heap.objs.size (He.ga K "show_log") cdv))) :
    PSs (cxOf CX0 P w K mg base n_show_log "show_log" (defScope s_show_log) (He.ga K "show_log") cdv A outer s H E).nox (defBody s_show_log) (sOf ⟨K, P, w⟩ B t_show_log) :=
  (ss_cons (s_if (q_not (q_tr (a_callB call_isi isiA (C.fr 1 rfl) (l_cons (av 0) (l_cons (a_tg (t := .tup) (C.fr 0 rfl) (by decide +kernel)) l_nil))))) (ss_one (s_never)) ss_nil)
    (ss_cons (s_for (i_enum (C.fr 9 rfl) (l_cons (av 0) l_nil)) (g_tup rfl (gs_cons (g_name (i := 1) c_show_log.nd) (gs_cons (g_name (i := 2) c_show_log.nd) gs_nil))) (ss_one (s_if (q_not (q_tr (a_callF g_is_line (hr.mono (by decide)) (C.gl 9 rfl) (l_cons (av 2) l_nil)))) (ss_one (s_never)) ss_nil)))
    (ss_one (s_ret (a_join (a_str) (a_lc (own := [("line", 2)]) c_show_log.nd (i_seq (av 0)) (blkOk_by (own := [("line", 2)]) (by kernel_rfl)) (tg_name (by decide)) (fun _ _ _ _ _ => (pg_name (i := 2) c_show_log.nd rfl (by first | exact .inl rfl | exact .inr rfl))) (fun _ _ _ _ _ => qs_nil) (fun _ _ _ _ _ => (a_callF g_line_text (hr.mono (by decide)) (C.gl 10 rfl) (l_cons (av 2) l_nil)))))))))
theorem d_read_log (C : TxtT tts xts gl fr is ems emms cls mks fls mts K mg) (g_line_in : OkF P w K mg base 5 "line_in" s_line_in ["row"] p_line_in) {cdv : Value} {A : Around} {outer : List Env} {s : Shared} {H : Hp} {E : XK} {B : Bs} (hr : Room 5 (A.deeper (PyProof.Rows.envOfC "read_log" (defScope s_read_log) s.heap.objs.size (He.ga K "read_log") cdv))) :
    PSs (cxOf CX0 P w K mg base n_read_log "read_log" (defScope s_read_log) (He.ga K "read_log") cdv A outer s H E).nox (defBody s_read_log) (sOf ⟨K, P, w⟩ B t_read_log) :=
  (ss_cons (s_if (q_not (q_tr (a_callB call_isi isiA (C.fr 1 rfl) (l_cons (av 0) (l_cons (a_tg (t := .str) (C.fr 8 rfl) (by decide +kernel)) l_nil))))) (ss_one (s_never)) ss_nil)
    (ss_cons (s_if (q_cmp (op_eqD hr.units) eqA (av 0) (a_str)) (ss_one (s_ret (a_tup l_nil))) ss_nil)
    (ss_cons (s_set (i := 1) c_read_log.nd (a_lst l_nil))
    (ss_cons (s_for (i_enum (C.fr 9 rfl) (l_cons (a_split (av 0) (a_str)) l_nil)) (g_tup rfl (gs_cons (g_name (i := 2) c_read_log.nd) (gs_cons (g_name (i := 3) c_read_log.nd) gs_nil))) (ss_cons (s_set (i := 4) c_read_log.nd (a_callF g_line_in (hr.mono (by decide)) (C.gl 12 rfl) (l_cons (av 3) l_nil)))
    (ss_cons (s_if (q_cmp op_isN isNA (av 4) (a_non)) (ss_one (s_never)) ss_nil)
    (ss_one (s_expr (a_mtL PySem.F.slot_list_append PySem.F.type_list_append mt_append appA (av 1) (l_cons (av 4) l_nil)))))))
    (ss_one (s_ret (a_callTy c_tup tupA (C.fr 0 rfl) (l_cons (av 1) l_nil))))))))
theorem d_law_cell (C : TxtT tts xts gl fr is ems emms cls mks fls mts K mg) {cdv : Value} {A : Around} {outer : List Env} {s : Shared} {H : Hp} {E : XK} {B : Bs} (hr : Room 0 (A.deeper (PyProof.Rows.envOfC "_law_cell" (defScope s_law_cell) s.heap.objs.size (He.ga K "_law_cell") cdv))) :
    PSs (cxOf CX0 P w K mg base n_law_cell "_law_cell" (defScope s_law_cell) (He.ga K "_law_cell") cdv A outer s H E).nox (defBody s_law_cell) (sOf ⟨K, P, w⟩ B t_law_cell) :=
  (ss_cons (s_if (q_cmp op_lt ltA (av 1) (a_callB c_lenX lenXA (C.fr 2 rfl) (l_cons (av 0) l_nil))) (ss_one (s_ret (a_get hr.u (av 0) (av 1)))) ss_nil)
    (ss_cons (s_set (i := 2) c_law_cell.nd (a_op op_mod modA (a_op op_mul mulA (a_int) (a_op o_add addA (a_op o_add addA (a_op op_mul mulA (av 1) (av 1)) (a_op op_mul mulA (a_int) (av 1))) (a_int))) (a_int)))
    (ss_cons (s_for (i_seq (a_sl (av 0) o_no (o_pt (a_int)))) (g_name (i := 3) c_law_cell.nd) (ss_one (s_set (i := 2) c_law_cell.nd (a_op op_mod modA (a_op o_add addA (a_op op_mul mulA (av 2) (a_int)) (av 3)) (a_int)))))
    (ss_one (s_ret (av 2))))))
theorem d_law_purse (C : TxtT tts xts gl fr is ems emms cls mks fls mts K mg) {cdv : Value} {A : Around} {outer : List Env} {s : Shared} {H : Hp} {E : XK} {B : Bs} (hr : Room 0 (A.deeper (PyProof.Rows.envOfC "_law_purse" (defScope s_law_purse) s.heap.objs.size (He.ga K "_law_purse") cdv))) :
    PSs (cxOf CX0 P w K mg base n_law_purse "_law_purse" (defScope s_law_purse) (He.ga K "_law_purse") cdv A outer s H E).nox (defBody s_law_purse) (sOf ⟨K, P, w⟩ B t_law_purse) :=
  (ss_one (s_ret (a_lst (l_cons (a_op o_add addA (a_op op_mul mulA (a_op op_mod modA (av 0) (a_int)) (a_int)) (a_int)) (l_cons (a_get hr.u (a_lst (l_cons (a_int) (l_cons (av 0) l_nil))) (a_callTy c_int intCA (C.fr 6 rfl) (l_cons (a_cmp op_ge geA (av 0) (a_op op_pow powA (a_int) (a_int))) l_nil))) (l_cons (a_int) l_nil))))))
theorem d_law_pick (C : TxtT tts xts gl fr is ems emms cls mks fls mts K mg) {cdv : Value} {A : Around} {outer : List Env} {s : Shared} {H : Hp} {E : XK} {B : Bs} (hr : Room 0 (A.deeper (PyProof.Rows.envOfC "_law_pick" (defScope s_law_pick) s.heap.objs.size (He.ga K "_law_pick") cdv))) :
    PSs (cxOf CX0 P w K mg base n_law_pick "_law_pick" (defScope s_law_pick) (He.ga K "_law_pick") cdv A outer s H E).nox (defBody s_law_pick) (sOf ⟨K, P, w⟩ B t_law_pick) :=
  (ss_cons (s_asg (a_op o_add addA (a_get hr.u (av 0) (a_int)) (a_int)) (g_set hr (av 0) (a_int)))
    (ss_cons (s_set (i := 2) c_law_pick.nd (a_op op_mod modA (a_get hr.u (av 0) (a_int)) (a_int)))
    (ss_cons (s_asg (a_op o_add addA (a_op op_mul mulA (av 2) (a_op o_add addA (a_op op_mod modA (av 2) (a_int)) (a_int))) (a_op op_mul mulA (a_int) (a_get hr.u (av 0) (a_int)))) (g_set hr (av 0) (a_int)))
    (ss_cons (s_if (q_cmp op_gt gtA (a_get hr.u (av 0) (a_int)) (a_int)) (ss_cons (s_set (i := 3) c_law_pick.nd (a_op op_mod modA (a_get hr.u (av 0) (a_int)) (av 1)))
    (ss_cons (s_asg (a_op op_fdivW divWA (a_get hr.u (av 0) (a_int)) (av 1)) (g_set hr (av 0) (a_int)))
    (ss_one (s_ret (av 3))))) ss_nil)
    (ss_one (s_ret (a_op op_mod modA (a_op op_fdiv divA (a_op op_mod modA (a_get hr.u (av 0) (a_int)) (a_int)) (a_int)) (av 1))))))))
theorem d_law_whole (C : TxtT tts xts gl fr is ems emms cls mks fls mts K mg) {cdv : Value} {A : Around} {outer : List Env} {s : Shared} {H : Hp} {E : XK} {B : Bs} (hr : Room 0 (A.deeper (PyProof.Rows.envOfC "_law_whole" (defScope s_law_whole) s.heap.objs.size (He.ga K "_law_whole") cdv))) :
    PSs (cxOf CX0 P w K mg base n_law_whole "_law_whole" (defScope s_law_whole) (He.ga K "_law_whole") cdv A outer s H E).nox (defBody s_law_whole) (sOf ⟨K, P, w⟩ B t_law_whole) :=
  (ss_one (s_ret (a_and (a_callB call_isi isiA (C.fr 1 rfl) (l_cons (av 0) (l_cons (a_tg (t := .int) (C.fr 6 rfl) (by decide +kernel)) l_nil))) (a_one (a_not (a_callB call_isi isiA (C.fr 1 rfl) (l_cons (av 0) (l_cons (a_tg (t := .bl) (C.fr 13 rfl) (by decide +kernel)) l_nil))))))))
theorem d_law_some_clause (C : TxtT tts xts gl fr is ems emms cls mks fls mts K mg) (g_law_pick : OkF P w K mg base 1 "_law_pick" s_law_pick ["_law_purse_here", "_law_many"] p_law_pick) {cdv : Value} {A : Around} {outer : List Env} {s : Shared} {H : Hp} {E : XK} {B : Bs} (hr : Room 1 (A.deeper (PyProof.Rows.envOfC "_law_some_clause" (defScope s_law_some_clause) s.heap.objs.size (He.ga K "_law_some_clause") cdv))) :
    PSs (cxOf CX0 P w K mg base n_law_some_clause "_law_some_clause" (defScope s_law_some_clause) (He.ga K "_law_some_clause") cdv A outer s H E).nox (defBody s_law_some_clause) (sOf ⟨K, P, w⟩ B t_law_some_clause) :=
  (ss_cons (s_set (i := 3) c_law_some_clause.nd (a_lst l_nil))
    (ss_cons (s_for (i_rg1 (C.fr 5 rfl) (l_cons (a_op o_add addA (a_int) (a_callF g_law_pick (hr.mono (by decide)) (C.gl 17 rfl) (l_cons (av 0) (l_cons (av 2) l_nil)))) l_nil)) (g_name (i := 4) c_law_some_clause.nd) (ss_cons (s_set (i := 5) c_law_some_clause.nd (a_op o_add addA (a_int) (a_callF g_law_pick (hr.mono (by decide)) (C.gl 17 rfl) (l_cons (av 0) (l_cons (av 1) l_nil)))))
    (ss_one (s_if (q_cmp (o_notIn hr.u) inA (av 5) (av 3)) (ss_one (s_expr (a_mtL PySem.F.slot_list_append PySem.F.type_list_append mt_append appA (av 3) (l_cons (av 5) l_nil)))) ss_nil))))
    (ss_one (s_ret (a_callTy c_tup tupA (C.fr 0 rfl) (l_cons (a_lc (own := [("_law_mark", 5)]) c_law_some_clause.nd (i_seq (a_callB (c_sort hr rfl) sortA' (C.fr 7 rfl) (l_cons (av 3) l_nil))) (blkOk_by (own := [("_law_mark", 5)]) (by kernel_rfl)) (tg_name (by decide)) (fun _ _ _ _ _ => (pg_name (i := 5) c_law_some_clause.nd rfl (by first | exact .inl rfl | exact .inr rfl))) (fun _ _ _ _ _ => qs_nil) (fun _ _ _ _ _ => (a_op op_mul mulA (av 5) (a_get hr.u (a_lst (l_cons (a_int) (l_cons (a_un un_neg negA (a_int)) l_nil))) (a_callF g_law_pick (hr.mono (by decide)) (C.gl 17 rfl) (l_cons (av 0) (l_cons (a_int) l_nil))))))) l_nil))))))
theorem d_law_line_text (C : TxtT tts xts gl fr is ems emms cls mks fls mts K mg) {cdv : Value} {A : Around} {outer : List Env} {s : Shared} {H : Hp} {E : XK} {B : Bs} (hr : Room 0 (A.deeper (PyProof.Rows.envOfC "_law_line_text" (defScope s_law_line_text) s.heap.objs.size (He.ga K "_law_line_text") cdv))) :
    PSs (cxOf CX0 P w K mg base n_law_line_text "_law_line_text" (defScope s_law_line_text) (He.ga K "_law_line_text") cdv A outer s H E).nox (defBody s_law_line_text) (sOf ⟨K, P, w⟩ B t_law_line_text) :=
  (ss_cons (s_if (q_cmp (op_eqD hr.units) eqA (a_get hr.u (av 0) (a_int)) (a_str)) (ss_one (s_ret (a_op o_add addA (a_str) (a_callTy c_str strA (C.fr 8 rfl) (l_cons (a_get hr.u (av 0) (a_int)) l_nil))))) ss_nil)
    (ss_cons (s_set (i := 1) c_law_line_text.nd (a_lst (l_cons (a_get hr.u (av 0) (a_int)) l_nil)))
    (ss_cons (s_if (q_cmp (op_eqD hr.units) eqA (a_get hr.u (av 0) (a_int)) (a_str)) (ss_one (s_expr (a_mtL PySem.F.slot_list_append PySem.F.type_list_append mt_append appA (av 1) (l_cons (a_callTy c_str strA (C.fr 8 rfl) (l_cons (a_get hr.u (av 0) (a_int)) l_nil)) l_nil)))) ss_nil)
    (ss_one (s_ret (a_join (a_str) (a_op o_add addA (a_op o_add addA (av 1) (a_lc (own := [("_law_mark", 2)]) c_law_line_text.nd (i_seq (a_get hr.u (av 0) (a_int))) (blkOk_by (own := [("_law_mark", 2)]) (by kernel_rfl)) (tg_name (by decide)) (fun _ _ _ _ _ => (pg_name (i := 2) c_law_line_text.nd rfl (by first | exact .inl rfl | exact .inr rfl))) (fun _ _ _ _ _ => qs_nil) (fun _ _ _ _ _ => (a_callTy c_str strA (C.fr 8 rfl) (l_cons (av 2) l_nil))))) (a_op op_rep mulLA (a_lst (l_cons (a_str) l_nil)) (a_callTy c_int intCA (C.fr 6 rfl) (l_cons (a_cmp (op_eqD hr.units) eqA (a_get hr.u (av 0) (a_int)) (a_tup l_nil)) l_nil))))))))))
theorem d_law_shape (C : TxtT tts xts gl fr is ems emms cls mks fls mts K mg) (g_law_some_clause : OkF P w K mg base 2 "_law_some_clause" s_law_some_clause ["_law_purse_here", "_law_size", "_law_upto"] p_law_some_clause) (g_law_pick : OkF P w K mg base 1 "_law_pick" s_law_pick ["_law_purse_here", "_law_many"] p_law_pick) {cdv : Value} {A : Around} {outer : List Env} {s : Shared} {H : Hp} {E : XK} {B : Bs} (hr : Room 2 (A.deeper (PyProof.Rows.envOfC "_law_shape" (defScope s_law_shape) s.heap.objs.size (He.ga K "_law_shape") cdv))) :
    PSs (cxOf CX0 P w K mg base n_law_shape "_law_shape" (defScope s_law_shape) (He.ga K "_law_shape") cdv A outer s H E).nox (defBody s_law_shape) (sOf ⟨K, P, w⟩ B t_law_shape) :=
  (ss_cons (s_par (i := 2) (j := 3) c_law_shape.nd (l_cons (a_callF g_law_pick (hr.mono (by decide)) (C.gl 17 rfl) (l_cons (av 0) (l_cons (a_int) l_nil))) (l_cons (a_callF g_law_some_clause (hr.mono (by decide)) (C.gl 19 rfl) (l_cons (av 0) (l_cons (av 1) (l_cons (a_int) l_nil)))) l_nil)))
    (ss_cons (s_if (q_cmp (op_eqD hr.units) eqA (a_callF g_law_pick (hr.mono (by decide)) (C.gl 17 rfl) (l_cons (av 0) (l_cons (a_int) l_nil))) (a_int)) (ss_one (s_set (i := 3) c_law_shape.nd (a_tup l_nil))) ss_nil)
    (ss_cons (s_set (i := 4) c_law_shape.nd (a_get hr.u (a_lst (l_cons (a_str) (l_cons (a_str) (l_cons (a_str) (l_cons (a_str) (l_cons (a_str) (l_cons (a_str) (l_cons (a_str) (l_cons (a_str) l_nil))))))))) (av 2)))
    (ss_cons (s_if (q_cmp (op_eqD hr.units) eqA (av 4) (a_str)) (ss_one (s_ret (a_tup (l_cons (a_str) (l_cons (a_get hr.u (a_lst (l_cons (a_callF g_law_pick (hr.mono (by decide)) (C.gl 17 rfl) (l_cons (av 0) (l_cons (a_int) l_nil))) (l_cons (a_callF g_law_pick (hr.mono (by decide)) (C.gl 17 rfl) (l_cons (av 0) (l_cons (a_op op_pow powA (a_int) (a_int)) l_nil))) l_nil))) (a_callF g_law_pick (hr.mono (by decide)) (C.gl 17 rfl) (l_cons (av 0) (l_cons (a_int) l_nil)))) l_nil))))) ss_nil)
    (ss_cons (s_if ((qw_and (q_cmp (op_eqD hr.units) eqA (av 4) (a_str)) (qw_and1 (q_cmp (op_neD hr.units) neA (av 3) (a_tup l_nil)))).pt) (ss_one (s_ret (a_tup (l_cons (a_str) (l_cons (av 3) (l_cons (a_get hr.u (av 3) (a_callF g_law_pick (hr.mono (by decide)) (C.gl 17 rfl) (l_cons (av 0) (l_cons (a_callB c_lenX lenXA (C.fr 2 rfl) (l_cons (av 3) l_nil)) l_nil)))) l_nil)))))) ss_nil)
    (ss_one (s_ret (a_tup (l_cons (a_get hr.u (a_lst (l_cons (a_str) (l_cons (av 4) l_nil))) (a_callTy c_int intCA (C.fr 6 rfl) (l_cons (a_cmp (op_neD hr.units) neA (av 4) (a_str)) l_nil))) (l_cons (av 3) l_nil))))))))))
theorem d_law_kinds_right (C : TxtT tts xts gl fr is ems emms cls mks fls mts K mg) (g_law_whole : OkF P w K mg base 1 "_law_whole" s_law_whole ["_law_thing"] p_law_whole) {cdv : Value} {A : Around} {outer : List Env} {s : Shared} {H : Hp} {E : XK} {B : Bs} (hr : Room 1 (A.deeper (PyProof.Rows.envOfC "_law_kinds_right" (defScope s_law_kinds_right) s.heap.objs.size (He.ga K "_law_kinds_right") cdv))) :
    PSs (cxOf CX0 P w K mg base n_law_kinds_right "_law_kinds_right" (defScope s_law_kinds_right) (He.ga K "_law_kinds_right") cdv A outer s H E).nox (defBody s_law_kinds_right) (sOf ⟨K, P, w⟩ B t_law_kinds_right) :=
  (ss_cons (s_for (i_seq (av 0)) (g_name (i := 1) c_law_kinds_right.nd) (ss_cons (s_if ((qw_or (q_not (q_tr (a_callB call_isi isiA (C.fr 1 rfl) (l_cons (av 1) (l_cons (a_tg (t := .tup) (C.fr 0 rfl) (by decide +kernel)) l_nil))))) (qw_or1 (q_not (q_tr (a_callB call_isi isiA (C.fr 1 rfl) (l_cons (a_get hr.u (av 1) (a_int)) (l_cons (a_tg (t := .str) (C.fr 8 rfl) (by decide +kernel)) l_nil))))))).pt) (ss_one (s_ret (a_bl))) ss_nil)
    (ss_cons (s_if ((qw_and (q_cmp (op_neD hr.units) neA (a_get hr.u (av 1) (a_int)) (a_str)) (qw_and1 (q_not (q_tr (a_callB call_isi isiA (C.fr 1 rfl) (l_cons (a_get hr.u (av 1) (a_int)) (l_cons (a_tg (t := .tup) (C.fr 0 rfl) (by decide +kernel)) l_nil))))))).pt) (ss_one (s_ret (a_bl))) ss_nil)
    (ss_cons (s_set (i := 2) c_law_kinds_right.nd (a_if (q_cmp (op_eqD hr.units) eqA (a_get hr.u (av 1) (a_int)) (a_str)) (a_lst (l_cons (a_get hr.u (av 1) (a_int)) l_nil)) (a_op o_add addA (a_callTy c_lst lstA (C.fr 14 rfl) (l_cons (a_get hr.u (av 1) (a_int)) l_nil)) (a_callTy c_lst lstA (C.fr 14 rfl) (l_cons (a_sl (av 1) (o_pt (a_int)) o_no) l_nil)))))
    (ss_one (s_if (q_not (q_tr (a_callB (cr_all rfl) allA (C.fr 10 rfl) (l_cons (a_lc (own := [("_law_mark", 3)]) c_law_kinds_right.nd (i_seq (av 2)) (blkOk_by (own := [("_law_mark", 3)]) (by kernel_rfl)) (tg_name (by decide)) (fun _ _ _ _ _ => (pg_name (i := 3) c_law_kinds_right.nd rfl (by first | exact .inl rfl | exact .inr rfl))) (fun _ _ _ _ _ => qs_nil) (fun _ _ _ _ _ => (a_callF g_law_whole (hr.mono (by decide)) (C.gl 18 rfl) (l_cons (av 3) l_nil)))) l_nil)))) (ss_one (s_ret (a_bl))) ss_nil))))))
    (ss_one (s_ret (a_callB call_isi isiA (C.fr 1 rfl) (l_cons (av 0) (l_cons (a_tg (t := .tup) (C.fr 0 rfl) (by decide +kernel)) l_nil))))))
theorem d_law_right (C : TxtT tts xts gl fr is ems emms cls mks fls mts K mg) (g_law_line_text : OkF P w K mg base 1 "_law_line_text" s_law_line_text ["_law_line"] p_law_line_text) (g_show_log : OkF P w K mg base 5 "show_log" s_show_log ["log"] p_show_log) (g_read_log : OkF P w K mg base 6 "read_log" s_read_log ["text"] p_read_log) (g_law_kinds_right : OkF P w K mg base 2 "_law_kinds_right" s_law_kinds_right ["_law_told"] p_law_kinds_right) {cdv : Value} {A : Around} {outer : List Env} {s : Shared} {H : Hp} {E : XK} {B : Bs} (hr : Room 6 (A.deeper (PyProof.Rows.envOfC "_law_right" (defScope s_law_right) s.heap.objs.size (He.ga K "_law_right") cdv))) (hgd : A.guards = some []) :
    PSs (cxOf CX0 P w K mg base n_law_right "_law_right" (defScope s_law_right) (He.ga K "_law_right") cdv A outer s H E).nox (defBody s_law_right) (sOf ⟨K, P, w⟩ B t_law_right) :=
  (ss_cons (s_set (i := 1) c_law_right.nd (a_join (a_str) (a_lc (own := [("_law_line", 4)]) c_law_right.nd (i_seq (av 0)) (blkOk_by (own := [("_law_line", 4)]) (by kernel_rfl)) (tg_name (by decide)) (fun _ _ _ _ _ => (pg_name (i := 4) c_law_right.nd rfl (by first | exact .inl rfl | exact .inr rfl))) (fun _ _ _ _ _ => qs_nil) (fun _ _ _ _ _ => (a_callF g_law_line_text (hr.mono (by decide)) (C.gl 20 rfl) (l_cons (av 4) l_nil))))))
    (ss_cons (s_set (i := 2) c_law_right.nd (a_callB (c_reprX hgd hr.u C.sy) reprXA (C.fr 15 rfl) (l_cons (av 0) l_nil)))
    (ss_cons (s_if ((qw_or (q_cmp (op_neD hr.units) neA (a_callF g_show_log (hr.mono (by decide)) (C.gl 13 rfl) (l_cons (av 0) l_nil)) (av 1)) (qw_or1 (q_cmp (op_neD hr.units) neA (a_callK0F g_show_log (hr.mono (by decide)) (C.gl 13 rfl) kb0 rfl (k_cons (av 0) k_nil)) (av 1)))).pt) (ss_one (s_ret (a_bl))) ss_nil)
    (ss_cons (s_set (i := 3) c_law_right.nd (a_callF g_read_log (hr.mono (by decide)) (C.gl 14 rfl) (l_cons (av 1) l_nil)))
    (ss_cons (s_if ((qw_or (q_not (q_tr (a_callF g_law_kinds_right (hr.mono (by decide)) (C.gl 22 rfl) (l_cons (av 3) l_nil)))) (qw_or (q_cmp (op_neD hr.units) neA (av 3) (av 0)) (qw_or1 (q_cmp (op_neD hr.units) neA (a_callK0F g_read_log (hr.mono (by decide)) (C.gl 14 rfl) kb1 rfl (k_cons (av 1) k_nil)) (av 0))))).pt) (ss_one (s_ret (a_bl))) ss_nil)
    (ss_one (s_ret (a_and (a_cmp (op_eqD hr.units) eqA (a_callF g_show_log (hr.mono (by decide)) (C.gl 13 rfl) (l_cons (av 3) l_nil)) (av 1)) (a_one (a_cmp (op_eqD hr.units) eqA (a_callB (c_reprX hgd hr.u C.sy) reprXA (C.fr 15 rfl) (l_cons (av 0) l_nil)) (av 2)))))))))))
theorem d_law (C : TxtT tts xts gl fr is ems emms cls mks fls mts K mg) (g_law_right : OkG P w K mg base 7 "_law_right" s_law_right ["_law_lines"] p_law_right) (g_read_log : OkF P w K mg base 6 "read_log" s_read_log ["text"] p_read_log) (g_law_purse : OkF P w K mg base 1 "_law_purse" s_law_purse ["_law_cell_here"] p_law_purse) (g_law_cell : OkF P w K mg base 1 "_law_cell" s_law_cell ["_law_script", "_law_k"] p_law_cell) (g_law_pick : OkF P w K mg base 1 "_law_pick" s_law_pick ["_law_purse_here", "_law_many"] p_law_pick) (g_law_shape : OkF P w K mg base 3 "_law_shape" s_law_shape ["_law_purse_here", "_law_size"] p_law_shape) {cdv : Value} {A : Around} {outer : List Env} {s : Shared} {H : Hp} {E : XK} {B : Bs} (hr : Room 7 (A.deeper (PyProof.Rows.envOfC "law" (defScope s_law) s.heap.objs.size (He.ga K "law") cdv))) (hgd : A.guards = some []) :
    PSs (cxOf CX0 P w K mg base n_law "law" (defScope s_law) (He.ga K "law") cdv A outer s H E).nox (defBody s_law) (sOf ⟨K, P, w⟩ B t_law) :=
  (ss_cons (s_if ((qw_or (q_not (q_tr (a_callG hgd g_law_right (hr.mono (by decide)) (C.gl 23 rfl) (l_cons (a_tup l_nil) l_nil)))) (qw_or (q_cmp (op_neD hr.units) neA (a_callF g_read_log (hr.mono (by decide)) (C.gl 14 rfl) (l_cons (a_str) l_nil)) (a_tup l_nil)) (qw_or1 (q_not (q_tr (a_callB call_isi isiA (C.fr 1 rfl) (l_cons (a_callF g_read_log (hr.mono (by decide)) (C.gl 14 rfl) (l_cons (a_str) l_nil)) (l_cons (a_tg (t := .tup) (C.fr 0 rfl) (by decide +kernel)) l_nil)))))))).pt) (ss_one (s_ret (a_bl))) ss_nil)
    (ss_cons (s_for (i_rg1 (C.fr 5 rfl) (l_cons (a_callB (c_max2 rfl) max2A (C.fr 4 rfl) (l_cons (a_int) (l_cons (a_callB (c_min2 rfl) min2A (C.fr 3 rfl) (l_cons (a_callB c_lenX lenXA (C.fr 2 rfl) (l_cons (av 0) l_nil)) (l_cons (a_int) l_nil))) l_nil))) l_nil)) (g_name (i := 1) c_law.nd) (ss_cons (s_set (i := 2) c_law.nd (a_callF g_law_purse (hr.mono (by decide)) (C.gl 16 rfl) (l_cons (a_callF g_law_cell (hr.mono (by decide)) (C.gl 15 rfl) (l_cons (av 0) (l_cons (av 1) l_nil))) l_nil)))
    (ss_cons (s_set (i := 3) c_law.nd (a_get hr.u (a_lst (l_cons (a_int) (l_cons (a_int) l_nil))) (a_callF g_law_pick (hr.mono (by decide)) (C.gl 17 rfl) (l_cons (av 2) (l_cons (a_int) l_nil)))))
    (ss_one (s_for (i_rg1 (C.fr 5 rfl) (l_cons (a_int) l_nil)) (g_name (i := 4) c_law.nd) (ss_one (s_if (q_not (q_tr (a_callG hgd g_law_right (hr.mono (by decide)) (C.gl 23 rfl) (l_cons (a_callTy c_tup tupA (C.fr 0 rfl) (l_cons (a_lc (own := [("_law_k", 1)]) c_law.nd (i_rg1 (C.fr 5 rfl) (l_cons (a_callF g_law_pick (hr.mono (by decide)) (C.gl 17 rfl) (l_cons (av 2) (l_cons (a_int) l_nil))) l_nil)) (blkOk_by (own := [("_law_k", 1)]) (by kernel_rfl)) (tg_name (by decide)) (fun _ _ _ _ _ => (pg_name (i := 1) c_law.nd rfl (by first | exact .inl rfl | exact .inr rfl))) (fun _ _ _ _ _ => qs_nil) (fun _ _ _ _ _ => (a_callF g_law_shape (hr.mono (by decide)) (C.gl 21 rfl) (l_cons (av 2) (l_cons (av 3) l_nil))))) l_nil)) l_nil)))) (ss_one (s_ret (a_bl))) ss_nil)))))))
    (ss_one (s_ret (a_bl)))))
end
theorem m_is_whole : ∀ ds S P, p_is_whole ds S P → t_is_whole { nx := fun _ S' => P .non S', rt := P } (aStart 1 ds) S := by
  intro ds S P h
  unfold p_is_whole at h
  match ds, h with
  | [_], ⟨i, rfl, k⟩ =>
    refine And.intro (by first | decide | omega | (dsimp only; first | decide | omega) | exact Nat.le_of_ble_eq_true rfl | exact Or.inl ⟨by decide, by decide⟩ | exact Or.inr ⟨by decide, by decide⟩ | exact Or.inl ⟨by omega, by omega⟩ | exact Or.inr ⟨by omega, by omega⟩ | exact ⟨by decide, by decide, by decide⟩ | exact ⟨by omega, by omega⟩ | (simp; done)) (iteP_T ?_)
    exact And.intro (by first | decide | omega | (dsimp only; first | decide | omega) | exact Nat.le_of_ble_eq_true rfl | exact Or.inl ⟨by decide, by decide⟩ | exact Or.inr ⟨by decide, by decide⟩ | exact Or.inl ⟨by omega, by omega⟩ | exact Or.inr ⟨by omega, by omega⟩ | exact ⟨by decide, by decide, by decide⟩ | exact ⟨by omega, by omega⟩ | (simp; done)) k

theorem m_is_lit : ∀ ds S P, p_is_lit ds S P → t_is_lit { nx := fun _ S' => P .non S', rt := P } (aStart 1 ds) S := by
  intro ds S P h
  unfold p_is_lit at h
  match ds, h with
  | [_], ⟨i, rfl, hl, k⟩ =>
    refine is_whole_of (iteP_T ?_)
    refine iteP_t (decide_eq_true hl.1) ?_
    exact bl_t (P := P) (decide_eq_true hl.2) k

theorem m_is_clause : ∀ ds S P, p_is_clause ds S P → t_is_clause { nx := fun _ S' => P .non S', rt := P } (aStart 4 ds) S := by
  intro ds S P h
  unfold p_is_clause at h
  match ds, h with
  | [_], ⟨c, rfl, hc, hz, q⟩ =>
    refine And.intro (by first | decide | omega | (dsimp only; first | decide | omega) | exact Nat.le_of_ble_eq_true rfl | exact Or.inl ⟨by decide, by decide⟩ | exact Or.inr ⟨by decide, by decide⟩ | exact Or.inl ⟨by omega, by omega⟩ | exact Or.inr ⟨by omega, by omega⟩ | exact ⟨by decide, by decide, by decide⟩ | exact ⟨by omega, by omega⟩ | (simp; done)) (iteP_f rfl ?_)
    refine lc_map c D.int (fun _ => D.bl true) (fun S' => S' = S) rfl rfl (small_line (by simp only [List.length_nil, List.length_map]; omega)) (fun l hl S' nx hV hn => ⟨trivial, is_lit_of (hc.lit l hl) (hn _ hV)⟩) (fun S' hV => ⟨trivial, ?_⟩)
    subst hV
    show allD (.obj S'.length) (S' ++ [.lst (c.map fun _ => D.bl true)]) (fun d S1 => truD d S1 _)
    refine all_new (xs := c) (c := fun _ => true) ?_
    refine iteP_f (show (!(c.all fun _ => true)) = false by simp) ?_
    refine lc_map (e := fun p : Int × Int => .tup [.int p.1, .int p.2]) (c.zip (c.drop 1)) (fun p => D.bl (decide (ab p.1 < ab p.2))) (fun S'' => S'' = S' ++ [.lst ([] ++ c.map fun _ => D.bl true)]) ?_ rfl (small_line (by simp; omega)) (fun p hp S'' nx hV hn => ⟨trivial, And.intro rfl (hn _ hV)⟩) (fun S'' hV => ⟨trivial, ?_⟩)
    · show zipItems (c.map D.int) (Ab.cutD (c.map D.int) (some 1) none) = _
      rw [cut_from1, ← List.map_drop, zip_map]
    · subst hV
      refine all_new (c := fun p : Int × Int => decide (ab p.1 < ab p.2)) ?_
      exact bl_t (P := P) (pair_all hc.inc) (q _ (Keep.push.trans Keep.push))

theorem m_row_text : ∀ ds S P, p_row_text ds S P → t_row_text { nx := fun _ S' => P .non S', rt := P } (aStart 2 ds) S := by
  intro ds S P h
  unfold p_row_text at h
  match ds, h with
  | [_], ⟨c, rfl, hc, q⟩ =>
    have lc := cl_len hc
    refine ⟨⟨_, rfl⟩, ?_⟩
    refine lc_map c D.int (fun i => D.str (nS i)) (fun S' => S' = S) rfl rfl (small_line (by rw [List.length_nil]; omega)) (fun l hl S' nx hV hn => ⟨trivial, ?_⟩) (fun S' hV => ⟨trivial, ?_⟩)
    · have := (hc.lit l hl).2
      refine And.intro (log2_few ?_) (hn _ hV)
      have e : l.natAbs < 2 ^ 10 := by
        unfold ab at this
        split at this <;> omega
      exact Nat.lt_of_lt_of_le e (Nat.pow_le_pow_right (by decide) (by decide))
    · subst hV
      have hS : (S' ++ [O.lst (c.map fun i => D.str (nS i))])[S'.length]? = some (.lst ((c.map nS).map D.str)) := by
        rw [List.map_map]
        exact push_at
      have hsm : ∀ w ∈ c.map nS, w.length ≤ 3 := fun w hw => by
        obtain ⟨i, hi, rfl⟩ := List.mem_map.mp hw
        exact lit_len (hc.lit i hi) (by decide)
      have hln := join_len (m := 3) tl_blank hsm
      rw [List.length_map] at hln
      have hb : (Str.ofString " ").length = 1 := by decide +kernel
      refine ⟨_, _, c.map nS, rfl, rfl, hS, ?_, ?_⟩
      · have := sum_le hsm
        rw [List.length_map] at this ⊢
        rw [hb]
        omega
      · refine And.intro (small_line (by omega)) ?_
        have q := q (S' ++ [O.lst (c.map fun i => D.str (nS i))]) Keep.push
        unfold rowT rowW at q
        cases hc0 : c with
        | nil =>
          subst hc0
          have e : TL.tl (Txt.join (Str.ofString " ") (([] : List Int).map nS)) = [] := by rw [tl_joinT]; rfl
          have e1 : (Txt.join (Str.ofString " ") (([] : List Int).map nS)).length = 0 := by rw [TL.len_tl, e]; rfl
          refine iteP_f (by rw [e1]; rfl) ?_
          have e2 : Txt.join (Str.ofString " ") [Str.ofString "."] = Str.ofString "." := TL.ext_tl (by rw [tl_joinT]; rfl)
          rw [if_pos rfl, e2] at q
          exact q
        | cons i c' =>
          subst hc0
          have e1 : (Txt.join (Str.ofString " ") ((i :: c').map nS)).length ≠ 0 := by
            rw [TL.len_tl, tl_joinT, tl_blank]
            intro z
            exact joinL_ne (s := 32) (nS_ne i) (List.length_eq_zero_iff.mp z)
          refine iteP_t ?_ ?_
          · simp only [bne_iff_ne, ne_eq]
            omega
          · rw [if_neg (by simp)] at q
            exact q

theorem fig_idx {c : Nat} (h : digB c = true) : ∃ rest, Builtin.Str.occurrences (Str.ofString "0123456789") ⟨#[c]⟩ 0 (Str.ofString "0123456789").length 1 = (c - 48) :: rest := by
  unfold digB at h
  have h := of_decide_eq_true h
  obtain ⟨k, rfl⟩ : ∃ k, c = 48 + k := ⟨c - 48, by omega⟩
  have hk : k < 10 := by omega
  refine ⟨[], ?_⟩
  have all : ∀ k : Fin 10, Builtin.Str.occurrences (Str.ofString "0123456789") ⟨#[48 + k.1]⟩ 0 (Str.ofString "0123456789").length 1 = [48 + k.1 - 48] := by decide +kernel
  exact all ⟨k, hk⟩
theorem fig_in (c : Nat) : decide (c ∈ (Str.ofString "0123456789").cps.toList) = digB c := by
  have e : (Str.ofString "0123456789").cps.toList = [48, 49, 50, 51, 52, 53, 54, 55, 56, 57] := by decide +kernel
  rw [e]
  unfold digB
  rw [Bool.eq_iff_iff, decide_eq_true_eq, decide_eq_true_eq]
  simp only [List.mem_cons, List.not_mem_nil, or_false]
  omega
theorem m_number_in : ∀ ds S P, p_number_in ds S P → t_number_in { nx := fun _ S' => P .non S', rt := P } (aStart 3 ds) S := by
  intro ds S P h
  unfold p_number_in at h
  match ds, h with
  | [_], ⟨w, rfl, hok, hl, q⟩ =>
    have rest : ∀ (x1 x2 : Option D) (S0 : Sto), Keep MZ S S0 → numB (TL.tl w) = some (NumText.digitsVal (TL.tl w)) → (TL.tl w).all digB = true → (aSeq (aAsg (aC (.int 0)) (gN 1)) (aSeq (aFor (iTxt (aVar 0)) (gN 2) (aAsg (aOp addD (aOp mulD (aC (.int 10)) (aVar 1)) (aM1 sidxD (aC (.str "0123456789")) (aVar 2))) (gN 1))) (aRet (aVar 1)))) { nx := fun _ S' => P .non S', rt := P } [some (.str w), x1, x2] S0 := by
      intro x1 x2 S0 k0 hn ha
      refine ⟨w, rfl, ?_⟩
      refine for_inv (fun i x S' => (∃ x2, x = [some (.str w), some (.int (NumText.digitsVal ((TL.tl w).take i) : Nat)), x2]) ∧ S' = S0) ⟨⟨_, rfl⟩, rfl⟩ (fun i e x S1 nx hd hI hnx => ?_) (fun x S1 hI => ?_)
      · obtain ⟨⟨x2, rfl⟩, rfl⟩ := hI
        obtain ⟨c, hc, rfl⟩ := map_get hd
        have hdg := List.all_eq_true.mp ha c (List.mem_of_getElem? hc)
        obtain ⟨rs, hrs⟩ := fig_idx hdg
        refine ⟨trivial, ?_⟩
        refine And.intro (Or.inl ⟨by omega, by omega⟩) ?_
        refine ⟨⟨_, rfl⟩, _, _, _, _, rfl, rfl, hrs, ?_⟩
        refine hnx _ _ ⟨⟨some (.str ⟨#[c]⟩), ?_⟩, rfl⟩
        have e1 : (TL.tl w).take (i + 1) = (TL.tl w).take i ++ [c] := by rw [List.take_add_one, hc]; rfl
        have e2 : NumText.digitsVal ((TL.tl w).take (i + 1)) = NumText.digitsVal ((TL.tl w).take i) * 10 + (c - 48) := by
          rw [e1]
          unfold NumText.digitsVal
          rw [List.foldl_append]
          rfl
        rw [e2]
        show [some (D.str w), some (D.int (10 * (NumText.digitsVal ((TL.tl w).take i) : Nat) + ((c - 48 : Nat) : Int))), some (D.str ⟨#[c]⟩)] = _
        have e3 : (10 * (NumText.digitsVal ((TL.tl w).take i) : Nat) + ((c - 48 : Nat) : Int)) = ((NumText.digitsVal ((TL.tl w).take i) * 10 + (c - 48) : Nat) : Int) := by omega
        rw [e3]
      · obtain ⟨⟨x2, rfl⟩, rfl⟩ := hI
        refine ⟨trivial, ?_⟩
        have := q S1 k0
        rw [hn] at this
        rw [List.take_of_length_le (by simp)]
        exact this
    refine eq_str hok (strOk_str _) ?_
    refine iteP_of (fun e => ?_) (fun e => ?_)
    · have e := of_decide_eq_true e
      have hn : numB (TL.tl w) = none := by
        subst e
        rfl
      have := q S .refl
      rw [hn] at this
      exact iteP_T this
    · have e : TL.tl w ≠ [] := fun z => of_decide_eq_false e (TL.ext_tl z)
      have hlen : 0 < (TL.tl w).length := List.length_pos_iff.mpr e
      have hw : (w.length : Int) = (TL.tl w).length := by rw [TL.len_tl]
      have h0 : w.cps[(0 : Int).toNat]? = some ((TL.tl w)[0]) := by
        show w.cps[0]? = _
        rw [← Array.getElem?_toList]
        exact List.getElem?_eq_getElem hlen
      have hh : (TL.tl w).head? = some ((TL.tl w)[0]) := by
        rw [List.head?_eq_getElem?]
        exact List.getElem?_eq_getElem hlen
      have c0 : PyData.strOk ⟨#[(TL.tl w)[0]]⟩ = true := strOk_tl fun c hc => by
        have hc : c ∈ [(TL.tl w)[0]] := hc
        rw [List.mem_singleton.mp hc]
        exact tl_strOk hok _ (List.getElem_mem _)
      have s0 : ∀ (c : Nat), decide ((⟨#[c]⟩ : Str) = Str.ofString "0") = decide (c = 48) := fun c => by
        have e0 : Str.ofString "0" = ⟨#[48]⟩ := by decide +kernel
        rw [e0, Bool.eq_iff_iff, decide_eq_true_eq, decide_eq_true_eq]
        constructor
        · intro h
          have : TL.tl (⟨#[c]⟩ : Str) = TL.tl ⟨#[48]⟩ := by rw [h]
          simpa using this
        · intro h
          rw [h]
      have t0 : decide (w = Str.ofString "0") = decide (TL.tl w = [48]) := by
        have e0 : TL.tl (Str.ofString "0") = [48] := by decide +kernel
        rw [Bool.eq_iff_iff, decide_eq_true_eq, decide_eq_true_eq]
        exact ⟨fun h => by rw [h]; exact e0, fun h => TL.ext_tl (h.trans e0.symm)⟩
      have third : ∀ (K : Bool → Sto → Prop), (∀ S', Keep MZ S S' → K (!((TL.tl w).all digB)) S') → (aNot (aTr (aCall (ar1 allD) (aCons (aLc (iTxt (aVar 0)) (gN 2) aYes (aOp (inSD false) (aVar 2) (aC (.str "0123456789"))) [2]) aNil)))) (aStart 3 [D.str w]) S K := by
        intro K hK
        refine ⟨w, rfl, ?_⟩
        refine lc_map (TL.tl w) (fun c => D.str ⟨#[c]⟩) (fun c => D.bl (digB c)) (fun S' => S' = S) rfl rfl (small_line (by rw [List.length_nil]; rw [TL.len_tl] at hl; omega)) (fun c hc S' nx hV hn => ⟨trivial, ?_⟩) (fun S' hV => ⟨trivial, ?_⟩)
        · refine ⟨c, _, rfl, rfl, ?_⟩
          rw [fig_in]
          exact hn _ hV
        · subst hV
          show allD (.obj S'.length) (S' ++ [.lst ((TL.tl w).map fun c => D.bl (digB c))]) (fun d S1 => truD d S1 _)
          refine all_new (xs := TL.tl w) (c := digB) ?_
          exact hK _ Keep.push
      have fin : ((TL.tl w).head? = some 48 → TL.tl w = [48]) → (aNot (aTr (aCall (ar1 allD) (aCons (aLc (iTxt (aVar 0)) (gN 2) aYes (aOp (inSD false) (aVar 2) (aC (.str "0123456789"))) [2]) aNil)))) (aStart 3 [D.str w]) S (fun b S1 => iteP b (P .non S1) ((aSeq (aAsg (aC (.int 0)) (gN 1)) (aSeq (aFor (iTxt (aVar 0)) (gN 2) (aAsg (aOp addD (aOp mulD (aC (.int 10)) (aVar 1)) (aM1 sidxD (aC (.str "0123456789")) (aVar 2))) (gN 1))) (aRet (aVar 1)))) { nx := fun _ S' => P .non S', rt := P } [some (.str w), none, none] S1)) := by
        intro hz
        refine third _ fun S' k' => ?_
        cases ha : (TL.tl w).all digB with
        | true =>
          refine iteP_F ?_
          have hn : numB (TL.tl w) = some (NumText.digitsVal (TL.tl w)) := by
            unfold numB
            rw [if_pos ⟨e, hz, ha⟩]
          exact rest _ _ S' k' hn ha
        | false =>
          refine iteP_T ?_
          have hn : numB (TL.tl w) = none := by
            unfold numB
            rw [if_neg fun z => by rw [ha] at z; exact absurd z.2.2 Bool.false_ne_true]
          have := q S' k'
          rw [hn] at this
          exact this
      refine ⟨w, 0, (TL.tl w)[0], rfl, rfl, by omega, by omega, by omega, h0, ?_⟩
      refine eq_str c0 (strOk_str _) ?_
      rw [s0]
      refine iteP_of (fun e1 => ?_) (fun e1 => ?_)
      · have e1 := of_decide_eq_true e1
        refine ne_str hok (strOk_str _) ?_
        rw [t0]
        refine iteP_of (fun e2 => ?_) (fun e2 => ?_)
        · have e2 : TL.tl w ≠ [48] := by simpa using e2
          have hn : numB (TL.tl w) = none := by
            unfold numB
            rw [if_neg fun z => e2 (z.2.1 (by rw [hh, e1]))]
          have := q S .refl
          rw [hn] at this
          exact iteP_T this
        · have e2 : TL.tl w = [48] := by simpa using e2
          exact fin fun _ => e2
      · have e1 := of_decide_eq_false e1
        exact iteP_F (fin fun z => by rw [hh] at z; exact absurd (Option.some.inj z) e1)

theorem m_lit_in_booktexts : ∀ ds S P, p_lit_in_booktexts ds S P → t_lit_in_booktexts { nx := fun _ S' => P .non S', rt := P } (aStart 3 ds) S := by
  intro ds S P h
  unfold p_lit_in_booktexts at h
  match ds, h with
  | [_], ⟨w, rfl, hok, hl, q⟩ =>
    refine And.intro (small_line (by omega)) ?_
    refine eq_str (cut_ok _ _ hok) (strOk_str _) ?_
    rw [cut_minus]
    by_cases hh : (TL.tl w).head? = some 45
    · rw [decide_eq_true hh]
      refine And.intro (small_line (by omega)) ?_
      show p_number_in [.str (cutS w (some ((1 : Nat) : Int)) none)] S _
      refine number_in_of (cut_ok _ _ hok) (Nat.le_trans (cutS_length _ _ _) hl) fun S' k => ?_
      have q := q S' k
      rw [cut_drop]
      unfold litT at q
      rw [if_pos hh] at q
      cases hn : numB ((TL.tl w).drop 1) with
      | none =>
        rw [hn] at q
        exact iteP_T (iteP_T q)
      | some n =>
        rw [hn] at q
        refine iteP_F ?_
        refine iteP_T ?_
        rw [show numD (some n) = D.int (n : Int) from rfl]
        refine iteP_of (fun e => ?_) (fun e => ?_)
        · have e : n = 0 := by have := of_decide_eq_true e; omega
          subst e
          exact q
        · have e : n ≠ 0 := by have := of_decide_eq_false e; omega
          have q : P (litD (if n = 0 then none else some (0 - (n : Int)))) S' := q
          rw [if_neg e] at q
          exact iteP_T q
    · rw [decide_eq_false hh]
      refine And.intro (small_line (by omega)) ?_
      show p_number_in [.str (cutS w (some ((0 : Nat) : Int)) none)] S _
      refine number_in_of (cut_ok _ _ hok) (Nat.le_trans (cutS_length _ _ _) hl) fun S' k => ?_
      have q := q S' k
      rw [cut_drop, List.drop_zero]
      unfold litT at q
      rw [if_neg hh] at q
      cases hn : numB (TL.tl w) with
      | none =>
        rw [hn] at q
        exact iteP_T (iteP_T q)
      | some n =>
        rw [hn] at q
        refine iteP_F ?_
        refine iteP_F ?_
        refine iteP_F ?_
        exact iteP_F q

theorem m_lits_text : ∀ ds S P, p_lits_text ds S P → t_lits_text { nx := fun _ S' => P .non S', rt := P } (aStart 1 ds) S := by
  intro ds S P h
  unfold p_lits_text at h
  match ds, h with
  | [_], ⟨c, rfl, hc, q⟩ => exact row_text_of hc q

theorem m_law_cell : ∀ ds S P, p_law_cell ds S P → t_law_cell { nx := fun _ S' => P .non S', rt := P } (aStart 4 ds) S := by
  intro ds S P h
  unfold p_law_cell at h
  match ds, h with
  | [_, _], ⟨ns, k, rfl, rfl, hl, h0, hz, q⟩ =>
    refine iteP_of (fun e => ?_) (fun _ => ?_)
    · have e : k < (ns.map D.int).length := of_decide_eq_true e
      have hk : k.toNat < ns.length := by simp at e; omega
      refine ixP_nat (j := k.toNat) (d := .int ns[k.toNat]) (by rw [List.getElem?_map, List.getElem?_eq_getElem hk]; rfl) ?_ (by omega)
      exact q _ _ Keep.refl
    · refine And.intro (by first | decide | omega | (dsimp only; first | decide | omega) | exact Nat.le_of_ble_eq_true rfl | exact Or.inl ⟨by decide, by decide⟩ | exact Or.inr ⟨by decide, by decide⟩ | exact Or.inl ⟨by omega, by omega⟩ | exact Or.inr ⟨by omega, by omega⟩ | exact ⟨by decide, by decide, by decide⟩ | exact ⟨by omega, by omega⟩ | (simp; done)) ?_
      refine And.intro (by first | decide | omega | (dsimp only; first | decide | omega) | exact Nat.le_of_ble_eq_true rfl | exact Or.inl ⟨by decide, by decide⟩ | exact Or.inr ⟨by decide, by decide⟩ | exact Or.inl ⟨by omega, by omega⟩ | exact Or.inr ⟨by omega, by omega⟩ | exact ⟨by decide, by decide, by decide⟩ | exact ⟨by omega, by omega⟩ | (simp; done)) ?_
      refine And.intro (by first | decide | omega | (dsimp only; first | decide | omega) | exact Nat.le_of_ble_eq_true rfl | exact Or.inl ⟨by decide, by decide⟩ | exact Or.inr ⟨by decide, by decide⟩ | exact Or.inl ⟨by omega, by omega⟩ | exact Or.inr ⟨by omega, by omega⟩ | exact ⟨by decide, by decide, by decide⟩ | exact ⟨by omega, by omega⟩ | (simp; done)) ?_
      refine And.intro (by first | decide | omega | (dsimp only; first | decide | omega) | exact Nat.le_of_ble_eq_true rfl | exact Or.inl ⟨by decide, by decide⟩ | exact Or.inr ⟨by decide, by decide⟩ | exact Or.inl ⟨by omega, by omega⟩ | exact Or.inr ⟨by omega, by omega⟩ | exact ⟨by decide, by decide, by decide⟩ | exact ⟨by omega, by omega⟩ | (simp; done)) ?_
      refine rdO_of push_at ?_
      refine for_inv (fun i a S' => ∃ x y, a = [some (.rol (ns.map D.int)), some (.int k), some (.int x), y] ∧ S' = S ++ [.lst (cutD (ns.map D.int) none (some 4))]) ⟨_, _, rfl, rfl⟩ (fun i d a S' nx hd hI hn => ?_) (fun a S' hI => ?_)
      · obtain ⟨x, y, rfl, rfl⟩ := hI
        have hd' : ∃ z, d = .int z := by
          have m := List.mem_of_getElem? hd
          have m2 : d ∈ ns.map D.int := List.mem_of_mem_drop (List.mem_of_mem_take m)
          obtain ⟨z, _, e⟩ := List.mem_map.mp m2
          exact ⟨z, e.symm⟩
        obtain ⟨z, rfl⟩ := hd'
        refine ⟨push_at, ?_⟩
        refine And.intro (by first | decide | omega | (dsimp only; first | decide | omega) | exact Nat.le_of_ble_eq_true rfl | exact Or.inl ⟨by decide, by decide⟩ | exact Or.inr ⟨by decide, by decide⟩ | exact Or.inl ⟨by omega, by omega⟩ | exact Or.inr ⟨by omega, by omega⟩ | exact ⟨by decide, by decide, by decide⟩ | exact ⟨by omega, by omega⟩ | (simp; done)) ?_
        refine And.intro (by first | decide | omega | (dsimp only; first | decide | omega) | exact Nat.le_of_ble_eq_true rfl | exact Or.inl ⟨by decide, by decide⟩ | exact Or.inr ⟨by decide, by decide⟩ | exact Or.inl ⟨by omega, by omega⟩ | exact Or.inr ⟨by omega, by omega⟩ | exact ⟨by decide, by decide, by decide⟩ | exact ⟨by omega, by omega⟩ | (simp; done)) ?_
        exact hn _ _ ⟨_, _, rfl, rfl⟩
      · obtain ⟨x, y, rfl, rfl⟩ := hI
        refine ⟨push_at, ?_⟩
        exact q _ _ Keep.push

theorem m_law_purse : ∀ ds S P, p_law_purse ds S P → t_law_purse { nx := fun _ S' => P .non S', rt := P } (aStart 1 ds) S := by
  intro ds S P h
  unfold p_law_purse at h
  match ds, h with
  | [_], ⟨c, rfl, k⟩ =>
    refine And.intro (by first | decide | omega | (dsimp only; first | decide | omega) | exact Nat.le_of_ble_eq_true rfl | exact Or.inl ⟨by decide, by decide⟩ | exact Or.inr ⟨by decide, by decide⟩ | exact Or.inl ⟨by omega, by omega⟩ | exact Or.inr ⟨by omega, by omega⟩ | exact ⟨by decide, by decide, by decide⟩ | exact ⟨by omega, by omega⟩ | (simp; done)) (And.intro (by first | decide | omega | (dsimp only; first | decide | omega) | exact Nat.le_of_ble_eq_true rfl | exact Or.inl ⟨by decide, by decide⟩ | exact Or.inr ⟨by decide, by decide⟩ | exact Or.inl ⟨by omega, by omega⟩ | exact Or.inr ⟨by omega, by omega⟩ | exact ⟨by decide, by decide, by decide⟩ | exact ⟨by omega, by omega⟩ | (simp; done)) ?_)
    refine And.intro (by first | decide | omega | (dsimp only; first | decide | omega) | exact Nat.le_of_ble_eq_true rfl | exact Or.inl ⟨by decide, by decide⟩ | exact Or.inr ⟨by decide, by decide⟩ | exact Or.inl ⟨by omega, by omega⟩ | exact Or.inr ⟨by omega, by omega⟩ | exact ⟨by decide, by decide, by decide⟩ | exact ⟨by omega, by omega⟩ | (simp; done)) ?_
    refine And.intro (by first | decide | omega | (dsimp only; first | decide | omega) | exact Nat.le_of_ble_eq_true rfl | exact Or.inl ⟨by decide, by decide⟩ | exact Or.inr ⟨by decide, by decide⟩ | exact Or.inl ⟨by omega, by omega⟩ | exact Or.inr ⟨by omega, by omega⟩ | exact ⟨by decide, by decide, by decide⟩ | exact ⟨by omega, by omega⟩ | (simp; done)) ?_
    have h1 := push_at (S := S) (o := .lst [.int 0, .int c])
    have fin : ∀ x : Int, P (.obj (S ++ [O.lst [.int 0, .int c]]).length) ((S ++ [O.lst [.int 0, .int c]]) ++ [.lst [.int (c % 1000000021 * 6007 + 2711), .int x, .int 0]]) := fun x =>
      k _ _ (by simp) (Keep.push.trans Keep.push) ⟨_, _, _, push_at⟩
    refine rdO_of h1 ?_
    cases hb : decide ((10 : Int) ^ (18 : Int).toNat ≤ c) with
    | true =>
      refine ixP_nat (j := 1) (d := .int c) rfl ?_ (by first | rfl | (rw [hb]; rfl))
      exact And.intro (by first | decide | omega | (dsimp only; first | decide | omega) | exact Nat.le_of_ble_eq_true rfl | exact Or.inl ⟨by decide, by decide⟩ | exact Or.inr ⟨by decide, by decide⟩ | exact Or.inl ⟨by omega, by omega⟩ | exact Or.inr ⟨by omega, by omega⟩ | exact ⟨by decide, by decide, by decide⟩ | exact ⟨by omega, by omega⟩ | (simp; done)) (fin c)
    | false =>
      refine ixP_nat (j := 0) (d := .int 0) rfl ?_ (by first | rfl | (rw [hb]; rfl))
      exact And.intro (by first | decide | omega | (dsimp only; first | decide | omega) | exact Nat.le_of_ble_eq_true rfl | exact Or.inl ⟨by decide, by decide⟩ | exact Or.inr ⟨by decide, by decide⟩ | exact Or.inl ⟨by omega, by omega⟩ | exact Or.inr ⟨by omega, by omega⟩ | exact ⟨by decide, by decide, by decide⟩ | exact ⟨by omega, by omega⟩ | (simp; done)) (fin 0)

theorem m_law_pick : ∀ ds S P, p_law_pick ds S P → t_law_pick { nx := fun _ S' => P .non S', rt := P } (aStart 4 ds) S := by
  intro ds S P h
  unfold p_law_pick at h
  match ds, h with
  | [_, _], ⟨n, m, rfl, rfl, hm, hz, ⟨a, b, c, hp⟩, k⟩ =>
    refine rdO_of hp (ixP_nat (j := 2) rfl ?_)
    refine rdO_of hp ⟨2, rfl, ?_⟩
    have h1 := set_at (u := .lst (([.int a, .int b, .int c] : List D).set 2 (.int (c + 1)))) hp
    refine rdO_of h1 (ixP_nat (j := 0) rfl ?_)
    refine And.intro (by first | decide | omega | (dsimp only; first | decide | omega) | exact Nat.le_of_ble_eq_true rfl | exact Or.inl ⟨by decide, by decide⟩ | exact Or.inr ⟨by decide, by decide⟩ | exact Or.inl ⟨by omega, by omega⟩ | exact Or.inr ⟨by omega, by omega⟩ | exact ⟨by decide, by decide, by decide⟩ | exact ⟨by omega, by omega⟩ | (simp; done)) ?_
    refine And.intro (by first | decide | omega | (dsimp only; first | decide | omega) | exact Nat.le_of_ble_eq_true rfl | exact Or.inl ⟨by decide, by decide⟩ | exact Or.inr ⟨by decide, by decide⟩ | exact Or.inl ⟨by omega, by omega⟩ | exact Or.inr ⟨by omega, by omega⟩ | exact ⟨by decide, by decide, by decide⟩ | exact ⟨by omega, by omega⟩ | (simp; done)) ?_
    have r1 := Int.emod_nonneg a (b := 1000000021) (by decide)
    have r2 := Int.emod_lt_of_pos a (b := 1000000021) (by decide)
    refine And.intro (by first | decide | omega | (dsimp only; first | decide | omega) | exact Nat.le_of_ble_eq_true rfl | exact Or.inl ⟨by decide, by decide⟩ | exact Or.inr ⟨by decide, by decide⟩ | exact Or.inl ⟨by omega, by omega⟩ | exact Or.inr ⟨by omega, by omega⟩ | exact ⟨by decide, by decide, by decide⟩ | exact ⟨by omega, by omega⟩ | (simp; done)) ?_
    refine rdO_of h1 (ixP_nat (j := 2) rfl ?_)
    refine And.intro (by first | decide | omega | (dsimp only; first | decide | omega) | exact Nat.le_of_ble_eq_true rfl | exact Or.inl ⟨by decide, by decide⟩ | exact Or.inr ⟨by decide, by decide⟩ | exact Or.inl ⟨by omega, by omega⟩ | exact Or.inr ⟨by omega, by omega⟩ | exact ⟨by decide, by decide, by decide⟩ | exact ⟨by omega, by omega⟩ | (simp; done)) ?_
    refine rdO_of h1 ⟨0, rfl, ?_⟩
    generalize hz0 : (a % 1000000021) * ((a % 1000000021) % 40009 + 20021) + 60013 * (c + 1) = z0
    have h2 := set_at (u := .lst (([.int a, .int b, .int (c + 1)] : List D).set 0 (.int z0))) h1
    have k2 : Keep (MO n) S ((S.set n (.lst (([.int a, .int b, .int c] : List D).set 2 (.int (c + 1))))).set n (.lst (([.int a, .int b, .int (c + 1)] : List D).set 0 (.int z0)))) := Keep.trans Keep.set Keep.set
    refine rdO_of h2 (ixP_nat (j := 1) rfl ?_)
    refine iteP_of (fun _ => ?_) (fun _ => ?_)
    · refine rdO_of h2 (ixP_nat (j := 1) rfl ?_)
      refine And.intro hm ?_
      refine rdO_of h2 (ixP_nat (j := 1) rfl ?_)
      refine And.intro (wide_of hm hz) ?_
      refine rdO_of h2 ⟨1, rfl, ?_⟩
      exact k _ _ (Int.emod_nonneg _ (by omega)) (Int.emod_lt_of_pos _ hm) (k2.trans Keep.set) ⟨_, _, _, set_at h2⟩
    · refine rdO_of h2 (ixP_nat (j := 0) rfl ?_)
      refine And.intro (by first | decide | omega | (dsimp only; first | decide | omega) | exact Nat.le_of_ble_eq_true rfl | exact Or.inl ⟨by decide, by decide⟩ | exact Or.inr ⟨by decide, by decide⟩ | exact Or.inl ⟨by omega, by omega⟩ | exact Or.inr ⟨by omega, by omega⟩ | exact ⟨by decide, by decide, by decide⟩ | exact ⟨by omega, by omega⟩ | (simp; done)) ?_
      refine And.intro (by first | decide | omega | (dsimp only; first | decide | omega) | exact Nat.le_of_ble_eq_true rfl | exact Or.inl ⟨by decide, by decide⟩ | exact Or.inr ⟨by decide, by decide⟩ | exact Or.inl ⟨by omega, by omega⟩ | exact Or.inr ⟨by omega, by omega⟩ | exact ⟨by decide, by decide, by decide⟩ | exact ⟨by omega, by omega⟩ | (simp; done)) ?_
      refine And.intro hm ?_
      exact k _ _ (Int.emod_nonneg _ (by omega)) (Int.emod_lt_of_pos _ hm) k2 ⟨_, _, _, h2⟩

theorem m_law_whole : ∀ ds S P, p_law_whole ds S P → t_law_whole { nx := fun _ S' => P .non S', rt := P } (aStart 1 ds) S := by
  intro ds S P h
  unfold p_law_whole at h
  match ds, h with
  | [_], ⟨i, rfl, k⟩ =>
    refine And.intro (by first | decide | omega | (dsimp only; first | decide | omega) | exact Nat.le_of_ble_eq_true rfl | exact Or.inl ⟨by decide, by decide⟩ | exact Or.inr ⟨by decide, by decide⟩ | exact Or.inl ⟨by omega, by omega⟩ | exact Or.inr ⟨by omega, by omega⟩ | exact ⟨by decide, by decide, by decide⟩ | exact ⟨by omega, by omega⟩ | (simp; done)) (iteP_T ?_)
    exact And.intro (by first | decide | omega | (dsimp only; first | decide | omega) | exact Nat.le_of_ble_eq_true rfl | exact Or.inl ⟨by decide, by decide⟩ | exact Or.inr ⟨by decide, by decide⟩ | exact Or.inl ⟨by omega, by omega⟩ | exact Or.inr ⟨by omega, by omega⟩ | exact ⟨by decide, by decide, by decide⟩ | exact ⟨by omega, by omega⟩ | (simp; done)) k

theorem m_law_some_clause : ∀ ds S P, p_law_some_clause ds S P → t_law_some_clause { nx := fun _ S' => P .non S', rt := P } (aStart 6 ds) S := by
  intro ds S P h
  unfold p_law_some_clause at h
  match ds, h with
  | [_, _, _], ⟨n, s, u, rfl, rfl, rfl, hs, hs2, hu, hu2, hp, q⟩ =>
    refine And.intro (by first | decide | omega | (dsimp only; first | decide | omega) | exact Nat.le_of_ble_eq_true rfl | exact Or.inl ⟨by decide, by decide⟩ | exact Or.inr ⟨by decide, by decide⟩ | exact Or.inl ⟨by omega, by omega⟩ | exact Or.inr ⟨by omega, by omega⟩ | exact ⟨by decide, by decide, by decide⟩ | exact ⟨by omega, by omega⟩ | (simp; done)) ?_
    have hn := hp.lt
    refine pick_of hu (by omega) (hp.keep (Keep.push (M := MZ)) fun z => z) fun r0 S1 hr0 hr1 k1 p1 => ?_
    refine And.intro ⟨by omega, by omega⟩ ?_
    have hmk : S1[S.length]? = some (.lst (([] : List Int).map D.int)) := k1.at push_at (fun z => by unfold MO at z; omega)
    have K1 : Keep (MO n) S S1 := Keep.push.trans k1
    refine for_inv (fun i a S' => ∃ (x y : Option D) (ms : List Int), a = [some (.obj n), some (.int s), some (.int u), some (.obj S.length), x, y] ∧ Keep (MO n) S S' ∧ Pu S' n ∧ S'[S.length]? = some (.lst (ms.map D.int)) ∧ ms.Nodup ∧ (∀ m ∈ ms, 1 ≤ m ∧ m ≤ s) ∧ ms.length ≤ i ∧ (0 < i → ms ≠ []))
      ⟨_, _, [], rfl, K1, p1, hmk, List.nodup_nil, by simp, Nat.le_refl _, fun z => absurd z (Nat.lt_irrefl _)⟩ (fun i e a S' nx hd hI hn' => ?_) (fun a S' hI => ?_)
    · obtain ⟨x, y, ms, rfl, K2, p2, hm, nd, hb, hl, hne⟩ := hI
      refine ⟨trivial, ?_⟩
      refine pick_of hs (by omega) p2 fun r S3 hr2 hr3 k3 p3 => ?_
      have hm3 : S3[S.length]? = some (.lst (ms.map d)) := k3.at hm (fun z => by unfold MO at z; omega)
      refine in_lst (α := Int) (neg := true) hm3 (iteP_of (fun e => ?_) (fun e => ?_))
      · have e : 1 + r ∉ ms := by simpa using e
        refine rdO_of hm3 ?_
        have hlen : i < (1 + r0).toNat := by
          have := (List.getElem?_eq_some_iff.mp hd).1
          simpa [rgItems_len] using this
        refine rdO_of hm3 (And.intro (small_line' (by simp; omega)) ?_)
        refine hn' _ _ ⟨_, _, ms ++ [1 + r], rfl, (K2.trans k3).setNew (by simp), p3.keep (Keep.set (n := S.length)) (fun z => by unfold MO at z; omega), by rw [List.map_append]; exact set_at hm3, ?_, ?_, by simp; omega, fun _ => by simp⟩
        · exact List.nodup_append.mpr ⟨nd, by simp, fun a ha b hb => by simp at hb; subst hb; exact fun z => e (z ▸ ha)⟩
        · intro m hm'
          rcases List.mem_append.mp hm' with h | h
          · exact hb m h
          · simp at h; omega
      · have e : 1 + r ∈ ms := by simpa using e
        refine hn' _ _ ⟨_, _, ms, rfl, K2.trans k3, p3, hm3, nd, hb, by omega, fun _ z => ?_⟩
        rw [z] at e
        simp at e
    · obtain ⟨x, y, ms, rfl, K2, p2, hm, nd, hb, hl, hne⟩ := hI
      have hl : ms.length ≤ (1 + r0).toNat := by simpa [rgItems_len] using hl
      have hne : ms ≠ [] := hne (by simp [rgItems_len]; omega)
      refine ⟨trivial, ?_⟩
      refine rdO_of hm (srt_ints ?_)
      refine rdO_of push_at ?_
      have hs' := sortI_perm ms
      have hso := sortI_sorted ms
      have nds : (sortI ms).Nodup := hs'.nodup_iff.mpr nd
      have hinc : (sortI ms).Pairwise (· < ·) := by
        have := hso.and nds
        exact this.imp fun {a b} h => by omega
      have hlen : (sortI ms).length = ms.length := hs'.length_eq
      refine lc_inv (fun i acc S3 => ∃ cs : List Int, acc = cs.map D.int ∧ cs.map ab = (sortI ms).take i ∧ Keep (MO n) S S3 ∧ Pu S3 n ∧ S3[S'.length]? = some (.lst ((sortI ms).map D.int))) ⟨[], rfl, rfl, K2.trans Keep.push, p2.keep (Keep.push (M := MZ)) (fun z => z), push_at⟩ (fun i e acc S3 nx hd hI hn' => ?_) (fun acc S3 hI => ?_)
      · obtain ⟨cs, rfl, hc, K3, p3, hso3⟩ := hI
        rw [List.getElem?_map] at hd
        cases hx : (sortI ms)[i]? with
        | none => rw [hx] at hd; cases hd
        | some m =>
          rw [hx] at hd
          cases hd
          have hil := (List.getElem?_eq_some_iff.mp hx).1
          have hmem : m ∈ ms := hs'.mem_iff.mp (List.mem_of_getElem? hx)
          obtain ⟨hm1, hm2⟩ := hb m hmem
          refine ⟨hso3, iteP_T ?_⟩
          refine And.intro (by first | decide | omega | (dsimp only; first | decide | omega) | exact Nat.le_of_ble_eq_true rfl | exact Or.inl ⟨by decide, by decide⟩ | exact Or.inr ⟨by decide, by decide⟩ | exact Or.inl ⟨by omega, by omega⟩ | exact Or.inr ⟨by omega, by omega⟩ | exact ⟨by decide, by decide, by decide⟩ | exact ⟨by omega, by omega⟩ | (simp; done)) ?_
          have kp := Keep.push (M := MZ) (S := S3) (o := .lst [.int 1, .int (-1)])
          refine pick_of (by decide) (by decide) (p3.keep kp fun z => z) fun r S5 hr2 hr3 k5 p5 => ?_
          have hob : S5[S3.length]? = some (.lst [.int 1, .int (-1)]) := k5.at push_at (fun z => by
            have := p3.lt
            unfold MO at z; omega)
          refine rdO_of hob ?_
          have hc5 : S5[S'.length]? = some (.lst ((sortI ms).map D.int)) := k5.at (push_old hso3) (fun z => by
            have := p2.lt
            unfold MO at z; omega)
          have fin : ∀ c : Int, ab c = m → (cs.map D.int).length < sizeLine ∧ nx (cs.map D.int ++ [D.int c]) S5 := fun c hcc => by
            have hcl := congrArg List.length hc
            simp at hcl
            refine ⟨small_line' (by simp; omega), hn' _ _ ⟨cs ++ [c], by simp, ?_, (K3.trans (Keep.push)).trans k5, p5, hc5⟩⟩
            rw [List.map_append, hc, List.take_add_one, hx, ← hcc]
            rfl
          rcases (show r = 0 ∨ r = 1 by omega) with rfl | rfl
          · refine ixP_nat (j := 0) rfl (And.intro (Or.inl ⟨by omega, by omega⟩) (fin _ ?_))
            unfold ab; split <;> omega
          · refine ixP_nat (j := 1) rfl (And.intro (Or.inl ⟨by omega, by omega⟩) (fin _ ?_))
            unfold ab; split <;> omega
      · obtain ⟨cs, rfl, hc, K3, p3, hso3⟩ := hI
        have hc : cs.map ab = sortI ms := by rw [hc]; simp
        refine ⟨hso3, ?_⟩
        refine rdO_of push_at ?_
        have hcl := congrArg List.length hc
        simp at hcl
        refine q cs _ ⟨fun l hl => ?_, ?_⟩ (fun z => ?_) (by omega) (K3.trans Keep.push) (p3.keep (Keep.push (M := MZ)) fun z => z)
        · have h1 : ab l ∈ sortI ms := hc ▸ List.mem_map_of_mem hl
          exact hb _ (hs'.mem_iff.mp h1)
        · have := hc ▸ hinc
          rwa [List.pairwise_map] at this
        · subst z
          simp at hcl
          have : ms.length = 0 := by omega
          exact hne (List.length_eq_zero_iff.mp this)

theorem m_lit_in_logtexts : ∀ ds S P, p_lit_in_logtexts ds S P → t_lit_in_logtexts { nx := fun _ S' => P .non S', rt := P } (aStart 2 ds) S := by
  intro ds S P h
  unfold p_lit_in_logtexts at h
  match ds, h with
  | [_], ⟨i, rfl, hi, q⟩ =>
    have hl : (nS i).length ≤ 3 := nS_len (k := 2) (by decide) (by omega)
    refine And.intro (small_line (by omega)) ?_
    refine eq_str (cut_ok _ _ (strOk_nS i)) (strOk_str _) ?_
    rw [cut_minus]
    rcases nS_cases i with ⟨n, rfl, e⟩ | ⟨n, h1, rfl, e⟩
    · rw [e, decide_eq_false (numL_no45 n)]
      refine iteP_F ?_
      refine number_in_of (strOk_nS _) (by omega) fun S' k => ?_
      rw [e, numB_numL]
      exact q S' k
    · have h0 : (45 :: TL.numL n).head? = some 45 := rfl
      rw [e, decide_eq_true h0]
      refine iteP_T ?_
      refine And.intro (small_line (by omega)) ?_
      show p_number_in [.str (cutS (nS (-(n : Int))) (some ((1 : Nat) : Int)) none)] S _
      refine number_in_of (cut_ok _ _ (strOk_nS _)) (Nat.le_trans (cutS_length _ _ _) (by omega)) fun S' k => ?_
      rw [cut_drop, e, List.drop_one, List.tail_cons, numB_numL]
      refine iteP_F ?_
      have q := q S' k
      rw [← Int.zero_sub] at q
      exact q
theorem m_clause_in : ∀ ds S P, p_clause_in ds S P → t_clause_in { nx := fun _ S' => P .non S', rt := P } (aStart 3 ds) S := by
  intro ds S P h
  unfold p_clause_in at h
  match ds, h with
  | [_], ⟨n, c, rfl, hn, hc, q⟩ =>
    have lc := cl_len hc
    refine rdO_of hn ?_
    refine And.intro (by first | decide | omega | (dsimp only; first | decide | omega) | exact Nat.le_of_ble_eq_true rfl | exact Or.inl ⟨by decide, by decide⟩ | exact Or.inr ⟨by decide, by decide⟩ | exact Or.inl ⟨by omega, by omega⟩ | exact Or.inr ⟨by omega, by omega⟩ | exact ⟨by decide, by decide, by decide⟩ | exact ⟨by omega, by omega⟩ | (simp; done)) ?_
    refine eq_strs (l := rowW c) (k := [Str.ofString "."]) (push_old push_at) push_at (rowW_ok c) (fun x hx => by rw [List.mem_singleton.mp hx]; exact strOk_str _) ?_
    by_cases hc0 : c = []
    · subst hc0
      refine iteP_T ?_
      exact And.intro (by first | decide | omega | (dsimp only; first | decide | omega) | exact Nat.le_of_ble_eq_true rfl | exact Or.inl ⟨by decide, by decide⟩ | exact Or.inr ⟨by decide, by decide⟩ | exact Or.inl ⟨by omega, by omega⟩ | exact Or.inr ⟨by omega, by omega⟩ | exact ⟨by decide, by decide, by decide⟩ | exact ⟨by omega, by omega⟩ | (simp; done)) (q _ (Keep.push.trans Keep.push))
    · have hw : rowW c = c.map nS := if_neg hc0
      have hne : rowW c ≠ [Str.ofString "."] := fun z => by
        rw [hw] at z
        cases c with
        | nil => exact hc0 rfl
        | cons i r =>
          injection z with z _
          have h46 : (46 : Nat) ∈ TL.tl (nS i) := by
            rw [z]
            decide +kernel
          exact nS_free (.inl (by decide)) (by decide) h46
      rw [decide_eq_false hne]
      refine iteP_F ?_
      have hn2 : ((S ++ [O.lst ((rowW c).map D.str)]) ++ [O.lst [D.str (Str.ofString ".")]])[n]? = some (.lst ((rowW c).map D.str)) := push_old (push_old hn)
      refine rdO_of hn2 ?_
      have hK : Keep MZ S ((S ++ [.lst ((rowW c).map D.str)]) ++ [.lst [.str (Str.ofString ".")]]) := Keep.push.trans Keep.push
      generalize (S ++ [O.lst ((rowW c).map D.str)]) ++ [O.lst [D.str (Str.ofString ".")]] = S1 at hn2 hK
      refine lc_map c (fun i => D.str (nS i)) D.int (fun S' => Keep MZ S1 S') (by rw [hw, List.map_map]; rfl) .refl (small_line (by rw [List.length_nil]; omega)) (fun l hl S' nx hV hnx => ⟨hV.at0 hn2, ?_⟩) (fun S' hV => ⟨hV.at0 hn2, ?_⟩)
      · refine lit_in_booktexts_of (strOk_nS l) (Nat.le_trans (lit_len (hc.lit l hl) (by decide)) (by decide)) fun S2 k2 => ?_
        rw [litT_nS]
        exact hnx _ (hV.trans k2)
      · refine rdO_of push_at ?_
        refine And.intro (by first | decide | omega | (dsimp only; first | decide | omega) | exact Nat.le_of_ble_eq_true rfl | exact Or.inl ⟨by decide, by decide⟩ | exact Or.inr ⟨by decide, by decide⟩ | exact Or.inl ⟨by omega, by omega⟩ | exact Or.inr ⟨by omega, by omega⟩ | exact ⟨by decide, by decide, by decide⟩ | exact ⟨by omega, by omega⟩ | (simp; done)) ?_
        refine ne_en (α := List Int) (a := c) (b := []) ?_
        refine iteP_t (by simp [hc0]) ?_
        refine is_clause_of hc (by omega) fun S3 k3 => ?_
        refine iteP_T ?_
        exact q _ (((hK.trans hV).trans Keep.push).trans k3)

theorem ofw_ok : ∀ w ∈ OFW, PyData.strOk w = true := fun w hw => by
  simp only [OFW, List.mem_cons, List.not_mem_nil, or_false] at hw
  rcases hw with rfl | rfl | rfl | rfl | rfl <;> exact strOk_str _
theorem ofw_back : ∀ w ∈ OFW, w ≠ Str.ofString "back" ∧ w ≠ Str.ofString "leave" ∧ w.length ≤ 6 ∧ TL.tl w ≠ [] ∧ 32 ∉ TL.tl w ∧ 10 ∉ TL.tl w := by decide +kernel
theorem m_is_line : ∀ ds S P, p_is_line ds S P → t_is_line { nx := fun _ S' => P .non S', rt := P } (aStart 3 ds) S := by
  intro ds S P h
  unfold p_is_line at h
  match ds, h with
  | [_], ⟨.of w c, rfl, hok, q⟩ =>
    obtain ⟨hw, hc⟩ := hok
    obtain ⟨b1, b2, b3⟩ := ofw_back w hw
    have lc := cl_len hc
    show t_is_line _ (aStart 3 [.tup [.str w, d c]]) S
    refine And.intro (by first | decide | omega | (dsimp only; first | decide | omega) | exact Nat.le_of_ble_eq_true rfl | exact Or.inl ⟨by decide, by decide⟩ | exact Or.inr ⟨by decide, by decide⟩ | exact Or.inl ⟨by omega, by omega⟩ | exact Or.inr ⟨by omega, by omega⟩ | exact ⟨by decide, by decide, by decide⟩ | exact ⟨by omega, by omega⟩ | (simp; done)) (iteP_F ?_)
    refine iteP_F ?_
    refine ixP_nat (j := 0) rfl (And.intro (by first | decide | omega | (dsimp only; first | decide | omega) | exact Nat.le_of_ble_eq_true rfl | exact Or.inl ⟨by decide, by decide⟩ | exact Or.inr ⟨by decide, by decide⟩ | exact Or.inl ⟨by omega, by omega⟩ | exact Or.inr ⟨by omega, by omega⟩ | exact ⟨by decide, by decide, by decide⟩ | exact ⟨by omega, by omega⟩ | (simp; done)) (iteP_F ?_))
    refine ⟨_, _, rfl, by simp, ?_⟩
    refine eq_str (ofw_ok w hw) (strOk_str _) ?_
    rw [decide_eq_false b1]
    refine iteP_F ?_
    refine eq_str (ofw_ok w hw) (strOk_str _) ?_
    rw [decide_eq_false b2]
    refine iteP_F ?_
    refine in_strs (l := OFW) (ofw_ok w hw) ofw_ok ?_
    rw [decide_eq_true hw]
    refine iteP_T ?_
    refine rdO_of push_at ?_
    refine iteP_T ?_
    refine rdO_of push_at ?_
    refine ixP_nat (j := 0) rfl ?_
    exact is_clause_of hc (by omega) fun S' k => q S' (Keep.push.trans k)
  | [_], ⟨.lv c l, rfl, hok, q⟩ =>
    obtain ⟨hc, hl⟩ := hok
    have lc := cl_len hc
    show t_is_line _ (aStart 3 [.tup [.str "leave", d c, .int l]]) S
    refine And.intro (by first | decide | omega | (dsimp only; first | decide | omega) | exact Nat.le_of_ble_eq_true rfl | exact Or.inl ⟨by decide, by decide⟩ | exact Or.inr ⟨by decide, by decide⟩ | exact Or.inl ⟨by omega, by omega⟩ | exact Or.inr ⟨by omega, by omega⟩ | exact ⟨by decide, by decide, by decide⟩ | exact ⟨by omega, by omega⟩ | (simp; done)) (iteP_F ?_)
    refine iteP_F ?_
    refine ixP_nat (j := 0) rfl (And.intro (by first | decide | omega | (dsimp only; first | decide | omega) | exact Nat.le_of_ble_eq_true rfl | exact Or.inl ⟨by decide, by decide⟩ | exact Or.inr ⟨by decide, by decide⟩ | exact Or.inl ⟨by omega, by omega⟩ | exact Or.inr ⟨by omega, by omega⟩ | exact ⟨by decide, by decide, by decide⟩ | exact ⟨by omega, by omega⟩ | (simp; done)) (iteP_F ?_))
    refine ⟨_, _, rfl, by simp, ?_⟩
    refine eq_str (strOk_str _) (strOk_str _) ?_
    rw [decide_eq_false (show Str.ofString "leave" ≠ Str.ofString "back" by decide +kernel)]
    refine iteP_F ?_
    refine eq_str (strOk_str _) (strOk_str _) ?_
    rw [decide_eq_true rfl]
    refine iteP_T ?_
    refine rdO_of push_at ?_
    refine iteP_T ?_
    refine rdO_of push_at ?_
    refine ixP_nat (j := 0) rfl ?_
    refine is_clause_of hc (by omega) fun S' k => ?_
    refine iteP_T ?_
    have g := k.at0 (push_at (S := S) (o := .lst [d c, .int l]))
    refine rdO_of g ?_
    refine ixP_nat (j := 1) rfl ?_
    refine is_whole_of ?_
    refine iteP_T ?_
    refine rdO_of g ?_
    refine ixP_nat (j := 1) rfl ?_
    refine rdO_of g ?_
    refine ixP_nat (j := 0) rfl ?_
    refine in_tup (α := Int) (a := l) (l := c) ?_
    have := q S' (Keep.push.trans k)
    rw [← decide_eq_true hl] at this
    exact this
  | [_], ⟨.bk n, rfl, hok, q⟩ =>
    show t_is_line _ (aStart 3 [.tup [.str "back", .int (n : Nat)]]) S
    refine And.intro (by first | decide | omega | (dsimp only; first | decide | omega) | exact Nat.le_of_ble_eq_true rfl | exact Or.inl ⟨by decide, by decide⟩ | exact Or.inr ⟨by decide, by decide⟩ | exact Or.inl ⟨by omega, by omega⟩ | exact Or.inr ⟨by omega, by omega⟩ | exact ⟨by decide, by decide, by decide⟩ | exact ⟨by omega, by omega⟩ | (simp; done)) (iteP_F ?_)
    refine iteP_F ?_
    refine ixP_nat (j := 0) rfl (And.intro (by first | decide | omega | (dsimp only; first | decide | omega) | exact Nat.le_of_ble_eq_true rfl | exact Or.inl ⟨by decide, by decide⟩ | exact Or.inr ⟨by decide, by decide⟩ | exact Or.inl ⟨by omega, by omega⟩ | exact Or.inr ⟨by omega, by omega⟩ | exact ⟨by decide, by decide, by decide⟩ | exact ⟨by omega, by omega⟩ | (simp; done)) (iteP_F ?_))
    refine ⟨_, _, rfl, by simp, ?_⟩
    refine eq_str (strOk_str _) (strOk_str _) ?_
    rw [decide_eq_true rfl]
    refine iteP_T ?_
    refine rdO_of push_at ?_
    refine iteP_T ?_
    refine rdO_of push_at ?_
    refine ixP_nat (j := 0) rfl ?_
    refine is_whole_of ?_
    refine iteP_T ?_
    refine rdO_of push_at ?_
    refine ixP_nat (j := 0) rfl ?_
    have := q _ (Keep.push (o := .lst [.int (n : Nat)]))
    rw [← decide_eq_true (show (0 : Int) ≤ (n : Nat) by omega)] at this
    exact this

theorem join_cons {y x : Str} {r : List Str} (h : r ≠ []) : Txt.join y (x :: r) = x ++ y ++ Txt.join y r := by
  rw [TL.join_eq, TL.join_eq]
  cases r with
  | nil => exact absurd rfl h
  | cons z r => rfl
theorem join_one {y x : Str} : Txt.join y [x] = x := by
  rw [TL.join_eq]
  rfl
theorem app_empty (x : Str) : Str.empty ++ x = x := TL.ext_tl (by rw [TL.tl_append]; rfl)
theorem log_lit {s l : Int} (h : Lit s l) (hs : s ≤ 40) : l.natAbs.log2 < 1920 := log2_few (Nat.lt_of_lt_of_le (show l.natAbs < 2 ^ 10 by
  have := h.2
  unfold ab at this
  split at this <;> omega) (Nat.pow_le_pow_right (by decide) (by decide)))
theorem log_nat {n : Nat} (h : n < 10 ^ 12) : (n : Int).natAbs.log2 < 1920 := log2_few (Nat.lt_of_lt_of_le (show (n : Int).natAbs < 2 ^ 40 by omega) (Nat.pow_le_pow_right (by decide) (by decide)))
theorem app_len (x y : Str) : (x ++ y).length = x.length + y.length := by
  rw [TL.len_tl, TL.len_tl, TL.len_tl, TL.tl_append, List.length_append]
theorem text_bk (n : Nat) : (Ln.bk n).text = Str.ofString "back " ++ nS (n : Nat) := by
  have e : (Ln.bk n).text = Txt.join (Str.ofString " ") [Str.ofString "back", nS (n : Nat)] := rfl
  rw [e, join_cons (by simp), join_one]
  have e2 : Str.ofString "back" ++ Str.ofString " " = Str.ofString "back " := by decide +kernel
  rw [e2]
theorem text_lv (c : List Int) (l : Int) : (Ln.lv c l).text = Str.ofString "leave " ++ nS l ++ Str.ofString " " ++ rowT c := by
  have e : (Ln.lv c l).text = Txt.join (Str.ofString " ") (Str.ofString "leave" :: nS l :: rowW c) := rfl
  rw [e, join_cons (by simp), join_cons (rowW_ne c)]
  have e2 : Str.ofString "leave" ++ Str.ofString " " = Str.ofString "leave " := by decide +kernel
  rw [e2]
  refine TL.ext_tl ?_
  unfold rowT
  simp only [TL.tl_append, List.append_assoc]
theorem text_of (w : Str) (c : List Int) : (Ln.of w c).text = w ++ Str.ofString " " ++ rowT c := by
  have e : (Ln.of w c).text = Txt.join (Str.ofString " ") (w :: rowW c) := rfl
  rw [e, join_cons (rowW_ne c)]
  rfl
theorem bk_len {n : Nat} (h : n < 10 ^ 12) : (nS (n : Nat)).length ≤ 13 := nS_len (k := 12) (by decide) (by simpa using h)
theorem len_blank : (Str.ofString " ").length = 1 := by decide +kernel
theorem m_line_text : ∀ ds S P, p_line_text ds S P → t_line_text { nx := fun _ S' => P .non S', rt := P } (aStart 3 ds) S := by
  intro ds S P h
  unfold p_line_text at h
  match ds, h with
  | [_], ⟨.of w c, rfl, hok, q⟩ =>
    obtain ⟨hw, hc⟩ := hok
    obtain ⟨b1, b2, b3, _⟩ := ofw_back w hw
    rw [text_of] at q
    show t_line_text _ (aStart 3 [.tup [.str w, d c]]) S
    refine ⟨_, _, rfl, by simp, ?_⟩
    refine eq_str (ofw_ok w hw) (strOk_str _) ?_
    rw [decide_eq_false b1]
    refine iteP_F ?_
    refine eq_str (ofw_ok w hw) (strOk_str _) ?_
    rw [decide_eq_false b2]
    refine iteP_F ?_
    refine And.intro (small_line (by rw [len_blank]; omega)) ?_
    refine rdO_of push_at ?_
    refine ixP_nat (j := 0) rfl ?_
    refine lits_text_of hc fun S' k => ?_
    have := rowT_len hc (by decide)
    refine And.intro (small_line (by rw [app_len, len_blank]; omega)) ?_
    exact q _ (Keep.push.trans k)
  | [_], ⟨.lv c l, rfl, hok, q⟩ =>
    obtain ⟨hc, hl⟩ := hok
    have hl1 := lit_len (hc.lit l hl) (by decide)
    have hr := rowT_len hc (by decide)
    have h6 : (Str.ofString "leave ").length = 6 := by decide +kernel
    rw [text_lv] at q
    show t_line_text _ (aStart 3 [.tup [.str "leave", d c, .int l]]) S
    refine ⟨_, _, rfl, by simp, ?_⟩
    refine eq_str (strOk_str _) (strOk_str _) ?_
    rw [decide_eq_false (show Str.ofString "leave" ≠ Str.ofString "back" by decide +kernel)]
    refine iteP_F ?_
    refine eq_str (strOk_str _) (strOk_str _) ?_
    rw [decide_eq_true rfl]
    refine iteP_T ?_
    refine ⟨_, rfl, small_line (by rw [app_empty, h6]; omega), ?_⟩
    rw [app_empty]
    refine rdO_of push_at ?_
    refine ixP_nat (j := 1) rfl ?_
    refine And.intro (log_lit (hc.lit l hl) (by decide)) ?_
    refine ⟨nS l, rfl, small_line (by rw [app_len, h6]; omega), ?_⟩
    refine ⟨_, rfl, small_line (by rw [app_len, app_len, h6, len_blank]; omega), ?_⟩
    refine rdO_of push_at ?_
    refine ixP_nat (j := 0) rfl ?_
    refine lits_text_of hc fun S' k => ?_
    refine And.intro (small_line (by omega)) ?_
    refine ⟨_, rfl, small_line (by rw [app_len, app_len, app_len, h6, len_blank]; omega), ?_⟩
    exact q _ (Keep.push.trans k)
  | [_], ⟨.bk n, rfl, hok, q⟩ =>
    have hn : n < 10 ^ 12 := hok
    have hn1 := bk_len hn
    have h5 : (Str.ofString "back ").length = 5 := by decide +kernel
    rw [text_bk] at q
    show t_line_text _ (aStart 3 [.tup [.str "back", .int (n : Nat)]]) S
    refine ⟨_, _, rfl, by simp, ?_⟩
    refine eq_str (strOk_str _) (strOk_str _) ?_
    rw [decide_eq_true rfl]
    refine iteP_T ?_
    refine ⟨_, rfl, small_line (by rw [app_empty, h5]; omega), ?_⟩
    rw [app_empty]
    refine rdO_of push_at ?_
    refine ixP_nat (j := 0) rfl ?_
    refine And.intro (log_nat hn) ?_
    refine ⟨nS (n : Nat), rfl, small_line (by rw [app_len, h5]; omega), ?_⟩
    exact q _ Keep.push

theorem new_keep {S S' : Sto} {o : O} (k : Keep (MO S.length) (S ++ [o]) S') : Keep MZ S S' := ⟨by have := k.1; simp at this; omega, fun i hi _ => (k.2 i (by simp; omega) (fun z => by unfold MO at z; omega)).trans (List.getElem?_append_left hi)⟩
abbrev tlJ : AX := (aRet (aM1 joinD (aC (.str " ")) (aOp addD (aOp addD (aVar 1) (aLc (iSeq (aOp getD (aVar 0) (aC (.int 1)))) (gN 2) aYes (aCall (ar1 strD) (aCons (aVar 2) aNil)) [2])) (aOp mulLD (aLst (aCons (aC (.str ".")) aNil)) (aCall (ar1 intCD) (aCons (aOp eqD (aOp getD (aVar 0) (aC (.int 1))) (aTup aNil)) aNil))))))
theorem text_tail {S : Sto} {m : Nat} {ws : List Str} {a0 : D} {c : List Int} {r : List D} {x2 : Option D} {P : D → Sto → Prop} (hm : S[m]? = some (.lst (ws.map D.str))) (hc : Cl 40 c) (hw : ∀ w ∈ ws, w.length ≤ 13) (hl : ws.length ≤ 2) (q : ∀ S', Keep MZ S S' → P (.str (Txt.join (Str.ofString " ") (ws ++ rowW c))) S') : tlJ { nx := fun _ S' => P .non S', rt := P } [some (.tup (a0 :: d c :: r)), some (.obj m), x2] S := by
  have lc := cl_len hc
  refine ⟨⟨_, rfl⟩, ?_⟩
  refine ixP_nat (j := 1) rfl ?_
  refine lc_map c D.int (fun i => D.str (nS i)) (fun S' => S' = S) rfl rfl (small_line (by rw [List.length_nil]; omega)) (fun l hl S' nx hV hn => ⟨trivial, ?_⟩) (fun S' hV => ⟨trivial, ?_⟩)
  · exact And.intro (log_lit (hc.lit l hl) (by decide)) (hn _ hV)
  subst hV
  refine rdO_of (push_old hm) (rdO_of push_at (And.intro (small_line (by rw [List.length_append]; simp only [List.length_map, List.length_nil]; omega)) ?_))
  have hS : Keep MZ S' (S' ++ [O.lst ([] ++ c.map fun i => D.str (nS i))]) := Keep.push
  generalize S' ++ [O.lst ([] ++ c.map fun i => D.str (nS i))] = S1 at hS
  refine And.intro (by first | decide | omega | (dsimp only; first | decide | omega) | exact Nat.le_of_ble_eq_true rfl | exact Or.inl ⟨by decide, by decide⟩ | exact Or.inr ⟨by decide, by decide⟩ | exact Or.inl ⟨by omega, by omega⟩ | exact Or.inr ⟨by omega, by omega⟩ | exact ⟨by decide, by decide, by decide⟩ | exact ⟨by omega, by omega⟩ | (simp; done)) ?_
  refine ixP_nat (j := 1) rfl ?_
  refine And.intro (by first | decide | omega | (dsimp only; first | decide | omega) | exact Nat.le_of_ble_eq_true rfl | exact Or.inl ⟨by decide, by decide⟩ | exact Or.inr ⟨by decide, by decide⟩ | exact Or.inl ⟨by omega, by omega⟩ | exact Or.inr ⟨by omega, by omega⟩ | exact ⟨by decide, by decide, by decide⟩ | exact ⟨by omega, by omega⟩ | (simp; done)) ?_
  refine eq_en (α := List Int) (a := c) (b := []) ?_
  have hb : (Str.ofString " ").length = 1 := len_blank
  have hrow : ∀ w ∈ ws ++ rowW c, w.length ≤ 13 := fun w hw' => by
    rcases List.mem_append.mp hw' with h | h
    · exact hw w h
    · exact Nat.le_trans (rowW_len hc (by decide) w h) (by decide)
  have hmany : (ws ++ rowW c).length ≤ 42 := by
    have := rowW_many hc (by decide)
    rw [List.length_append]
    omega
  have hsum := sum_le hrow
  by_cases hc0 : c = []
  · rw [decide_eq_true hc0]
    refine rdO_of push_at (And.intro (by first | decide | omega | (dsimp only; first | decide | omega) | exact Nat.le_of_ble_eq_true rfl | exact Or.inl ⟨by decide, by decide⟩ | exact Or.inr ⟨by decide, by decide⟩ | exact Or.inl ⟨by omega, by omega⟩ | exact Or.inr ⟨by omega, by omega⟩ | exact ⟨by decide, by decide, by decide⟩ | exact ⟨by omega, by omega⟩ | (simp; done)) (And.intro (by first | decide | omega | (dsimp only; first | decide | omega) | exact Nat.le_of_ble_eq_true rfl | exact Or.inl ⟨by decide, by decide⟩ | exact Or.inr ⟨by decide, by decide⟩ | exact Or.inl ⟨by omega, by omega⟩ | exact Or.inr ⟨by omega, by omega⟩ | exact ⟨by decide, by decide, by decide⟩ | exact ⟨by omega, by omega⟩ | (simp; done)) (And.intro (by first | decide | omega | (dsimp only; first | decide | omega) | exact Nat.le_of_ble_eq_true rfl | exact Or.inl ⟨by decide, by decide⟩ | exact Or.inr ⟨by decide, by decide⟩ | exact Or.inl ⟨by omega, by omega⟩ | exact Or.inr ⟨by omega, by omega⟩ | exact ⟨by decide, by decide, by decide⟩ | exact ⟨by omega, by omega⟩ | (simp; done)) ?_)))
    subst hc0
    have e : rowW [] = [Str.ofString "."] := rfl
    rw [e] at hsum hmany
    refine rdO_of (push_old (push_old push_at)) (rdO_of push_at (And.intro (small_line (by simp; omega)) ?_))
    refine ⟨_, _, ws ++ [Str.ofString "."], rfl, rfl, push_at.trans (by simp), ?_, ?_⟩
    · exact Nat.le_trans (Nat.add_le_add hsum (Nat.mul_le_mul_left _ (Nat.le_of_eq hb))) (by omega)
    · exact q _ ((((hS.trans Keep.push).trans Keep.push).trans Keep.push).trans Keep.push)
  · rw [decide_eq_false hc0]
    have e : rowW c = c.map nS := if_neg hc0
    rw [e] at hsum hmany q
    refine rdO_of push_at (And.intro (by first | decide | omega | (dsimp only; first | decide | omega) | exact Nat.le_of_ble_eq_true rfl | exact Or.inl ⟨by decide, by decide⟩ | exact Or.inr ⟨by decide, by decide⟩ | exact Or.inl ⟨by omega, by omega⟩ | exact Or.inr ⟨by omega, by omega⟩ | exact ⟨by decide, by decide, by decide⟩ | exact ⟨by omega, by omega⟩ | (simp; done)) (And.intro (by first | decide | omega | (dsimp only; first | decide | omega) | exact Nat.le_of_ble_eq_true rfl | exact Or.inl ⟨by decide, by decide⟩ | exact Or.inr ⟨by decide, by decide⟩ | exact Or.inl ⟨by omega, by omega⟩ | exact Or.inr ⟨by omega, by omega⟩ | exact ⟨by decide, by decide, by decide⟩ | exact ⟨by omega, by omega⟩ | (simp; done)) (And.intro (by first | decide | omega | (dsimp only; first | decide | omega) | exact Nat.le_of_ble_eq_true rfl | exact Or.inl ⟨by decide, by decide⟩ | exact Or.inr ⟨by decide, by decide⟩ | exact Or.inl ⟨by omega, by omega⟩ | exact Or.inr ⟨by omega, by omega⟩ | exact ⟨by decide, by decide, by decide⟩ | exact ⟨by omega, by omega⟩ | (simp; done)) ?_)))
    refine rdO_of (push_old (push_old push_at)) (rdO_of push_at (And.intro (small_line (by simp; omega)) ?_))
    refine ⟨_, _, ws ++ c.map nS, rfl, rfl, push_at.trans (by simp), ?_, ?_⟩
    · exact Nat.le_trans (Nat.add_le_add hsum (Nat.mul_le_mul_left _ (Nat.le_of_eq hb))) (by omega)
    · exact q _ ((((hS.trans Keep.push).trans Keep.push).trans Keep.push).trans Keep.push)
theorem m_law_line_text : ∀ ds S P, p_law_line_text ds S P → t_law_line_text { nx := fun _ S' => P .non S', rt := P } (aStart 3 ds) S := by
  intro ds S P h
  unfold p_law_line_text at h
  match ds, h with
  | [_], ⟨.of w c, rfl, hok, q⟩ =>
    obtain ⟨hw, hc⟩ := hok
    obtain ⟨b1, b2, b3, _⟩ := ofw_back w hw
    show t_law_line_text _ (aStart 3 [.tup [.str w, d c]]) S
    refine ixP_nat (j := 0) rfl ?_
    refine eq_str (ofw_ok w hw) (strOk_str _) ?_
    rw [decide_eq_false b1]
    refine iteP_F ?_
    refine ixP_nat (j := 0) rfl ?_
    refine And.intro (by first | decide | omega | (dsimp only; first | decide | omega) | exact Nat.le_of_ble_eq_true rfl | exact Or.inl ⟨by decide, by decide⟩ | exact Or.inr ⟨by decide, by decide⟩ | exact Or.inl ⟨by omega, by omega⟩ | exact Or.inr ⟨by omega, by omega⟩ | exact ⟨by decide, by decide, by decide⟩ | exact ⟨by omega, by omega⟩ | (simp; done)) ?_
    refine ixP_nat (j := 0) rfl ?_
    refine eq_str (ofw_ok w hw) (strOk_str _) ?_
    rw [decide_eq_false b2]
    refine iteP_F ?_
    exact text_tail (ws := [w]) push_at hc (fun x hx => by rw [List.mem_singleton.mp hx]; omega) (by simp) fun S' k => q S' (Keep.push.trans k)
  | [_], ⟨.lv c l, rfl, hok, q⟩ =>
    obtain ⟨hc, hl⟩ := hok
    have hl1 := lit_len (hc.lit l hl) (by decide)
    show t_law_line_text _ (aStart 3 [.tup [.str "leave", d c, .int l]]) S
    refine ixP_nat (j := 0) rfl ?_
    refine eq_str (strOk_str _) (strOk_str _) ?_
    rw [decide_eq_false (show Str.ofString "leave" ≠ Str.ofString "back" by decide +kernel)]
    refine iteP_F ?_
    refine ixP_nat (j := 0) rfl ?_
    refine And.intro (by first | decide | omega | (dsimp only; first | decide | omega) | exact Nat.le_of_ble_eq_true rfl | exact Or.inl ⟨by decide, by decide⟩ | exact Or.inr ⟨by decide, by decide⟩ | exact Or.inl ⟨by omega, by omega⟩ | exact Or.inr ⟨by omega, by omega⟩ | exact ⟨by decide, by decide, by decide⟩ | exact ⟨by omega, by omega⟩ | (simp; done)) ?_
    refine ixP_nat (j := 0) rfl ?_
    refine eq_str (strOk_str _) (strOk_str _) ?_
    rw [decide_eq_true rfl]
    refine iteP_T ?_
    refine rdO_of push_at ?_
    refine ixP_nat (j := 2) rfl ?_
    refine And.intro (log_lit (hc.lit l hl) (by decide)) ?_
    refine rdO_of push_at (And.intro (by first | decide | omega | (dsimp only; first | decide | omega) | exact Nat.le_of_ble_eq_true rfl | exact Or.inl ⟨by decide, by decide⟩ | exact Or.inr ⟨by decide, by decide⟩ | exact Or.inl ⟨by omega, by omega⟩ | exact Or.inr ⟨by omega, by omega⟩ | exact ⟨by decide, by decide, by decide⟩ | exact ⟨by omega, by omega⟩ | (simp; done)) ?_)
    refine text_tail (ws := [Str.ofString "leave", nS l]) (set_at push_at) hc (fun x hx => ?_) (by simp) fun S' k => q S' (new_keep (o := .lst [.str (Str.ofString "leave")]) (Keep.set.trans k.of0))
    · simp only [List.mem_cons, List.not_mem_nil, or_false] at hx
      rcases hx with rfl | rfl
      · decide +kernel
      · omega
  | [_], ⟨.bk n, rfl, hok, q⟩ =>
    have hn : n < 10 ^ 12 := hok
    have hn1 := bk_len hn
    have h5 : (Str.ofString "back ").length = 5 := by decide +kernel
    rw [text_bk] at q
    show t_law_line_text _ (aStart 3 [.tup [.str "back", .int (n : Nat)]]) S
    refine ixP_nat (j := 0) rfl ?_
    refine eq_str (strOk_str _) (strOk_str _) ?_
    rw [decide_eq_true rfl]
    refine iteP_T ?_
    refine ixP_nat (j := 1) rfl ?_
    refine And.intro (log_nat hn) ?_
    refine And.intro (small_line (by rw [h5]; show 5 + (nS (n : Nat)).length ≤ _; omega)) ?_
    exact q _ .refl

structure WdOk (w : Str) : Prop where
  ok : PyData.strOk w = true
  len : w.length ≤ 13
  bl : 32 ∉ TL.tl w
  nl : 10 ∉ TL.tl w
theorem wd_lit {s l : Int} (h : Lit s l) (hs : s ≤ 40) : WdOk (nS l) := ⟨strOk_nS l, Nat.le_trans (lit_len h hs) (by decide), nS_free (.inl (by decide)) (by decide), nS_free (.inl (by decide)) (by decide)⟩
theorem wd_row {c : List Int} (h : Cl 40 c) : ∀ w ∈ rowW c, WdOk w := fun w hw => ⟨rowW_ok c w hw, Nat.le_trans (rowW_len h (by decide) w hw) (by decide), rowW_free (by decide) c w hw, rowW_free (by decide) c w hw⟩
theorem words_ok {l : Ln} (h : l.ok) : (∀ w ∈ l.words, WdOk w) ∧ l.words.length ≤ 42 ∧ ∃ w r, l.words = w :: r ∧ TL.tl w ≠ [] := by
  cases l with
  | of w c =>
    obtain ⟨b1, b2, b3, b4, b5, b6⟩ := ofw_back w h.1
    refine ⟨fun x hx => ?_, ?_, w, rowW c, rfl, b4⟩
    · rcases List.mem_cons.mp hx with rfl | hx
      · exact ⟨ofw_ok _ h.1, by omega, b5, b6⟩
      · exact wd_row h.2 x hx
    · have := rowW_many h.2 (by decide)
      show (rowW c).length + 1 ≤ 42
      omega
  | lv c l =>
    refine ⟨fun x hx => ?_, ?_, Str.ofString "leave", nS l :: rowW c, rfl, by decide +kernel⟩
    · rcases List.mem_cons.mp hx with rfl | hx
      · exact ⟨strOk_str _, by decide +kernel, by decide +kernel, by decide +kernel⟩
      · rcases List.mem_cons.mp hx with rfl | hx
        · exact wd_lit (h.1.lit l h.2) (by decide)
        · exact wd_row h.1 x hx
    · have := rowW_many h.1 (by decide)
      show (rowW c).length + 1 + 1 ≤ 42
      omega
  | bk n =>
    have hn : n < 10 ^ 12 := h
    refine ⟨fun x hx => ?_, by show 1 + 1 ≤ 42; decide, Str.ofString "back", [nS (n : Nat)], rfl, by decide +kernel⟩
    rcases List.mem_cons.mp hx with rfl | hx
    · exact ⟨strOk_str _, by decide +kernel, by decide +kernel, by decide +kernel⟩
    · rw [List.mem_singleton.mp hx]
      exact ⟨strOk_nS _, bk_len hn, nS_free (.inl (by decide)) (by decide), nS_free (.inl (by decide)) (by decide)⟩
theorem text_len {l : Ln} (h : l.ok) : l.text.length ≤ 588 := by
  obtain ⟨h1, h2, _⟩ := words_ok h
  have := join_len (m := 13) tl_blank fun w hw => (h1 w hw).len
  unfold Ln.text
  omega
theorem text_ok {l : Ln} (h : l.ok) : PyData.strOk l.text = true := join_ok tl_blank (by decide) fun w hw => ((words_ok h).1 w hw).ok
theorem text_split {l : Ln} (h : l.ok) : Txt.split l.text (Str.ofString " ") = l.words := by
  obtain ⟨h1, h2, w, r, e, _⟩ := words_ok h
  exact TL.split_join tl_blank (by decide +kernel) (by rw [e]; simp) fun w hw => (h1 w hw).bl
theorem m_line_in : ∀ ds S P, p_line_in ds S P → t_line_in { nx := fun _ S' => P .non S', rt := P } (aStart 4 ds) S := by
  intro ds S P h
  unfold p_line_in at h
  match ds, h with
  | [_], ⟨l, rfl, hok, q⟩ =>
    have tln := text_len hok
    have tsp := text_split hok
    have wok := words_ok hok
    refine ⟨⟨_, rfl⟩, ?_⟩
    refine ⟨_, _, rfl, rfl, by decide +kernel, by rw [sizeLine_eq]; omega, ?_⟩
    rw [tsp]
    refine rdO_of push_at ?_
    cases l with
    | of w c =>
      obtain ⟨hw, hc⟩ := hok
      obtain ⟨b1, b2, b3, _⟩ := ofw_back w hw
      have hm := rowW_many hc (by decide)
      refine And.intro (by rw [List.length_map]; omega) ?_
      refine eq_str (ofw_ok w hw) (strOk_str _) ?_
      rw [decide_eq_false b1]
      refine iteP_F (iteP_F ?_)
      refine eq_str (ofw_ok w hw) (strOk_str _) ?_
      rw [decide_eq_false b2]
      refine iteP_F (iteP_F ?_)
      refine in_strs (l := OFW) (ofw_ok w hw) ofw_ok ?_
      rw [decide_eq_true hw]
      refine iteP_T ?_
      refine clause_in_of push_at hc fun S' k => ?_
      refine And.intro (by first | decide | omega | (dsimp only; first | decide | omega) | exact Nat.le_of_ble_eq_true rfl | exact Or.inl ⟨by decide, by decide⟩ | exact Or.inr ⟨by decide, by decide⟩ | exact Or.inl ⟨by omega, by omega⟩ | exact Or.inr ⟨by omega, by omega⟩ | exact ⟨by decide, by decide, by decide⟩ | exact ⟨by omega, by omega⟩ | (simp; done)) ?_
      refine iteP_T ?_
      refine is_line_of (l := .of w c) ⟨hw, hc⟩ fun S2 k2 => ?_
      refine iteP_T ?_
      exact q _ (((Keep.push.trans Keep.push).trans k).trans k2)
    | lv c l =>
      obtain ⟨hc, hl⟩ := hok
      have hm := rowW_many hc (by decide)
      refine And.intro (by rw [List.length_map, List.length_cons]; omega) ?_
      refine eq_str (strOk_str _) (strOk_str _) ?_
      rw [decide_eq_false (show Str.ofString "leave" ≠ Str.ofString "back" by decide +kernel)]
      refine iteP_F (iteP_F ?_)
      refine eq_str (strOk_str _) (strOk_str _) ?_
      rw [decide_eq_true rfl]
      refine iteP_T ?_
      refine And.intro (by first | decide | omega | (dsimp only; first | decide | omega) | exact Nat.le_of_ble_eq_true rfl | exact Or.inl ⟨by decide, by decide⟩ | exact Or.inr ⟨by decide, by decide⟩ | exact Or.inl ⟨by omega, by omega⟩ | exact Or.inr ⟨by omega, by omega⟩ | exact ⟨by decide, by decide, by decide⟩ | exact ⟨by omega, by omega⟩ | (simp; done)) ?_
      refine ne_strs (l := nS l :: rowW c) (k := []) (push_old push_at) push_at (fun x hx => ?_) (fun x hx => by simp at hx) ?_
      · exact (wok.1 x (List.mem_cons_of_mem _ hx)).ok
      refine iteP_t (by simp) ?_
      refine rdO_of (push_old push_at) ?_
      have e : Ab.cutD ((nS l :: rowW c).map D.str) (some 1) none = (rowW c).map D.str := by
        rw [cut_from1]
        rfl
      refine clause_in_of (push_at.trans (by rw [← e])) hc fun S' k => ?_
      refine rdO_of (k.at0 (push_old (push_old push_at))) ?_
      refine ixP_nat (j := 0) rfl ?_
      refine lit_in_logtexts_of (by have := (hc.lit l hl).2; unfold ab at this; split at this <;> omega) fun S2 k2 => ?_
      refine And.intro (by first | decide | omega | (dsimp only; first | decide | omega) | exact Nat.le_of_ble_eq_true rfl | exact Or.inl ⟨by decide, by decide⟩ | exact Or.inr ⟨by decide, by decide⟩ | exact Or.inl ⟨by omega, by omega⟩ | exact Or.inr ⟨by omega, by omega⟩ | exact ⟨by decide, by decide, by decide⟩ | exact ⟨by omega, by omega⟩ | (simp; done)) ?_
      refine iteP_T ?_
      refine is_line_of (l := .lv c l) ⟨hc, hl⟩ fun S3 k3 => ?_
      refine iteP_T ?_
      exact q _ ((((((Keep.push.trans Keep.push).trans Keep.push).trans Keep.push).trans k).trans k2).trans k3)
    | bk n =>
      have hn : n < 10 ^ 12 := hok
      refine And.intro (by simp) ?_
      refine eq_str (strOk_str _) (strOk_str _) ?_
      rw [decide_eq_true rfl]
      refine iteP_T ?_
      refine rdO_of push_at ?_
      refine iteP_T ?_
      refine rdO_of push_at ?_
      refine ixP_nat (j := 0) rfl ?_
      refine number_in_of (strOk_nS _) (Nat.le_trans (bk_len hn) (by decide)) fun S' k => ?_
      rw [tl_nS, numB_numL]
      refine And.intro (by first | decide | omega | (dsimp only; first | decide | omega) | exact Nat.le_of_ble_eq_true rfl | exact Or.inl ⟨by decide, by decide⟩ | exact Or.inr ⟨by decide, by decide⟩ | exact Or.inl ⟨by omega, by omega⟩ | exact Or.inr ⟨by omega, by omega⟩ | exact ⟨by decide, by decide, by decide⟩ | exact ⟨by omega, by omega⟩ | (simp; done)) ?_
      refine iteP_T ?_
      refine is_line_of (l := .bk n) hn fun S2 k2 => ?_
      refine iteP_T ?_
      exact q _ (((Keep.push.trans Keep.push).trans k).trans k2)

def Ln.py : Ln → PyData
  | .of w c => .tuple [.str w, .tuple (c.map .int)]
  | .lv c l => .tuple [.str "leave", .tuple (c.map .int), .int l]
  | .bk n => .tuple [.str "back", .int (n : Nat)]
theorem Ln.tup (l : Ln) : ∃ a b r, l.d = .tup (.str a :: b :: r) := by cases l <;> exact ⟨_, _, _, rfl⟩
theorem cl_py {S : Sto} (c : List Int) : Py S (Ab.d c) (.tuple (c.map .int)) := En.pyr S c
theorem cl_lay (c : List Int) : PyData.canLay0 (.tuple (c.map .int)) = true := En.lay c
theorem cl_dep (c : List Int) : PyData.depth (.tuple (c.map .int)) ≤ 1 := En.depth c
theorem cl_eqv (c : List Int) : PyData.eqv (.tuple (c.map .int)) (.tuple (c.map .int)) = true := by
  have := En.eqv c c
  rw [decide_eq_true rfl] at this
  exact this
theorem Ln.pyr {S : Sto} (l : Ln) : Py S l.d l.py := by
  cases l with
  | of w c => exact .tup (.cons (.str _) (.cons (cl_py c) .nil))
  | lv c l => exact .tup (.cons (.str _) (.cons (cl_py c) (.cons (.int _) .nil)))
  | bk n => exact .tup (.cons (.str _) (.cons (.int _) .nil))
theorem Ln.lay {l : Ln} (h : l.ok) : PyData.canLay0 l.py = true := by
  cases l with
  | of w c =>
    have h1 := ofw_ok w h.1
    have h2 := cl_lay c
    unfold Ln.py
    simp only [PyData.canLay0, PyData.canLayAll0] at h2 ⊢
    rw [h1, h2]
    rfl
  | lv c l =>
    have h1 := strOk_str "leave"
    have h2 := cl_lay c
    unfold Ln.py
    simp only [PyData.canLay0, PyData.canLayAll0] at h2 ⊢
    rw [h1, h2]
    rfl
  | bk n =>
    have h1 := strOk_str "back"
    unfold Ln.py
    simp only [PyData.canLay0, PyData.canLayAll0]
    rw [h1]
    rfl
theorem Ln.dep (l : Ln) : PyData.depth l.py ≤ 2 := by
  cases l with
  | of w c =>
    have h2 := cl_dep c
    unfold Ln.py
    simp only [PyData.depth, PyData.depthAll] at h2 ⊢
    omega
  | lv c l =>
    have h2 := cl_dep c
    unfold Ln.py
    simp only [PyData.depth, PyData.depthAll] at h2 ⊢
    omega
  | bk n =>
    unfold Ln.py
    simp only [PyData.depth, PyData.depthAll]
    omega
theorem Ln.eqv (l : Ln) : PyData.eqv l.py l.py = true := by
  cases l with
  | of w c =>
    have h2 := cl_eqv c
    unfold Ln.py
    simp only [PyData.eqv, PyData.eqvAll] at h2 ⊢
    rw [h2]
    simp
  | lv c l =>
    have h2 := cl_eqv c
    unfold Ln.py
    simp only [PyData.eqv, PyData.eqvAll] at h2 ⊢
    rw [h2]
    simp
  | bk n =>
    unfold Ln.py
    simp [PyData.eqv, PyData.eqvAll]
theorem Ln.rq {M : Nat → Prop} {S : Sto} (l : Ln) : Rq M S l.d l.py := by
  cases l with
  | of w c => exact .tup (.cons (.str _) (.cons (Rq.cls c) .nil))
  | lv c l => exact .tup (.cons (.str _) (.cons (Rq.cls c) (.cons (.int _) .nil)))
  | bk n => exact .tup (.cons (.str _) (.cons (.int _) .nil))
theorem Ln.shk {l : Ln} (h : l.ok) : Shk 2 2000 l.py := by
  have s1 : ∀ {w : Str}, PyData.strOk w = true → w.length ≤ 10 → Shk 1 603 (.str w) := fun {w} h1 h2 => (Shk.str h1).mono (by decide) (by omega)
  have i1 : ∀ {i : Int}, i.natAbs < 10 ^ 12 → Shk 1 603 (.int i) := fun h1 => (Shk.int h1).mono (by decide) (by decide)
  cases l with
  | of w c =>
    obtain ⟨_, _, b3, _⟩ := ofw_back w h.1
    refine (Shk.tup (e := 1) (k := 603) fun p hp => ?_).mono (by decide) (by simp)
    simp only [List.mem_cons, List.not_mem_nil, or_false] at hp
    rcases hp with rfl | rfl
    · exact s1 (ofw_ok w h.1) (by omega)
    · exact shk_cl h.2
  | lv c l =>
    refine (Shk.tup (e := 1) (k := 603) fun p hp => ?_).mono (by decide) (by simp)
    simp only [List.mem_cons, List.not_mem_nil, or_false] at hp
    rcases hp with rfl | rfl | rfl
    · exact s1 (strOk_str _) (by decide +kernel)
    · exact shk_cl h.1
    · refine i1 ?_
      have := (h.1.lit l h.2).2
      unfold ab at this
      split at this <;> omega
  | bk n =>
    have hn : n < 10 ^ 12 := h
    refine (Shk.tup (e := 1) (k := 603) fun p hp => ?_).mono (by decide) (by simp)
    simp only [List.mem_cons, List.not_mem_nil, or_false] at hp
    rcases hp with rfl | rfl
    · exact s1 (strOk_str _) (by decide +kernel)
    · exact i1 (by omega)
theorem log_pys {S : Sto} : ∀ ls : List Ln, Pys S (ls.map Ln.d) (ls.map Ln.py)
  | [] => .nil
  | l :: ls => .cons l.pyr (log_pys ls)
theorem log_rqs {M : Nat → Prop} {S : Sto} : ∀ ls : List Ln, Rqs M S (ls.map Ln.d) (ls.map Ln.py)
  | [] => .nil
  | l :: ls => .cons l.rq (log_rqs ls)
theorem log_lay : ∀ {ls : List Ln}, (∀ l ∈ ls, l.ok) → PyData.canLayAll0 (ls.map Ln.py) = true
  | [], _ => rfl
  | l :: ls, h => by
    rw [List.map_cons, PyData.canLayAll0, Ln.lay (h l (by simp)), log_lay fun x hx => h x (by simp [hx])]
    rfl
theorem log_dep : ∀ ls : List Ln, PyData.depthAll (ls.map Ln.py) ≤ 2
  | [] => by simp [PyData.depthAll]
  | l :: ls => by
    have h1 := l.dep
    have h2 := log_dep ls
    rw [List.map_cons, PyData.depthAll]
    omega
theorem log_eqv : ∀ ls : List Ln, PyData.eqvAll (ls.map Ln.py) (ls.map Ln.py) = true
  | [] => by simp [PyData.eqvAll]
  | l :: ls => by
    rw [List.map_cons, PyData.eqvAll, l.eqv, log_eqv ls]
    rfl
theorem ne_log {ls : List Ln} {S : Sto} {P : D → Sto → Prop} (h : Log ls) (q : P (.bl false) S) : neD (logD ls) (logD ls) S P := by
  refine ne_self (log_pys ls) ?_ (by rw [PyData.eqv]; exact log_eqv ls) q
  unfold SeqAt.shaped
  have := log_dep ls
  rw [PyData.canLay0, log_lay h.1, PyData.depth, Bool.true_and]
  exact decide_eq_true (by omega)
theorem log_shk {ls : List Ln} (h : Log ls) : Shk 60 1000000 (.tuple (ls.map Ln.py)) := by
  refine (Shk.tup (e := 2) (k := 2000) fun p hp => ?_).mono (by decide) ?_
  · obtain ⟨l, hl, rfl⟩ := List.mem_map.mp hp
    exact Ln.shk (h.1 l hl)
  · have := h.2
    rw [List.length_map]
    omega
theorem texts_ok {ls : List Ln} (h : Log ls) : ∀ t ∈ ls.map Ln.text, PyData.strOk t = true := fun t ht => by
  obtain ⟨l, hl, rfl⟩ := List.mem_map.mp ht
  exact text_ok (h.1 l hl)
theorem texts_len {ls : List Ln} (h : Log ls) : ∀ t ∈ ls.map Ln.text, t.length ≤ 588 := fun t ht => by
  obtain ⟨l, hl, rfl⟩ := List.mem_map.mp ht
  exact text_len (h.1 l hl)
theorem logT_ok {ls : List Ln} (h : Log ls) : PyData.strOk (logT ls) = true := join_ok tl_row (by decide) (texts_ok h)
theorem logT_len {ls : List Ln} (h : Log ls) : (logT ls).length ≤ 7068 := by
  have h1 := join_len (m := 588) tl_row (texts_len h)
  have h2 := h.2
  rw [List.length_map] at h1
  unfold logT
  omega
theorem logT_split {ls : List Ln} (h : Log ls) (hn : ls ≠ []) : Txt.split (logT ls) (Str.ofString "\n") = ls.map Ln.text := by
  refine TL.split_join tl_row (by decide +kernel) (fun z => hn (List.map_eq_nil_iff.mp z)) fun t ht => ?_
  obtain ⟨l, hl, rfl⟩ := List.mem_map.mp ht
  intro hm
  unfold Ln.text at hm
  rw [tl_joinT, tl_blank] at hm
  rcases joinL_mem hm with z | ⟨x, hx, h1⟩
  · exact absurd z (by decide)
  · obtain ⟨w, hw, rfl⟩ := List.mem_map.mp hx
    exact ((words_ok (h.1 l hl)).1 w hw).nl h1
theorem logT_ne {ls : List Ln} (h : Log ls) (hn : ls ≠ []) : logT ls ≠ Str.ofString "" := by
  cases ls with
  | nil => exact absurd rfl hn
  | cons l ls =>
    obtain ⟨_, _, w, r, e, hw⟩ := words_ok (h.1 l (by simp))
    intro z
    have z := congrArg TL.tl z
    unfold logT at z
    rw [tl_joinT, tl_row] at z
    refine joinL_ne (s := 10) (p := TL.tl l.text) ?_ z
    unfold Ln.text
    rw [tl_joinT, tl_blank, e]
    exact joinL_ne hw
theorem len_row : (Str.ofString "\n").length = 1 := by decide +kernel
theorem join_rows {ls : List Ln} (h : Log ls) : ((ls.map Ln.text).map (·.length)).sum + (ls.map Ln.text).length * (Str.ofString "\n").length ≤ 16777216 := by
  have h1 := sum_le (texts_len h)
  have h2 := h.2
  rw [List.length_map] at h1 ⊢
  rw [len_row]
  omega
theorem m_show_log : ∀ ds S P, p_show_log ds S P → t_show_log { nx := fun _ S' => P .non S', rt := P } (aStart 3 ds) S := by
  intro ds S P h
  unfold p_show_log at h
  match ds, h with
  | [_], ⟨ls, rfl, hL, q⟩ =>
    refine And.intro (by first | decide | omega | (dsimp only; first | decide | omega) | exact Nat.le_of_ble_eq_true rfl | exact Or.inl ⟨by decide, by decide⟩ | exact Or.inr ⟨by decide, by decide⟩ | exact Or.inl ⟨by omega, by omega⟩ | exact Or.inr ⟨by omega, by omega⟩ | exact ⟨by decide, by decide, by decide⟩ | exact ⟨by omega, by omega⟩ | (simp; done)) (iteP_F ?_)
    refine for_inv (fun i a S' => (∃ x y, a = [some (logD ls), x, y]) ∧ Keep MZ S S') ⟨⟨_, _, rfl⟩, .refl⟩ (fun i e a S' nx hd hI hn => ?_) (fun a S' hI => ?_)
    · obtain ⟨⟨x, y, rfl⟩, k⟩ := hI
      refine ⟨trivial, ?_⟩
      have hi : i < ls.length := by
        have := (List.getElem?_eq_some_iff.mp hd).1
        simpa [enItems_len] using this
      have he : e = .tup [.int (0 + (i : Nat)), ls[i].d] := by
        have := enItems_get 0 (ls.map Ln.d) (i := i) (d := ls[i].d) (by rw [List.getElem?_map, List.getElem?_eq_getElem hi]; rfl)
        exact (Option.some.inj (this.symm.trans hd)).symm
      subst he
      refine And.intro rfl ?_
      refine is_line_of (hL.1 _ (List.getElem_mem hi)) fun S1 k1 => iteP_F ?_
      exact hn _ _ ⟨⟨_, _, rfl⟩, k.trans k1⟩
    · obtain ⟨⟨x, y, rfl⟩, k⟩ := hI
      refine ⟨trivial, ?_⟩
      refine ⟨⟨_, rfl⟩, ?_⟩
      have h2 := hL.2
      refine lc_map ls Ln.d (fun l => D.str l.text) (fun S2 => Keep MZ S' S2) rfl .refl (small_line (by rw [List.length_nil]; omega)) (fun l hl S2 nx hV hnx => ⟨trivial, ?_⟩) (fun S2 hV => ⟨trivial, ?_⟩)
      · exact line_text_of (hL.1 l hl) fun S3 k3 => hnx _ (hV.trans k3)
      · refine ⟨_, _, ls.map Ln.text, rfl, rfl, push_at.trans (by rw [List.map_map]; rfl), join_rows hL, ?_⟩
        exact q _ ((k.trans hV).trans Keep.push)
theorem m_read_log : ∀ ds S P, p_read_log ds S P → t_read_log { nx := fun _ S' => P .non S', rt := P } (aStart 5 ds) S := by
  intro ds S P h
  unfold p_read_log at h
  match ds, h with
  | [_], ⟨ls, rfl, hL, q⟩ =>
    have h2 := hL.2
    refine And.intro (by first | decide | omega | (dsimp only; first | decide | omega) | exact Nat.le_of_ble_eq_true rfl | exact Or.inl ⟨by decide, by decide⟩ | exact Or.inr ⟨by decide, by decide⟩ | exact Or.inl ⟨by omega, by omega⟩ | exact Or.inr ⟨by omega, by omega⟩ | exact ⟨by decide, by decide, by decide⟩ | exact ⟨by omega, by omega⟩ | (simp; done)) (iteP_F ?_)
    refine eq_str (logT_ok hL) (strOk_str _) ?_
    by_cases hn : ls = []
    · subst hn
      refine iteP_T ?_
      exact And.intro (by first | decide | omega | (dsimp only; first | decide | omega) | exact Nat.le_of_ble_eq_true rfl | exact Or.inl ⟨by decide, by decide⟩ | exact Or.inr ⟨by decide, by decide⟩ | exact Or.inl ⟨by omega, by omega⟩ | exact Or.inr ⟨by omega, by omega⟩ | exact ⟨by decide, by decide, by decide⟩ | exact ⟨by omega, by omega⟩ | (simp; done)) (q _ .refl)
    · rw [decide_eq_false (logT_ne hL hn)]
      refine iteP_F ?_
      refine And.intro (by first | decide | omega | (dsimp only; first | decide | omega) | exact Nat.le_of_ble_eq_true rfl | exact Or.inl ⟨by decide, by decide⟩ | exact Or.inr ⟨by decide, by decide⟩ | exact Or.inl ⟨by omega, by omega⟩ | exact Or.inr ⟨by omega, by omega⟩ | exact ⟨by decide, by decide, by decide⟩ | exact ⟨by omega, by omega⟩ | (simp; done)) ?_
      refine ⟨⟨_, rfl⟩, ?_⟩
      refine ⟨_, _, rfl, rfl, by decide +kernel, by have := logT_len hL; rw [sizeLine_eq]; omega, ?_⟩
      rw [logT_split hL hn]
      refine rdO_of push_at ?_
      have hK : Keep MZ S ((S ++ [O.lst []]) ++ [O.lst ((ls.map Ln.text).map D.str)]) := Keep.push.trans Keep.push
      have hm0 : ((S ++ [O.lst []]) ++ [O.lst ((ls.map Ln.text).map D.str)])[S.length]? = some (.lst []) := push_old push_at
      have hm1 : ((S ++ [O.lst []]) ++ [O.lst ((ls.map Ln.text).map D.str)])[(S ++ [O.lst []]).length]? = some (.lst ((ls.map Ln.text).map D.str)) := push_at
      have hne : (S ++ [O.lst []]).length = S.length + 1 := by simp
      rw [hne] at hm1 ⊢
      generalize (S ++ [O.lst []]) ++ [O.lst ((ls.map Ln.text).map D.str)] = S1 at hK hm0 hm1
      refine for_inv (fun i a S' => (∃ x y z, a = [some (.str (logT ls)), some (.obj S.length), x, y, z]) ∧ Keep MZ S S' ∧ S'[S.length]? = some (.lst ((ls.take i).map Ln.d)) ∧ S'[S.length + 1]? = some (.lst ((ls.map Ln.text).map D.str))) ⟨⟨_, _, _, rfl⟩, hK, hm0, hm1⟩ (fun i e a S' nx hd hI hnx => ?_) (fun a S' hI => ?_)
      · obtain ⟨⟨x, y, z, rfl⟩, k, g0, g1⟩ := hI
        refine ⟨g1, ?_⟩
        have hi : i < ls.length := by
          have := (List.getElem?_eq_some_iff.mp hd).1
          simpa [enItems_len] using this
        have he : e = .tup [.int (0 + (i : Nat)), .str ls[i].text] := by
          have := enItems_get 0 ((ls.map Ln.text).map D.str) (i := i) (d := .str ls[i].text) (by rw [List.getElem?_map, List.getElem?_map, List.getElem?_eq_getElem hi]; rfl)
          exact (Option.some.inj (this.symm.trans hd)).symm
        subst he
        refine And.intro rfl ?_
        refine line_in_of (hL.1 _ (List.getElem_mem hi)) fun S2 k2 => ?_
        obtain ⟨a, b, r, ed⟩ := Ln.tup ls[i]
        rw [ed]
        refine iteP_F ?_
        refine rdO_of (k2.at0 g0) ?_
        refine rdO_of (k2.at0 g0) (And.intro (small_line' (by rw [List.length_map, List.length_take]; omega)) ?_)
        refine hnx _ _ ⟨⟨_, _, _, rfl⟩, (k.trans k2).setNew (Nat.le_refl _), ?_, ?_⟩
        · have e3 : (ls.take (i + 1)).map Ln.d = (ls.take i).map Ln.d ++ [.tup (.str a :: b :: r)] := by
            rw [List.take_add_one, List.getElem?_eq_getElem hi, List.map_append, ← ed]
            rfl
          rw [e3]
          exact set_at (k2.at0 g0)
        · exact (Keep.set (n := S.length)).at (k2.at0 g1) fun z => by unfold MO at z; omega
      · obtain ⟨⟨x, y, z, rfl⟩, k, g0, g1⟩ := hI
        refine ⟨g1, ?_⟩
        refine rdO_of g0 ?_
        have := q S' k
        have e : (ls.take (enItems 0 ((ls.map Ln.text).map D.str)).length) = ls := by
          rw [enItems_len, List.length_map, List.length_map, List.take_length]
        rw [e]
        exact this

theorem lc_all {S : Sto} {m : Nat} {ns : List Int} {x0 x1 x3 : Option D} {K : Bool → Sto → Prop} (hm : S[m]? = some (.lst (ns.map D.int))) (hl : ns.length ≤ 100) (q : ∀ S', Keep MZ S S' → K true S') : (aTr (aCall (ar1 allD) (aCons (aLc (iSeq (aVar 2)) (gN 3) aYes (aCall p_law_whole (aCons (aVar 3) aNil)) [3]) aNil))) [x0, x1, some (.obj m), x3] S K := by
  refine rdO_of hm ?_
  refine lc_map ns D.int (fun _ => D.bl true) (fun S' => S' = S) rfl rfl (small_line (by rw [List.length_nil]; omega)) (fun l hl S' nx hV hn => ⟨hV ▸ hm, ?_⟩) (fun S' hV => ⟨hV ▸ hm, ?_⟩)
  · exact whole_of (hn _ hV)
  · subst hV
    show allD (.obj S'.length) (S' ++ [.lst (ns.map fun _ => D.bl true)]) (fun d S1 => truD d S1 _)
    refine all_new (xs := ns) (c := fun _ => true) ?_
    have e : (ns.all fun _ => true) = true := by simp
    rw [e]
    exact q _ Keep.push
theorem m_law_kinds_right : ∀ ds S P, p_law_kinds_right ds S P → t_law_kinds_right { nx := fun _ S' => P .non S', rt := P } (aStart 4 ds) S := by
  intro ds S P h
  unfold p_law_kinds_right at h
  match ds, h with
  | [_], ⟨ls, rfl, hL, q⟩ =>
    refine for_inv (fun i a S' => (∃ x y z, a = [some (logD ls), x, y, z]) ∧ Keep MZ S S') ⟨⟨_, _, _, rfl⟩, .refl⟩ (fun i e a S' nx hd hI hn => ?_) (fun a S' hI => ?_)
    · obtain ⟨⟨x, y, z, rfl⟩, k⟩ := hI
      refine ⟨trivial, ?_⟩
      obtain ⟨l, hl, rfl⟩ := map_get hd
      have hok := hL.1 l (List.mem_of_getElem? hl)
      have fin : ∀ y z S', Keep MZ S S' → nx [some (logD ls), some l.d, y, z] S' := fun y z S' k => hn _ _ ⟨⟨_, _, _, rfl⟩, k⟩
      cases l with
      | of w c =>
        obtain ⟨hw, hc⟩ := hok
        obtain ⟨b1, b2, b3, _⟩ := ofw_back w hw
        have lc := cl_len hc
        show (aSeq _ _) _ [some (logD ls), some (.tup [.str w, d c]), y, z] S'
        refine And.intro (by first | decide | omega | (dsimp only; first | decide | omega) | exact Nat.le_of_ble_eq_true rfl | exact Or.inl ⟨by decide, by decide⟩ | exact Or.inr ⟨by decide, by decide⟩ | exact Or.inl ⟨by omega, by omega⟩ | exact Or.inr ⟨by omega, by omega⟩ | exact ⟨by decide, by decide, by decide⟩ | exact ⟨by omega, by omega⟩ | (simp; done)) (iteP_F ?_)
        refine ixP_nat (j := 0) rfl (And.intro (by first | decide | omega | (dsimp only; first | decide | omega) | exact Nat.le_of_ble_eq_true rfl | exact Or.inl ⟨by decide, by decide⟩ | exact Or.inr ⟨by decide, by decide⟩ | exact Or.inl ⟨by omega, by omega⟩ | exact Or.inr ⟨by omega, by omega⟩ | exact ⟨by decide, by decide, by decide⟩ | exact ⟨by omega, by omega⟩ | (simp; done)) (iteP_F ?_))
        refine ixP_nat (j := 0) rfl ?_
        refine ne_str (ofw_ok w hw) (strOk_str _) ?_
        rw [decide_eq_false b1]
        refine iteP_T ?_
        refine ixP_nat (j := 1) rfl (And.intro (by first | decide | omega | (dsimp only; first | decide | omega) | exact Nat.le_of_ble_eq_true rfl | exact Or.inl ⟨by decide, by decide⟩ | exact Or.inr ⟨by decide, by decide⟩ | exact Or.inl ⟨by omega, by omega⟩ | exact Or.inr ⟨by omega, by omega⟩ | exact ⟨by decide, by decide, by decide⟩ | exact ⟨by omega, by omega⟩ | (simp; done)) (iteP_F ?_))
        refine ixP_nat (j := 0) rfl ?_
        refine eq_str (ofw_ok w hw) (strOk_str _) ?_
        rw [decide_eq_false b1]
        refine iteP_F ?_
        refine ixP_nat (j := 1) rfl ?_
        refine rdO_of (push_old push_at) (rdO_of push_at (And.intro (small_line (by rw [List.length_map]; show c.length + 0 ≤ _; omega)) ?_))
        refine lc_all (ns := c) (push_at.trans (by show _ = some (O.lst (c.map D.int)); exact congrArg (fun l => some (O.lst l)) (List.append_nil _))) (by omega) fun S3 k3 => ?_
        refine iteP_F ?_
        exact fin _ _ _ ((((k.trans Keep.push).trans Keep.push).trans Keep.push).trans k3)
      | lv c l =>
        obtain ⟨hc, hl⟩ := hok
        have lc := cl_len hc
        have b1 : Str.ofString "leave" ≠ Str.ofString "back" := by decide +kernel
        show (aSeq _ _) _ [some (logD ls), some (.tup [.str "leave", d c, .int l]), y, z] S'
        refine And.intro (by first | decide | omega | (dsimp only; first | decide | omega) | exact Nat.le_of_ble_eq_true rfl | exact Or.inl ⟨by decide, by decide⟩ | exact Or.inr ⟨by decide, by decide⟩ | exact Or.inl ⟨by omega, by omega⟩ | exact Or.inr ⟨by omega, by omega⟩ | exact ⟨by decide, by decide, by decide⟩ | exact ⟨by omega, by omega⟩ | (simp; done)) (iteP_F ?_)
        refine ixP_nat (j := 0) rfl (And.intro (by first | decide | omega | (dsimp only; first | decide | omega) | exact Nat.le_of_ble_eq_true rfl | exact Or.inl ⟨by decide, by decide⟩ | exact Or.inr ⟨by decide, by decide⟩ | exact Or.inl ⟨by omega, by omega⟩ | exact Or.inr ⟨by omega, by omega⟩ | exact ⟨by decide, by decide, by decide⟩ | exact ⟨by omega, by omega⟩ | (simp; done)) (iteP_F ?_))
        refine ixP_nat (j := 0) rfl ?_
        refine ne_str (strOk_str _) (strOk_str _) ?_
        rw [decide_eq_false b1]
        refine iteP_T ?_
        refine ixP_nat (j := 1) rfl (And.intro (by first | decide | omega | (dsimp only; first | decide | omega) | exact Nat.le_of_ble_eq_true rfl | exact Or.inl ⟨by decide, by decide⟩ | exact Or.inr ⟨by decide, by decide⟩ | exact Or.inl ⟨by omega, by omega⟩ | exact Or.inr ⟨by omega, by omega⟩ | exact ⟨by decide, by decide, by decide⟩ | exact ⟨by omega, by omega⟩ | (simp; done)) (iteP_F ?_))
        refine ixP_nat (j := 0) rfl ?_
        refine eq_str (strOk_str _) (strOk_str _) ?_
        rw [decide_eq_false b1]
        refine iteP_F ?_
        refine ixP_nat (j := 1) rfl ?_
        refine rdO_of (push_old push_at) (rdO_of push_at (And.intro (small_line (by rw [List.length_map]; show c.length + 1 ≤ _; omega)) ?_))
        refine lc_all (ns := c ++ [l]) (push_at.trans (by rw [List.map_append]; rfl)) (by rw [List.length_append]; show c.length + 1 ≤ _; omega) fun S3 k3 => ?_
        refine iteP_F ?_
        exact fin _ _ _ ((((k.trans Keep.push).trans Keep.push).trans Keep.push).trans k3)
      | bk n =>
        show (aSeq _ _) _ [some (logD ls), some (.tup [.str "back", .int (n : Nat)]), y, z] S'
        refine And.intro (by first | decide | omega | (dsimp only; first | decide | omega) | exact Nat.le_of_ble_eq_true rfl | exact Or.inl ⟨by decide, by decide⟩ | exact Or.inr ⟨by decide, by decide⟩ | exact Or.inl ⟨by omega, by omega⟩ | exact Or.inr ⟨by omega, by omega⟩ | exact ⟨by decide, by decide, by decide⟩ | exact ⟨by omega, by omega⟩ | (simp; done)) (iteP_F ?_)
        refine ixP_nat (j := 0) rfl (And.intro (by first | decide | omega | (dsimp only; first | decide | omega) | exact Nat.le_of_ble_eq_true rfl | exact Or.inl ⟨by decide, by decide⟩ | exact Or.inr ⟨by decide, by decide⟩ | exact Or.inl ⟨by omega, by omega⟩ | exact Or.inr ⟨by omega, by omega⟩ | exact ⟨by decide, by decide, by decide⟩ | exact ⟨by omega, by omega⟩ | (simp; done)) (iteP_F ?_))
        refine ixP_nat (j := 0) rfl ?_
        refine ne_str (strOk_str _) (strOk_str _) ?_
        rw [decide_eq_true rfl]
        refine iteP_F (iteP_F ?_)
        refine ixP_nat (j := 0) rfl ?_
        refine eq_str (strOk_str _) (strOk_str _) ?_
        rw [decide_eq_true rfl]
        refine iteP_T ?_
        refine ixP_nat (j := 1) rfl ?_
        refine And.intro (by first | decide | omega | (dsimp only; first | decide | omega) | exact Nat.le_of_ble_eq_true rfl | exact Or.inl ⟨by decide, by decide⟩ | exact Or.inr ⟨by decide, by decide⟩ | exact Or.inl ⟨by omega, by omega⟩ | exact Or.inr ⟨by omega, by omega⟩ | exact ⟨by decide, by decide, by decide⟩ | exact ⟨by omega, by omega⟩ | (simp; done)) ?_
        refine lc_all (ns := [(n : Nat)]) push_at (by simp) fun S3 k3 => ?_
        refine iteP_F ?_
        exact fin _ _ _ ((k.trans Keep.push).trans k3)
    · obtain ⟨⟨x, y, z, rfl⟩, k⟩ := hI
      refine ⟨trivial, ?_⟩
      exact And.intro (by first | decide | omega | (dsimp only; first | decide | omega) | exact Nat.le_of_ble_eq_true rfl | exact Or.inl ⟨by decide, by decide⟩ | exact Or.inr ⟨by decide, by decide⟩ | exact Or.inl ⟨by omega, by omega⟩ | exact Or.inr ⟨by omega, by omega⟩ | exact ⟨by decide, by decide, by decide⟩ | exact ⟨by omega, by omega⟩ | (simp; done)) (q _ k)

abbrev tlS : AX := (aSeq (aIfS (aB (aOp eqD (aVar 4) (aC (.str "back")))) (aRet (aTup (aCons (aC (.str "back")) (aCons (aOp getD (aLst (aCons (aCall p_law_pick (aCons (aVar 0) (aCons (aC (.int 12)) aNil))) (aCons (aCall p_law_pick (aCons (aVar 0) (aCons (aOp powD (aC (.int 10)) (aC (.int 12))) aNil))) aNil))) (aCall p_law_pick (aCons (aVar 0) (aCons (aC (.int 2)) aNil)))) aNil)))) aNext) (aSeq (aIfS (aAnd (aB (aOp eqD (aVar 4) (aC (.str "leave")))) (aB (aOp neD (aVar 3) (aTup aNil)))) (aRet (aTup (aCons (aC (.str "leave")) (aCons (aVar 3) (aCons (aOp getD (aVar 3) (aCall p_law_pick (aCons (aVar 0) (aCons (aCall (ar1 lenXD) (aCons (aVar 3) aNil)) aNil)))) aNil))))) aNext) (aRet (aTup (aCons (aOp getD (aLst (aCons (aC (.str "add")) (aCons (aVar 4) aNil))) (aCall (ar1 intCD) (aCons (aOp neD (aVar 4) (aC (.str "leave"))) aNil))) (aCons (aVar 3) aNil))))))
theorem mem_get {l : List D} {i : Int} {K : D → Prop} (h0 : 0 ≤ i) (hi : i < l.length) (k : ∀ x ∈ l, K x) : ixP l i K := ixP_nat (j := i.toNat) (List.getElem?_eq_getElem (by omega)) (k _ (List.getElem_mem _)) (by omega)
theorem m_law_shape : ∀ ds S P, p_law_shape ds S P → t_law_shape { nx := fun _ S' => P .non S', rt := P } (aStart 5 ds) S := by
  intro ds S P h
  unfold p_law_shape at h
  match ds, h with
  | [_, _], ⟨n, s, rfl, rfl, hp, h1, h2, q⟩ =>
    refine pick_of (by decide) (by decide) hp fun b S1 b0 b1 k1 p1 => ?_
    refine clause_of (by omega) (by omega) (by decide) (by decide) p1 fun c S2 hc hne hcl k2 p2 => ?_
    have hc40 := hc.mono h2
    refine pick_of (by decide) (by decide) p2 fun g S3 g0 g1 k3 p3 => ?_
    have K3 : Keep (MO n) S S3 := (k1.trans k2).trans k3
    have rest : ∀ c : List Int, Cl 40 c → (aSeq (aAsg (aOp getD (aLst (aCons (aC (.str "add")) (aCons (aC (.str "keep")) (aCons (aC (.str "forget")) (aCons (aC (.str "drop")) (aCons (aC (.str "put")) (aCons (aC (.str "leave")) (aCons (aC (.str "back")) (aCons (aC (.str "leave")) aNil))))))))) (aVar 2)) (gN 4)) tlS) { nx := fun _ S' => P .non S', rt := P } [some (.obj n), some (.int s), some (.int b), some (d c), none] S3 := by
      intro c hc
      have lc := cl_len hc
      refine And.intro (by first | decide | omega | (dsimp only; first | decide | omega) | exact Nat.le_of_ble_eq_true rfl | exact Or.inl ⟨by decide, by decide⟩ | exact Or.inr ⟨by decide, by decide⟩ | exact Or.inl ⟨by omega, by omega⟩ | exact Or.inr ⟨by omega, by omega⟩ | exact ⟨by decide, by decide, by decide⟩ | exact ⟨by omega, by omega⟩ | (simp; done)) ?_
      have p4 := p3.keep (Keep.push (M := MZ) (o := .lst [.str "add", .str "keep", .str "forget", .str "drop", .str "put", .str "leave", .str "back", .str "leave"])) fun z => z
      have K4 : Keep (MO n) S _ := K3.trans (Keep.push (o := .lst [.str "add", .str "keep", .str "forget", .str "drop", .str "put", .str "leave", .str "back", .str "leave"]))
      refine rdO_of push_at ?_
      generalize S3 ++ [O.lst [.str "add", .str "keep", .str "forget", .str "drop", .str "put", .str "leave", .str "back", .str "leave"]] = S4 at p4 K4 ⊢
      refine mem_get b0 b1 fun x hx => ?_
      have good : ∀ w ∈ OFW, x = .str w → tlS { nx := fun _ S' => P .non S', rt := P } [some (.obj n), some (.int s), some (.int b), some (d c), some x] S4 := by
        intro w hw ex
        subst ex
        obtain ⟨b1, b2, b3, _⟩ := ofw_back w hw
        refine eq_str (ofw_ok w hw) (strOk_str _) ?_
        rw [decide_eq_false b1]
        refine iteP_F ?_
        refine eq_str (ofw_ok w hw) (strOk_str _) ?_
        rw [decide_eq_false b2]
        refine iteP_F (iteP_F ?_)
        refine And.intro (by first | decide | omega | (dsimp only; first | decide | omega) | exact Nat.le_of_ble_eq_true rfl | exact Or.inl ⟨by decide, by decide⟩ | exact Or.inr ⟨by decide, by decide⟩ | exact Or.inl ⟨by omega, by omega⟩ | exact Or.inr ⟨by omega, by omega⟩ | exact ⟨by decide, by decide, by decide⟩ | exact ⟨by omega, by omega⟩ | (simp; done)) ?_
        refine ne_str (ofw_ok w hw) (strOk_str _) ?_
        rw [decide_eq_false b2]
        refine rdO_of push_at ?_
        refine ixP_nat (j := 1) rfl ?_
        refine And.intro (by first | decide | omega | (dsimp only; first | decide | omega) | exact Nat.le_of_ble_eq_true rfl | exact Or.inl ⟨by decide, by decide⟩ | exact Or.inr ⟨by decide, by decide⟩ | exact Or.inl ⟨by omega, by omega⟩ | exact Or.inr ⟨by omega, by omega⟩ | exact ⟨by decide, by decide, by decide⟩ | exact ⟨by omega, by omega⟩ | (simp; done)) ?_
        exact q (.of w c) _ ⟨hw, hc⟩ (K4.trans Keep.push) (p4.keep (Keep.push (M := MZ)) fun z => z)
      have leave : x = .str (Str.ofString "leave") → tlS { nx := fun _ S' => P .non S', rt := P } [some (.obj n), some (.int s), some (.int b), some (d c), some x] S4 := by
        intro ex
        subst ex
        refine eq_str (strOk_str _) (strOk_str _) ?_
        rw [decide_eq_false (show Str.ofString "leave" ≠ Str.ofString "back" by decide +kernel)]
        refine iteP_F ?_
        refine eq_str (strOk_str _) (strOk_str _) ?_
        rw [decide_eq_true rfl]
        refine iteP_T ?_
        refine And.intro (by first | decide | omega | (dsimp only; first | decide | omega) | exact Nat.le_of_ble_eq_true rfl | exact Or.inl ⟨by decide, by decide⟩ | exact Or.inr ⟨by decide, by decide⟩ | exact Or.inl ⟨by omega, by omega⟩ | exact Or.inr ⟨by omega, by omega⟩ | exact ⟨by decide, by decide, by decide⟩ | exact ⟨by omega, by omega⟩ | (simp; done)) ?_
        refine ne_en (α := List Int) (a := c) (b := []) ?_
        refine iteP_of (fun e => ?_) (fun e => ?_)
        · have e : c ≠ [] := by simpa using e
          have hpos : 0 < c.length := List.length_pos_iff.mpr e
          have el : ((c.map D.int).length : Int) = c.length := by rw [List.length_map]
          show p_law_pick [.obj n, .int ((c.map D.int).length : Nat)] S4 _
          rw [List.length_map]
          refine pick_of (by omega) (by omega) p4 fun r S5 r0 r1 k5 p5 => ?_
          refine mem_get (l := c.map D.int) r0 (by rw [List.length_map]; exact r1) fun x hx => ?_
          obtain ⟨l, hl, rfl⟩ := List.mem_map.mp hx
          refine And.intro (by first | decide | omega | (dsimp only; first | decide | omega) | exact Nat.le_of_ble_eq_true rfl | exact Or.inl ⟨by decide, by decide⟩ | exact Or.inr ⟨by decide, by decide⟩ | exact Or.inl ⟨by omega, by omega⟩ | exact Or.inr ⟨by omega, by omega⟩ | exact ⟨by decide, by decide, by decide⟩ | exact ⟨by omega, by omega⟩ | (simp; done)) ?_
          exact q (.lv c l) _ ⟨hc, hl⟩ (K4.trans k5) p5
        · refine And.intro (by first | decide | omega | (dsimp only; first | decide | omega) | exact Nat.le_of_ble_eq_true rfl | exact Or.inl ⟨by decide, by decide⟩ | exact Or.inr ⟨by decide, by decide⟩ | exact Or.inl ⟨by omega, by omega⟩ | exact Or.inr ⟨by omega, by omega⟩ | exact ⟨by decide, by decide, by decide⟩ | exact ⟨by omega, by omega⟩ | (simp; done)) ?_
          refine ne_str (strOk_str _) (strOk_str _) ?_
          rw [decide_eq_true rfl]
          refine rdO_of push_at ?_
          refine ixP_nat (j := 0) rfl ?_
          refine And.intro (by first | decide | omega | (dsimp only; first | decide | omega) | exact Nat.le_of_ble_eq_true rfl | exact Or.inl ⟨by decide, by decide⟩ | exact Or.inr ⟨by decide, by decide⟩ | exact Or.inl ⟨by omega, by omega⟩ | exact Or.inr ⟨by omega, by omega⟩ | exact ⟨by decide, by decide, by decide⟩ | exact ⟨by omega, by omega⟩ | (simp; done)) ?_
          exact q (.of "add" c) _ ⟨by decide +kernel, hc⟩ (K4.trans Keep.push) (p4.keep (Keep.push (M := MZ)) fun z => z)
      have bk : ∀ (r : Int) S', 0 ≤ r → r < 10 ^ 12 → Keep (MO n) S S' → Pu S' n → P (.tup [.str "back", .int r]) S' := fun r S' h0 h1 k p => by
        have := q (.bk r.toNat) S' (by show r.toNat < 10 ^ 12; omega) k p
        have e : ((r.toNat : Nat) : Int) = r := by omega
        have e2 : (Ln.bk r.toNat).d = .tup [.str (Str.ofString "back"), .int r] := by
          show D.tup [.str (Str.ofString "back"), .int ((r.toNat : Nat) : Int)] = _
          rw [e]
        rw [e2] at this
        exact this
      simp only [List.mem_cons, List.not_mem_nil, or_false] at hx
      rcases hx with rfl | rfl | rfl | rfl | rfl | rfl | rfl | rfl
      · exact good _ (by decide +kernel) rfl
      · exact good _ (by decide +kernel) rfl
      · exact good _ (by decide +kernel) rfl
      · exact good _ (by decide +kernel) rfl
      · exact good _ (by decide +kernel) rfl
      · exact leave rfl
      · refine eq_str (strOk_str _) (strOk_str _) ?_
        rw [decide_eq_true rfl]
        refine iteP_T ?_
        refine pick_of (by decide) (by decide) p4 fun r S5 r0 r1 k5 p5 => ?_
        refine And.intro (by first | decide | omega | (dsimp only; first | decide | omega) | exact Nat.le_of_ble_eq_true rfl | exact Or.inl ⟨by decide, by decide⟩ | exact Or.inr ⟨by decide, by decide⟩ | exact Or.inl ⟨by omega, by omega⟩ | exact Or.inr ⟨by omega, by omega⟩ | exact ⟨by decide, by decide, by decide⟩ | exact ⟨by omega, by omega⟩ | (simp; done)) ?_
        refine pick_of (by decide) (by decide) p5 fun r2 S6 r20 r21 k6 p6 => ?_
        have r21 : r2 < 10 ^ 12 := r21
        refine And.intro (by first | decide | omega | (dsimp only; first | decide | omega) | exact Nat.le_of_ble_eq_true rfl | exact Or.inl ⟨by decide, by decide⟩ | exact Or.inr ⟨by decide, by decide⟩ | exact Or.inl ⟨by omega, by omega⟩ | exact Or.inr ⟨by omega, by omega⟩ | exact ⟨by decide, by decide, by decide⟩ | exact ⟨by omega, by omega⟩ | (simp; done)) ?_
        have p7 := p6.keep (Keep.push (M := MZ) (o := .lst [.int r, .int r2])) fun z => z
        refine pick_of (by decide) (by decide) p7 fun r3 S7 r30 r31 k7 p8 => ?_
        have n6 := p6.lt
        have g7 := k7.at (push_at (S := S6) (o := .lst [.int r, .int r2])) (fun z => by unfold MO at z; omega)
        refine rdO_of g7 ?_
        refine mem_get r30 r31 fun x hx => ?_
        have K7 := ((((K4.trans k5).trans k6).trans (Keep.push (o := .lst [.int r, .int r2]))).trans k7)
        simp only [List.mem_cons, List.not_mem_nil, or_false] at hx
        rcases hx with rfl | rfl
        · exact And.intro (by first | decide | omega | (dsimp only; first | decide | omega) | exact Nat.le_of_ble_eq_true rfl | exact Or.inl ⟨by decide, by decide⟩ | exact Or.inr ⟨by decide, by decide⟩ | exact Or.inl ⟨by omega, by omega⟩ | exact Or.inr ⟨by omega, by omega⟩ | exact ⟨by decide, by decide, by decide⟩ | exact ⟨by omega, by omega⟩ | (simp; done)) (bk r _ r0 (by omega) K7 p8)
        · exact And.intro (by first | decide | omega | (dsimp only; first | decide | omega) | exact Nat.le_of_ble_eq_true rfl | exact Or.inl ⟨by decide, by decide⟩ | exact Or.inr ⟨by decide, by decide⟩ | exact Or.inl ⟨by omega, by omega⟩ | exact Or.inr ⟨by omega, by omega⟩ | exact ⟨by decide, by decide, by decide⟩ | exact ⟨by omega, by omega⟩ | (simp; done)) (bk r2 _ r20 r21 K7 p8)
      · exact leave rfl
    refine iteP_of (fun _ => ?_) (fun _ => ?_)
    · refine And.intro (by first | decide | omega | (dsimp only; first | decide | omega) | exact Nat.le_of_ble_eq_true rfl | exact Or.inl ⟨by decide, by decide⟩ | exact Or.inr ⟨by decide, by decide⟩ | exact Or.inl ⟨by omega, by omega⟩ | exact Or.inr ⟨by omega, by omega⟩ | exact ⟨by decide, by decide, by decide⟩ | exact ⟨by omega, by omega⟩ | (simp; done)) ?_
      exact rest [] ⟨by simp, .nil⟩
    · exact rest c hc40

theorem m_law_right : ∀ ds S P, p_law_right ds S P → t_law_right { nx := fun _ S' => P .non S', rt := P } (aStart 5 ds) S := by
  intro ds S P h
  unfold p_law_right at h
  match ds, h with
  | [_], ⟨ls, rfl, hL, q⟩ =>
    have h2 := hL.2
    have hok := logT_ok hL
    refine ⟨⟨_, rfl⟩, ?_⟩
    refine lc_map ls Ln.d (fun l => D.str l.text) (fun S2 => Keep MZ S S2) rfl .refl (small_line (by rw [List.length_nil]; omega)) (fun l hl S2 nx hV hnx => ⟨trivial, ?_⟩) (fun S1 hV => ⟨trivial, ?_⟩)
    · exact law_line_text_of (hL.1 l hl) fun S3 k3 => hnx _ (hV.trans k3)
    refine ⟨_, _, ls.map Ln.text, rfl, rfl, push_at.trans (by rw [List.map_map]; rfl), join_rows hL, ?_⟩
    rw [show Txt.join (Str.ofString "\n") (ls.map Ln.text) = logT ls from rfl]
    have K1 := hV.trans (Keep.push (o := .lst ([] ++ ls.map fun l => D.str l.text)))
    generalize S1 ++ [O.lst ([] ++ ls.map fun l => D.str l.text)] = S2 at K1 ⊢
    have rep : ∀ S, Rq MZ S (logD ls) (.tuple (ls.map Ln.py)) := fun S => .tup (log_rqs ls)
    refine repX_of (rep _) (log_shk hL) ?_
    have hsh := shown_ok _ (log_shk hL).txt
    refine show_log_of hL fun S3 k3 => ?_
    refine ne_str hok hok ?_
    rw [decide_eq_true rfl]
    refine iteP_F ?_
    refine And.intro rfl (And.intro rfl ?_)
    refine show_log_of hL fun S4 k4 => ?_
    refine ne_str hok hok ?_
    rw [decide_eq_true rfl]
    refine iteP_F ?_
    refine read_log_of hL fun S5 k5 => ?_
    refine law_kinds_right_of hL fun S6 k6 => ?_
    refine iteP_F ?_
    refine ne_log hL ?_
    refine iteP_F ?_
    refine And.intro rfl (And.intro rfl ?_)
    refine read_log_of hL fun S7 k7 => ?_
    refine ne_log hL ?_
    refine iteP_F ?_
    refine show_log_of hL fun S8 k8 => ?_
    refine eq_str hok hok ?_
    rw [decide_eq_true rfl]
    refine iteP_T ?_
    refine repX_of (rep _) (log_shk hL) ?_
    refine str_eq hsh ?_
    exact q _ ((((((K1.trans k3).trans k4).trans k5).trans k6).trans k7).trans k8)
theorem m_law : ∀ ds S P, p_law ds S P → t_law { nx := fun _ S' => P .non S', rt := P } (aStart 5 ds) S := by
  intro ds S P h
  unfold p_law pLaw at h
  match ds, h with
  | [_], ⟨ns, rfl, hl, _, q⟩ =>
    have h0 : Log [] := ⟨by simp, by decide⟩
    have e0 : logT [] = Str.ofString "" := by decide +kernel
    refine And.intro (by first | decide | omega | (dsimp only; first | decide | omega) | exact Nat.le_of_ble_eq_true rfl | exact Or.inl ⟨by decide, by decide⟩ | exact Or.inr ⟨by decide, by decide⟩ | exact Or.inl ⟨by omega, by omega⟩ | exact Or.inr ⟨by omega, by omega⟩ | exact ⟨by decide, by decide, by decide⟩ | exact ⟨by omega, by omega⟩ | (simp; done)) ?_
    refine law_right_of (ls := []) h0 fun S1 k1 => ?_
    refine iteP_F ?_
    have read : ∀ {S : Sto} {P : D → Sto → Prop}, (∀ S', Keep MZ S S' → P (.tup []) S') → p_read_log [.str (Str.ofString "")] S P := fun {S P} q => by
      have := read_log_of (P := P) h0 q
      rw [e0] at this
      exact this
    refine read fun S2 k2 => ?_
    refine And.intro (by first | decide | omega | (dsimp only; first | decide | omega) | exact Nat.le_of_ble_eq_true rfl | exact Or.inl ⟨by decide, by decide⟩ | exact Or.inr ⟨by decide, by decide⟩ | exact Or.inl ⟨by omega, by omega⟩ | exact Or.inr ⟨by omega, by omega⟩ | exact ⟨by decide, by decide, by decide⟩ | exact ⟨by omega, by omega⟩ | (simp; done)) ?_
    refine ne_log h0 ?_
    refine iteP_F ?_
    refine read fun S3 k3 => ?_
    refine And.intro (by first | decide | omega | (dsimp only; first | decide | omega) | exact Nat.le_of_ble_eq_true rfl | exact Or.inl ⟨by decide, by decide⟩ | exact Or.inr ⟨by decide, by decide⟩ | exact Or.inl ⟨by omega, by omega⟩ | exact Or.inr ⟨by omega, by omega⟩ | exact ⟨by decide, by decide, by decide⟩ | exact ⟨by omega, by omega⟩ | (simp; done)) (iteP_F ?_)
    refine And.intro ⟨by omega, by omega⟩ ?_
    refine for_inv (fun i a S' => ∃ x1 x2 x3 x4, a = [some (.rol (ns.map D.int)), x1, x2, x3, x4]) ⟨_, _, _, _, rfl⟩ (fun i0 e a S1 nx hd hI hn => ?_) (fun a S1 hI => ?_)
    · obtain ⟨x1, x2, x3, x4, rfl⟩ := hI
      have hi := (List.getElem?_eq_some_iff.mp hd).1
      rw [rgItems_len] at hi
      have he : e = .int (0 + (i0 : Nat)) := Option.some.inj (hd.symm.trans (rgItems_get hi))
      subst he
      have hi2 : i0 < 100 := by omega
      refine ⟨trivial, ?_⟩
      refine cell_of hl (by omega) (by omega) fun r S2 _ => ?_
      refine purse_of fun n S3 hn3 k3 p3 => ?_
      refine And.intro (by first | decide | omega | (dsimp only; first | decide | omega) | exact Nat.le_of_ble_eq_true rfl | exact Or.inl ⟨by decide, by decide⟩ | exact Or.inr ⟨by decide, by decide⟩ | exact Or.inl ⟨by omega, by omega⟩ | exact Or.inr ⟨by omega, by omega⟩ | exact ⟨by decide, by decide, by decide⟩ | exact ⟨by omega, by omega⟩ | (simp; done)) ?_
      have p4 := p3.keep (Keep.push (M := MZ) (o := .lst [.int 6, .int 40])) fun z => z
      refine pick_of (by decide) (by decide) p4 fun g S5 g0 g1 k5 p5 => ?_
      have n3 := p3.lt
      refine rdO_of (k5.at push_at fun z => by unfold MO at z; omega) ?_
      refine mem_get g0 g1 fun x hx => ?_
      obtain ⟨s, rfl, s1, s2⟩ : ∃ s : Int, x = .int s ∧ 1 ≤ s ∧ s ≤ 40 := by
        simp only [List.mem_cons, List.not_mem_nil, or_false] at hx
        rcases hx with rfl | rfl <;> exact ⟨_, rfl, by decide, by decide⟩
      refine And.intro (by first | decide | omega | (dsimp only; first | decide | omega) | exact Nat.le_of_ble_eq_true rfl | exact Or.inl ⟨by decide, by decide⟩ | exact Or.inr ⟨by decide, by decide⟩ | exact Or.inl ⟨by omega, by omega⟩ | exact Or.inr ⟨by omega, by omega⟩ | exact ⟨by decide, by decide, by decide⟩ | exact ⟨by omega, by omega⟩ | (simp; done)) ?_
      refine for_inv (fun i a S' => (∃ x1 x4, a = [some (.rol (ns.map D.int)), x1, some (.obj n), some (.int s), x4]) ∧ Pu S' n) ⟨⟨_, _, rfl⟩, p5⟩ (fun i e a S6 nx' hd hI hn' => ?_) (fun a S6 hI => ?_)
      · obtain ⟨⟨x1, x4, rfl⟩, p6⟩ := hI
        refine ⟨trivial, ?_⟩
        refine pick_of (by decide) (by decide) p6 fun m S7 m0 m1 k7 p7 => ?_
        refine And.intro ⟨by omega, by omega⟩ ?_
        refine lc_inv (fun i acc S' => ∃ ls : List Ln, acc = ls.map Ln.d ∧ (∀ l ∈ ls, l.ok) ∧ ls.length ≤ i ∧ Pu S' n) ⟨[], rfl, by simp, Nat.le_refl _, p7⟩ (fun j e acc S' nx hd' hI' hn2 => ?_) (fun acc S' hI' => ?_)
        · obtain ⟨ls, rfl, hls, hlen, p⟩ := hI'
          have hj := (List.getElem?_eq_some_iff.mp hd').1
          rw [rgItems_len] at hj
          refine ⟨trivial, iteP_T ?_⟩
          refine law_shape_of p s1 s2 fun l S8 hok k8 p8 => ?_
          refine ⟨small_line' (by rw [List.length_map]; omega), hn2 _ _ ⟨ls ++ [l], by rw [List.map_append]; rfl, fun x hx => ?_, by rw [List.length_append]; show ls.length + 1 ≤ _; omega, p8⟩⟩
          rcases List.mem_append.mp hx with h | h
          · exact hls x h
          · rw [List.mem_singleton.mp h]
            exact hok
        · obtain ⟨ls, rfl, hls, hlen, p⟩ := hI'
          rw [rgItems_len] at hlen
          refine ⟨trivial, ?_⟩
          refine rdO_of push_at ?_
          refine law_right_of (ls := ls) ⟨hls, by omega⟩ fun S9 k9 => ?_
          refine iteP_F ?_
          exact hn' _ _ ⟨⟨_, _, rfl⟩, (p.keep (Keep.push (M := MZ)) fun z => z).keep k9 fun z => z⟩
      · obtain ⟨⟨x1, x4, rfl⟩, p6⟩ := hI
        exact ⟨trivial, hn _ _ ⟨_, _, _, _, rfl⟩⟩
    · obtain ⟨x1, x2, x3, x4, rfl⟩ := hI
      exact ⟨trivial, q _⟩

section
variable {P : Program} {w : World} {K : PySem.W.Frag} {mg : Str → Option Value} {base : Heap}
theorem o_is_whole (C : TxtT tts xts gl fr is ems emms cls mks fls mts K mg) (c : He.SaysD (faOf gl fr is) fn K) : OkF P w K mg base 1 "is_whole" s_is_whole ["thing"] p_is_whole := by
  obtain ⟨fd, F⟩ := c.def_ 0 (d := dfn "is_whole" 7) rfl
  exact okf_of (st := s_is_whole) F c_is_whole (by unfold p_is_whole; exact ar1_len) rfl (fun _ _ _ _ _ _ us hl => match us, hl with | [_], _ => rfl) (fun cdv A outer s H E B hr => d_is_whole C  hr) m_is_whole
theorem o_row_text (C : TxtT tts xts gl fr is ems emms cls mks fls mts K mg) (c : He.SaysD (faOf gl fr is) fn K) : OkF P w K mg base 1 "row_text" s_row_text ["clause"] p_row_text := by
  obtain ⟨fd, F⟩ := c.def_ 3 (d := dfn "row_text" 11) rfl
  exact okf_of (st := s_row_text) F c_row_text (by unfold p_row_text; exact ar1_len) rfl (fun _ _ _ _ _ _ us hl => match us, hl with | [_], _ => rfl) (fun cdv A outer s H E B hr => d_row_text C  hr) m_row_text
theorem o_number_in (C : TxtT tts xts gl fr is ems emms cls mks fls mts K mg) (c : He.SaysD (faOf gl fr is) fn K) : OkF P w K mg base 1 "number_in" s_number_in ["word"] p_number_in := by
  obtain ⟨fd, F⟩ := c.def_ 4 (d := dfn "number_in" 14) rfl
  exact okf_of (st := s_number_in) F c_number_in (by unfold p_number_in; exact ar1_len) rfl (fun _ _ _ _ _ _ us hl => match us, hl with | [_], _ => rfl) (fun cdv A outer s H E B hr => d_number_in C  hr) m_number_in
theorem o_law_cell (C : TxtT tts xts gl fr is ems emms cls mks fls mts K mg) (c : He.SaysD (faOf gl fr is) fn K) : OkF P w K mg base 1 "_law_cell" s_law_cell ["_law_script", "_law_k"] p_law_cell := by
  obtain ⟨fd, F⟩ := c.def_ 14 (d := dfn "_law_cell" 30) rfl
  exact okf_of (st := s_law_cell) F c_law_cell (by unfold p_law_cell; exact ar2_len) rfl (fun _ _ _ _ _ _ us hl => match us, hl with | [_, _], _ => rfl) (fun cdv A outer s H E B hr => d_law_cell C  hr) m_law_cell
theorem o_law_purse (C : TxtT tts xts gl fr is ems emms cls mks fls mts K mg) (c : He.SaysD (faOf gl fr is) fn K) : OkF P w K mg base 1 "_law_purse" s_law_purse ["_law_cell_here"] p_law_purse := by
  obtain ⟨fd, F⟩ := c.def_ 15 (d := dfn "_law_purse" 31) rfl
  exact okf_of (st := s_law_purse) F c_law_purse (by unfold p_law_purse; exact ar1_len) rfl (fun _ _ _ _ _ _ us hl => match us, hl with | [_], _ => rfl) (fun cdv A outer s H E B hr => d_law_purse C  hr) m_law_purse
theorem o_law_pick (C : TxtT tts xts gl fr is ems emms cls mks fls mts K mg) (c : He.SaysD (faOf gl fr is) fn K) : OkF P w K mg base 1 "_law_pick" s_law_pick ["_law_purse_here", "_law_many"] p_law_pick := by
  obtain ⟨fd, F⟩ := c.def_ 16 (d := dfn "_law_pick" 32) rfl
  exact okf_of (st := s_law_pick) F c_law_pick (by unfold p_law_pick; exact ar2_len) rfl (fun _ _ _ _ _ _ us hl => match us, hl with | [_, _], _ => rfl) (fun cdv A outer s H E B hr => d_law_pick C  hr) m_law_pick
theorem o_law_whole (C : TxtT tts xts gl fr is ems emms cls mks fls mts K mg) (c : He.SaysD (faOf gl fr is) fn K) : OkF P w K mg base 1 "_law_whole" s_law_whole ["_law_thing"] p_law_whole := by
  obtain ⟨fd, F⟩ := c.def_ 17 (d := dfn "_law_whole" 33) rfl
  exact okf_of (st := s_law_whole) F c_law_whole (by unfold p_law_whole; exact ar1_len) rfl (fun _ _ _ _ _ _ us hl => match us, hl with | [_], _ => rfl) (fun cdv A outer s H E B hr => d_law_whole C  hr) m_law_whole
theorem o_law_line_text (C : TxtT tts xts gl fr is ems emms cls mks fls mts K mg) (c : He.SaysD (faOf gl fr is) fn K) : OkF P w K mg base 1 "_law_line_text" s_law_line_text ["_law_line"] p_law_line_text := by
  obtain ⟨fd, F⟩ := c.def_ 19 (d := dfn "_law_line_text" 35) rfl
  exact okf_of (st := s_law_line_text) F c_law_line_text (by unfold p_law_line_text; exact ar1_len) rfl (fun _ _ _ _ _ _ us hl => match us, hl with | [_], _ => rfl) (fun cdv A outer s H E B hr => d_law_line_text C  hr) m_law_line_text
theorem o_is_lit (C : TxtT tts xts gl fr is ems emms cls mks fls mts K mg) (c : He.SaysD (faOf gl fr is) fn K) : OkF P w K mg base 2 "is_lit" s_is_lit ["thing"] p_is_lit := by
  obtain ⟨fd, F⟩ := c.def_ 1 (d := dfn "is_lit" 8) rfl
  exact okf_of (st := s_is_lit) F c_is_lit (by unfold p_is_lit; exact ar1_len) rfl (fun _ _ _ _ _ _ us hl => match us, hl with | [_], _ => rfl) (fun cdv A outer s H E B hr => d_is_lit C (o_is_whole C c) hr) m_is_lit
theorem o_lit_in_booktexts (C : TxtT tts xts gl fr is ems emms cls mks fls mts K mg) (c : He.SaysD (faOf gl fr is) fn K) : OkFA P w K mg base 2 "lit_in_booktexts" "lit_in" s_lit_in_booktexts ["word"] p_lit_in_booktexts := by
  obtain ⟨fd, F⟩ := c.def_ 5 (d := ⟨("lit_in_booktexts", none), "lit_in", "lit_in", defArgs (top 15), defBody (top 15), defScope (top 15), [], []⟩) rfl
  exact okfa_of (st := s_lit_in_booktexts) F c_lit_in_booktexts (by unfold p_lit_in_booktexts; exact ar1_len) rfl (fun _ _ _ _ _ _ us hl => match us, hl with | [_], _ => rfl) (fun cdv A outer s H E B hr => d_lit_in_booktexts C (o_number_in C c) hr) m_lit_in_booktexts
theorem o_lits_text (C : TxtT tts xts gl fr is ems emms cls mks fls mts K mg) (c : He.SaysD (faOf gl fr is) fn K) : OkF P w K mg base 2 "lits_text" s_lits_text ["clause"] p_lits_text := by
  obtain ⟨fd, F⟩ := c.def_ 6 (d := dfn "lits_text" 17) rfl
  exact okf_of (st := s_lits_text) F c_lits_text (by unfold p_lits_text; exact ar1_len) rfl (fun _ _ _ _ _ _ us hl => match us, hl with | [_], _ => rfl) (fun cdv A outer s H E B hr => d_lits_text C (o_row_text C c) hr) m_lits_text
theorem o_lit_in_logtexts (C : TxtT tts xts gl fr is ems emms cls mks fls mts K mg) (c : He.SaysD (faOf gl fr is) fn K) : OkFA P w K mg base 2 "lit_in_logtexts" "lit_in" s_lit_in_logtexts ["word"] p_lit_in_logtexts := by
  obtain ⟨fd, F⟩ := c.def_ 10 (d := ⟨("lit_in_logtexts", none), "lit_in", "lit_in", defArgs (top 24), defBody (top 24), defScope (top 24), [], []⟩) rfl
  exact okfa_of (st := s_lit_in_logtexts) F c_lit_in_logtexts (by unfold p_lit_in_logtexts; exact ar1_len) rfl (fun _ _ _ _ _ _ us hl => match us, hl with | [_], _ => rfl) (fun cdv A outer s H E B hr => d_lit_in_logtexts C (o_number_in C c) hr) m_lit_in_logtexts
theorem o_law_some_clause (C : TxtT tts xts gl fr is ems emms cls mks fls mts K mg) (c : He.SaysD (faOf gl fr is) fn K) : OkF P w K mg base 2 "_law_some_clause" s_law_some_clause ["_law_purse_here", "_law_size", "_law_upto"] p_law_some_clause := by
  obtain ⟨fd, F⟩ := c.def_ 18 (d := dfn "_law_some_clause" 34) rfl
  exact okf_of (st := s_law_some_clause) F c_law_some_clause (by unfold p_law_some_clause; exact ar3_len) rfl (fun _ _ _ _ _ _ us hl => match us, hl with | [_, _, _], _ => rfl) (fun cdv A outer s H E B hr => d_law_some_clause C (o_law_pick C c) hr) m_law_some_clause
theorem o_law_kinds_right (C : TxtT tts xts gl fr is ems emms cls mks fls mts K mg) (c : He.SaysD (faOf gl fr is) fn K) : OkF P w K mg base 2 "_law_kinds_right" s_law_kinds_right ["_law_told"] p_law_kinds_right := by
  obtain ⟨fd, F⟩ := c.def_ 21 (d := dfn "_law_kinds_right" 37) rfl
  exact okf_of (st := s_law_kinds_right) F c_law_kinds_right (by unfold p_law_kinds_right; exact ar1_len) rfl (fun _ _ _ _ _ _ us hl => match us, hl with | [_], _ => rfl) (fun cdv A outer s H E B hr => d_law_kinds_right C (o_law_whole C c) hr) m_law_kinds_right
theorem o_is_clause (C : TxtT tts xts gl fr is ems emms cls mks fls mts K mg) (c : He.SaysD (faOf gl fr is) fn K) : OkF P w K mg base 3 "is_clause" s_is_clause ["thing"] p_is_clause := by
  obtain ⟨fd, F⟩ := c.def_ 2 (d := dfn "is_clause" 9) rfl
  exact okf_of (st := s_is_clause) F c_is_clause (by unfold p_is_clause; exact ar1_len) rfl (fun _ _ _ _ _ _ us hl => match us, hl with | [_], _ => rfl) (fun cdv A outer s H E B hr => d_is_clause C (o_is_lit C c) hr) m_is_clause
theorem o_line_text (C : TxtT tts xts gl fr is ems emms cls mks fls mts K mg) (c : He.SaysD (faOf gl fr is) fn K) : OkF P w K mg base 3 "line_text" s_line_text ["line"] p_line_text := by
  obtain ⟨fd, F⟩ := c.def_ 9 (d := dfn "line_text" 23) rfl
  exact okf_of (st := s_line_text) F c_line_text (by unfold p_line_text; exact ar1_len) rfl (fun _ _ _ _ _ _ us hl => match us, hl with | [_], _ => rfl) (fun cdv A outer s H E B hr => d_line_text C (o_lits_text C c) hr) m_line_text
theorem o_law_shape (C : TxtT tts xts gl fr is ems emms cls mks fls mts K mg) (c : He.SaysD (faOf gl fr is) fn K) : OkF P w K mg base 3 "_law_shape" s_law_shape ["_law_purse_here", "_law_size"] p_law_shape := by
  obtain ⟨fd, F⟩ := c.def_ 20 (d := dfn "_law_shape" 36) rfl
  exact okf_of (st := s_law_shape) F c_law_shape (by unfold p_law_shape; exact ar2_len) rfl (fun _ _ _ _ _ _ us hl => match us, hl with | [_, _], _ => rfl) (fun cdv A outer s H E B hr => d_law_shape C (o_law_some_clause C c) (o_law_pick C c) hr) m_law_shape
theorem o_clause_in (C : TxtT tts xts gl fr is ems emms cls mks fls mts K mg) (c : He.SaysD (faOf gl fr is) fn K) : OkF P w K mg base 4 "clause_in" s_clause_in ["words"] p_clause_in := by
  obtain ⟨fd, F⟩ := c.def_ 7 (d := dfn "clause_in" 18) rfl
  exact okf_of (st := s_clause_in) F c_clause_in (by unfold p_clause_in; exact ar1_len) rfl (fun _ _ _ _ _ _ us hl => match us, hl with | [_], _ => rfl) (fun cdv A outer s H E B hr => d_clause_in C (o_lit_in_booktexts C c) (o_is_clause C c) hr) m_clause_in
theorem o_is_line (C : TxtT tts xts gl fr is ems emms cls mks fls mts K mg) (c : He.SaysD (faOf gl fr is) fn K) : OkF P w K mg base 4 "is_line" s_is_line ["thing"] p_is_line := by
  obtain ⟨fd, F⟩ := c.def_ 8 (d := dfn "is_line" 21) rfl
  exact okf_of (st := s_is_line) F c_is_line (by unfold p_is_line; exact ar1_len) rfl (fun _ _ _ _ _ _ us hl => match us, hl with | [_], _ => rfl) (fun cdv A outer s H E B hr => d_is_line C (o_is_whole C c) (o_is_clause C c) hr) m_is_line
theorem o_line_in (C : TxtT tts xts gl fr is ems emms cls mks fls mts K mg) (c : He.SaysD (faOf gl fr is) fn K) : OkF P w K mg base 5 "line_in" s_line_in ["row"] p_line_in := by
  obtain ⟨fd, F⟩ := c.def_ 11 (d := dfn "line_in" 26) rfl
  exact okf_of (st := s_line_in) F c_line_in (by unfold p_line_in; exact ar1_len) rfl (fun _ _ _ _ _ _ us hl => match us, hl with | [_], _ => rfl) (fun cdv A outer s H E B hr => d_line_in C (o_number_in C c) (o_lit_in_logtexts C c) (o_clause_in C c) (o_is_line C c) hr) m_line_in
theorem o_show_log (C : TxtT tts xts gl fr is ems emms cls mks fls mts K mg) (c : He.SaysD (faOf gl fr is) fn K) : OkF P w K mg base 5 "show_log" s_show_log ["log"] p_show_log := by
  obtain ⟨fd, F⟩ := c.def_ 12 (d := dfn "show_log" 27) rfl
  exact okf_of (st := s_show_log) F c_show_log (by unfold p_show_log; exact ar1_len) rfl (fun _ _ _ _ _ _ us hl => match us, hl with | [_], _ => rfl) (fun cdv A outer s H E B hr => d_show_log C (o_is_line C c) (o_line_text C c) hr) m_show_log
theorem o_read_log (C : TxtT tts xts gl fr is ems emms cls mks fls mts K mg) (c : He.SaysD (faOf gl fr is) fn K) : OkF P w K mg base 6 "read_log" s_read_log ["text"] p_read_log := by
  obtain ⟨fd, F⟩ := c.def_ 13 (d := dfn "read_log" 28) rfl
  exact okf_of (st := s_read_log) F c_read_log (by unfold p_read_log; exact ar1_len) rfl (fun _ _ _ _ _ _ us hl => match us, hl with | [_], _ => rfl) (fun cdv A outer s H E B hr => d_read_log C (o_line_in C c) hr) m_read_log
theorem o_law_right (C : TxtT tts xts gl fr is ems emms cls mks fls mts K mg) (c : He.SaysD (faOf gl fr is) fn K) : OkG P w K mg base 7 "_law_right" s_law_right ["_law_lines"] p_law_right := by
  obtain ⟨fd, F⟩ := c.def_ 22 (d := dfn "_law_right" 38) rfl
  exact okg_of (st := s_law_right) F c_law_right (by unfold p_law_right; exact ar1_len) rfl (fun _ _ _ _ _ _ us hl => match us, hl with | [_], _ => rfl) (fun cdv A outer s H E B hr hgd => d_law_right C (o_law_line_text C c) (o_show_log C c) (o_read_log C c) (o_law_kinds_right C c) hr hgd) m_law_right
theorem o_law (C : TxtT tts xts gl fr is ems emms cls mks fls mts K mg) (c : He.SaysD (faOf gl fr is) fn K) : OkG P w K mg base 8 "law" s_law ["_law_script"] p_law := by
  obtain ⟨fd, F⟩ := c.def_ 23 (d := dfn "law" 39) rfl
  exact okg_of (st := s_law) F c_law (by unfold p_law; exact ar1_len) rfl (fun _ _ _ _ _ _ us hl => match us, hl with | [_], _ => rfl) (fun cdv A outer s H E B hr hgd => d_law C (o_law_right C c) (o_read_log C c) (o_law_purse C c) (o_law_cell C c) (o_law_pick C c) (o_law_shape C c) hr hgd) m_law
end
end KK
open PySem PySem.W PySem.Calls PyProof.Rows
set_option maxHeartbeats 0 in
theorem PySem.Challenge.cw_clauseshrink_k25_logs_as_texts_holds : PySem.Challenge.rw_clauseshrink_k25_logs_as_texts.Holds := by
  w_on; o_law
  refine HandSHeadRun.head_any (r := OpenLaw.row PySem.Challenge.rw_clauseshrink_k25_logs_as_texts) (q := view (OpenLaw.row PySem.Challenge.rw_clauseshrink_k25_logs_as_texts).prog [39]) (H := KK.hk) (ob := KK.ob) (M := 6000) (loose := KK.loose) (d := HandSHeadRun.topDef (OpenLaw.row PySem.Challenge.rw_clauseshrink_k25_logs_as_texts).prog 39) (kwd := []) KK.ob_eq
    (by kernel_rfl) (fun s => by kernel_rfl) KK.run (by kernel_rfl) (by kernel_rfl) (by kernel_rfl) (by rfl) (by first | assumption | decide +kernel) (by decide +kernel) ⟨rfl, rfl, rfl, rfl, rfl, by decide +kernel⟩ ?hw ?hc
  case hw => w_witness2
  case hc =>
    refine Ab.walk_ofG (l := PySem.Challenge.rw_clauseshrink_k25_logs_as_texts) (n := 63) (k := 8) (x := "_law_script") rfl (by decide) (by kernel_rfl) ⟨rfl, by decide, by decide⟩ ?F
    intro w mg fa h Y G hmg0
    obtain ⟨K, KX, c⟩ := Y
    have hmg : mg ("law" : PySem.Str) = some (.ref fa) := by
      have e : (HandSHeadRun.topDef (OpenLaw.row PySem.Challenge.rw_clauseshrink_k25_logs_as_texts).prog 39).name = ("law" : PySem.Str) := by kernel_rfl
      rw [← e]
      exact hmg0
    have C : Ab.TxtT KK.tts KK.xts KK.gl KK.fr KK.is KK.ems KK.emms KK.cls KK.mks KK.fls KK.mts K mg := Ab.txtT_of KX G c
    have e := hmg.symm.trans (C.gl 24 rfl)
    cases e
    obtain ⟨fd, F⟩ := c.d.def_ 23 (d := KK.dfn "law" 39) rfl
    refine ⟨K, fd, Ab.spOf ⟨K, (PySem.Challenge.rw_clauseshrink_k25_logs_as_texts).prog, w⟩ KK.p_law, KX, fun s v => L2.FunD.bindsA (ps := ["_law_script"]) F (fun _ _ _ _ _ _ us hl => match us, hl with | [_], _ => rfl) s [v] rfl, fun H a ns hl o hS => Ab.law_sp (fun _ _ _ h => h) H a ns hl o hS, fun base _ _ => ?_⟩
    obtain ⟨fd', F1, _, F2⟩ := KK.o_law (P := (PySem.Challenge.rw_clauseshrink_k25_logs_as_texts).prog) (w := w) (base := base) C c.d
    have ef : fd' = fd := Ab.fund_inj F1 F
    rw [← ef]
    exact F2

