import PyProof.Rows.All
import Wide.All
import OpenK.AllK
import Wide.FinOn
import HandS.ForMost
import HandS.Walk
import HandS.Wide
import HandS.TupAny
import HandS.TupLe
import HandS.Style
import HandS.Deep
import HandS.IsInst
import HandS.TupLen
import HandS.Remove
import HandS.Conv
import HandS.Zip
import HandS.More
import KE.GoesEnum
import KE.GoesNew
import HandS.TryOnly
import HandS.Ends
import HandS.Exc
import HandS.ExcOwn
import HandS.ExcInit
import HandS.ExcIs
import KE.SortData
import KE.DataMinMax
import HandS.WideBits
import PyProof.ReprLen
import PyProof.ReprRoads
import HandS.Strs
import HandS.SetFor
import HandS.Dict
import HandS.SetKeys
import HandS.WrittenGet
import PyProof.StrBlock2
import HandS.Codes
import PyProof.StrLawsChain
import KE.KExcIs
import PyProof.Rows.CountFlat
import HandS.DictComp
import KE.KDictWalk
import HandS.NoneIn
import HandS.DictTup
import KE.DataCmp
import PyProof.Rows.IntBool
import KE.KDictZip
import KE.KDictPairs
import HandS.Replace
import KE.KDictSum
import KE.KDictCopyH
import PyProof.Transfer
import HandS.TupSets
import PySem.Challenge.RW_nightberths_k03_trains_made
set_option Elab.async false
set_option linter.all false
set_option maxRecDepth 100000
set_option maxHeartbeats 4000000
/-! Lv1: data (T), places (SV), the store (LO), what a heap has of them (Re), how it grows (Gr). -/
namespace Lv
open PySem L2

abbrev Fr := PySem.W.Frag
def Ex (H H' : Hp) : Prop := ∀ a o, H a = some o → H' a = some o
theorem Ex.refl (H : Hp) : Ex H H := fun _ _ h => h
theorem Ex.trans {H H1 H2 : Hp} (a : Ex H H1) (b : Ex H1 H2) : Ex H H2 := fun x o h => b x o (a x o h)
theorem ex_rd {H H' : Hp} {a : Addr} {u : HO} (e : Ex H H') (h : Rd H a u) : Rd H' a u := by
  rcases h with h | ⟨o, h⟩
  · exact Or.inl (e a _ h)
  · exact Or.inr ⟨o, e a _ h⟩
theorem ex_l {K : Fr} {H H' : Hp} {a : Addr} {xs : List V} (e : Ex H H') (h : SqL K H a xs) : SqL K H' a xs := by
  rcases h with h | h
  · exact Or.inl (ex_rd e h)
  · exact Or.inr h

/-- data, as it never changes -/
inductive T where
  | non | bl (b : Bool) | int (i : Int) | str (x : Str) | ref (a : Addr) | ty (n : String)
  | lst (xs : List T) | tup (xs : List T) | scr (xs : List T)
  /-- what never changes any more: an instance (its attributes' names, values), dicts (keys, values), a caught error with what it tells -/
  | obj (C : Addr) (ns : List Str) (xs : List T) | dk (ks : List Key) (xs : List T) | dt (ks : List (List Key)) (xs : List T) | exc (C : Addr) (t : T)
/-- a place's content: data, or a thing of the store -/
inductive SV where
  | d (t : T) | l (n : Nat)
/-- a record of a pool: an instance (its dict's address, its class, its fields), or a list -/
inductive PRec where
  | ins (dx C : Addr) (fs : List (Str × T))
  | lst (ts : List T)
def PRec.al (a : Addr) : PRec → List Addr
  | .ins dx _ _ => [a, dx]
  | .lst _ => [a]
def poolA (rs : List (Addr × PRec)) : List Addr := rs.flatMap fun r => r.2.al r.1
/-- a thing of the store: what may change -/
inductive LO where
  | lst (xs : List T) | tp (xs : List SV) | gone
  | dK (kvs : List (Key × T)) | dT (kvs : List (List Key × T))
  /-- with places within: a list, dicts, an instance (its dict at j) and its dict (of the instance at j) -/
  | ll (xs : List SV) | mK (kvs : List (Key × SV)) | mT (kvs : List (List Key × SV))
  /-- dicts that a loop walks: read, never written -/
  | fK (od : Obj) (vs : List V) (kvs : List (Key × SV)) | fT (od : Obj) (vs : List V) (kvs : List (List Key × SV))
  /-- dicts of data, locked -/
  | lK (od : Obj) (vs : List V) (kvs : List (Key × T)) | lT (od : Obj) (vs : List V) (kvs : List (List Key × T))
  | ins (C : Addr) (j : Nat) (fs : List (Str × SV)) | own (j : Nat)
  /-- a closed store of its own, the first thing of it stands here -/
  | box (st : List LO)
  /-- a list or a dict of data, and with it things that are known by their addresses (T.ref) -/
  | pool (o : LO) (rs : List (Addr × PRec))
abbrev AS := List (Option SV)
abbrev ST := List LO
/-- a place: its address, and those within it (a box's) -/
structure Ce where
  p : Addr
  io : List Addr
def Ce.al (c : Ce) : List Addr := c.p :: c.io
abbrev one (p : Addr) : Ce := ⟨p, []⟩
abbrev Fi := List Ce
def adr (φ : Fi) : List Addr := φ.flatMap Ce.al
def Fi.r (φ : Fi) (n : Nat) : Option Addr := (φ[n]?).map Ce.p
theorem adr_app (φ ψ : Fi) : adr (φ ++ ψ) = adr φ ++ adr ψ := List.flatMap_append
theorem adr_cons (c : Ce) (φ : Fi) : adr (c :: φ) = c.al ++ adr φ := rfl
theorem adr_mem {φ : Fi} {n : Nat} {c : Ce} {a : Addr} (h : φ[n]? = some c) (ha : a ∈ c.al) : a ∈ adr φ := List.mem_flatMap.mpr ⟨c, List.mem_of_getElem? h, ha⟩
theorem Ce.mem (c : Ce) : c.p ∈ c.al := List.mem_cons_self
theorem adr_p {φ : Fi} {n : Nat} {c : Ce} (h : φ[n]? = some c) : c.p ∈ adr φ := adr_mem h c.mem
theorem adr_of {φ : Fi} {a : Addr} (h : a ∈ adr φ) : ∃ (n : Nat) (c : Ce), φ[n]? = some c ∧ a ∈ c.al := by
  obtain ⟨c, hc, ha⟩ := List.mem_flatMap.mp h
  obtain ⟨n, hn⟩ := List.getElem?_of_mem hc
  exact ⟨n, c, hn, ha⟩
theorem Fi.r_of {φ : Fi} {n : Nat} {c : Ce} (h : φ[n]? = some c) : φ.r n = some c.p := by unfold Fi.r; rw [h]; rfl
theorem Fi.r_inv {φ : Fi} {n : Nat} {p : Addr} (h : φ.r n = some p) : ∃ c, φ[n]? = some c ∧ c.p = p := by
  unfold Fi.r at h
  cases q : φ[n]? with
  | none => rw [q] at h; cases h
  | some c => rw [q] at h; exact ⟨c, rfl, Option.some.inj h⟩
/-- unlike places have nothing in common -/
theorem adr_nd : ∀ {φ : Fi} {i j : Nat} {c d : Ce} {a : Addr}, (adr φ).Nodup → φ[i]? = some c → φ[j]? = some d → a ∈ c.al → a ∈ d.al → i = j
  | [], i, j, c, d, a, _, h, _, _, _ => by cases h
  | e :: φ, 0, 0, c, d, a, _, _, _, _, _ => rfl
  | e :: φ, 0, j + 1, c, d, a, nd, h1, h2, ha, hb => by
    have h1 : e = c := Option.some.inj h1
    subst h1
    have h2 : φ[j]? = some d := h2
    rw [adr_cons, List.nodup_append] at nd
    exact absurd rfl (nd.2.2 a ha a (adr_mem h2 hb))
  | e :: φ, i + 1, 0, c, d, a, nd, h1, h2, ha, hb => by
    have h2 : e = d := Option.some.inj h2
    subst h2
    have h1 : φ[i]? = some c := h1
    rw [adr_cons, List.nodup_append] at nd
    exact absurd rfl (nd.2.2 a hb a (adr_mem h1 ha))
  | e :: φ, i + 1, j + 1, c, d, a, nd, h1, h2, ha, hb => by
    rw [adr_cons, List.nodup_append] at nd
    exact congrArg Nat.succ (adr_nd (φ := φ) nd.2.1 h1 h2 ha hb)

/-- a tuple that stands: tracked, or of the written part -/
def TuW (K : Fr) (H : Hp) (a : Addr) (xs : List V) : Prop :=
  H a = some (.tup xs) ∨
    ((∃ (o : Obj) (its : Array Value) (n : Nat), K.lookup a = some o ∧ o.cls = .type "tuple" ∧ o.data = .seq its n ∧ its.size ≤ sizeLine ∧ Vals xs its.toList) ∧ ∀ x ∈ xs, ∃ z, x = V.str z)
theorem TuW.sq {K : Fr} {H : Hp} {a : Addr} {xs : List V} (h : TuW K H a xs) : SqT K H a xs := h.elim (fun h => .inl (.inl h)) fun h => .inr h.1
theorem TuW.mono {K : Fr} {H H' : Hp} {a : Addr} {xs : List V} (e : Ex H H') (h : TuW K H a xs) : TuW K H' a xs := h.elim (fun h => .inl (e _ _ h)) .inr
/-- an error's object -/
def ExO (C d a : Addr) : HO := .ext fun h => ∃ (oe : Obj) (vs : Array Value), h.get? a = some oe ∧ oe.cls = .ref C ∧ oe.dict = some d ∧ oe.data = .fields vs
mutual
inductive Fz (K : Fr) (B : Hp) : V → T → Prop
  | non : Fz K B .non .non
  | bl (b : Bool) : Fz K B (.bl b) (.bl b)
  | int (i : Int) : Fz K B (.int i) (.int i)
  | str (x : Str) : Fz K B (.str x) (.str x)
  | ref (a : Addr) : Fz K B (.ref a) (.ref a)
  | lst {a : Addr} {xs : List V} {ts : List T} : B a = some (.lst xs) → FzAll K B xs ts → Fz K B (.ref a) (.lst ts)
  | scr {a : Addr} {xs : List V} {ts : List T} : SqL K B a xs → FzAll K B xs ts → Fz K B (.ref a) (.scr ts)
  | ty (n : String) : Fz K B (.ty n) (.ty n)
  | tup {a : Addr} {xs : List V} {ts : List T} : TuW K B a xs → FzAll K B xs ts → Fz K B (.ref a) (.tup ts)
  | obj {a dx C : Addr} {ns : List Str} {xs : List V} {ts : List T} : B a = some (.ins C dx (ns.zip xs)) → B dx = some (.own a) → FzAll K B xs ts → ns.length = ts.length → Fz K B (.ref a) (.obj C ns ts)
  | dk {a : Addr} {od : Obj} {ks : List Key} {xs : List V} {ts : List T} : B a = some (.frz od (.dK (ks.zip xs))) → FzAll K B xs ts → ks.length = ts.length → Fz K B (.ref a) (.dk ks ts)
  | dt {a : Addr} {od : Obj} {ks : List (List Key)} {xs : List V} {ts : List T} : B a = some (.frz od (.dT (ks.zip xs))) → FzAll K B xs ts → ks.length = ts.length → Fz K B (.ref a) (.dt ks ts)
  | exc {a d C : Addr} {v : V} {t : T} : B a = some (ExO C d a) → B d = some (.xd [("what", v)]) → Fz K B v t → Fz K B (.ref a) (.exc C t)
inductive FzAll (K : Fr) (B : Hp) : List V → List T → Prop
  | nil : FzAll K B [] []
  | cons {v : V} {vs : List V} {t : T} {ts : List T} : Fz K B v t → FzAll K B vs ts → FzAll K B (v :: vs) (t :: ts)
end
section
variable {K : Fr} {B B' : Hp}
mutual
theorem Fz.mono (e : Ex B B') : ∀ {v : V} {t : T}, Fz K B v t → Fz K B' v t
  | _, _, .non => .non
  | _, _, .bl b => .bl b
  | _, _, .int i => .int i
  | _, _, .str x => .str x
  | _, _, .ref a => .ref a
  | _, _, .lst h r => .lst (e _ _ h) (FzAll.mono e r)
  | _, _, .scr h r => .scr (ex_l e h) (FzAll.mono e r)
  | _, _, .ty n => .ty n
  | _, _, .tup h r => .tup (h.mono e) (FzAll.mono e r)
  | _, _, .obj h g r l => .obj (e _ _ h) (e _ _ g) (FzAll.mono e r) l
  | _, _, .dk h r l => .dk (e _ _ h) (FzAll.mono e r) l
  | _, _, .dt h r l => .dt (e _ _ h) (FzAll.mono e r) l
  | _, _, .exc h g r => .exc (e _ _ h) (e _ _ g) (Fz.mono e r)
theorem FzAll.mono (e : Ex B B') : ∀ {vs : List V} {ts : List T}, FzAll K B vs ts → FzAll K B' vs ts
  | _, _, .nil => .nil
  | _, _, .cons h r => .cons (Fz.mono e h) (FzAll.mono e r)
end
theorem FzAll.length : ∀ {vs : List V} {ts : List T}, FzAll K B vs ts → vs.length = ts.length
  | _, _, .nil => rfl
  | _, _, .cons _ r => congrArg Nat.succ (FzAll.length r)
theorem FzAll.get : ∀ {vs : List V} {ts : List T} {i : Nat} {v : V}, FzAll K B vs ts → vs[i]? = some v → ∃ t, ts[i]? = some t ∧ Fz K B v t
  | _, _, _, _, .nil, e => by simp at e
  | _, _, 0, _, .cons h _, e => by simp at e; subst e; exact ⟨_, rfl, h⟩
  | _, _, i + 1, v, .cons _ r, e => by
    obtain ⟨t, h1, h2⟩ := FzAll.get (i := i) (v := v) r (by simpa using e)
    exact ⟨t, by simpa using h1, h2⟩
theorem FzAll.get' : ∀ {vs : List V} {ts : List T} {i : Nat} {t : T}, FzAll K B vs ts → ts[i]? = some t → ∃ v, vs[i]? = some v ∧ Fz K B v t
  | _, _, _, _, .nil, e => by simp at e
  | _, _, 0, _, .cons h _, e => by simp at e; subst e; exact ⟨_, rfl, h⟩
  | _, _, i + 1, v, .cons _ r, e => by
    obtain ⟨t, h1, h2⟩ := FzAll.get' (i := i) (t := v) r (by simpa using e)
    exact ⟨t, by simpa using h1, h2⟩
theorem FzAll.append : ∀ {vs ws : List V} {ts us : List T}, FzAll K B vs ts → FzAll K B ws us → FzAll K B (vs ++ ws) (ts ++ us)
  | _, _, _, _, .nil, h => h
  | _, _, _, _, .cons h r, q => .cons h (FzAll.append r q)
theorem FzAll.set {v : V} {t : T} (q : Fz K B v t) : ∀ {vs : List V} {ts : List T} (i : Nat), FzAll K B vs ts → FzAll K B (vs.set i v) (ts.set i t)
  | _, _, _, .nil => .nil
  | _, _, 0, .cons _ r => .cons q r
  | _, _, i + 1, .cons h r => .cons h (FzAll.set q i r)
theorem FzAll.take : ∀ {vs : List V} {ts : List T} (i : Nat), FzAll K B vs ts → FzAll K B (vs.take i) (ts.take i)
  | _, _, 0, _ => .nil
  | _, _, _ + 1, .nil => .nil
  | _, _, i + 1, .cons h r => .cons h (FzAll.take i r)
theorem FzAll.drop : ∀ {vs : List V} {ts : List T} (i : Nat), FzAll K B vs ts → FzAll K B (vs.drop i) (ts.drop i)
  | _, _, 0, r => r
  | _, _, _ + 1, .nil => .nil
  | _, _, i + 1, .cons _ r => FzAll.drop i r
theorem FzAll.reverse : ∀ {vs : List V} {ts : List T}, FzAll K B vs ts → FzAll K B vs.reverse ts.reverse
  | _, _, .nil => .nil
  | _, _, .cons h r => by
    rw [List.reverse_cons, List.reverse_cons]
    exact FzAll.append (FzAll.reverse r) (.cons h .nil)
theorem FzAll.erase : ∀ {vs : List V} {ts : List T} (i : Nat), FzAll K B vs ts → FzAll K B (vs.eraseIdx i) (ts.eraseIdx i)
  | _, _, _, .nil => .nil
  | _, _, 0, .cons _ r => r
  | _, _, i + 1, .cons h r => .cons h (FzAll.erase i r)
theorem FzAll.rep {vs : List V} {ts : List T} (h : FzAll K B vs ts) : ∀ k : Nat, FzAll K B (List.replicate k vs).flatten (List.replicate k ts).flatten
  | 0 => .nil
  | k + 1 => by
    rw [List.replicate_succ, List.replicate_succ, List.flatten_cons, List.flatten_cons]
    exact FzAll.append h (FzAll.rep h k)
theorem FzAll.ints : ∀ (ns : List Int), FzAll K B (ns.map V.int) (ns.map T.int)
  | [] => .nil
  | n :: r => .cons (.int n) (FzAll.ints r)
theorem FzAll.of_ints : ∀ {vs : List V} {ns : List Int}, FzAll K B vs (ns.map T.int) → vs = ns.map V.int
  | _, [], .nil => rfl
  | _, _ :: _, .cons (.int _) r => by rw [FzAll.of_ints r]; rfl
theorem FzAll.of_bls : ∀ {vs : List V} {ns : List Bool}, FzAll K B vs (ns.map T.bl) → vs = ns.map V.bl
  | _, [], .nil => rfl
  | _, _ :: _, .cons (.bl _) r => by rw [FzAll.of_bls r]; rfl
theorem FzAll.of_strs : ∀ {vs : List V} {ns : List Str}, FzAll K B vs (ns.map T.str) → vs = ns.map V.str
  | _, [], .nil => rfl
  | _, _ :: _, .cons (.str _) r => by rw [FzAll.of_strs r]; rfl
end

/-! ### places and the store over a heap -/
def Rs (K : Fr) (B : Hp) (φ : Fi) (v : V) : SV → Prop
  | .d t => Fz K B v t
  | .l n => ∃ p, φ.r n = some p ∧ v = .ref p
inductive RsAll (K : Fr) (B : Hp) (φ : Fi) : List V → List SV → Prop
  | nil : RsAll K B φ [] []
  | cons {v : V} {vs : List V} {x : SV} {xs : List SV} : Rs K B φ v x → RsAll K B φ vs xs → RsAll K B φ (v :: vs) (x :: xs)
/-- what stands at a place of the store -/
def Ro (K : Fr) (B : Hp) (φ : Fi) : LO → Option HO → Prop
  | .gone, _ => True
  | .lst ts, u => ∃ vs, FzAll K B vs ts ∧ u = some (.lst vs)
  | .tp xs, u => ∃ vs, RsAll K B φ vs xs ∧ u = some (.tup vs)
  | .dK kvs, u => ∃ vs, FzAll K B vs (kvs.map (·.2)) ∧ u = some (.dK ((kvs.map (·.1)).zip vs))
  | .dT kvs, u => ∃ vs, FzAll K B vs (kvs.map (·.2)) ∧ u = some (.dT ((kvs.map (·.1)).zip vs))
  | .ll xs, u => ∃ vs, RsAll K B φ vs xs ∧ u = some (.lst vs)
  | .mK kvs, u => ∃ vs, RsAll K B φ vs (kvs.map (·.2)) ∧ u = some (.dK ((kvs.map (·.1)).zip vs))
  | .mT kvs, u => ∃ vs, RsAll K B φ vs (kvs.map (·.2)) ∧ u = some (.dT ((kvs.map (·.1)).zip vs))
  | .fK od vs kvs, u => RsAll K B φ vs (kvs.map (·.2)) ∧ u = some (.frz od (.dK ((kvs.map (·.1)).zip vs)))
  | .fT od vs kvs, u => RsAll K B φ vs (kvs.map (·.2)) ∧ u = some (.frz od (.dT ((kvs.map (·.1)).zip vs)))
  | .lK od vs kvs, u => FzAll K B vs (kvs.map (·.2)) ∧ u = some (.frz od (.dK ((kvs.map (·.1)).zip vs)))
  | .lT od vs kvs, u => FzAll K B vs (kvs.map (·.2)) ∧ u = some (.frz od (.dT ((kvs.map (·.1)).zip vs)))
  | .ins C j fs, u => ∃ vs dx, RsAll K B φ vs (fs.map (·.2)) ∧ φ.r j = some dx ∧ u = some (.ins C dx ((fs.map (·.1)).zip vs))
  | .own j, u => ∃ x, φ.r j = some x ∧ u = some (.own x)
  | .box _, _ => False
  | .pool _ _, _ => False
/-- a list, a dict of data -/
def LO.shl : LO → Bool
  | .lst _ => true
  | .dK _ => true
  | .dT _ => true
  | .lK _ _ _ => true
  | .lT _ _ _ => true
  | _ => false
/-- a record where it stands -/
def Po (K : Fr) (B H : Hp) (a : Addr) : PRec → Prop
  | .ins dx C fs => ∃ vs, FzAll K B vs (fs.map (·.2)) ∧ H a = some (.ins C dx ((fs.map (·.1)).zip vs)) ∧ H dx = some (.own a)
  | .lst ts => ∃ vs, FzAll K B vs ts ∧ H a = some (.lst vs)
def LO.is : LO → Bool
  | .gone => false
  | _ => true
/-- no box, not gone -/
def LO.smp : LO → Bool
  | .gone => false
  | .box _ => false
  | .pool _ _ => false
  | _ => true
/-- with what is within it -/
inductive Rc (K : Fr) (B H : Hp) : Fi → Ce → LO → Prop
  | gone {φ : Fi} {c : Ce} : Rc K B H φ c .gone
  | sim {φ : Fi} {c : Ce} {o : LO} : o.smp = true → c.io = [] → Ro K B φ o (H c.p) → Rc K B H φ c o
  | box {φ : Fi} {c : Ce} {st : List LO} (ψ : Fi) : c.al = adr ψ → ψ.length = st.length → (∀ (n : Nat) d o, ψ[n]? = some d → st[n]? = some o → o.is = true) → (∀ (n : Nat) d o, ψ[n]? = some d → st[n]? = some o → Rc K B H ψ d o) → Rc K B H φ c (.box st)
  | pool {φ : Fi} {c : Ce} {o : LO} {rs : List (Addr × PRec)} : o.shl = true → c.io = poolA rs → Ro K B φ o (H c.p) → (∀ r ∈ rs, Po K B H r.1 r.2) → Rc K B H φ c (.pool o rs)
/-- a tuple of whole numbers and texts (a dict's key) stands there: it may be data whoever made it -/
def kT (H : Hp) (a : Addr) : Prop := ∃ k : List Key, H a = some (.tup (k.map kV))
theorem kT_upd {H : Hp} {p a : Addr} {u : HO} (h : kT H a) (hp : H p = none) : kT (upd H p u) a := by
  obtain ⟨k, h⟩ := h
  exact ⟨k, by rw [upd_ne (ne_of_none h hp)]; exact h⟩
theorem kT_ne {H : Hp} {p a : Addr} {u : HO} (h : kT H a) (hp : a ≠ p) : kT (upd H p u) a := by
  obtain ⟨k, h⟩ := h
  exact ⟨k, by rw [upd_ne hp]; exact h⟩
theorem kT_no {H : Hp} {a : Addr} {o : HO} (e : H a = some o) (ho : ∀ xs : List V, o ≠ HO.tup xs) : ¬ kT H a := fun ⟨k, h⟩ => by rw [e] at h; exact ho _ (Option.some.inj h)
/-- how heap, data and store grow: what stood and isn't the store's stays; new things of the store are new -/
structure Gr (H B : Hp) (φ : Fi) (H' B' : Hp) (φ' : Fi) : Prop where
  eb : Ex B B'
  pf : ∃ r, φ'.map Ce.p = φ.map Ce.p ++ r
  kp : ∀ a o, H a = some o → a ∉ adr φ → H' a = some o
  nb : ∀ a, B a = none → H a ≠ none → a ∉ adr φ → B' a = none ∨ kT H a
  nf : ∀ a ∈ adr φ', a ∈ adr φ ∨ H a = none
abbrev MP := Hp → Hp → Fi → Prop
structure Re (K : Fr) (M : MP) (H B : Hp) (φ : Fi) (s : ST) : Prop where
  ex : Ex B H
  nd : (adr φ).Nodup
  len : φ.length = s.length
  al : ∀ p ∈ adr φ, H p ≠ none
  fr : ∀ (n : Nat) c o, φ[n]? = some c → s[n]? = some o → o.is = true → ∀ a ∈ c.al, B a = none ∨ kT H a
  ob : ∀ (n : Nat) c o, φ[n]? = some c → s[n]? = some o → Rc K B H φ c o
  pm : ∀ H' B' φ', Gr H B φ H' B' φ' → M H' B' φ'
/-- the slots -/
structure Rsl (K : Fr) (B : Hp) (φ : Fi) (σ : St) (δ : AS) : Prop where
  len : σ.length = δ.length
  at_ : ∀ (i : Nat) x, δ[i]? = some (some x) → ∃ v, σ[i]? = some (some v) ∧ Rs K B φ v x

section
variable {K : Fr} {M : MP} {H H' H2 B B' B2 : Hp} {φ φ' φ2 : Fi} {s s' : ST} {σ : St} {δ : AS} {v : V} {x : SV}
theorem r_app {φ : Fi} {n : Nat} {p : Addr} (r : Fi) (h : φ.r n = some p) : (φ ++ r).r n = some p := by
  obtain ⟨c, h1, rfl⟩ := Fi.r_inv h
  exact Fi.r_of (by rw [List.getElem?_append_left (List.getElem?_eq_some_iff.mp h1).1]; exact h1)
theorem r_map (φ : Fi) (n : Nat) : φ.r n = (φ.map Ce.p)[n]? := by unfold Fi.r; rw [List.getElem?_map]
theorem Gr.refl : Gr H B φ H B φ := ⟨Ex.refl B, ⟨[], by simp⟩, fun _ _ h _ => h, fun _ h _ _ => .inl h, fun _ h => Or.inl h⟩
theorem Gr.get (g : Gr H B φ H' B' φ') {n : Nat} {p : Addr} (h : φ.r n = some p) : φ'.r n = some p := by
  obtain ⟨r, e⟩ := g.pf
  rw [r_map] at h ⊢
  rw [e, List.getElem?_append_left (List.getElem?_eq_some_iff.mp h).1]
  exact h
theorem Gr.le (g : Gr H B φ H' B' φ') : φ.length ≤ φ'.length := by
  obtain ⟨r, e⟩ := g.pf
  have := congrArg List.length e
  rw [List.length_append, List.length_map, List.length_map] at this
  omega
theorem Gr.trans (g : Gr H B φ H' B' φ') (h : Gr H' B' φ' H2 B2 φ2) : Gr H B φ H2 B2 φ2 where
  eb := g.eb.trans h.eb
  pf := by
    obtain ⟨r, e⟩ := g.pf
    obtain ⟨r2, e2⟩ := h.pf
    exact ⟨r ++ r2, by rw [e2, e, List.append_assoc]⟩
  kp := fun a o ha hn => h.kp a o (g.kp a o ha hn) fun hm => by
    rcases g.nf a hm with z | z
    · exact hn z
    · rw [z] at ha; cases ha
  nb := fun a hb hh hn => by
    cases q : H a with
    | none => exact absurd q hh
    | some o =>
      rcases g.nb a hb hh hn with hb | hk
      rotate_left
      · exact .inr hk
      refine (h.nb a hb (by rw [g.kp a o q hn]; exact fun z => nomatch z) fun hm => ?_).imp id fun ⟨k, z⟩ => ⟨k, by rw [g.kp a o q hn, ← q] at z; exact z⟩
      rcases g.nf a hm with z | z
      · exact hn z
      · exact hh z
  nf := fun a hm => by
    rcases h.nf a hm with z | z
    · exact g.nf a z
    · by_cases hn : a ∈ adr φ
      · exact Or.inl hn
      · refine Or.inr ?_
        cases q : H a with
        | none => rfl
        | some o =>
          rw [g.kp a o q hn] at z
          cases z
/-- places and data as they are, or more -/
structure Mo (B : Hp) (φ : Fi) (B' : Hp) (φ' : Fi) : Prop where
  eb : Ex B B'
  rt : ∀ (n : Nat) p, φ.r n = some p → φ'.r n = some p
theorem Gr.mo (g : Gr H B φ H' B' φ') : Mo B φ B' φ' := ⟨g.eb, fun _ _ h => g.get h⟩
theorem Mo.refl : Mo B φ B φ := ⟨Ex.refl B, fun _ _ h => h⟩
theorem Mo.trans (a : Mo B φ B' φ') (b : Mo B' φ' B2 φ2) : Mo B φ B2 φ2 := ⟨a.eb.trans b.eb, fun n p h => b.rt n p (a.rt n p h)⟩
theorem Rs.mo (g : Mo B φ B' φ') (h : Rs K B φ v x) : Rs K B' φ' v x := by
  cases x with
  | d t => exact Fz.mono g.eb h
  | l n =>
    obtain ⟨p, h1, h2⟩ := h
    exact ⟨p, g.rt n p h1, h2⟩
theorem RsAll.mo (g : Mo B φ B' φ') : ∀ {vs : List V} {xs : List SV}, RsAll K B φ vs xs → RsAll K B' φ' vs xs
  | _, _, .nil => .nil
  | _, _, .cons h r => .cons (h.mo g) (RsAll.mo g r)
theorem Rs.mono (g : Gr H B φ H' B' φ') (h : Rs K B φ v x) : Rs K B' φ' v x := h.mo g.mo
theorem RsAll.mono (g : Gr H B φ H' B' φ') {vs : List V} {xs : List SV} (h : RsAll K B φ vs xs) : RsAll K B' φ' vs xs := h.mo g.mo
theorem RsAll.length : ∀ {vs : List V} {xs : List SV}, RsAll K B φ vs xs → vs.length = xs.length
  | _, _, .nil => rfl
  | _, _, .cons _ r => congrArg Nat.succ (RsAll.length r)
theorem RsAll.get' : ∀ {vs : List V} {ts : List SV} {i : Nat} {t : SV}, RsAll K B φ vs ts → ts[i]? = some t → ∃ v, vs[i]? = some v ∧ Rs K B φ v t
  | _, _, _, _, .nil, e => by simp at e
  | _, _, 0, _, .cons h _, e => by simp at e; subst e; exact ⟨_, rfl, h⟩
  | _, _, i + 1, v, .cons _ r, e => by
    obtain ⟨t, h1, h2⟩ := RsAll.get' (i := i) (t := v) r (by simpa using e)
    exact ⟨t, by simpa using h1, h2⟩
theorem RsAll.get : ∀ {vs : List V} {ts : List SV} {i : Nat} {v : V}, RsAll K B φ vs ts → vs[i]? = some v → ∃ t, ts[i]? = some t ∧ Rs K B φ v t
  | _, _, _, _, .nil, e => by simp at e
  | _, _, 0, _, .cons h _, e => by simp at e; subst e; exact ⟨_, rfl, h⟩
  | _, _, i + 1, v, .cons _ r, e => by
    obtain ⟨t, h1, h2⟩ := RsAll.get (i := i) (v := v) r (by simpa using e)
    exact ⟨t, by simpa using h1, h2⟩
/-- all of them data -/
def dats : List SV → Option (List T)
  | [] => some []
  | .d t :: r => (dats r).map (t :: ·)
  | .l _ :: _ => none
theorem RsAll.dats : ∀ {vs : List V} {xs : List SV} {ts : List T}, RsAll K B φ vs xs → Lv.dats xs = some ts → FzAll K B vs ts
  | _, _, ts, .nil, e => by cases e; exact .nil
  | _, .d t :: xs, ts, .cons h r, e => by
    unfold Lv.dats at e
    cases q : Lv.dats xs with
    | none => rw [q] at e; cases e
    | some us =>
      rw [q] at e
      cases e
      exact .cons h (RsAll.dats r q)
  | _, .l _ :: _, ts, .cons h r, e => by cases e
theorem RsAll.of_fz : ∀ {vs : List V} {ts : List T}, FzAll K B vs ts → RsAll K B φ vs (ts.map SV.d)
  | _, _, .nil => .nil
  | _, _, .cons h r => .cons h (RsAll.of_fz r)
theorem Rsl.mo (g : Mo B φ B' φ') (h : Rsl K B φ σ δ) : Rsl K B' φ' σ δ :=
  ⟨h.len, fun i x e => let ⟨v, e1, r⟩ := h.at_ i x e; ⟨v, e1, r.mo g⟩⟩
theorem Rsl.mono (g : Gr H B φ H' B' φ') (h : Rsl K B φ σ δ) : Rsl K B' φ' σ δ := h.mo g.mo
theorem Rsl.set (h : Rsl K B φ σ δ) (i : Nat) (r : Rs K B φ v x) : Rsl K B φ (σ.set i (some v)) (δ.set i (some x)) := by
  refine ⟨by rw [List.length_set, List.length_set]; exact h.len, fun j y e => ?_⟩
  by_cases hij : i = j
  · subst hij
    have hl : i < δ.length := by
      have := (List.getElem?_eq_some_iff.mp e).1
      rwa [List.length_set] at this
    rw [List.getElem?_set_self hl] at e
    cases e
    exact ⟨v, by rw [List.getElem?_set_self (by rw [h.len]; exact hl)], r⟩
  · rw [List.getElem?_set_ne hij] at e
    obtain ⟨w, e1, r1⟩ := h.at_ j y e
    exact ⟨w, by rw [List.getElem?_set_ne hij]; exact e1, r1⟩
/-- forgetting slots -/
theorem Rsl.weak {δ' : AS} (h : Rsl K B φ σ δ) (hl : δ'.length = δ.length) (w : ∀ (i : Nat) x, δ'[i]? = some (some x) → δ[i]? = some (some x)) : Rsl K B φ σ δ' :=
  ⟨h.len.trans hl.symm, fun i x e => h.at_ i x (w i x e)⟩

theorem Ro.mo (g : Mo B φ B' φ') {o : LO} {u : Option HO} (h : Ro K B φ o u) : Ro K B' φ' o u := by
  cases o with
  | gone => trivial
  | lst ts => obtain ⟨vs, h1, h2⟩ := h; exact ⟨vs, h1.mono g.eb, h2⟩
  | tp xs => obtain ⟨vs, h1, h2⟩ := h; exact ⟨vs, h1.mo g, h2⟩
  | dK kvs => obtain ⟨vs, h1, h2⟩ := h; exact ⟨vs, h1.mono g.eb, h2⟩
  | dT kvs => obtain ⟨vs, h1, h2⟩ := h; exact ⟨vs, h1.mono g.eb, h2⟩
  | ll xs => obtain ⟨vs, h1, h2⟩ := h; exact ⟨vs, h1.mo g, h2⟩
  | mK kvs => obtain ⟨vs, h1, h2⟩ := h; exact ⟨vs, h1.mo g, h2⟩
  | mT kvs => obtain ⟨vs, h1, h2⟩ := h; exact ⟨vs, h1.mo g, h2⟩
  | fK od vs kvs => obtain ⟨h1, h2⟩ := h; exact ⟨h1.mo g, h2⟩
  | fT od vs kvs => obtain ⟨h1, h2⟩ := h; exact ⟨h1.mo g, h2⟩
  | lK od vs kvs => obtain ⟨h1, h2⟩ := h; exact ⟨h1.mono g.eb, h2⟩
  | lT od vs kvs => obtain ⟨h1, h2⟩ := h; exact ⟨h1.mono g.eb, h2⟩
  | ins C j fs => obtain ⟨vs, dx, h1, h2, h3⟩ := h; exact ⟨vs, dx, h1.mo g, g.rt _ _ h2, h3⟩
  | own j => obtain ⟨x, h1, h2⟩ := h; exact ⟨x, g.rt _ _ h1, h2⟩
  | box _ => exact h.elim
  | pool _ _ => exact h.elim
theorem Po.mo (e : Ex B B') {a : Addr} {r : PRec} (h : Po K B H a r) (k : ∀ x ∈ r.al a, H' x = H x) : Po K B' H' a r := by
  cases r with
  | ins dx C fs =>
    obtain ⟨vs, h1, h2, h3⟩ := h
    exact ⟨vs, h1.mono e, by rw [k a (by simp [PRec.al])]; exact h2, by rw [k dx (by simp [PRec.al])]; exact h3⟩
  | lst ts =>
    obtain ⟨vs, h1, h2⟩ := h
    exact ⟨vs, h1.mono e, by rw [k a (by simp [PRec.al])]; exact h2⟩
theorem Ro.shl {φ φ' : Fi} {o : LO} {u : Option HO} (h : Ro K B φ o u) (w : o.shl = true) : Ro K B φ' o u := by
  cases o with
  | lst ts => exact h
  | dK kvs => exact h
  | dT kvs => exact h
  | lK _ _ _ => exact h
  | lT _ _ _ => exact h
  | _ => cases w
theorem poolA_mem {rs : List (Addr × PRec)} {r : Addr × PRec} {a : Addr} (h : r ∈ rs) (ha : a ∈ r.2.al r.1) : a ∈ poolA rs := List.mem_flatMap.mpr ⟨r, h, ha⟩
theorem Ro.mono (g : Gr H B φ H' B' φ') {o : LO} {u : Option HO} (h : Ro K B φ o u) : Ro K B' φ' o u := h.mo g.mo
theorem Rc.mo {c : Ce} {o : LO} (h : Rc K B H φ c o) : ∀ {B' : Hp} {φ' : Fi} {H' : Hp}, Mo B φ B' φ' → (∀ a ∈ c.al, H' a = H a) → Rc K B' H' φ' c o := by
  induction h with
  | gone => intro B' φ' H' _ _; exact .gone
  | sim h1 h2 h3 => intro B' φ' H' g e; exact .sim h1 h2 (by rw [e _ (Ce.mem _)]; exact h3.mo g)
  | @box φ c st ψ h1 h2 h3 h4 ih =>
    intro B' φ' H' g e
    refine .box ψ h1 h2 h3 fun n d o q1 q2 => ih n d o q1 q2 ⟨g.eb, fun _ _ h => h⟩ fun a ha => e a ?_
    rw [h1]; exact adr_mem q1 ha
  | pool h1 h2 h3 h4 =>
    intro B' φ' H' g e
    exact .pool h1 h2 (by rw [e _ (Ce.mem _)]; exact h3.mo g) fun r hr => (h4 r hr).mo g.eb fun x hx => e x (List.mem_cons_of_mem _ (by rw [h2]; exact poolA_mem hr hx))
theorem Ro.some {o : LO} {u : Option HO} (h : Ro K B φ o u) (i : o.is = true) : ∃ w, u = some w := by
  cases o with
  | gone => cases i
  | lst ts => obtain ⟨vs, h1, h2⟩ := h; exact ⟨_, h2⟩
  | tp xs => obtain ⟨vs, h1, h2⟩ := h; exact ⟨_, h2⟩
  | dK kvs => obtain ⟨vs, h1, h2⟩ := h; exact ⟨_, h2⟩
  | dT kvs => obtain ⟨vs, h1, h2⟩ := h; exact ⟨_, h2⟩
  | ll xs => obtain ⟨vs, h1, h2⟩ := h; exact ⟨_, h2⟩
  | mK kvs => obtain ⟨vs, h1, h2⟩ := h; exact ⟨_, h2⟩
  | mT kvs => obtain ⟨vs, h1, h2⟩ := h; exact ⟨_, h2⟩
  | fK od vs kvs => obtain ⟨h1, h2⟩ := h; exact ⟨_, h2⟩
  | fT od vs kvs => obtain ⟨h1, h2⟩ := h; exact ⟨_, h2⟩
  | lK od vs kvs => obtain ⟨h1, h2⟩ := h; exact ⟨_, h2⟩
  | lT od vs kvs => obtain ⟨h1, h2⟩ := h; exact ⟨_, h2⟩
  | ins C j fs => obtain ⟨vs, dx, h1, h2, h3⟩ := h; exact ⟨_, h3⟩
  | own j => obtain ⟨x, h1, h2⟩ := h; exact ⟨_, h2⟩
  | box _ => exact h.elim
  | pool _ _ => exact h.elim
theorem smp_is {o : LO} (h : o.smp = true) : o.is = true := by cases o <;> first | rfl | cases h
theorem Re.none_b (e : Re K M H B φ s) {p : Addr} (h : H p = none) : B p = none := by
  cases q : B p with
  | none => rfl
  | some o => rw [e.ex p o q] at h; cases h
theorem Rc.simp_ {c : Ce} {o : LO} (h : Rc K B H φ c o) (w : o.smp = true) : c = one c.p ∧ Ro K B φ o (H c.p) := by
  cases h with
  | gone => cases w
  | sim _ h2 h3 => exact ⟨by cases c; cases h2; rfl, h3⟩
  | box => cases w
  | pool => cases w
/-- a thing that is no box, where it stands -/
theorem Re.at_ (e : Re K M H B φ s) {n : Nat} {o : LO} (h : s[n]? = some o) (w : o.smp = true := by rfl) : ∃ p, φ[n]? = some (one p) ∧ Ro K B φ o (H p) := by
  have hl : n < φ.length := by rw [e.len]; exact (List.getElem?_eq_some_iff.mp h).1
  have hc : φ[n]? = some φ[n] := List.getElem?_eq_getElem hl
  obtain ⟨h1, h2⟩ := (e.ob n _ o hc h).simp_ w
  exact ⟨φ[n].p, by rw [← h1]; exact hc, h2⟩
/-- what may change -/
def LO.mt : LO → Bool
  | .tp _ => false
  | .gone => false
  | .box _ => false
  | .pool _ _ => false
  | _ => true
theorem mt_smp {o : LO} (h : o.mt = true) : o.smp = true := by cases o <;> first | rfl | cases h
theorem Ro.mt {o : LO} {u : Option HO} (h : Ro K B φ o u) (m : o.mt = true) : ∃ w : HO, u = Option.some w ∧ ∀ xs : List V, w ≠ HO.tup xs := by
  cases o with
  | gone => cases m
  | tp _ => cases m
  | lst ts => obtain ⟨vs, h1, h2⟩ := h; exact ⟨_, h2, fun _ e => by cases e⟩
  | dK ts => obtain ⟨vs, h1, h2⟩ := h; exact ⟨_, h2, fun _ e => by cases e⟩
  | dT ts => obtain ⟨vs, h1, h2⟩ := h; exact ⟨_, h2, fun _ e => by cases e⟩
  | ll ts => obtain ⟨vs, h1, h2⟩ := h; exact ⟨_, h2, fun _ e => by cases e⟩
  | mK ts => obtain ⟨vs, h1, h2⟩ := h; exact ⟨_, h2, fun _ e => by cases e⟩
  | mT ts => obtain ⟨vs, h1, h2⟩ := h; exact ⟨_, h2, fun _ e => by cases e⟩
  | fK _ _ _ => obtain ⟨h1, h2⟩ := h; exact ⟨_, h2, fun _ e => by cases e⟩
  | fT _ _ _ => obtain ⟨h1, h2⟩ := h; exact ⟨_, h2, fun _ e => by cases e⟩
  | lK _ _ _ => obtain ⟨h1, h2⟩ := h; exact ⟨_, h2, fun _ e => by cases e⟩
  | lT _ _ _ => obtain ⟨h1, h2⟩ := h; exact ⟨_, h2, fun _ e => by cases e⟩
  | ins C j fs => obtain ⟨vs, dx, h1, h2, h3⟩ := h; exact ⟨_, h3, fun _ e => by cases e⟩
  | own j => obtain ⟨x, h1, h2⟩ := h; exact ⟨_, h2, fun _ e => by cases e⟩
  | box _ => cases m
  | pool _ _ => cases m
theorem Re.frN (e : Re K M H B φ s) {n : Nat} {c : Ce} {o : LO} {a : Addr} {u : HO} (h1 : φ[n]? = some c) (h2 : s[n]? = some o) (h3 : o.is = true) (ha : a ∈ c.al) (hu : H a = some u) (hn : ∀ xs : List V, u ≠ HO.tup xs) : B a = none := (e.fr n c o h1 h2 h3 a ha).resolve_right (kT_no hu hn)
theorem Re.fr1 (e : Re K M H B φ s) {n : Nat} {p : Addr} {o : LO} (h1 : φ[n]? = some (one p)) (h2 : s[n]? = some o) (h3 : o.mt = true) : B p = none := by
  obtain ⟨q, hq, ro⟩ := e.at_ h2 (mt_smp h3)
  rw [h1] at hq
  cases hq
  obtain ⟨w, e1, e2⟩ := ro.mt h3
  exact e.frN h1 h2 (smp_is (mt_smp h3)) (Ce.mem _) e1 e2
theorem Gr.nbN (g : Gr H B φ H' B' φ') {a : Addr} {u : HO} (h : B a = none) (hu : H a = some u) (hn : ∀ xs : List V, u ≠ HO.tup xs) (ha : a ∉ adr φ) : B' a = none := (g.nb a h (by rw [hu]; exact fun z => nomatch z) ha).resolve_right (kT_no hu hn)
theorem Re.top (e : Re K M H B φ s) (p : Addr) : Fi.r (φ ++ [one p]) s.length = some p := Fi.r_of (c := one p) (by rw [List.getElem?_append_right (by rw [e.len]; exact Nat.le_refl _), e.len, Nat.sub_self]; rfl)
theorem Rs.at_ {p : Addr} {n : Nat} (r : Rs K B φ v (.l n)) (h : φ[n]? = some (one p)) : v = .ref p := by
  obtain ⟨q, h1, h2⟩ := r
  rw [Fi.r_of h] at h1
  cases h1
  exact h2

/-- a new thing that is data from now on -/
theorem Re.newD (e : Re K M H B φ s) {p : Addr} (o : HO) (h : H p = none) : Gr H B φ (upd H p o) (upd B p o) φ ∧ Re K M (upd H p o) (upd B p o) φ s := by
  have hp : p ∉ adr φ := fun z => e.al p z h
  have hB := e.none_b h
  have eb : Ex B (upd B p o) := fun a u q => by rw [upd_ne (ne_of_none q hB)]; exact q
  have g : Gr H B φ (upd H p o) (upd B p o) φ := by
    refine ⟨eb, ⟨[], by simp⟩, fun a u q _ => by rw [upd_ne (ne_of_none q h)]; exact q, fun a q1 q2 q3 => ?_, fun _ z => Or.inl z⟩
    have hne : a ≠ p := fun z => q2 (by rw [z]; exact h)
    rw [upd_ne hne]; exact .inl q1
  have pn : ∀ (n : Nat) c a, φ[n]? = some c → a ∈ c.al → a ≠ p := fun n c a z y w => hp (by rw [← w]; exact adr_mem z y)
  refine ⟨g, ⟨fun a u q => ?_, e.nd, e.len, fun a z w => e.al a z (by rw [upd_ne (show a ≠ p from fun y => hp (by rw [← y]; exact z))] at w; exact w), fun n c u h1 h2 h3 a ha => by rw [upd_ne (pn n c a h1 ha)]; exact (e.fr n c u h1 h2 h3 a ha).imp id fun z => kT_upd z h, fun n c u h1 h2 => ?_, fun H' B' φ' g' => e.pm _ _ _ (g.trans g')⟩⟩
  · by_cases hne : a = p
    · subst hne; rw [upd_same] at q ⊢; exact q
    · rw [upd_ne hne] at q ⊢; exact e.ex a u q
  · exact (e.ob n c u h1 h2).mo g.mo fun a ha => upd_ne (pn n c a h1 ha)
/-- a new thing of the store -/
theorem Re.newL (e : Re K M H B φ s) {p : Addr} (u : HO) (o : LO) (h : H p = none) (ho : Ro K B φ o (some u)) (w : o.smp = true := by rfl) : Gr H B φ (upd H p u) B (φ ++ [one p]) ∧ Re K M (upd H p u) B (φ ++ [one p]) (s ++ [o]) := by
  have hp : p ∉ adr φ := fun z => e.al p z h
  have hB := e.none_b h
  have ea : adr (φ ++ [one p]) = adr φ ++ [p] := by rw [adr_app]; rfl
  have g : Gr H B φ (upd H p u) B (φ ++ [one p]) := by
    refine ⟨Ex.refl B, ⟨[p], by rw [List.map_append]; rfl⟩, fun a w q _ => by rw [upd_ne (ne_of_none q h)]; exact q, fun a q1 _ _ => .inl q1, fun a z => ?_⟩
    rw [ea] at z
    rcases List.mem_append.mp z with z | z
    · exact Or.inl z
    · have : a = p := by simpa using z
      exact Or.inr (by rw [this]; exact h)
  have pn : ∀ (n : Nat) c a, φ[n]? = some c → a ∈ c.al → a ≠ p := fun n c a z y w => hp (by rw [← w]; exact adr_mem z y)
  refine ⟨g, ⟨fun a w q => by rw [upd_ne (ne_of_none q hB)]; exact e.ex a w q, ?_, by rw [List.length_append, List.length_append, e.len]; rfl, fun a z w => ?_, fun n c w h1 h2 h3 a ha => ?_, fun n c w' h1 h2 => ?_, fun H' B' φ' g' => e.pm _ _ _ (g.trans g')⟩⟩
  · rw [ea]
    refine List.nodup_append.mpr ⟨e.nd, by simp, fun a ha b hb z => hp ?_⟩
    have hb' : b = p := by simpa using hb
    rw [← hb', ← z]
    exact ha
  · by_cases hne : a = p
    · rw [hne, upd_same] at w; cases w
    · rw [upd_ne hne] at w
      rw [ea] at z
      rcases List.mem_append.mp z with z | z
      · exact e.al a z w
      · exact hne (by simpa using z)
  · by_cases hn : n < φ.length
    · rw [List.getElem?_append_left hn] at h1
      rw [List.getElem?_append_left (by rw [← e.len]; exact hn)] at h2
      exact (e.fr n c w h1 h2 h3 a ha).imp id fun z => kT_upd z h
    · rw [List.getElem?_append_right (by omega)] at h1
      have hq : c = one p := by
        have hz : n - φ.length = 0 := by
          have := (List.getElem?_eq_some_iff.mp h1).1
          simp at this
          omega
        rw [hz] at h1
        simp at h1
        exact h1.symm
      rw [hq] at ha
      have : a = p := by simpa [Ce.al] using ha
      rw [this]; exact .inl hB
  · by_cases hn : n < φ.length
    · rw [List.getElem?_append_left hn] at h1
      rw [List.getElem?_append_left (by rw [← e.len]; exact hn)] at h2
      exact (e.ob n c w' h1 h2).mo g.mo fun a ha => upd_ne (pn n c a h1 ha)
    · have hn' := hn
      rw [e.len] at hn'
      rw [List.getElem?_append_right (by omega)] at h1 h2
      have hz : n - φ.length = 0 := by
        have := (List.getElem?_eq_some_iff.mp h1).1
        simp at this
        omega
      have hz2 : n - s.length = 0 := by rw [← e.len]; exact hz
      rw [hz] at h1
      rw [hz2] at h2
      simp at h1 h2
      subst h1; subst h2
      exact .sim w rfl (by show Ro _ _ _ _ (upd H p u p); rw [upd_same]; exact ho.mono g)
/-- a thing of the store is changed -/
theorem Re.set (e : Re K M H B φ s) {n : Nat} {p : Addr} (u : HO) (o : LO) (h : φ[n]? = some (one p)) (hB : B p = none) (ho : Ro K B φ o (some u)) (w : o.smp = true := by rfl) : Gr H B φ (upd H p u) B φ ∧ Re K M (upd H p u) B φ (s.set n o) := by
  have g : Gr H B φ (upd H p u) B φ := by
    refine ⟨Ex.refl B, ⟨[], by simp⟩, fun a w q hn => ?_, fun a q1 _ _ => .inl q1, fun a z => Or.inl z⟩
    have : a ≠ p := fun z => hn (by rw [z]; exact adr_p h)
    rw [upd_ne this]; exact q
  refine ⟨g, ⟨fun a w q => by rw [upd_ne (ne_of_none q hB)]; exact e.ex a w q, e.nd, by rw [List.length_set]; exact e.len, fun a z w => ?_, fun m c w h1 h2 h3 a ha => ?_, fun m c w' h1 h2 => ?_, fun H' B' φ' g' => e.pm _ _ _ (g.trans g')⟩⟩
  · by_cases hne : a = p
    · rw [hne, upd_same] at w; cases w
    · rw [upd_ne hne] at w; exact e.al a z w
  · by_cases hm : n = m
    · subst hm; rw [h] at h1; cases h1
      have : a = p := by simpa [Ce.al] using ha
      rw [this]; exact .inl hB
    · rw [List.getElem?_set_ne hm] at h2
      exact (e.fr m c w h1 h2 h3 a ha).imp id fun z => kT_ne z fun y => hm (adr_nd e.nd h h1 (a := p) (Ce.mem _) (by rw [← y]; exact ha))
  · by_cases hm : n = m
    · subst hm
      rw [h] at h1; cases h1
      have hl : n < s.length := by rw [← e.len]; exact (List.getElem?_eq_some_iff.mp h).1
      rw [List.getElem?_set_self hl] at h2
      cases h2
      exact .sim w rfl (by show Ro _ _ _ _ (upd H p u p); rw [upd_same]; exact ho)
    · rw [List.getElem?_set_ne hm] at h2
      refine (e.ob m c w' h1 h2).mo .refl fun a ha => upd_ne fun z => hm (adr_nd e.nd h h1 (a := p) (Ce.mem _) (by rw [← z]; exact ha))
/-- things of the store that nothing needs any more: no older thing leans on them -/
def loV (k : Nat) (x : SV) : Bool := match x with | .d _ => true | .l n => decide (n < k)
def clO (k : Nat) : LO → Bool
  | .tp xs => xs.all (loV k)
  | .ll xs => xs.all (loV k)
  | .mK kvs => (kvs.map (·.2)).all (loV k)
  | .mT kvs => (kvs.map (·.2)).all (loV k)
  | .fK _ _ kvs => (kvs.map (·.2)).all (loV k)
  | .fT _ _ kvs => (kvs.map (·.2)).all (loV k)
  | .ins _ j fs => decide (j < k) && (fs.map (·.2)).all (loV k)
  | .own j => decide (j < k)
  | _ => true
theorem r_take {k n : Nat} {p : Addr} (h : φ.r n = some p) (hn : n < k) : Fi.r (φ.take k) n = some p := by
  unfold Fi.r at h ⊢
  rw [List.getElem?_take_of_lt hn]; exact h
theorem RsAll.low {k : Nat} : ∀ {vs : List V} {xs : List SV}, RsAll K B φ vs xs → xs.all (loV k) = true → RsAll K B (φ.take k) vs xs
  | _, _, .nil, _ => .nil
  | _, x :: xs, .cons h r, q => by
    rw [List.all_cons, Bool.and_eq_true] at q
    refine .cons ?_ (RsAll.low r q.2)
    cases x with
    | d t => exact h
    | l n =>
      obtain ⟨p, h1, h2⟩ := h
      exact ⟨p, r_take h1 (of_decide_eq_true q.1), h2⟩
theorem Ro.low {k : Nat} {o : LO} {u : Option HO} (h : Ro K B φ o u) (c : clO k o = true) : Ro K B (φ.take k) o u := by
  cases o with
  | gone => trivial
  | lst ts => exact h
  | tp xs => obtain ⟨vs, h1, h2⟩ := h; exact ⟨vs, h1.low c, h2⟩
  | dK kvs => exact h
  | dT kvs => exact h
  | ll xs => obtain ⟨vs, h1, h2⟩ := h; exact ⟨vs, h1.low c, h2⟩
  | mK xs => obtain ⟨vs, h1, h2⟩ := h; exact ⟨vs, h1.low c, h2⟩
  | mT xs => obtain ⟨vs, h1, h2⟩ := h; exact ⟨vs, h1.low c, h2⟩
  | fK od vs xs => obtain ⟨h1, h2⟩ := h; exact ⟨h1.low c, h2⟩
  | fT od vs xs => obtain ⟨h1, h2⟩ := h; exact ⟨h1.low c, h2⟩
  | lK od vs xs => exact h
  | lT od vs xs => exact h
  | ins C j fs =>
    obtain ⟨vs, dx, h1, h2, h3⟩ := h
    have c := Bool.and_eq_true_iff.mp c
    exact ⟨vs, dx, h1.low c.2, r_take h2 (of_decide_eq_true c.1), h3⟩
  | own j => obtain ⟨x, h1, h2⟩ := h; exact ⟨x, r_take h1 (of_decide_eq_true c), h2⟩
  | box _ => exact h.elim
  | pool _ _ => exact h.elim
theorem Rc.re {c : Ce} {o : LO} (h : Rc K B H φ c o) (f : ∀ u, Ro K B φ o u → Ro K B φ' o u) : Rc K B H φ' c o := by
  cases h with
  | gone => exact .gone
  | sim h1 h2 h3 => exact .sim h1 h2 (f _ h3)
  | box ψ h1 h2 h3 h4 => exact .box ψ h1 h2 h3 h4
  | pool h1 h2 h3 h4 => exact .pool h1 h2 (h3.shl h1) h4
theorem adr_take (k : Nat) : ∀ a ∈ adr (φ.take k), a ∈ adr φ := fun a ha => by
  obtain ⟨c, hc, h⟩ := List.mem_flatMap.mp ha
  exact List.mem_flatMap.mpr ⟨c, List.mem_of_mem_take hc, h⟩
theorem adr_take_nd (k : Nat) (h : (adr φ).Nodup) : (adr (φ.take k)).Nodup := by
  have e : adr φ = adr (φ.take k) ++ adr (φ.drop k) := by rw [← adr_app, List.take_append_drop]
  rw [e] at h
  exact (List.nodup_append.mp h).1
theorem Re.take (e : Re K M H B φ s) (g : Gr H' B' φ' H B φ) (e0 : Re K M H' B' φ' s') {k : Nat} (hk : φ'.length ≤ k) (hk2 : k ≤ φ.length) (c : (s.take k).all (clO k) = true) :
    Gr H' B' φ' H B (φ.take k) ∧ Re K M H B (φ.take k) (s.take k) := by
  have g2 : Gr H' B' φ' H B (φ.take k) := by
    refine ⟨g.eb, ?_, g.kp, g.nb, fun a z => g.nf a (adr_take k a z)⟩
    obtain ⟨r, er⟩ := g.pf
    refine ⟨r.take (k - φ'.length), ?_⟩
    rw [List.map_take, er, List.take_append, List.length_map]
    rw [List.take_of_length_le (by rw [List.length_map]; exact hk)]
  refine ⟨g2, ⟨e.ex, adr_take_nd k e.nd, by rw [List.length_take, List.length_take, e.len], fun a z => e.al a (adr_take k a z), fun n p o h1 h2 h3 => ?_, fun n p o h1 h2 => ?_, fun H3 B3 φ3 g3 => e0.pm _ _ _ (g2.trans g3)⟩⟩
  · have hn : n < k := by
      have := (List.getElem?_eq_some_iff.mp h1).1
      rw [List.length_take] at this
      omega
    rw [List.getElem?_take_of_lt hn] at h1 h2
    exact e.fr n p o h1 h2 h3
  · have hn : n < k := by
      have := (List.getElem?_eq_some_iff.mp h1).1
      rw [List.length_take] at this
      omega
    have hm : o ∈ s.take k := List.mem_of_getElem? h2
    rw [List.getElem?_take_of_lt hn] at h1 h2
    exact (e.ob n p o h1 h2).re fun u h => h.low (List.all_eq_true.mp c o hm)
/-- one more at the end -/
theorem Re.snoc2 {M' : MP} {c : Ce} {o : LO} (re : Re K M' H B φ s) (g : Gr H' B' φ' H B φ) (e0 : Re K M H' B' φ' s') (nf : ∀ a ∈ c.al, a ∈ adr φ' ∨ H' a = none) (out : ∀ a ∈ c.al, a ∉ adr φ) (nd : c.al.Nodup) (al : ∀ a ∈ c.al, H a ≠ none)
    (nb : o.is = true → ∀ a ∈ c.al, B a = none ∨ kT H a) (ob : Rc K B H (φ ++ [c]) c o) : Gr H' B' φ' H B (φ ++ [c]) ∧ Re K M H B (φ ++ [c]) (s ++ [o]) := by
  have ea : adr (φ ++ [c]) = adr φ ++ c.al := by rw [adr_app]; show adr φ ++ (c.al ++ []) = _; rw [List.append_nil]
  have g2 : Gr H' B' φ' H B (φ ++ [c]) := by
    obtain ⟨r, er⟩ := g.pf
    refine ⟨g.eb, ⟨r ++ [c.p], by rw [List.map_append, er, List.append_assoc]; rfl⟩, g.kp, g.nb, fun a z => ?_⟩
    rw [ea] at z
    rcases List.mem_append.mp z with z | z
    · exact g.nf a z
    · exact nf a z
  have mo : Mo B φ B (φ ++ [c]) := ⟨Ex.refl B, fun _ _ h => r_app _ h⟩
  refine ⟨g2, ⟨re.ex, ?_, by rw [List.length_append, List.length_append, re.len]; rfl, fun p hp => ?_, fun m q o h1 h2 h3 => ?_, fun m q o h1 h2 => ?_, fun H3 B3 φ3 g3 => e0.pm _ _ _ (g2.trans g3)⟩⟩
  · rw [ea]
    exact List.nodup_append.mpr ⟨re.nd, nd, fun a ha b hb z => out b hb (z ▸ ha)⟩
  · rw [ea] at hp
    rcases List.mem_append.mp hp with z | z
    · exact re.al p z
    · exact al p z
  · by_cases hm : m < φ.length
    · rw [List.getElem?_append_left hm] at h1
      rw [List.getElem?_append_left (by rw [← re.len]; exact hm)] at h2
      exact re.fr m q o h1 h2 h3
    · have hm2 := hm
      rw [re.len] at hm2
      rw [List.getElem?_append_right (by omega)] at h1 h2
      have hz : m - φ.length = 0 := by
        have := (List.getElem?_eq_some_iff.mp h1).1
        simp at this
        omega
      rw [hz] at h1
      rw [show m - s.length = 0 by rw [← re.len]; exact hz] at h2
      simp at h1 h2
      subst h1; subst h2
      exact nb h3
  · by_cases hm : m < φ.length
    · rw [List.getElem?_append_left hm] at h1
      rw [List.getElem?_append_left (by rw [← re.len]; exact hm)] at h2
      exact (re.ob m q o h1 h2).mo mo fun _ _ => rfl
    · have hm2 := hm
      rw [re.len] at hm2
      rw [List.getElem?_append_right (by omega)] at h1 h2
      have hz : m - φ.length = 0 := by
        have := (List.getElem?_eq_some_iff.mp h1).1
        simp at this
        omega
      rw [hz] at h1
      rw [show m - s.length = 0 by rw [← re.len]; exact hz] at h2
      simp at h1 h2
      subst h1; subst h2
      exact ob
theorem Re.snoc {M' : MP} {c : Ce} {o : LO} (re : Re K M' H B φ s) (g : Gr H' B' φ' H B φ) (e0 : Re K M H' B' φ' s') (nf : ∀ a ∈ c.al, a ∈ adr φ' ∨ H' a = none) (out : ∀ a ∈ c.al, a ∉ adr φ) (nd : c.al.Nodup) (al : ∀ a ∈ c.al, H a ≠ none)
    (nb : o.is = true → ∀ a ∈ c.al, B a = none) (ob : Rc K B H (φ ++ [c]) c o) : Gr H' B' φ' H B (φ ++ [c]) ∧ Re K M H B (φ ++ [c]) (s ++ [o]) := re.snoc2 g e0 nf out nd al (fun h a ha => .inl (nb h a ha)) ob
theorem ce_nd : ∀ {φ : Fi} {n : Nat} {c : Ce}, (adr φ).Nodup → φ[n]? = some c → c.al.Nodup
  | [], _, _, _, h => by cases h
  | e :: φ, 0, c, nd, h => by
    cases (show e = c from Option.some.inj h)
    rw [adr_cons, List.nodup_append] at nd
    exact nd.1
  | e :: φ, n + 1, c, nd, h => by
    rw [adr_cons, List.nodup_append] at nd
    exact ce_nd (φ := φ) nd.2.1 h
theorem adr_nd_of : ∀ {φ : Fi}, (∀ (n : Nat) c, φ[n]? = some c → c.al.Nodup) → (∀ (i j : Nat) c d a, φ[i]? = some c → φ[j]? = some d → a ∈ c.al → a ∈ d.al → i = j) → (adr φ).Nodup
  | [], _, _ => List.nodup_nil
  | e :: φ, h1, h2 => by
    rw [adr_cons]
    refine List.nodup_append.mpr ⟨h1 0 e rfl, adr_nd_of (φ := φ) (fun n c h => h1 (n + 1) c h) (fun i j c d a q1 q2 q3 q4 => Nat.succ.inj (h2 (i + 1) (j + 1) c d a q1 q2 q3 q4)), fun a ha b hb z => ?_⟩
    obtain ⟨j, d, q1, q2⟩ := adr_of hb
    have := h2 0 (j + 1) e d a rfl q1 ha (by rw [z]; exact q2)
    omega
theorem take_out {k n : Nat} {c : Ce} (nd : (adr φ).Nodup) (h : φ[n]? = some c) (hn : k ≤ n) : ∀ a ∈ c.al, a ∉ adr (φ.take k) := fun a ha z => by
  obtain ⟨m, d, h1, h2⟩ := adr_of z
  have hm : m < k := by
    have := (List.getElem?_eq_some_iff.mp h1).1
    rw [List.length_take] at this
    omega
  rw [List.getElem?_take_of_lt hm] at h1
  have := adr_nd nd h h1 ha h2
  omega
/-- the first k things, and a later one -/
theorem Re.pick (e : Re K M H B φ s) (g : Gr H' B' φ' H B φ) (e0 : Re K M H' B' φ' s') {k n : Nat} {c : Ce} {o : LO} (hk : φ'.length ≤ k) (hk2 : k ≤ φ.length) (cl : (s.take k).all (clO k) = true) (hn : k ≤ n) (hc : φ[n]? = some c) (ho : s[n]? = some o)
    (ob : Rc K B H (φ.take k ++ [c]) c o) : Gr H' B' φ' H B (φ.take k ++ [c]) ∧ Re K M H B (φ.take k ++ [c]) (s.take k ++ [o]) := by
  obtain ⟨g2, re2⟩ := e.take g e0 hk hk2 cl
  exact re2.snoc2 g2 e0 (fun a ha => g.nf a (adr_mem hc ha)) (take_out e.nd hc hn) (ce_nd e.nd hc) (fun a ha => e.al a (adr_mem hc ha)) (fun h => e.fr n c o hc ho h) ob
/-- a list of the store is data from now on -/
theorem Re.freeze (e : Re K M H B φ s) {n : Nat} {ts : List T} (h : s[n]? = some (.lst ts)) : ∃ p B', φ[n]? = some (one p) ∧ Fz K B' (.ref p) (.lst ts) ∧ Ex B B' ∧ Re K (fun _ _ _ => True) H B' φ (s.set n .gone) ∧
    (∀ {H0 B0 : Hp} {φ0 : Fi}, Gr H0 B0 φ0 H B φ → (φ0.length ≤ n ∨ p ∈ adr φ0) → Gr H0 B0 φ0 H B' φ) := by
  obtain ⟨p, hp, vs, hv, hu⟩ := e.at_ h
  have hB : B p = none := e.fr1 hp h rfl
  have eb : Ex B (upd B p (.lst vs)) := fun a u q => by rw [upd_ne (ne_of_none q hB)]; exact q
  refine ⟨p, upd B p (.lst vs), hp, .lst upd_same (hv.mono eb), eb, ⟨fun a u q => ?_, e.nd, by rw [List.length_set]; exact e.len, e.al, fun m q o h1 h2 h3 a ha => ?_, fun m q o h1 h2 => ?_, fun _ _ _ _ => trivial⟩, ?_⟩
  · by_cases hne : a = p
    · subst hne; rw [upd_same] at q; rw [hu]; exact q
    · rw [upd_ne hne] at q; exact e.ex a u q
  · by_cases hm : n = m
    · subst hm
      rw [List.getElem?_set_self (List.getElem?_eq_some_iff.mp h).1] at h2
      cases h2
      cases h3
    · rw [List.getElem?_set_ne hm] at h2
      have : a ≠ p := fun z => hm (adr_nd e.nd hp h1 (Ce.mem _) (z ▸ ha))
      rw [upd_ne this]
      exact e.fr m q o h1 h2 h3 a ha
  · by_cases hm : n = m
    · subst hm
      rw [List.getElem?_set_self (List.getElem?_eq_some_iff.mp h).1] at h2
      cases h2
      exact .gone
    · rw [List.getElem?_set_ne hm] at h2
      exact (e.ob m q o h1 h2).mo ⟨eb, fun _ _ h => h⟩ fun _ _ => rfl
  · intro H0 B0 φ0 g hn
    refine ⟨g.eb.trans eb, g.pf, g.kp, fun a z1 z2 z3 => ?_, g.nf⟩
    have hne : a ≠ p := by
      rintro rfl
      rcases hn with hn | hn
      · rcases g.nf a (adr_p hp) with q | q
        · exact z3 q
        · exact z2 q
      · exact z3 hn
    rw [upd_ne hne]
    exact g.nb a z1 z2 z3
end
end Lv

/-! Lv2: what an expression, a test, arguments do to places and store. -/
namespace Lv
open PySem L2

abbrev ATE := AS → ST → (SV → ST → Prop) → Prop
abbrev ATT := AS → ST → (Bool → ST → Prop) → Prop
abbrev ATA := AS → ST → (List SV → ST → Prop) → Prop
abbrev AR2 := SV → SV → ST → (SV → ST → Prop) → Prop
abbrev AR1 := SV → ST → (SV → ST → Prop) → Prop
abbrev ARC := List SV → ST → (SV → ST → Prop) → Prop
abbrev ARM := SV → List SV → ST → (SV → ST → Prop) → Prop

section
variable (K : Fr) (M : MP)
def FinE (H B : Hp) (φ : Fi) (Q : SV → ST → Prop) (Q' : VK) : Prop := ∀ H' B' φ' s' v x, Gr H B φ H' B' φ' → Re K M H' B' φ' s' → Rs K B' φ' v x → Q x s' → Q' v H'
def FinT (H B : Hp) (φ : Fi) (Q : Bool → ST → Prop) (Q' : Bool → Hp → Prop) : Prop := ∀ H' B' φ' s' b, Gr H B φ H' B' φ' → Re K M H' B' φ' s' → Q b s' → Q' b H'
def FinA (H B : Hp) (φ : Fi) (Q : List SV → ST → Prop) (Q' : List V → Hp → Prop) : Prop := ∀ H' B' φ' s' v x, Gr H B φ H' B' φ' → Re K M H' B' φ' s' → RsAll K B' φ' v x → Q x s' → Q' v H'
def LiftE (te : TE) (t : ATE) : Prop := ∀ H B φ σ δ s Q, Re K M H B φ s → Rsl K B φ σ δ → t δ s Q → ∀ Q', FinE K M H B φ Q Q' → te σ H Q'
def LiftT (te : TT) (t : ATT) : Prop := ∀ H B φ σ δ s Q, Re K M H B φ s → Rsl K B φ σ δ → t δ s Q → ∀ Q', FinT K M H B φ Q Q' → te σ H Q'
def LiftA (te : TA) (t : ATA) : Prop := ∀ H B φ σ δ s Q, Re K M H B φ s → Rsl K B φ σ δ → t δ s Q → ∀ Q', FinA K M H B φ Q Q' → te σ H Q'
def LiftR (r : R2) (g : AR2) : Prop := ∀ H B φ s x y sx sy Q, Re K M H B φ s → Rs K B φ x sx → Rs K B φ y sy → g sx sy s Q → ∀ Q', FinE K M H B φ Q Q' → r x y H Q'
def LiftC (r : List V → Hp → VK → Prop) (g : ARC) : Prop := ∀ H B φ s x sx Q, Re K M H B φ s → RsAll K B φ x sx → g sx s Q → ∀ Q', FinE K M H B φ Q Q' → r x H Q'
def LiftM (r : V → List V → Hp → VK → Prop) (g : ARM) : Prop := ∀ H B φ s x sx y sy Q, Re K M H B φ s → Rs K B φ x sx → RsAll K B φ y sy → g sx sy s Q → ∀ Q', FinE K M H B φ Q Q' → r x y H Q'
end
structure AE (X : Cx) (M : MP) (e : Expr) (t : ATE) : Prop where
  ex : ∃ te, PE X e te ∧ LiftE X.K M te t
structure AT (X : Cx) (M : MP) (e : Expr) (t : ATT) : Prop where
  ex : ∃ te, PT X e te ∧ LiftT X.K M te t
structure AW (X : Cx) (M : MP) (e : Expr) (t : ATT) : Prop where
  ex : ∃ te, PW X e te ∧ LiftT X.K M te t
structure AA (X : Cx) (M : MP) (es : List Expr) (t : ATA) : Prop where
  ex : ∃ te, PA X es te ∧ LiftA X.K M te t

section
variable {K : Fr} {M : MP} {H H' B B' : Hp} {φ φ' : Fi} {s s' : ST} {Q : SV → ST → Prop} {Q' : VK}
theorem FinE.grow (f : FinE K M H B φ Q Q') (g : Gr H B φ H' B' φ') : FinE K M H' B' φ' Q Q' := fun _ _ _ _ _ _ g2 re r q => f _ _ _ _ _ _ (g.trans g2) re r q
theorem FinT.grow {Q : Bool → ST → Prop} {Q' : Bool → Hp → Prop} (f : FinT K M H B φ Q Q') (g : Gr H B φ H' B' φ') : FinT K M H' B' φ' Q Q' := fun _ _ _ _ _ g2 re q => f _ _ _ _ _ (g.trans g2) re q
theorem FinA.grow {Q : List SV → ST → Prop} {Q' : List V → Hp → Prop} (f : FinA K M H B φ Q Q') (g : Gr H B φ H' B' φ') : FinA K M H' B' φ' Q Q' := fun _ _ _ _ _ _ g2 re r q => f _ _ _ _ _ _ (g.trans g2) re r q
theorem FinE.now (f : FinE K M H B φ Q Q') (re : Re K M H B φ s) {v : V} {x : SV} (r : Rs K B φ v x) (q : Q x s) : Q' v H := f _ _ _ _ _ _ .refl re r q

theorem Rs.dat {v : V} {t : T} (h : Fz K B v t) : Rs K B φ v (.d t) := h
theorem Rs.loc {n : Nat} {p : Addr} (h : φ.r n = some p) : Rs K B φ (.ref p) (.l n) := ⟨p, h, rfl⟩
/-! ### views -/
/-- a list: data, or the store's -/
def lsV (s : ST) : SV → Option (List T)
  | .d (.lst xs) => some xs
  | .l n => (match s[n]? with | some (.lst xs) => some xs | some (.pool (.lst xs) _) => some xs | _ => none)
  | _ => none
/-- a list or a tuple -/
def sqV (s : ST) : SV → Option (List T)
  | .d (.tup xs) => some xs
  | .d (.scr xs) => some xs
  | x => lsV s x
theorem ls_of (re : Re K M H B φ s) {v : V} {x : SV} {ts : List T} (r : Rs K B φ v x) (h : lsV s x = some ts) : ∃ p vs, v = .ref p ∧ H p = some (.lst vs) ∧ FzAll K B vs ts := by
  cases x with
  | d t =>
    cases t with
    | lst ys =>
      obtain rfl : ys = ts := Option.some.inj h
      cases (show Fz K B v (.lst ys) from r) with
      | lst h1 h2 => exact ⟨_, _, rfl, re.ex _ _ h1, h2⟩
    | _ => cases h
  | l n =>
    obtain ⟨p, hp, rfl⟩ := r
    have h : (match s[n]? with | some (.lst xs) => some xs | some (.pool (.lst xs) _) => some xs | _ => none) = some ts := h
    cases hs : s[n]? with
    | none => rw [hs] at h; cases h
    | some o =>
      rw [hs] at h
      cases o with
      | pool o rs =>
        obtain ⟨c, hc, rfl⟩ := Fi.r_inv hp
        cases o with
        | lst ys =>
          obtain rfl : ys = ts := Option.some.inj h
          cases re.ob n c _ hc hs with
          | sim w => cases w
          | pool w1 w2 w3 w4 =>
            obtain ⟨vs, h1, h2⟩ := w3
            exact ⟨_, vs, rfl, h2, h1⟩
        | _ => cases h
      | lst ys =>
        obtain rfl : ys = ts := Option.some.inj h
        obtain ⟨q, hq, vs, h1, h2⟩ := re.at_ hs
        rw [Fi.r_of hq] at hp; cases hp
        exact ⟨_, vs, rfl, h2, h1⟩
      | _ => cases h
theorem sq_of (re : Re K M H B φ s) {v : V} {x : SV} {ts : List T} (r : Rs K B φ v x) (h : sqV s x = some ts) : ∃ p vs, v = .ref p ∧ (SqL K H p vs ∨ SqT K H p vs) ∧ FzAll K B vs ts := by
  have z : (∃ xs, x = .d (.tup xs)) ∨ (∃ xs, x = .d (.scr xs)) ∨ lsV s x = some ts := by
    unfold sqV at h
    split at h
    · exact Or.inl ⟨_, rfl⟩
    · exact Or.inr (Or.inl ⟨_, rfl⟩)
    · exact Or.inr (Or.inr h)
  rcases z with ⟨ys, rfl⟩ | ⟨ys, rfl⟩ | z
  · have e : ys = ts := Option.some.inj h
    subst e
    cases (show Fz K B v (.tup ys) from r) with
    | tup h1 h2 => exact ⟨_, _, rfl, Or.inr (h1.mono re.ex).sq, h2⟩
  · have e : ys = ts := Option.some.inj h
    subst e
    cases (show Fz K B v (.scr ys) from r) with
    | scr h1 h2 => exact ⟨_, _, rfl, Or.inl (ex_l re.ex h1), h2⟩
  · obtain ⟨p, vs, e, h1, h2⟩ := ls_of re r z
    exact ⟨p, vs, e, Or.inl (SqL.of h1), h2⟩
/-- a list of the store itself -/
theorem own_of (re : Re K M H B φ s) {v : V} {n : Nat} {ts : List T} (r : Rs K B φ v (.l n)) (h : s[n]? = some (.lst ts)) : ∃ p vs, v = .ref p ∧ φ[n]? = some (one p) ∧ H p = some (.lst vs) ∧ B p = none ∧ FzAll K B vs ts := by
  obtain ⟨p, hp, rfl⟩ := r
  obtain ⟨q, hq, vs, h1, h2⟩ := re.at_ h
  rw [Fi.r_of hq] at hp; cases hp
  exact ⟨q, vs, rfl, hq, h2, re.fr1 hq h rfl, h1⟩
/-- a fresh list, told -/
theorem FinE.newL (f : FinE K M H B φ Q Q') (re : Re K M H B φ s) {vs : List V} {ts : List T} (hv : FzAll K B vs ts) (q : Q (.l s.length) (s ++ [.lst ts])) : ∀ p, H p = none → Q' (.ref p) (upd H p (.lst vs)) := fun p hp => by
  obtain ⟨g, re2⟩ := re.newL (.lst vs) (.lst ts) hp ⟨vs, hv, rfl⟩
  exact f _ _ _ _ _ _ g re2 (.loc (re.top _)) q
/-- a fresh tuple of data -/
theorem FinE.newT (f : FinE K M H B φ Q Q') (re : Re K M H B φ s) {vs : List V} {ts : List T} (hv : FzAll K B vs ts) (q : Q (.d (.tup ts)) s) : ∀ p, H p = none → Q' (.ref p) (upd H p (.tup vs)) := fun p hp => by
  obtain ⟨g, re2⟩ := re.newD (.tup vs) hp
  exact f _ _ _ _ _ _ g re2 (.dat (.tup (.inl upd_same) (hv.mono g.eb))) q
end
/-! ### data as PyData -/
mutual
def T.py : T → PyData
  | .non => .none
  | .bl b => .bool b
  | .int i => .int i
  | .str x => .str x
  | .ref _ => .dict []
  | .ty _ => .dict []
  | .lst xs => .list (T.pys xs)
  | .tup xs => .tuple (T.pys xs)
  | .scr xs => .list (T.pys xs)
  | .obj _ _ _ => .dict []
  | .dk _ _ => .dict []
  | .dt _ _ => .dict []
  | .exc _ _ => .dict []
def T.pys : List T → List PyData
  | [] => []
  | x :: r => x.py :: T.pys r
end
section
variable {K : Fr} {B H : Hp}
mutual
theorem Fz.dp (e : Ex B H) : ∀ {v : V} {t : T}, Fz K B v t → t.py.canLay0 = true → Dp K H v t.py
  | _, _, .non, _ => by rw [T.py]; exact .non
  | _, _, .bl b, _ => by rw [T.py]; exact .bl b
  | _, _, .int i, _ => by rw [T.py]; exact .int i
  | _, _, .str x, _ => by rw [T.py]; exact .str x
  | _, _, .ref a, h => by rw [T.py] at h; exact nomatch h
  | _, _, .ty a, h => by rw [T.py] at h; exact nomatch h
  | _, _, .obj _ _ _ _, h => by rw [T.py] at h; exact nomatch h
  | _, _, .dk _ _ _, h => by rw [T.py] at h; exact nomatch h
  | _, _, .dt _ _ _, h => by rw [T.py] at h; exact nomatch h
  | _, _, .exc _ _ _, h => by rw [T.py] at h; exact nomatch h
  | _, _, .lst h r, q => by
    rw [T.py] at q ⊢
    exact .lst (SqL.of (e _ _ h)) (FzAll.dp e r q)
  | _, _, .tup h r, q => by
    rw [T.py] at q ⊢
    exact .tup (h.mono e).sq (FzAll.dp e r q)
  | _, _, .scr h r, q => by
    rw [T.py] at q ⊢
    exact .lst (ex_l e h) (FzAll.dp e r q)
theorem FzAll.dp (e : Ex B H) : ∀ {vs : List V} {ts : List T}, FzAll K B vs ts → PyData.canLayAll0 (T.pys ts) = true → DpAll K H vs (T.pys ts)
  | _, _, .nil, _ => by rw [T.pys]; exact .nil
  | _, _, .cons h r, q => by
    rw [T.pys] at q ⊢
    have q' := Bool.and_eq_true_iff.mp q
    exact .cons (Fz.dp e h q'.1) (FzAll.dp e r q'.2)
end
end
/-- data by a place, so deep -/
def optT (f : SV → Option T) : List SV → Option (List T)
  | [] => some []
  | x :: r => (match f x with
    | some t => (optT f r).map (t :: ·)
    | none => none)
def datF : Nat → ST → SV → Option T
  | _, _, .d t => some t
  | 0, _, .l _ => none
  | k + 1, s, .l n => (match s[n]? with
    | some (.lst xs) => some (.lst xs)
    | some (.tp xs) => (optT (datF k s) xs).map T.tup
    | some (.ll xs) => (optT (datF k s) xs).map T.lst
    | _ => none)
def pyV (s : ST) (x : SV) : Option PyData := (datF 5 s x).map T.py
section
variable {K : Fr} {M : MP} {H H' B B' : Hp} {φ φ' : Fi} {s s' : ST} {Q : SV → ST → Prop} {Q' : VK}
theorem dps_of {f : SV → Option T} (hf : ∀ {v : V} {x : SV} {t : T}, Rs K B φ v x → f x = some t → t.py.canLay0 = true → Dp K H v t.py) :
    ∀ {vs : List V} {xs : List SV} {ts : List T}, RsAll K B φ vs xs → optT f xs = some ts → PyData.canLayAll0 (T.pys ts) = true → DpAll K H vs (T.pys ts)
  | _, _, ts, .nil, e, _ => by cases e; rw [T.pys]; exact .nil
  | _, x :: xs, ts, .cons h r, e, c => by
    unfold optT at e
    cases hx : f x with
    | none => rw [hx] at e; cases e
    | some t =>
      rw [hx] at e
      cases hq : optT f xs with
      | none => rw [hq] at e; cases e
      | some us =>
        rw [hq] at e
        cases e
        rw [T.pys] at c ⊢
        have c := Bool.and_eq_true_iff.mp c
        exact .cons (hf h hx c.1) (dps_of hf r hq c.2)
theorem dat_of (re : Re K M H B φ s) : ∀ (k : Nat) {v : V} {x : SV} {t : T}, Rs K B φ v x → datF k s x = some t → t.py.canLay0 = true → Dp K H v t.py := by
  intro k
  induction k with
  | zero =>
    intro v x t r h c
    cases x with
    | d u => cases (show some u = some t from h); exact Fz.dp re.ex r c
    | l n => cases h
  | succ k ih =>
    intro v x t r h c
    cases x with
    | d u => cases (show some u = some t from h); exact Fz.dp re.ex r c
    | l n =>
      have h : (match s[n]? with
        | some (.lst xs) => some (T.lst xs)
        | some (.tp xs) => (optT (datF k s) xs).map T.tup
        | some (.ll xs) => (optT (datF k s) xs).map T.lst
        | _ => none) = some t := h
      cases hs : s[n]? with
      | none => rw [hs] at h; cases h
      | some o =>
        rw [hs] at h
        obtain ⟨p, hp, rfl⟩ := r
        cases o with
        | lst xs =>
          obtain ⟨q, hq, ho⟩ := re.at_ hs
          rw [Fi.r_of hq] at hp; cases hp
          cases (show some (T.lst xs) = some t from h)
          obtain ⟨vs, h3, h1⟩ := ho
          rw [T.py] at c ⊢
          exact .lst (SqL.of h1) (FzAll.dp re.ex h3 c)
        | tp xs =>
          obtain ⟨q, hq, ho⟩ := re.at_ hs
          rw [Fi.r_of hq] at hp; cases hp
          have h : (optT (datF k s) xs).map T.tup = some t := h
          cases ha : optT (datF k s) xs with
          | none => rw [ha] at h; cases h
          | some ts =>
            rw [ha] at h; cases h
            obtain ⟨vs, h3, h1⟩ := ho
            rw [T.py] at c ⊢
            exact .tup (SqT.of h1) (dps_of (fun r h c => ih r h c) h3 ha c)
        | ll xs =>
          obtain ⟨q, hq, ho⟩ := re.at_ hs
          rw [Fi.r_of hq] at hp; cases hp
          have h : (optT (datF k s) xs).map T.lst = some t := h
          cases ha : optT (datF k s) xs with
          | none => rw [ha] at h; cases h
          | some ts =>
            rw [ha] at h; cases h
            obtain ⟨vs, h3, h1⟩ := ho
            rw [T.py] at c ⊢
            exact .lst (SqL.of h1) (dps_of (fun r h c => ih r h c) h3 ha c)
        | _ => cases h
theorem py_of (re : Re K M H B φ s) {v : V} {x : SV} {d : PyData} (r : Rs K B φ v x) (h : pyV s x = some d) (c : SeqAt.shaped d = true) : Dp K H v d := by
  have c := SeqAt.canLay_of_shaped c
  unfold pyV at h
  cases hd : datF 5 s x with
  | none => rw [hd] at h; cases h
  | some t => rw [hd] at h; cases h; exact dat_of re 5 r hd c

/-! ### flat data -/
def T.flat : T → Bool
  | .non => true
  | .bl _ => true
  | .int _ => true
  | .str _ => true
  | _ => false
def T.v : T → V
  | .non => .non
  | .bl b => .bl b
  | .int i => .int i
  | .str x => .str x
  | _ => .non
theorem flat_of {v : V} {t : T} (h : Fz K B v t) (f : t.flat = true) : v = t.v ∧ flatV v = true := by
  cases h with
  | non => exact ⟨rfl, rfl⟩
  | bl b => exact ⟨rfl, rfl⟩
  | int i => exact ⟨rfl, rfl⟩
  | str x => exact ⟨rfl, rfl⟩
  | _ => cases f
theorem flats_of : ∀ {vs : List V} {ts : List T}, FzAll K B vs ts → ts.all T.flat = true → vs = ts.map T.v ∧ vs.all flatV = true
  | _, _, .nil, _ => ⟨rfl, rfl⟩
  | _, _, .cons h r, q => by
    rw [List.all_cons, Bool.and_eq_true] at q
    obtain ⟨e1, f1⟩ := flat_of h q.1
    obtain ⟨e2, f2⟩ := flats_of r q.2
    subst e1; subst e2
    exact ⟨rfl, by rw [List.all_cons, f1, f2]; rfl⟩
def inT (t : T) (ts : List T) : Bool := inV t.v (ts.map T.v)

/-! ### operators -/
def CM (i j : Int) : Prop := CMul i j ∨ CMulW i j
def CD (i j : Int) : Prop := CDiv i j ∨ CDivW i j
def addG : AR2 := fun x y s Q => match x, y with
  | .d (.int i), .d (.int j) => Q (.d (.int (i + j))) s
  | .d (.str a), .d (.str b) => a.length + b.length ≤ sizeLine ∧ Q (.d (.str (a ++ b))) s
  | .d (.tup a), .d (.tup b) => a.length + b.length ≤ sizeLine ∧ Q (.d (.tup (a ++ b))) s
  | x, y => ∃ a b, lsV s x = some a ∧ lsV s y = some b ∧ a.length + b.length ≤ sizeLine ∧ Q (.l s.length) (s ++ [.lst (a ++ b)])
def subG : AR2 := fun x y s Q => match x, y with
  | .d (.int i), .d (.int j) => Q (.d (.int (i - j))) s
  | _, _ => False
def mulG : AR2 := fun x y s Q => match x, y with
  | .d (.int i), .d (.int j) => CM i j ∧ Q (.d (.int (i * j))) s
  | x, .d (.int k) => ∃ a, lsV s x = some a ∧ -(2 ^ 63) ≤ k ∧ k < 2 ^ 63 ∧ a.length * k.toNat ≤ sizeLine ∧ Q (.l s.length) (s ++ [.lst (List.replicate k.toNat a).flatten])
  | _, _ => False
def fdivG : AR2 := fun x y s Q => match x, y with
  | .d (.int i), .d (.int j) => CD i j ∧ Q (.d (.int (i / j))) s
  | _, _ => False
def modG : AR2 := fun x y s Q => match x, y with
  | .d (.int i), .d (.int j) => 0 < j ∧ Q (.d (.int (i % j))) s
  | _, _ => False
def powG : AR2 := fun x y s Q => match x, y with
  | .d (.int i), .d (.int j) => CPow i j ∧ Q (.d (.int (i ^ j.toNat))) s
  | _, _ => False
def rAdd (K : Fr) : R2 := fun x y H Q => (rI0 fun i j => .int (i + j)) x y H Q ∨ (∃ i j, x = .str i ∧ y = .str j ∧ i.length + j.length ≤ sizeLine ∧ Q (.str (i ++ j)) H) ∨ rCatA K x y H Q ∨ rCat x y H Q
theorem op_addA {X : Cx} : OpR X (binaryOp .Add) (rAdd X.K) := op_add.or (op_add_str.or (op_catA.or op_cat))
theorem int_of {v : V} {i : Int} (h : Rs K B φ v (.d (.int i))) : v = .int i := by
  cases (show Fz K B v (.int i) from h) with
  | int => rfl
theorem str_of {v : V} {i : Str} (h : Rs K B φ v (.d (.str i))) : v = .str i := by
  cases (show Fz K B v (.str i) from h) with
  | str => rfl
theorem bl_of {v : V} {i : Bool} (h : Rs K B φ v (.d (.bl i))) : v = .bl i := by
  cases (show Fz K B v (.bl i) from h) with
  | bl => rfl
theorem non_of {v : V} (h : Rs K B φ v (.d .non)) : v = .non := by
  cases (show Fz K B v .non from h) with
  | non => rfl
theorem tup_of (re : Re K M H B φ s) {v : V} {ts : List T} (h : Rs K B φ v (.d (.tup ts))) : ∃ p vs, v = .ref p ∧ SqT K H p vs ∧ TuW K B p vs ∧ FzAll K B vs ts := by
  cases (show Fz K B v (.tup ts) from h) with
  | tup h1 h2 => exact ⟨_, _, rfl, (h1.mono re.ex).sq, h1, h2⟩
theorem FinE.int (f : FinE K M H B φ Q Q') (re : Re K M H B φ s) {i : Int} (q : Q (.d (.int i)) s) : Q' (.int i) H := f.now re (.dat (.int i)) q
theorem FinE.str (f : FinE K M H B φ Q Q') (re : Re K M H B φ s) {i : Str} (q : Q (.d (.str i)) s) : Q' (.str i) H := f.now re (.dat (.str i)) q
theorem FinE.bl (f : FinE K M H B φ Q Q') (re : Re K M H B φ s) {i : Bool} (q : Q (.d (.bl i)) s) : Q' (.bl i) H := f.now re (.dat (.bl i)) q
theorem FinE.non (f : FinE K M H B φ Q Q') (re : Re K M H B φ s) (q : Q (.d .non) s) : Q' .non H := f.now re (.dat .non) q
theorem lr_cat (re : Re K M H B φ s) {x y : V} {sx sy : SV} (rx : Rs K B φ x sx) (ry : Rs K B φ y sy) (f : FinE K M H B φ Q Q')
    (h : ∃ a b, lsV s sx = some a ∧ lsV s sy = some b ∧ a.length + b.length ≤ sizeLine ∧ Q (.l s.length) (s ++ [.lst (a ++ b)])) : rAdd K x y H Q' := by
  obtain ⟨a, b, h1, h2, h3, q⟩ := h
  obtain ⟨p, vs, rfl, e1, f1⟩ := ls_of re rx h1
  obtain ⟨p2, vs2, rfl, e2, f2⟩ := ls_of re ry h2
  exact .inr (.inr (.inr ⟨p, p2, vs, vs2, rfl, rfl, e1, e2, by rw [f1.length, f2.length]; exact h3, f.newL re (f1.append f2) q⟩))
theorem lr_add : LiftR K M (rAdd K) addG := by
  intro H B φ s x y sx sy Q re rx ry h Q' f
  unfold addG at h
  split at h
  · cases int_of rx; cases int_of ry
    exact .inl ⟨_, _, rfl, rfl, f.int re h⟩
  · cases str_of rx; cases str_of ry
    exact .inr (.inl ⟨_, _, rfl, rfl, h.1, f.str re h.2⟩)
  · obtain ⟨p, vs, rfl, e1, e1', f1⟩ := tup_of re rx
    obtain ⟨p2, vs2, rfl, e2, e2', f2⟩ := tup_of re ry
    refine .inr (.inr (.inl ⟨p, p2, vs, vs2, rfl, rfl, e1, e2, by rw [f1.length, f2.length]; exact h.1, fun z => ?_, fun _ z => ?_, fun _ _ => f.newT re (f1.append f2) h.2⟩))
    · subst z; cases f1
      exact f.now re (.dat (.tup e2' f2)) h.2
    · subst z; cases f2
      rw [List.append_nil] at h
      exact f.now re (.dat (.tup e1' f1)) h.2
  · exact lr_cat re rx ry f h

def rMul : R2 := fun x y H Q => rI CMul (fun i j => .int (i * j)) x y H Q ∨ rI CMulW (fun i j => .int (i * j)) x y H Q ∨ rRep x y H Q
theorem op_mulA {X : Cx} : OpR X (binaryOp .Mult) rMul := op_mul.or (op_mulW.or op_rep)
theorem lr_mul : LiftR K M rMul mulG := by
  intro H B φ s x y sx sy Q re rx ry h Q' f
  unfold mulG at h
  split at h
  · cases int_of rx; cases int_of ry
    rcases h.1 with c | c
    · exact .inl ⟨_, _, rfl, rfl, c, f.int re h.2⟩
    · exact .inr (.inl ⟨_, _, rfl, rfl, c, f.int re h.2⟩)
  · cases int_of ry
    obtain ⟨a, h1, h2, h3, h4, q⟩ := h
    obtain ⟨p, vs, rfl, e1, f1⟩ := ls_of re rx h1
    exact .inr (.inr ⟨p, _, vs, rfl, rfl, e1, h2, h3, by rw [f1.length]; exact h4, f.newL re (f1.rep _) q⟩)
  · exact h.elim
def rFdiv : R2 := fun x y H Q => rI CDiv (fun i j => .int (i / j)) x y H Q ∨ rI CDivW (fun i j => .int (i / j)) x y H Q
theorem op_fdivA {X : Cx} : OpR X (binaryOp .FloorDiv) rFdiv := op_fdiv.or op_fdivW
theorem lr_fdiv : LiftR K M rFdiv fdivG := by
  intro H B φ s x y sx sy Q re rx ry h Q' f
  unfold fdivG at h
  split at h
  · cases int_of rx; cases int_of ry
    rcases h.1 with c | c
    · exact .inl ⟨_, _, rfl, rfl, c, f.int re h.2⟩
    · exact .inr ⟨_, _, rfl, rfl, c, f.int re h.2⟩
  · exact h.elim
theorem lr_sub : LiftR K M (rI0 fun i j => .int (i - j)) subG := by
  intro H B φ s x y sx sy Q re rx ry h Q' f
  unfold subG at h
  split at h
  · cases int_of rx; cases int_of ry
    exact ⟨_, _, rfl, rfl, f.int re h⟩
  · exact h.elim
theorem lr_mod : LiftR K M (rI (fun _ j => 0 < j) fun i j => .int (i % j)) modG := by
  intro H B φ s x y sx sy Q re rx ry h Q' f
  unfold modG at h
  split at h
  · cases int_of rx; cases int_of ry
    exact ⟨_, _, rfl, rfl, h.1, f.int re h.2⟩
  · exact h.elim
theorem lr_pow : LiftR K M (rI CPow fun i j => .int (i ^ j.toNat)) powG := by
  intro H B φ s x y sx sy Q re rx ry h Q' f
  unfold powG at h
  split at h
  · cases int_of rx; cases int_of ry
    exact ⟨_, _, rfl, rfl, h.1, f.int re h.2⟩
  · exact h.elim

/-! ### comparisons -/
/-- ints by p, texts by t -/
def cmpG (p : Int → Int → Bool) : AR2 := fun x y s Q => match x, y with
  | .d (.int i), .d (.int j) => Q (.d (.bl (p i j))) s
  | _, _ => False
theorem lr_cmp (p : Int → Int → Bool) : LiftR K M (rI0 fun i j => .bl (p i j)) (cmpG p) := by
  intro H B φ s x y sx sy Q re rx ry h Q' f
  unfold cmpG at h
  split at h
  · cases int_of rx; cases int_of ry
    exact ⟨_, _, rfl, rfl, f.bl re h⟩
  · exact h.elim
/-- ==, !=: n says which -/
def eqG (n : Bool) : AR2 := fun x y s Q => match x, y with
  | .d (.int i), .d (.int j) => Q (.d (.bl (n != decide (i = j)))) s
  | .d (.str i), .d (.str j) => Q (.d (.bl (n != decide (i = j)))) s
  | .d (.bl i), .d (.bl j) => Q (.d (.bl (n != decide (i = j)))) s
  | x, y => ∃ a b, pyV s x = some a ∧ pyV s y = some b ∧ SeqAt.shaped a = true ∧ SeqAt.shaped b = true ∧ Q (.d (.bl (n != PyData.eqv a b))) s
theorem bne_f (b : Bool) : (false != b) = b := by cases b <;> rfl
theorem bne_t (b : Bool) : (true != b) = !b := by cases b <;> rfl
def rEqA (K : Fr) : R2 := fun x y H Q => rEq x y H Q ∨ rEqD K x y H Q
def rNeA (K : Fr) : R2 := fun x y H Q => rNe x y H Q ∨ rNeD K x y H Q
theorem op_eqA {X : Cx} (hu : X.A.units + 64 < cLine) : OpR X (compareOp .Eq) (rEqA X.K) := op_eq.or (op_eqD hu)
theorem op_neA {X : Cx} (hu : X.A.units + 64 < cLine) : OpR X (compareOp .NotEq) (rNeA X.K) := op_ne.or (op_neD hu)
theorem lr_eq : LiftR K M (rEqA K) (eqG false) := by
  intro H B φ s x y sx sy Q re rx ry h Q' f
  unfold eqG at h
  split at h
  · cases int_of rx; cases int_of ry
    refine .inl ⟨rfl, ?_⟩
    rw [bne_f] at h
    rename_i i j
    have e : decide (V.int i = V.int j) = decide (i = j) := by by_cases q : i = j <;> simp [q]
    rw [e]
    exact f.bl re h
  · cases str_of rx; cases str_of ry
    refine .inl ⟨rfl, ?_⟩
    rw [bne_f] at h
    rename_i i j
    have e : decide (V.str i = V.str j) = decide (i = j) := by by_cases q : i = j <;> simp [q]
    rw [e]
    exact f.bl re h
  · cases bl_of rx; cases bl_of ry
    refine .inl ⟨rfl, ?_⟩
    rw [bne_f] at h
    rename_i i j
    have e : decide (V.bl i = V.bl j) = decide (i = j) := by by_cases q : i = j <;> simp [q]
    rw [e]
    exact f.bl re h
  · obtain ⟨a, b, h1, h2, h3, h4, q⟩ := h
    rw [bne_f] at q
    exact .inr ⟨a, b, py_of re rx h1 h3, py_of re ry h2 h4, h3, h4, f.bl re q⟩
theorem lr_ne : LiftR K M (rNeA K) (eqG true) := by
  intro H B φ s x y sx sy Q re rx ry h Q' f
  unfold eqG at h
  split at h
  · cases int_of rx; cases int_of ry
    refine .inl ⟨rfl, ?_⟩
    rw [bne_t] at h
    rename_i i j
    have e : decide (V.int i = V.int j) = decide (i = j) := by by_cases q : i = j <;> simp [q]
    rw [e]
    exact f.bl re h
  · cases str_of rx; cases str_of ry
    refine .inl ⟨rfl, ?_⟩
    rw [bne_t] at h
    rename_i i j
    have e : decide (V.str i = V.str j) = decide (i = j) := by by_cases q : i = j <;> simp [q]
    rw [e]
    exact f.bl re h
  · cases bl_of rx; cases bl_of ry
    refine .inl ⟨rfl, ?_⟩
    rw [bne_t] at h
    rename_i i j
    have e : decide (V.bl i = V.bl j) = decide (i = j) := by by_cases q : i = j <;> simp [q]
    rw [e]
    exact f.bl re h
  · obtain ⟨a, b, h1, h2, h3, h4, q⟩ := h
    rw [bne_t] at q
    exact .inr ⟨a, b, py_of re rx h1 h3, py_of re ry h2 h4, h3, h4, f.bl re q⟩
/-- is None, is not None | of truths -/
def isG (n : Bool) : AR2 := fun x y s Q => match x, y with
  | .d .non, .d .non => Q (.d (.bl (!n))) s
  | .d (.bl a), .d (.bl b) => Q (.d (.bl (n != decide (a = b)))) s
  | .d (.int _), .d .non => Q (.d (.bl n)) s
  | .d (.str _), .d .non => Q (.d (.bl n)) s
  | .d (.bl _), .d .non => Q (.d (.bl n)) s
  | .d (.lst _), .d .non => Q (.d (.bl n)) s
  | .d (.tup _), .d .non => Q (.d (.bl n)) s
  | .d (.ref _), .d .non => Q (.d (.bl n)) s
  | .d (.obj _ _ _), .d .non => Q (.d (.bl n)) s
  | .d (.exc _ _), .d .non => Q (.d (.bl n)) s
  | .l _, .d .non => Q (.d (.bl n)) s
  | _, _ => False
def rIsA : R2 := fun x y H Q => (y = .non ∧ Q (.bl (decide (x = .non))) H) ∨ rIsB x y H Q
theorem op_isA {X : Cx} : OpR X (compareOp .Is) rIsA := op_isN.or op_isBl
theorem lr_is : LiftR K M rIsA (isG false) := by
  intro H B φ s x y sx sy Q re rx ry h Q' f
  unfold isG at h
  split at h
  · cases non_of rx; cases non_of ry; exact .inl ⟨rfl, f.bl re h⟩
  · cases bl_of rx; cases bl_of ry
    rw [bne_f] at h
    exact .inr ⟨_, _, rfl, rfl, f.bl re h⟩
  · cases int_of rx; cases non_of ry; exact .inl ⟨rfl, f.bl re h⟩
  · cases str_of rx; cases non_of ry; exact .inl ⟨rfl, f.bl re h⟩
  · cases bl_of rx; cases non_of ry; exact .inl ⟨rfl, f.bl re h⟩
  · cases (show Fz K B x (.lst _) from rx) with
    | lst => cases non_of ry; exact .inl ⟨rfl, f.bl re h⟩
  · cases (show Fz K B x (.tup _) from rx) with
    | tup => cases non_of ry; exact .inl ⟨rfl, f.bl re h⟩
  · cases (show Fz K B x (.ref _) from rx) with
    | ref => cases non_of ry; exact .inl ⟨rfl, f.bl re h⟩
  · cases (show Fz K B x (.obj _ _ _) from rx) with
    | obj => cases non_of ry; exact .inl ⟨rfl, f.bl re h⟩
  · cases (show Fz K B x (.exc _ _) from rx) with
    | exc => cases non_of ry; exact .inl ⟨rfl, f.bl re h⟩
  · obtain ⟨p, _, rfl⟩ := rx; cases non_of ry; exact .inl ⟨rfl, f.bl re h⟩
  · exact h.elim
/-- in, not in: one text in another; flat data in a list or tuple; any data in a list -/
def inG (n : Bool) : AR2 := fun x y s Q => match x, y with
  | .d (.str a), .d (.str b) => Q (.d (.bl (n != !(Builtin.Str.occurrences b a 0 b.length 1).isEmpty))) s
  | x, y => (∃ t ts, x = .d t ∧ sqV s y = some ts ∧ t.flat = true ∧ ts.all T.flat = true ∧ Q (.d (.bl (n != inT t ts))) s) ∨
      (∃ a ts, pyV s x = some a ∧ pyV s y = some (.list ts) ∧ SeqAt.shaped a = true ∧ SeqAt.shaped (.list ts) = true ∧ Q (.d (.bl (n != ts.any fun z => PyData.eqv z a))) s)
def rInA (K : Fr) : R2 := fun x y H Q => (∃ i j, x = .str i ∧ y = .str j ∧ Q (.bl (!(Builtin.Str.occurrences j i 0 j.length 1).isEmpty)) H) ∨ rIn K false x y H Q ∨ rInD K x y H Q
def rNinA (K : Fr) : R2 := fun x y H Q => (∃ i j, x = .str i ∧ y = .str j ∧ Q (.bl (!(!(Builtin.Str.occurrences j i 0 j.length 1).isEmpty))) H) ∨ rIn K true x y H Q ∨ rNotInD K x y H Q
theorem op_inA {X : Cx} (hu : X.A.units + 65 < cLine) : OpR X (compareOp .In) (rInA X.K) := op_in_str.or (op_in_seq.or (op_inD hu))
theorem op_ninA {X : Cx} (hu : X.A.units + 65 < cLine) : OpR X (compareOp .NotIn) (rNinA X.K) := op_notin_str.or (op_notIn_seq.or (op_notInD hu))
theorem lr_in : LiftR K M (rInA K) (inG false) := by
  intro H B φ s x y sx sy Q re rx ry h Q' f
  unfold inG at h
  split at h
  · cases str_of rx; cases str_of ry
    rw [bne_f] at h
    exact .inl ⟨_, _, rfl, rfl, f.bl re h⟩
  · rcases h with ⟨t, ts, rfl, h1, h2, h3, q⟩ | ⟨a, ts, h1, h2, h3, h4, q⟩
    · rw [bne_f] at q
      obtain ⟨p, vs, rfl, e1, f1⟩ := sq_of re ry h1
      obtain ⟨e2, f2⟩ := flat_of (show Fz K B x t from rx) h2
      obtain ⟨e3, f3⟩ := flats_of f1 h3
      refine .inr (.inl ⟨p, vs, rfl, e1, f2, f3, ?_⟩)
      rw [if_neg Bool.false_ne_true]
      have e : inV x vs = inT t ts := by rw [e2, e3]; rfl
      rw [e]
      exact f.bl re q
    · rw [bne_f] at q
      exact .inr (.inr ⟨a, ts, py_of re rx h1 h3, py_of re ry h2 h4, h3, h4, f.bl re q⟩)
theorem lr_nin : LiftR K M (rNinA K) (inG true) := by
  intro H B φ s x y sx sy Q re rx ry h Q' f
  unfold inG at h
  split at h
  · cases str_of rx; cases str_of ry
    rw [bne_t] at h
    exact .inl ⟨_, _, rfl, rfl, f.bl re h⟩
  · rcases h with ⟨t, ts, rfl, h1, h2, h3, q⟩ | ⟨a, ts, h1, h2, h3, h4, q⟩
    · rw [bne_t] at q
      obtain ⟨p, vs, rfl, e1, f1⟩ := sq_of re ry h1
      obtain ⟨e2, f2⟩ := flat_of (show Fz K B x t from rx) h2
      obtain ⟨e3, f3⟩ := flats_of f1 h3
      refine .inr (.inl ⟨p, vs, rfl, e1, f2, f3, ?_⟩)
      rw [if_pos rfl]
      have e : inV x vs = inT t ts := by rw [e2, e3]; rfl
      rw [e]
      exact f.bl re q
    · rw [bne_t] at q
      exact .inr (.inr ⟨a, ts, py_of re rx h1 h3, py_of re ry h2 h4, h3, h4, f.bl re q⟩)
end
end Lv

/-! Lv3: rules for expressions, tests, arguments. -/
namespace Lv
open PySem L2

/-! ### the largest reading -/
def uE (K : Fr) (M : MP) (t : ATE) : TE := fun σ H Q => ∀ te, LiftE K M te t → te σ H Q
def uT (K : Fr) (M : MP) (t : ATT) : TT := fun σ H Q => ∀ te, LiftT K M te t → te σ H Q
def uA (K : Fr) (M : MP) (t : ATA) : TA := fun σ H Q => ∀ te, LiftA K M te t → te σ H Q
section
variable {X : Cx} {M : MP} {e a b c : Expr} {es : List Expr} {pos : Pos}
theorem AE.pe {t : ATE} (h : AE X M e t) : PE X e (uE X.K M t) := by
  obtain ⟨te, h1, h2⟩ := h.ex
  exact ⟨fun pins s σ H Q I q => h1.run pins s σ H Q I (q te h2)⟩
theorem AT.pt {t : ATT} (h : AT X M e t) : PT X e (uT X.K M t) := by
  obtain ⟨te, h1, h2⟩ := h.ex
  exact ⟨fun pins s σ H Q I q => h1.run pins s σ H Q I (q te h2)⟩
theorem AW.pw {t : ATT} (h : AW X M e t) : PW X e (uT X.K M t) := by
  obtain ⟨te, h1, h2⟩ := h.ex
  exact ⟨fun w pins s σ H Q I q => h1.run w pins s σ H Q I (q te h2)⟩
theorem AA.pa {t : ATA} (h : AA X M es t) : PA X es (uA X.K M t) := by
  obtain ⟨te, h1, h2⟩ := h.ex
  exact ⟨fun pos pins s σ H Q I q => h1.run pos pins s σ H Q I (q te h2)⟩
theorem uE_lift {K : Fr} {t : ATE} : LiftE K M (uE K M t) t := fun H B φ σ δ s Q re sl q Q' f te l => l H B φ σ δ s Q re sl q Q' f
theorem uT_lift {K : Fr} {t : ATT} : LiftT K M (uT K M t) t := fun H B φ σ δ s Q re sl q Q' f te l => l H B φ σ δ s Q re sl q Q' f
theorem uA_lift {K : Fr} {t : ATA} : LiftA K M (uA K M t) t := fun H B φ σ δ s Q re sl q Q' f te l => l H B φ σ δ s Q re sl q Q' f
theorem AE.of {te : TE} {t : ATE} (h : PE X e te) (l : LiftE X.K M te t) : AE X M e t := ⟨te, h, l⟩
theorem AT.of {te : TT} {t : ATT} (h : PT X e te) (l : LiftT X.K M te t) : AT X M e t := ⟨te, h, l⟩
theorem AW.of {te : TT} {t : ATT} (h : PW X e te) (l : LiftT X.K M te t) : AW X M e t := ⟨te, h, l⟩
theorem AA.of {te : TA} {t : ATA} (h : PA X es te) (l : LiftA X.K M te t) : AA X M es t := ⟨te, h, l⟩

/-! ### names, constants -/
def aVar (i : Nat) : ATE := fun δ s Q => match δ[i]? with
  | some (some x) => Q x s
  | _ => False
def aC (x : T) : ATE := fun _ s Q => Q (.d x) s
theorem ae_v {i : Nat} (h : PE X e (tVar i)) : AE X M e (aVar i) := by
  refine .of h fun H B φ σ δ s Q re sl q Q' f => ?_
  unfold aVar at q
  cases hd : δ[i]? with
  | none => rw [hd] at q; exact q.elim
  | some o =>
    rw [hd] at q
    cases o with
    | none => exact q.elim
    | some x =>
      obtain ⟨v, h1, h2⟩ := sl.at_ i x hd
      exact ⟨v, h1, f.now re h2 q⟩
theorem ae_int {i j pos} : AE X M (.Constant (.int i) j pos) (aC (.int i)) := .of pe_int fun H B φ σ δ s Q re sl q Q' f => f.int re q
theorem ae_bl {i j pos} : AE X M (.Constant (.bool i) j pos) (aC (.bl i)) := .of pe_bl fun H B φ σ δ s Q re sl q Q' f => f.bl re q
theorem ae_str {i j pos} : AE X M (.Constant (.str i) j pos) (aC (.str i)) := .of pe_str fun H B φ σ δ s Q re sl q Q' f => f.str re q
theorem ae_non {j pos} : AE X M (.Constant .none j pos) (aC .non) := .of pe_non fun H B φ σ δ s Q re sl q Q' f => f.non re q

/-! ### operators -/
def aOp (g : AR2) (ta tb : ATE) : ATE := fun δ s Q => ta δ s fun x s1 => tb δ s1 fun y s2 => g x y s2 Q
def aUn (g : AR1) (ta : ATE) : ATE := fun δ s Q => ta δ s fun x s1 => g x s1 Q
theorem lift_op {K : Fr} {r : R2} {g : AR2} {ta tb : TE} {aa ab : ATE} (lr : LiftR K M r g) (la : LiftE K M ta aa) (lb : LiftE K M tb ab) : LiftE K M (tOp r ta tb) (aOp g aa ab) :=
  fun H B φ σ δ s Q re sl q Q' f => la H B φ σ δ s _ re sl q _ fun H1 B1 φ1 s1 v1 x1 g1 re1 r1 q1 => lb H1 B1 φ1 σ δ s1 _ re1 (sl.mono g1) q1 _ fun H2 B2 φ2 s2 v2 x2 g2 re2 r2 q2 =>
    lr H2 B2 φ2 s2 v1 v2 x1 x2 Q re2 (r1.mono g2) r2 q2 Q' (f.grow (g1.trans g2))
theorem ae_bin {op : Operator} {r : R2} {g : AR2} {ta tb : ATE} (ho : OpR X (binaryOp op) r) (lr : LiftR X.K M r g) (ha : AE X M a ta) (hb : AE X M b tb) : AE X M (.BinOp a op b pos) (aOp g ta tb) :=
  .of (pe_op ho ha.pe hb.pe) (lift_op lr uE_lift uE_lift)
theorem ae_add {ta tb : ATE} (ha : AE X M a ta) (hb : AE X M b tb) : AE X M (.BinOp a .Add b pos) (aOp addG ta tb) := ae_bin op_addA lr_add ha hb
theorem ae_sub {ta tb : ATE} (ha : AE X M a ta) (hb : AE X M b tb) : AE X M (.BinOp a .Sub b pos) (aOp subG ta tb) := ae_bin op_sub lr_sub ha hb
theorem ae_mul {ta tb : ATE} (ha : AE X M a ta) (hb : AE X M b tb) : AE X M (.BinOp a .Mult b pos) (aOp mulG ta tb) := ae_bin op_mulA lr_mul ha hb
theorem ae_fdiv {ta tb : ATE} (ha : AE X M a ta) (hb : AE X M b tb) : AE X M (.BinOp a .FloorDiv b pos) (aOp fdivG ta tb) := ae_bin op_fdivA lr_fdiv ha hb
theorem ae_mod {ta tb : ATE} (ha : AE X M a ta) (hb : AE X M b tb) : AE X M (.BinOp a .Mod b pos) (aOp modG ta tb) := ae_bin op_mod lr_mod ha hb
theorem ae_pow {ta tb : ATE} (ha : AE X M a ta) (hb : AE X M b tb) : AE X M (.BinOp a .Pow b pos) (aOp powG ta tb) := ae_bin op_pow lr_pow ha hb
def negG : AR1 := fun x s Q => match x with
  | .d (.int i) => Q (.d (.int (-i))) s
  | _ => False

/-! ### comparisons: as values, as tests -/
theorem ae_cmp {op : CmpOp} {r : R2} {g : AR2} {ta tb : ATE} (ho : OpR X (compareOp op) r) (lr : LiftR X.K M r g) (hm : behindInMarks op b = false) (ha : AE X M a ta) (hb : AE X M b tb) : AE X M (.Compare a [op] [b] pos) (aOp g ta tb) :=
  .of (pe_cmpR ho ha.pe hb.pe hm) (lift_op lr uE_lift uE_lift)
def aTest (t : ATE) : ATT := fun δ s Q => t δ s fun x s1 => match x with
  | .d (.bl b) => Q b s1
  | _ => False
theorem lift_test {K : Fr} {te : TE} {t : ATE} (l : LiftE K M te t) : LiftT K M (tTest te) (aTest t) := fun H B φ σ δ s Q re sl q Q' f => l H B φ σ δ s _ re sl q _ fun H1 B1 φ1 s1 v1 x1 g1 re1 r1 q1 => by
  dsimp only at q1
  split at q1
  · cases bl_of r1
    exact ⟨_, rfl, f _ _ _ _ _ g1 re1 q1⟩
  · exact q1.elim
theorem at_cmp {op : CmpOp} {r : R2} {g : AR2} {ta tb : ATE} (ho : OpR X (compareOp op) r) (lr : LiftR X.K M r g) (hm : behindInMarks op b = false) (ha : AE X M a ta) (hb : AE X M b tb) : AT X M (.Compare a [op] [b] pos) (aTest (aOp g ta tb)) :=
  .of (pt_cmpR ho ha.pe hb.pe hm) (lift_test (lift_op lr uE_lift uE_lift))
abbrev ltG : AR2 := cmpG fun i j => decide (i < j)
abbrev leG : AR2 := cmpG fun i j => decide (i ≤ j)
abbrev gtG : AR2 := cmpG fun i j => decide (j < i)
abbrev geG : AR2 := cmpG fun i j => decide (j ≤ i)
/-- an operator of comparison, by its rule -/
structure CO (X : Cx) (M : MP) (op : CmpOp) (b : Expr) (g : AR2) : Prop where
  ex : ∃ r, OpR X (compareOp op) r ∧ LiftR X.K M r g
  hm : behindInMarks op b = false
theorem c_lt : CO X M .Lt b ltG := ⟨⟨_, op_lt, lr_cmp _⟩, nomark _⟩
theorem c_le : CO X M .LtE b leG := ⟨⟨_, op_le, lr_cmp _⟩, nomark _⟩
theorem c_gt : CO X M .Gt b gtG := ⟨⟨_, op_gt, lr_cmp _⟩, nomark _⟩
theorem c_ge : CO X M .GtE b geG := ⟨⟨_, op_ge, lr_cmp _⟩, nomark _⟩
theorem c_eq (hu : X.A.units + 64 < cLine) : CO X M .Eq b (eqG false) := ⟨⟨_, op_eqA hu, lr_eq⟩, nomark _⟩
theorem c_ne (hu : X.A.units + 64 < cLine) : CO X M .NotEq b (eqG true) := ⟨⟨_, op_neA hu, lr_ne⟩, nomark _⟩
theorem c_is : CO X M .Is b (isG false) := ⟨⟨_, op_isA, lr_is⟩, nomark _⟩
theorem c_in (hu : X.A.units + 65 < cLine) (hm : behindInMarks .In b = false := by rfl) : CO X M .In b (inG false) := ⟨⟨_, op_inA hu, lr_in⟩, hm⟩
theorem c_nin (hu : X.A.units + 65 < cLine) (hm : behindInMarks .NotIn b = false := by rfl) : CO X M .NotIn b (inG true) := ⟨⟨_, op_ninA hu, lr_nin⟩, hm⟩
theorem ae_c {op : CmpOp} {g : AR2} {ta tb : ATE} (h : CO X M op b g) (ha : AE X M a ta) (hb : AE X M b tb) : AE X M (.Compare a [op] [b] pos) (aOp g ta tb) :=
  let ⟨_, h1, h2⟩ := h.ex; ae_cmp h1 h2 h.hm ha hb
theorem at_c {op : CmpOp} {g : AR2} {ta tb : ATE} (h : CO X M op b g) (ha : AE X M a ta) (hb : AE X M b tb) : AT X M (.Compare a [op] [b] pos) (aTest (aOp g ta tb)) :=
  let ⟨_, h1, h2⟩ := h.ex; at_cmp h1 h2 h.hm ha hb
/-- a op b op' c: the last asked only where the first holds -/
def aChain (g g' : AR2) (ta tb tc : ATE) : ATE := fun δ s Q => ta δ s fun x s1 => tb δ s1 fun y s2 => g x y s2 fun z s3 => match z with
  | .d (.bl k) => (k = true → tc δ s3 fun w s4 => g' y w s4 Q) ∧ (k = false → Q (.d (.bl false)) s3)
  | _ => False
theorem lift_chain {K : Fr} {r r' : R2} {g g' : AR2} {ta tb tc : TE} {aa ab ac : ATE} (lr : LiftR K M r g) (lr' : LiftR K M r' g') (la : LiftE K M ta aa) (lb : LiftE K M tb ab) (lc : LiftE K M tc ac) :
    LiftE K M (tChain r r' ta tb tc) (aChain g g' aa ab ac) :=
  fun H B φ σ δ s Q re sl q Q' f => la H B φ σ δ s _ re sl q _ fun H1 B1 φ1 s1 v1 x1 g1 re1 r1 q1 => lb H1 B1 φ1 σ δ s1 _ re1 (sl.mono g1) q1 _ fun H2 B2 φ2 s2 v2 x2 g2 re2 r2 q2 =>
    lr H2 B2 φ2 s2 v1 v2 x1 x2 _ re2 (r1.mono g2) r2 q2 _ fun H3 B3 φ3 s3 v3 x3 g3 re3 r3 q3 => by
      dsimp only at q3
      split at q3
      · rename_i k
        cases bl_of r3
        refine ⟨k, rfl, ?_⟩
        have g03 := (g1.trans g2).trans g3
        cases k with
        | true => exact iteT (lc H3 B3 φ3 σ δ s3 _ re3 (sl.mono g03) (q3.1 rfl) _ fun H4 B4 φ4 s4 v4 x4 g4 re4 r4 q4 => lr' H4 B4 φ4 s4 v2 v4 x2 x4 Q re4 ((r2.mono g3).mono g4) r4 q4 Q' (f.grow (g03.trans g4)))
        | false => exact iteF ((f.grow g03).bl re3 (q3.2 rfl))
      · exact q3.elim
theorem ae_chain {op op' : CmpOp} {g g' : AR2} {ta tb tc : ATE} (h : CO X M op b g) (h' : CO X M op' c g') (ha : AE X M a ta) (hb : AE X M b tb) (hc : AE X M c tc) (hm : lastMarks [op, op'] [b, c] = false := by with_unfolding_all rfl) :
    AE X M (.Compare a [op, op'] [b, c] pos) (aChain g g' ta tb tc) := by
  obtain ⟨r, h1, h2⟩ := h.ex
  obtain ⟨r', h3, h4⟩ := h'.ex
  exact .of (pe_chain h1 h3 ha.pe hb.pe hc.pe hm) (lift_chain h2 h4 uE_lift uE_lift uE_lift)
theorem at_chain {op op' : CmpOp} {g g' : AR2} {ta tb tc : ATE} (h : CO X M op b g) (h' : CO X M op' c g') (ha : AE X M a ta) (hb : AE X M b tb) (hc : AE X M c tc) (hm : lastMarks [op, op'] [b, c] = false := by with_unfolding_all rfl) :
    AT X M (.Compare a [op, op'] [b, c] pos) (aTest (aChain g g' ta tb tc)) := by
  obtain ⟨r, h1, h2⟩ := h.ex
  obtain ⟨r', h3, h4⟩ := h'.ex
  exact .of (pt_chain h1 h3 ha.pe hb.pe hc.pe hm) (lift_test (lift_chain h2 h4 uE_lift uE_lift uE_lift))

/-! ### tests -/
theorem at_val {t : ATE} (h : AE X M e t) (he : ∀ whole, isTrue e X.env whole = (do let v ← whole; standAt e.pos; holding [v] (truthy v)) := by intro _; rfl) : AT X M e (aTest t) :=
  .of (pt_val h.pe he) (show LiftT X.K M (tTest _) _ from lift_test uE_lift)
def aAnd (t u : ATT) : ATT := fun δ s Q => t δ s fun b s1 => (b = true → u δ s1 Q) ∧ (b = false → Q false s1)
def aOr (t u : ATT) : ATT := fun δ s Q => t δ s fun b s1 => (b = true → Q true s1) ∧ (b = false → u δ s1 Q)
def aNot (t : ATT) : ATT := fun δ s Q => t δ s fun b s1 => Q (!b) s1
variable {rest : List Expr} {ta tb : ATT}
theorem AW.at_ (h : AW X M e ta) : AT X M e ta := let ⟨te, h1, h2⟩ := h.ex; .of h1.pt h2
theorem aw_and1 (ha : AT X M a ta) : AW X M (.BoolOp .And [a] pos) ta := .of (pw_and1 ha.pt) uT_lift
theorem aw_or1 (ha : AT X M a ta) : AW X M (.BoolOp .Or [a] pos) ta := .of (pw_or1 ha.pt) uT_lift
theorem lift_and {K : Fr} {t u : TT} {at_ au : ATT} (l : LiftT K M t at_) (m : LiftT K M u au) : LiftT K M (tAnd t u) (aAnd at_ au) := fun H B φ σ δ s Q re sl q Q' f => l H B φ σ δ s _ re sl q _ fun H1 B1 φ1 s1 b g1 re1 q1 => by
  cases b with
  | true => exact iteT (m H1 B1 φ1 σ δ s1 _ re1 (sl.mono g1) (q1.1 rfl) _ (f.grow g1))
  | false => exact iteF (f _ _ _ _ _ g1 re1 (q1.2 rfl))
theorem lift_or {K : Fr} {t u : TT} {at_ au : ATT} (l : LiftT K M t at_) (m : LiftT K M u au) : LiftT K M (tOr t u) (aOr at_ au) := fun H B φ σ δ s Q re sl q Q' f => l H B φ σ δ s _ re sl q _ fun H1 B1 φ1 s1 b g1 re1 q1 => by
  cases b with
  | true => exact iteT (f _ _ _ _ _ g1 re1 (q1.1 rfl))
  | false => exact iteF (m H1 B1 φ1 σ δ s1 _ re1 (sl.mono g1) (q1.2 rfl) _ (f.grow g1))
theorem aw_and (ha : AT X M a ta) (hb : AW X M (.BoolOp .And (b :: rest) pos) tb) : AW X M (.BoolOp .And (a :: b :: rest) pos) (aAnd ta tb) := .of (pw_and ha.pt hb.pw) (lift_and uT_lift uT_lift)
theorem aw_or (ha : AT X M a ta) (hb : AW X M (.BoolOp .Or (b :: rest) pos) tb) : AW X M (.BoolOp .Or (a :: b :: rest) pos) (aOr ta tb) := .of (pw_or ha.pt hb.pw) (lift_or uT_lift uT_lift)
theorem at_not (ha : AT X M a ta) : AT X M (.UnaryOp .Not a pos) (aNot ta) := .of (pt_not ha.pt) fun H B φ σ δ s Q re sl q Q' f => uT_lift (t := ta) H B φ σ δ s _ re sl q _ fun H1 B1 φ1 s1 b g1 re1 q1 => f _ _ _ _ _ g1 re1 q1
/-- a pure test, told at once -/
def aCutT (t : ATT) : ATT := fun δ s Q => ∃ P : Bool, t δ s (fun b s1 => b = P ∧ s1 = s) ∧ Q P s
/-- as values: truths -/
def aAndV (t u : ATE) : ATE := fun δ s Q => t δ s fun x s1 => match x with
  | .d (.bl k) => (k = true → u δ s1 Q) ∧ (k = false → Q (.d (.bl false)) s1)
  | _ => False
def aOrV (t u : ATE) : ATE := fun δ s Q => t δ s fun x s1 => match x with
  | .d (.bl k) => (k = true → Q (.d (.bl true)) s1) ∧ (k = false → u δ s1 Q)
  | _ => False
def aNotV (t : ATE) : ATE := fun δ s Q => t δ s fun x s1 => match x with
  | .d (.bl k) => Q (.d (.bl (!k))) s1
  | _ => False
variable {va vb : ATE}
theorem ae_one {op} (h : AE X M a va) : AE X M (.BoolOp op [a] pos) va := .of (pe_one h.pe) uE_lift
theorem ae_and (ha : AE X M a va) (hb : AE X M (.BoolOp .And (b :: rest) pos) vb) : AE X M (.BoolOp .And (a :: b :: rest) pos) (aAndV va vb) :=
  .of (pe_and ha.pe hb.pe) fun H B φ σ δ s Q re sl q Q' f => uE_lift (t := va) H B φ σ δ s _ re sl q _ fun H1 B1 φ1 s1 v x g1 re1 r1 q1 => by
    dsimp only at q1
    split at q1
    · rename_i k
      cases bl_of r1
      refine ⟨k, rfl, ?_⟩
      cases k with
      | true => exact iteT (uE_lift (t := vb) H1 B1 φ1 σ δ s1 _ re1 (sl.mono g1) (q1.1 rfl) _ (f.grow g1))
      | false => exact iteF ((f.grow g1).bl re1 (q1.2 rfl))
    · exact q1.elim
theorem ae_not (ha : AE X M a va) : AE X M (.UnaryOp .Not a pos) (aNotV va) :=
  .of (pe_not ha.pe) fun H B φ σ δ s Q re sl q Q' f => uE_lift (t := va) H B φ σ δ s _ re sl q _ fun H1 B1 φ1 s1 v x g1 re1 r1 q1 => by
    dsimp only at q1
    split at q1
    · cases bl_of r1
      exact ⟨_, rfl, (f.grow g1).bl re1 q1⟩
    · exact q1.elim
/-- a pure value, told at once -/
def aCut (t : ATE) : ATE := fun δ s Q => ∃ x : T, t δ s (fun y s1 => y = .d x ∧ s1 = s) ∧ Q (.d x) s
/-- a value with what is known of it, the store as it was -/
def aKn (t : ATE) : ATE := fun δ s Q => ∃ P : T → Prop, t δ s (fun y s1 => ∃ x, y = .d x ∧ P x ∧ s1 = s) ∧ ∀ x, P x → Q (.d x) s
def aIfE (t : ATT) (ta tb : ATE) : ATE := fun δ s Q => t δ s fun b s1 => (b = true → ta δ s1 Q) ∧ (b = false → tb δ s1 Q)
theorem ae_if {t : ATT} (hc : AT X M c t) (ha : AE X M a va) (hb : AE X M b vb) : AE X M (.IfExp c a b pos) (aIfE t va vb) :=
  .of (pe_ifExp hc.pt ha.pe hb.pe) fun H B φ σ δ s Q re sl q Q' f => uT_lift (t := t) H B φ σ δ s _ re sl q _ fun H1 B1 φ1 s1 b g1 re1 q1 => by
    cases b with
    | true => exact iteT (uE_lift (t := va) H1 B1 φ1 σ δ s1 _ re1 (sl.mono g1) (q1.1 rfl) _ (f.grow g1))
    | false => exact iteF (uE_lift (t := vb) H1 B1 φ1 σ δ s1 _ re1 (sl.mono g1) (q1.2 rfl) _ (f.grow g1))

/-! ### data: a fresh list is data from here on; what was made on the way is forgotten -/
def aDat (t : ATE) : ATE := fun δ s Q => t δ s fun x s1 => (s1.take s.length).all (clO s.length) = true ∧ match x with
  | .d y => Q (.d y) (s1.take s.length)
  | .l n => s.length ≤ n ∧ ∃ xs, s1[n]? = some (.lst xs) ∧ Q (.d (.lst xs)) (s1.take s.length)
theorem lift_dat {K : Fr} {te : TE} {t : ATE} (l : LiftE K M te t) : LiftE K M te (aDat t) := fun H B φ σ δ s Q re sl q Q' f => l H B φ σ δ s _ re sl q _ fun H1 B1 φ1 s1 v x g1 re1 r1 q1 => by
  obtain ⟨c, q1⟩ := q1
  have hk : φ.length ≤ s.length := Nat.le_of_eq re.len
  cases x with
  | d y =>
    obtain ⟨g2, re2⟩ := re1.take g1 re hk (by rw [← re.len]; exact g1.le) c
    exact f _ _ _ _ _ _ g2 re2 (.dat r1) q1
  | l n =>
    obtain ⟨hn, xs, hx, q1⟩ := q1
    obtain ⟨p, B2, hp, fz, eb, re2, gg⟩ := re1.freeze hx
    obtain ⟨q, hq, ev⟩ := r1
    rw [Fi.r_of hp] at hq; cases hq
    have g2 : Gr H B φ H1 B2 φ1 := gg g1 (.inl (by rw [re.len]; exact hn))
    have re2' : Re K M H1 B2 φ1 (s1.set n .gone) := ⟨re2.ex, re2.nd, re2.len, re2.al, re2.fr, re2.ob, fun H3 B3 φ3 g3 => re.pm _ _ _ (g2.trans g3)⟩
    have e : (s1.set n .gone).take s.length = s1.take s.length := by rw [List.take_set]; exact List.set_eq_of_length_le (by rw [List.length_take]; omega)
    obtain ⟨g3, re3⟩ := re2'.take g2 re hk (by rw [← re.len]; exact g1.le) (by rw [e]; exact c)
    rw [e] at re3
    subst ev
    exact f _ _ _ _ _ _ g3 re3 (.dat fz) q1
theorem ae_dat (ha : AE X M a va) : AE X M a (aDat va) := .of ha.pe (lift_dat uE_lift)
/-! ### arguments, displays -/
def aNil : ATA := fun _ s Q => Q [] s
def aCons (ta : ATE) (tr : ATA) : ATA := fun δ s Q => ta δ s fun x s1 => tr δ s1 fun xs s2 => Q (x :: xs) s2
theorem aa_nil : AA X M [] aNil := .of pa_nil fun H B φ σ δ s Q re sl q Q' f => f _ _ _ _ _ _ .refl re .nil q
theorem aa_cons {tr : ATA} (ha : AE X M e va) (hr : AA X M es tr) (hs : starEach (e :: es) X.env = (false, eval e X.env) :: starEach es X.env := by rfl) : AA X M (e :: es) (aCons va tr) :=
  .of (pa_cons ha.pe hr.pa hs) fun H B φ σ δ s Q re sl q Q' f => uE_lift (t := va) H B φ σ δ s _ re sl q _ fun H1 B1 φ1 s1 v x g1 re1 r1 q1 =>
    uA_lift (t := tr) H1 B1 φ1 σ δ s1 _ re1 (sl.mono g1) q1 _ fun H2 B2 φ2 s2 vs xs g2 re2 r2 q2 => f _ _ _ _ _ _ (g1.trans g2) re2 (.cons (r1.mono g2) r2) q2
/-- (a, b): of data it is data, else a thing of the store -/
def aTup (t : ATA) : ATE := fun δ s Q => t δ s fun xs s1 => xs.length ≤ sizeLine ∧ match dats xs with
  | some ts => Q (.d (.tup ts)) s1
  | none => Q (.l s1.length) (s1 ++ [.tp xs])
def aLst (t : ATA) : ATE := fun δ s Q => t δ s fun xs s1 => xs.length ≤ sizeLine ∧ ∃ ts, dats xs = some ts ∧ Q (.l s1.length) (s1 ++ [.lst ts])
theorem ae_tup {k} {t : ATA} (h : AA X M es t) : AE X M (.Tuple es k pos) (aTup t) := .of (pe_tup h.pa) fun H B φ σ δ s Q re sl q Q' f => uA_lift (t := t) H B φ σ δ s _ re sl q _ fun H1 B1 φ1 s1 vs xs g1 re1 r1 q1 => by
  refine ⟨by rw [r1.length]; exact q1.1, ?_⟩
  have q2 := q1.2
  cases hd : dats xs with
  | some ts =>
    rw [hd] at q2
    exact (f.grow g1).newT re1 (r1.dats hd) q2
  | none =>
    rw [hd] at q2
    intro p hp
    obtain ⟨g2, re2⟩ := re1.newL (.tup vs) (.tp xs) hp ⟨vs, r1, rfl⟩
    exact f _ _ _ _ _ _ (g1.trans g2) re2 (.loc (re1.top _)) q2
theorem ae_lst {t : ATA} (h : AA X M es t) : AE X M (.List es pos) (aLst t) := .of (pe_lst h.pa) fun H B φ σ δ s Q re sl q Q' f => uA_lift (t := t) H B φ σ δ s _ re sl q _ fun H1 B1 φ1 s1 vs xs g1 re1 r1 ⟨q1, ts, q2, q3⟩ =>
  ⟨by rw [r1.length]; exact q1, (f.grow g1).newL re1 (r1.dats q2) q3⟩
end
end Lv

/-! Lv4: subscripts, calls of built-ins, methods. -/
namespace Lv
open PySem L2

section
variable {K : Fr} {M : MP} {H H' B B' : Hp} {φ φ' : Fi} {s s' : ST} {Q : SV → ST → Prop} {Q' : VK}
/-- what is known of what stands there; of a box nothing -/
def RoQ (K : Fr) (B : Hp) (φ : Fi) : LO → Option HO → Prop
  | .gone, _ => True
  | .box _, _ => True
  | .pool o _, u => Ro K B φ o u
  | .lst ts, u => Ro K B φ (.lst ts) u
  | .tp ts, u => Ro K B φ (.tp ts) u
  | .ll ts, u => Ro K B φ (.ll ts) u
  | .dK ts, u => Ro K B φ (.dK ts) u
  | .dT ts, u => Ro K B φ (.dT ts) u
  | .mK ts, u => Ro K B φ (.mK ts) u
  | .mT ts, u => Ro K B φ (.mT ts) u
  | .fK od vs ts, u => Ro K B φ (.fK od vs ts) u
  | .fT od vs ts, u => Ro K B φ (.fT od vs ts) u
  | .lK od vs ts, u => Ro K B φ (.lK od vs ts) u
  | .lT od vs ts, u => Ro K B φ (.lT od vs ts) u
  | .ins C j fs, u => Ro K B φ (.ins C j fs) u
  | .own j, u => Ro K B φ (.own j) u
theorem at_loc (re : Re K M H B φ s) {v : V} {n : Nat} {o : LO} (r : Rs K B φ v (.l n)) (h : s[n]? = some o) : ∃ p, v = .ref p ∧ φ.r n = some p ∧ RoQ K B φ o (H p) := by
  obtain ⟨p, hp, rfl⟩ := r
  refine ⟨p, rfl, hp, ?_⟩
  have go : o.smp = true → Ro K B φ o (H p) := fun w => by
    obtain ⟨q, hq, h1⟩ := re.at_ h w
    rw [Fi.r_of hq] at hp; cases hp
    exact h1
  cases o with
  | pool o rs =>
    obtain ⟨c, hc, rfl⟩ := Fi.r_inv hp
    cases re.ob n c _ hc h with
    | sim w => cases w
    | pool w1 w2 w3 w4 => exact w3
  | _ => first | trivial | exact go rfl
theorem lst_of (re : Re K M H B φ s) {v : V} {ts : List T} (h : Rs K B φ v (.d (.lst ts))) : ∃ p vs, v = .ref p ∧ H p = some (.lst vs) ∧ FzAll K B vs ts := by
  cases (show Fz K B v (.lst ts) from h) with
  | lst h1 h2 => exact ⟨_, _, rfl, re.ex _ _ h1, h2⟩
theorem scr_of (re : Re K M H B φ s) {v : V} {ts : List T} (h : Rs K B φ v (.d (.scr ts))) : ∃ p vs, v = .ref p ∧ SqL K H p vs ∧ SqL K B p vs ∧ FzAll K B vs ts := by
  cases (show Fz K B v (.scr ts) from h) with
  | scr h1 h2 => exact ⟨_, _, rfl, ex_l re.ex h1, h1, h2⟩

/-! ### subscripts -/
theorem atI_fz {vs : List V} {ts : List T} (f : FzAll K B vs ts) {i : Int} {t : T} (h : atI ts i = some t) : ∃ v, atI vs i = some v ∧ Fz K B v t := by
  unfold atI at h ⊢
  rw [f.length]
  cases hj : ixN ts.length i with
  | none => rw [hj] at h; cases h
  | some j =>
    rw [hj] at h
    exact f.get' h
theorem atI_rs {vs : List V} {ts : List SV} (f : RsAll K B φ vs ts) {i : Int} {t : SV} (h : atI ts i = some t) : ∃ v, atI vs i = some v ∧ Rs K B φ v t := by
  unfold atI at h ⊢
  rw [f.length]
  cases hj : ixN ts.length i with
  | none => rw [hj] at h; cases h
  | some j =>
    rw [hj] at h
    exact f.get' h
def ixG : AR2 := fun x y s Q => match x, y with
  | .d (.str z), .d (.int i) => z.length ≤ sizeLine ∧ ∃ c, atI z.cps.toList i = some c ∧ Q (.d (.str ⟨#[c]⟩)) s
  | .d (.tup ts), .d (.int i) => ∃ t, atI ts i = some t ∧ Q (.d t) s
  | .d (.lst ts), .d (.int i) => ∃ t, atI ts i = some t ∧ Q (.d t) s
  | .d (.scr ts), .d (.int i) => ∃ t, atI ts i = some t ∧ Q (.d t) s
  | .l n, .d (.int i) => (match s[n]? with
    | some (.lst ts) => ∃ t, atI ts i = some t ∧ Q (.d t) s
    | some (.tp xs) => ∃ x, atI xs i = some x ∧ Q x s
    | some (.ll xs) => ∃ x, atI xs i = some x ∧ Q x s
    | some (.pool (.lst ts) _) => ∃ t, atI ts i = some t ∧ Q (.d t) s
    | _ => False)
  | _, _ => False
theorem lr_ix : LiftR K M (rIx K) ixG := by
  intro H B φ s x y sx sy Q re rx ry h Q' f
  unfold ixG at h
  split at h
  · cases str_of rx; cases int_of ry
    obtain ⟨hz, c, hc, q⟩ := h
    exact .inr (.inr ⟨_, _, c, rfl, rfl, hz, hc, f.str re q⟩)
  · cases int_of ry
    obtain ⟨t, ht, q⟩ := h
    obtain ⟨p, vs, rfl, e1, _, f1⟩ := tup_of re rx
    obtain ⟨v, hv, r⟩ := atI_fz f1 ht
    exact .inr (.inl ⟨p, vs, _, v, rfl, rfl, e1, hv, f.now re (.dat r) q⟩)
  · cases int_of ry
    obtain ⟨t, ht, q⟩ := h
    obtain ⟨p, vs, rfl, e1, f1⟩ := lst_of re rx
    obtain ⟨v, hv, r⟩ := atI_fz f1 ht
    exact .inl ⟨p, vs, _, v, rfl, rfl, SqL.of e1, hv, f.now re (.dat r) q⟩
  · cases int_of ry
    obtain ⟨t, ht, q⟩ := h
    obtain ⟨p, vs, rfl, e1, _, f1⟩ := scr_of re rx
    obtain ⟨v, hv, r⟩ := atI_fz f1 ht
    exact .inl ⟨p, vs, _, v, rfl, rfl, e1, hv, f.now re (.dat r) q⟩
  · cases int_of ry
    rename_i n i
    cases hs : s[n]? with
    | none => rw [hs] at h; exact h.elim
    | some o =>
      rw [hs] at h
      obtain ⟨p, rfl, hp, ho⟩ := at_loc re rx hs
      cases o with
      | lst ts =>
        obtain ⟨t, ht, q⟩ := h
        obtain ⟨vs, f1, e1⟩ := ho
        obtain ⟨v, hv, r⟩ := atI_fz f1 ht
        exact .inl ⟨p, vs, _, v, rfl, rfl, SqL.of e1, hv, f.now re (.dat r) q⟩
      | tp xs =>
        obtain ⟨t, ht, q⟩ := h
        obtain ⟨vs, f1, e1⟩ := ho
        obtain ⟨v, hv, r⟩ := atI_rs f1 ht
        exact .inr (.inl ⟨p, vs, _, v, rfl, rfl, SqT.of e1, hv, f.now re r q⟩)
      | ll xs =>
        obtain ⟨t, ht, q⟩ := h
        obtain ⟨vs, f1, e1⟩ := ho
        obtain ⟨v, hv, r⟩ := atI_rs f1 ht
        exact .inl ⟨p, vs, _, v, rfl, rfl, SqL.of e1, hv, f.now re r q⟩
      | pool o rs =>
        cases o with
        | lst ts =>
          obtain ⟨t, ht, q⟩ := h
          obtain ⟨vs, f1, e1⟩ := ho
          obtain ⟨v, hv, r⟩ := atI_fz f1 ht
          exact .inl ⟨p, vs, _, v, rfl, rfl, SqL.of e1, hv, f.now re (.dat r) q⟩
        | _ => exact h.elim
      | _ => exact h.elim
  · exact h.elim
end
section
variable {X : Cx} {M : MP} {e a b c : Expr} {es : List Expr} {pos : Pos} {va vb : ATE}
theorem ae_ix (ha : AE X M a va) (hb : AE X M b vb) (hs : PlainIx b := by exact fun _ _ => rfl) : AE X M (.Subscript a b pos) (aOp ixG va vb) := .of (pe_ix ix_seq ha.pe hb.pe hs) (lift_op lr_ix uE_lift uE_lift)

/-! ### slices -/
abbrev ATO := AS → ST → (Option Int → ST → Prop) → Prop
def FinO (K : Fr) (M : MP) (H B : Hp) (φ : Fi) (Q : Option Int → ST → Prop) (Q' : Option Int → Hp → Prop) : Prop := ∀ H' B' φ' s' b, Gr H B φ H' B' φ' → Re K M H' B' φ' s' → Q b s' → Q' b H'
def LiftO (K : Fr) (M : MP) (te : TO) (t : ATO) : Prop := ∀ H B φ σ δ s Q, Re K M H B φ s → Rsl K B φ σ δ → t δ s Q → ∀ Q', FinO K M H B φ Q Q' → te σ H Q'
structure AO (X : Cx) (M : MP) (e : Option Expr) (t : ATO) : Prop where
  ex : ∃ te, PO X e te ∧ LiftO X.K M te t
def aNo : ATO := fun _ s Q => Q none s
def aPart (t : ATE) : ATO := fun δ s Q => t δ s fun x s1 => match x with
  | .d (.int i) => Q (some i) s1
  | _ => False
theorem ao_none : AO X M none aNo := ⟨_, po_none, fun H B φ σ δ s Q re sl q Q' f => f _ _ _ _ _ .refl re q⟩
theorem ao_some (h : AE X M e va) : AO X M (some e) (aPart va) := ⟨_, po_some h.pe, fun H B φ σ δ s Q re sl q Q' f => uE_lift (t := va) H B φ σ δ s _ re sl q _ fun H1 B1 φ1 s1 v x g1 re1 r1 q1 => by
  dsimp only at q1
  split at q1
  · cases int_of r1
    exact ⟨_, rfl, f _ _ _ _ _ g1 re1 q1⟩
  · exact q1.elim⟩
/-- what a slice cuts out -/
def cut {α : Type} (xs : List α) (lo hi : Option Int) : List α := (xs.drop (HT.sIx xs.length 0 lo)).take (HT.sIx xs.length xs.length hi - HT.sIx xs.length 0 lo)
theorem cut_fz {K : Fr} {B : Hp} {vs : List V} {ts : List T} (f : FzAll K B vs ts) (lo hi : Option Int) : FzAll K B (cutV vs lo hi) (cut ts lo hi) := by
  unfold cutV cut
  rw [f.length]
  exact (f.drop _).take _
def slG : SV → Option Int → Option Int → ST → (SV → ST → Prop) → Prop := fun x lo hi s Q => match x with
  | .d (.tup ts) => Q (.d (.tup (cut ts lo hi))) s
  | .d (.str z) => z.length ≤ sizeLine ∧ Q (.d (.str (cutS z lo hi))) s
  | x => ∃ ts, lsV s x = some ts ∧ Q (.l s.length) (s ++ [.lst (cut ts lo hi)])
def rSl (K : Fr) : V → Option Int → Option Int → Hp → VK → Prop := fun x lo hi H Q => rSlA K x lo hi H Q ∨ rSlS x lo hi H Q ∨ rSlL K x lo hi H Q
theorem sl_any : SlR X (rSl X.K) := SlR.or sl_tupA (SlR.or sl_str sl_list)
theorem sIx_zero (n : Nat) (o : Option Int) (h : HT.sIx n n o = n) (ts : List T) (hn : ts.length = n) (h0 : HT.sIx n 0 lo = 0) : cut ts lo o = ts := by
  subst hn
  unfold cut
  rw [h0, h, List.drop_zero, Nat.sub_zero, List.take_length]
theorem ls_sl {K : Fr} {M : MP} {H B : Hp} {φ : Fi} {s : ST} {Q : SV → ST → Prop} {Q' : VK} (re : Re K M H B φ s) {x : V} {sx : SV} (rx : Rs K B φ x sx) (f : FinE K M H B φ Q Q') {lo hi : Option Int}
    (h : ∃ ts, lsV s sx = some ts ∧ Q (.l s.length) (s ++ [.lst (cut ts lo hi)])) : rSl K x lo hi H Q' := by
  obtain ⟨ts, h1, q⟩ := h
  obtain ⟨p, vs, rfl, e1, f1⟩ := ls_of re rx h1
  exact .inr (.inr ⟨p, vs, rfl, SqL.of e1, f.newL re (cut_fz f1 lo hi) q⟩)
theorem ls_slG {K : Fr} {M : MP} {H B : Hp} {φ : Fi} {s : ST} {Q : SV → ST → Prop} {Q' : VK} (re : Re K M H B φ s) {x : V} {sx : SV} (rx : Rs K B φ x sx) (f : FinE K M H B φ Q Q') {lo hi : Option Int} (h : slG sx lo hi s Q) : rSl K x lo hi H Q' := by
  unfold slG at h
  split at h
  · rename_i ts
    obtain ⟨p, vs, rfl, e1, e2, f1⟩ := tup_of re rx
    refine .inl ⟨p, vs, rfl, e1, fun w => ?_, fun _ => f.newT re (cut_fz f1 lo hi) h⟩
    have e : cut ts lo hi = ts := by
      rw [f1.length] at w
      exact sIx_zero _ _ w.2 _ rfl w.1
    rw [e] at h
    exact f.now re (.dat (.tup e2 f1)) h
  · cases str_of rx
    exact .inr (.inl ⟨_, rfl, h.1, f.str re h.2⟩)
  · exact ls_sl re rx f h
variable {lo hi : Option Expr} {p2 : Pos} {tl th : ATO}
def aSl (t : ATE) (tl th : ATO) : ATE := fun δ s Q => t δ s fun x s1 => tl δ s1 fun l s2 => th δ s2 fun u s3 => slG x l u s3 Q
theorem ae_sl (ha : AE X M e va) (hl : AO X M lo tl) (hh : AO X M hi th) : AE X M (.Subscript e (.Slice lo hi none p2) pos) (aSl va tl th) := by
  obtain ⟨_, l1, l2⟩ := hl.ex
  obtain ⟨_, h1, h2⟩ := hh.ex
  refine .of (pe_slice sl_any ha.pe l1 h1) fun H B φ σ δ s Q re sl q Q' f => uE_lift (t := va) H B φ σ δ s _ re sl q _ fun H1 B1 φ1 s1 v x g1 re1 r1 q1 => l2 H1 B1 φ1 σ δ s1 _ re1 (sl.mono g1) q1 _ fun H2 B2 φ2 s2 l g2 re2 q2 =>
    h2 H2 B2 φ2 σ δ s2 _ re2 ((sl.mono g1).mono g2) q2 _ fun H3 B3 φ3 s3 u g3 re3 q3 => ls_slG re3 ((r1.mono g2).mono g3) (f.grow ((g1.trans g2).trans g3)) q3
/-- xs[::-1] of a list -/
def aRev (t : ATE) : ATE := fun δ s Q => t δ s fun x s1 => ∃ ts, lsV s1 x = some ts ∧ Q (.l s1.length) (s1 ++ [.lst ts.reverse])

/-! ### calls of built-ins -/
def aCall (g : ARC) (t : ATA) : ATE := fun δ s Q => t δ s fun xs s1 => g xs s1 Q
theorem lift_call {K : Fr} {r : List V → Hp → VK → Prop} {g : ARC} {t : TA} {at_ : ATA} (lc : LiftC K M r g) (l : LiftA K M t at_) : LiftE K M (tCB r t) (aCall g at_) :=
  fun H B φ σ δ s Q re sl q Q' f => l H B φ σ δ s _ re sl q _ fun H1 B1 φ1 s1 vs xs g1 re1 r1 q1 => lc H1 B1 φ1 s1 vs xs Q re1 r1 q1 Q' (f.grow g1)
theorem ae_callB {x : Str} {p : Pos} {id : String} {r : List V → Hp → VK → Prop} {g : ARC} {t : ATA} (hc : CallR X (.builtin id) r) (lc : LiftC X.K M r g) (hg : Gl X x) (hm : X.mg x = none) (hv : bootBuiltins x = some (.builtin id)) (ha : AA X M (e :: es) t)
    (hn : x ≠ "__name__" := by decide) (hdb : (x == ("__debug__" : Str)) = false := by decide)
    (he : starEach (e :: es) X.env = (false, eval e X.env) :: starEach es X.env := by rfl) (hpl : (backTo pos (starEach es X.env)).any (·.1) = false := by rfl) : AE X M (.Call (.Name x p) (e :: es) [] pos) (aCall g t) :=
  .of (pe_callB hc hg hm hv ha.pa hn hdb he hpl) (lift_call lc uA_lift)
theorem ae_callT {x : Str} {p : Pos} {id : String} {r : List V → Hp → VK → Prop} {g : ARC} {t : ATA} (hc : CallR X (.type id) r) (lc : LiftC X.K M r g) (hg : Gl X x) (hm : X.mg x = none) (hv : bootBuiltins x = some (.type id)) (ha : AA X M (e :: es) t)
    (hn : x ≠ "__name__" := by decide) (hdb : (x == ("__debug__" : Str)) = false := by decide)
    (he : starEach (e :: es) X.env = (false, eval e X.env) :: starEach es X.env := by rfl) (hpl : (backTo pos (starEach es X.env)).any (·.1) = false := by rfl) : AE X M (.Call (.Name x p) (e :: es) [] pos) (aCall g t) :=
  .of (pe_callTy hc hg hm hv ha.pa hn hdb he hpl) (lift_call lc uA_lift)
theorem rsall1 {K : Fr} {B : Hp} {φ : Fi} {vs : List V} {x : SV} (h : RsAll K B φ vs [x]) : ∃ v, vs = [v] ∧ Rs K B φ v x := by
  cases h with
  | cons r t => cases t; exact ⟨_, rfl, r⟩
theorem rsall2 {K : Fr} {B : Hp} {φ : Fi} {vs : List V} {x y : SV} (h : RsAll K B φ vs [x, y]) : ∃ v w, vs = [v, w] ∧ Rs K B φ v x ∧ Rs K B φ w y := by
  cases h with
  | cons r t =>
    obtain ⟨w, rfl, r2⟩ := rsall1 t
    exact ⟨_, _, rfl, r, r2⟩
theorem rsall0 {K : Fr} {B : Hp} {φ : Fi} {vs : List V} (h : RsAll K B φ vs []) : vs = [] := by cases h; rfl
/-- len -/
def lenG : ARC := fun xs s Q => match xs with
  | [.d (.str z)] => z.length ≤ sizeLine ∧ Q (.d (.int z.length)) s
  | [.d (.tup ts)] => Q (.d (.int ts.length)) s
  | [.d (.lst ts)] => Q (.d (.int ts.length)) s
  | [.d (.scr ts)] => Q (.d (.int ts.length)) s
  | [.l n] => (match s[n]? with
    | some (.lst ts) => Q (.d (.int ts.length)) s
    | some (.tp ts) => Q (.d (.int ts.length)) s
    | some (.dK ts) => Q (.d (.int ts.length)) s
    | some (.dT ts) => Q (.d (.int ts.length)) s
    | some (.ll ts) => Q (.d (.int ts.length)) s
    | some (.mK ts) => Q (.d (.int ts.length)) s
    | some (.mT ts) => Q (.d (.int ts.length)) s
    | _ => False)
  | _ => False
def rLen (K : Fr) : List V → Hp → VK → Prop := fun xs H Q => (∃ z, xs = [.str z] ∧ z.length ≤ sizeLine ∧ Q (.int z.length) H) ∨ (∃ p ys, xs = [.ref p] ∧ (SqL K H p ys ∨ SqT K H p ys) ∧ Q (.int ys.length) H) ∨
  (∃ a kvs, xs = [V.ref a] ∧ H a = some (.dK kvs) ∧ Q (.int kvs.length) H) ∨ rLenT xs H Q
theorem cr_len : CallR X (.builtin "len") (rLen X.K) := CallR.or call_len_str (CallR.or call_len_seq (CallR.or call_lenD call_len_dT))
theorem lr_len {K : Fr} : LiftC K M (rLen K) lenG := by
  intro H B φ s x sx Q re rx h Q' f
  unfold lenG at h
  split at h
  · obtain ⟨v, rfl, r⟩ := rsall1 rx
    cases str_of r
    exact .inl ⟨_, rfl, h.1, f.int re h.2⟩
  · obtain ⟨v, rfl, r⟩ := rsall1 rx
    obtain ⟨p, vs, rfl, e1, _, f1⟩ := tup_of re r
    exact .inr (.inl ⟨p, vs, rfl, .inr e1, by rw [f1.length]; exact f.int re h⟩)
  · obtain ⟨v, rfl, r⟩ := rsall1 rx
    obtain ⟨p, vs, rfl, e1, f1⟩ := lst_of re r
    exact .inr (.inl ⟨p, vs, rfl, .inl (SqL.of e1), by rw [f1.length]; exact f.int re h⟩)
  · obtain ⟨v, rfl, r⟩ := rsall1 rx
    obtain ⟨p, vs, rfl, e1, _, f1⟩ := scr_of re r
    exact .inr (.inl ⟨p, vs, rfl, .inl e1, by rw [f1.length]; exact f.int re h⟩)
  · obtain ⟨v, rfl, r⟩ := rsall1 rx
    rename_i n
    cases hs : s[n]? with
    | none => rw [hs] at h; exact h.elim
    | some o =>
      rw [hs] at h
      obtain ⟨p, rfl, hp, ho⟩ := at_loc re r hs
      cases o with
      | lst ts =>
        obtain ⟨vs, f1, e1⟩ := ho
        exact .inr (.inl ⟨p, vs, rfl, .inl (SqL.of e1), by rw [f1.length]; exact f.int re h⟩)
      | tp xs =>
        obtain ⟨vs, f1, e1⟩ := ho
        exact .inr (.inl ⟨p, vs, rfl, .inr (SqT.of e1), by rw [f1.length]; exact f.int re h⟩)
      | dK ts =>
        obtain ⟨vs, f1, e1⟩ := ho
        have hl := f1.length
        rw [List.length_map] at hl
        exact .inr (.inr (.inl ⟨p, _, rfl, e1, by rw [List.length_zip, List.length_map, hl, Nat.min_self]; exact f.int re h⟩))
      | dT ts =>
        obtain ⟨vs, f1, e1⟩ := ho
        have hl := f1.length
        rw [List.length_map] at hl
        exact .inr (.inr (.inr ⟨p, _, rfl, e1, by rw [List.length_zip, List.length_map, hl, Nat.min_self]; exact f.int re h⟩))
      | ll ts =>
        obtain ⟨vs, f1, e1⟩ := ho
        exact .inr (.inl ⟨p, vs, rfl, .inl (SqL.of e1), by rw [f1.length]; exact f.int re h⟩)
      | mK ts =>
        obtain ⟨vs, f1, e1⟩ := ho
        have hl := f1.length
        rw [List.length_map] at hl
        exact .inr (.inr (.inl ⟨p, _, rfl, e1, by rw [List.length_zip, List.length_map, hl, Nat.min_self]; exact f.int re h⟩))
      | mT ts =>
        obtain ⟨vs, f1, e1⟩ := ho
        have hl := f1.length
        rw [List.length_map] at hl
        exact .inr (.inr (.inr ⟨p, _, rfl, e1, by rw [List.length_zip, List.length_map, hl, Nat.min_self]; exact f.int re h⟩))
      | _ => exact h.elim
  · exact h.elim
theorem ae_len {p : Pos} {t : ATA} (hm : X.mg "len" = none) (ha : AA X M [e] t) (hg : Gl X "len" := by rfl) (he : starEach [e] X.env = (false, eval e X.env) :: starEach [] X.env := by rfl) : AE X M (.Call (.Name "len" p) [e] [] pos) (aCall lenG t) := ae_callB cr_len lr_len hg hm PySem.boot_len ha (he := he)
/-- abs, int, min, max, sum -/
def absG : ARC := fun xs s Q => match xs with
  | [.d (.int i)] => Q (.d (.int (if i < 0 then -i else i))) s
  | _ => False
theorem lr_abs {K : Fr} : LiftC K M (fun xs H Q => ∃ i, xs = [.int i] ∧ Q (.int (if i < 0 then -i else i)) H) absG := by
  intro H B φ s x sx Q re rx h Q' f
  unfold absG at h
  split at h
  · obtain ⟨v, rfl, r⟩ := rsall1 rx
    cases int_of r
    exact ⟨_, rfl, f.int re h⟩
  · exact h.elim
def intG : ARC := fun xs s Q => match xs with
  | [.d (.int i)] => Q (.d (.int i)) s
  | [.d (.bl b)] => Q (.d (.int (if b then 1 else 0))) s
  | _ => False
theorem lr_int {K : Fr} : LiftC K M (fun xs H Q => (∃ i, xs = [.int i] ∧ Q (.int i) H) ∨ ∃ k, xs = [.bl k] ∧ Q (.int (if k then 1 else 0)) H) intG := by
  intro H B φ s x sx Q re rx h Q' f
  unfold intG at h
  split at h
  · obtain ⟨v, rfl, r⟩ := rsall1 rx
    cases int_of r
    exact .inl ⟨_, rfl, f.int re h⟩
  · obtain ⟨v, rfl, r⟩ := rsall1 rx
    cases bl_of r
    exact .inr ⟨_, rfl, f.int re h⟩
  · exact h.elim
/-- the greatest, the least of some ints -/
def maxL (ns : List Int) : Int := ns.max?.getD 0
def minL (ns : List Int) : Int := ns.min?.getD 0
theorem minL_mem {ns : List Int} (h : ns ≠ []) : minL ns ∈ ns := by
  unfold minL
  cases e : ns.min? with
  | none => exact absurd (List.min?_eq_none_iff.mp e) h
  | some m => exact List.min?_mem e
theorem minL_le {ns : List Int} {n : Int} (h : n ∈ ns) : minL ns ≤ n := by
  unfold minL
  cases e : ns.min? with
  | none => rw [List.min?_eq_none_iff.mp e] at h; cases h
  | some m => exact (List.le_min?_iff e).mp (Int.le_refl m) n h
def maxG : ARC := fun xs s Q => match xs with
  | [.d (.int i), .d (.int j)] => Q (.d (.int (if j > i then j else i))) s
  | [x] => ∃ ns : List Int, lsV s x = some (ns.map T.int) ∧ ns ≠ [] ∧ Q (.d (.int (maxL ns))) s
  | _ => False
def minG : ARC := fun xs s Q => match xs with
  | [.d (.int i), .d (.int j)] => Q (.d (.int (if j < i then j else i))) s
  | [x] => ∃ ns : List Int, lsV s x = some (ns.map T.int) ∧ ns ≠ [] ∧ Q (.d (.int (minL ns))) s
  | _ => False
def rMinA (K : Fr) : List V → Hp → VK → Prop := fun xs H Q => (∃ i j, xs = [.int i, .int j] ∧ Q (.int (if j < i then j else i)) H) ∨ rMin K xs H Q
theorem cr_minA (hc : X.calm = true) : CallR X (.builtin "min") (rMinA X.K) := CallR.or (call_min2 hc) (cr_min hc)
theorem lr_min {K : Fr} : LiftC K M (rMinA K) minG := by
  intro H B φ s x sx Q re rx h Q' f
  unfold minG at h
  split at h
  · obtain ⟨v, w, rfl, r1, r2⟩ := rsall2 rx
    cases int_of r1; cases int_of r2
    exact .inl ⟨_, _, rfl, f.int re h⟩
  · obtain ⟨v, rfl, r⟩ := rsall1 rx
    obtain ⟨ns, h1, h2, q⟩ := h
    obtain ⟨p, vs, rfl, e1, f1⟩ := ls_of re r h1
    have e := f1.of_ints
    subst e
    refine .inr ⟨p, ns, rfl, SqL.of e1, List.length_pos_iff.mpr h2, fun m hm hle => ?_⟩
    have : m = minL ns := Int.le_antisymm (hle _ (minL_mem h2)) (minL_le hm)
    rw [this]
    exact f.int re q
  · exact h.elim
def sumG : ARC := fun xs s Q => match xs with
  | [x] => ∃ ns : List Int, lsV s x = some (ns.map T.int) ∧ Q (.d (.int ns.sum)) s
  | _ => False
theorem lr_sum {K : Fr} : LiftC K M (rSum K) sumG := by
  intro H B φ s x sx Q re rx h Q' f
  unfold sumG at h
  split at h
  · obtain ⟨v, rfl, r⟩ := rsall1 rx
    obtain ⟨ns, h1, q⟩ := h
    obtain ⟨p, vs, rfl, e1, f1⟩ := ls_of re r h1
    have e := f1.of_ints
    subst e
    exact ⟨p, ns, rfl, SqL.of e1, f.int re q⟩
  · exact h.elim
def allG : ARC := fun xs s Q => match xs with
  | [x] => ∃ bs : List Bool, lsV s x = some (bs.map T.bl) ∧ Q (.d (.bl (bs.all id))) s
  | _ => False
def anyG : ARC := fun xs s Q => match xs with
  | [x] => ∃ bs : List Bool, lsV s x = some (bs.map T.bl) ∧ Q (.d (.bl (bs.any id))) s
  | _ => False
theorem lr_all {K : Fr} : LiftC K M (rAll K) allG := by
  intro H B φ s x sx Q re rx h Q' f
  unfold allG at h
  split at h
  · obtain ⟨v, rfl, r⟩ := rsall1 rx
    obtain ⟨ns, h1, q⟩ := h
    obtain ⟨p, vs, rfl, e1, f1⟩ := ls_of re r h1
    have e := f1.of_bls
    subst e
    exact ⟨p, ns, rfl, SqL.of e1, f.bl re q⟩
  · exact h.elim
theorem ae_abs {p : Pos} {t : ATA} (hm : X.mg "abs" = none) (ha : AA X M [e] t) (hg : Gl X "abs" := by rfl) (he : starEach [e] X.env = (false, eval e X.env) :: starEach [] X.env := by rfl) : AE X M (.Call (.Name "abs" p) [e] [] pos) (aCall absG t) := ae_callB call_abs lr_abs hg hm (by decide +kernel) ha (he := he)
theorem ae_min {p : Pos} {t : ATA} (hm : X.mg "min" = none) (ha : AA X M (e :: es) t) (hg : Gl X "min" := by rfl) (hc : X.calm = true := by rfl) (he : starEach (e :: es) X.env = (false, eval e X.env) :: starEach es X.env := by rfl) (hpl : (backTo pos (starEach es X.env)).any (·.1) = false := by rfl) :
    AE X M (.Call (.Name "min" p) (e :: es) [] pos) (aCall minG t) := ae_callB (cr_minA hc) lr_min hg hm (by decide +kernel) ha (he := he) (hpl := hpl)
theorem ae_sum {p : Pos} {t : ATA} (hm : X.mg "sum" = none) (ha : AA X M [e] t) (hg : Gl X "sum" := by rfl) (hc : X.calm = true := by rfl) (he : starEach [e] X.env = (false, eval e X.env) :: starEach [] X.env := by rfl) : AE X M (.Call (.Name "sum" p) [e] [] pos) (aCall sumG t) := ae_callB (cr_sum hc) lr_sum hg hm (by decide +kernel) ha (he := he)
theorem ae_all {p : Pos} {t : ATA} (hm : X.mg "all" = none) (ha : AA X M [e] t) (hg : Gl X "all" := by rfl) (hc : X.calm = true := by rfl) (he : starEach [e] X.env = (false, eval e X.env) :: starEach [] X.env := by rfl) : AE X M (.Call (.Name "all" p) [e] [] pos) (aCall allG t) := ae_callB (cr_all hc) lr_all hg hm (by decide +kernel) ha (he := he)
theorem ae_int_ {p : Pos} {t : ATA} (hm : X.mg "int" = none) (ha : AA X M [e] t) (hg : Gl X "int" := by rfl) (he : starEach [e] X.env = (false, eval e X.env) :: starEach [] X.env := by rfl) : AE X M (.Call (.Name "int" p) [e] [] pos) (aCall intG t) := ae_callT call_int1 lr_int hg hm (by decide +kernel) ha (he := he)
/-- list(..), tuple(..) -/
def listG : ARC := fun xs s Q => match xs with
  | [x] => ∃ ts, sqV s x = some ts ∧ Q (.l s.length) (s ++ [.lst ts])
  | _ => False
def tupleG : ARC := fun xs s Q => match xs with
  | [x] => ∃ ts, sqV s x = some ts ∧ (∀ us, x ≠ .d (.scr us)) ∧ Q (.d (.tup ts)) s
  | _ => False
theorem lr_list {K : Fr} : LiftC K M (fun xs H Q => ∃ p ys, xs = [.ref p] ∧ (SqL K H p ys ∨ SqT K H p ys) ∧ ∀ l, H l = none → Q (.ref l) (upd H l (.lst ys))) listG := by
  intro H B φ s x sx Q re rx h Q' f
  unfold listG at h
  split at h
  · obtain ⟨v, rfl, r⟩ := rsall1 rx
    obtain ⟨ts, h1, q⟩ := h
    obtain ⟨p, vs, rfl, e1, f1⟩ := sq_of re r h1
    exact ⟨p, vs, rfl, e1, f.newL re f1 q⟩
  · exact h.elim
theorem lr_tuple {K : Fr} : LiftC K M (fun xs H Q => ∃ p ys, xs = [.ref p] ∧ ((SqL K H p ys ∧ ∀ l, H l = none → Q (.ref l) (upd H l (.tup ys))) ∨ (SqT K H p ys ∧ Q (.ref p) H))) tupleG := by
  intro H B φ s x sx Q re rx h Q' f
  unfold tupleG at h
  split at h
  · obtain ⟨v, rfl, r⟩ := rsall1 rx
    rename_i x
    obtain ⟨ts, h1, h2, q⟩ := h
    have z : (∃ us, x = .d (.tup us)) ∨ (∃ us, x = .d (.scr us)) ∨ lsV s x = some ts := by
      unfold sqV at h1
      split at h1
      · exact Or.inl ⟨_, rfl⟩
      · exact Or.inr (Or.inl ⟨_, rfl⟩)
      · exact Or.inr (Or.inr h1)
    rcases z with ⟨us, rfl⟩ | ⟨us, rfl⟩ | z
    · obtain rfl : us = ts := Option.some.inj h1
      obtain ⟨p, vs, rfl, e1, e2, f1⟩ := tup_of re r
      exact ⟨p, vs, rfl, .inr ⟨e1, f.now re (.dat (.tup e2 f1)) q⟩⟩
    · exact absurd rfl (h2 us)
    · obtain ⟨p, vs, rfl, e1, f1⟩ := ls_of re r z
      exact ⟨p, vs, rfl, .inl ⟨SqL.of e1, f.newT re f1 q⟩⟩
  · exact h.elim
theorem ae_list {p : Pos} {t : ATA} (hm : X.mg "list" = none) (ha : AA X M [e] t) (hg : Gl X "list" := by rfl) (he : starEach [e] X.env = (false, eval e X.env) :: starEach [] X.env := by rfl) : AE X M (.Call (.Name "list" p) [e] [] pos) (aCall listG t) := ae_callT call_list_of lr_list hg hm (by decide +kernel) ha (he := he)
theorem ae_tuple {p : Pos} {t : ATA} (hm : X.mg "tuple" = none) (ha : AA X M [e] t) (hg : Gl X "tuple" := by rfl) (he : starEach [e] X.env = (false, eval e X.env) :: starEach [] X.env := by rfl) : AE X M (.Call (.Name "tuple" p) [e] [] pos) (aCall tupleG t) := ae_callT call_tuple_of lr_tuple hg hm (by decide +kernel) ha (he := he)
/-- list(range(n)), list(range(a, b)) -/
def rgT (a b : Int) : List T := (List.range (b - a).toNat).map fun (i : Nat) => T.int (a + i)
def aLstRg (t : ATA) : ATE := fun δ s Q => t δ s fun xs s1 => match xs with
  | [.d (.int n)] => RgOk 0 n ∧ Q (.l s1.length) (s1 ++ [.lst (rgT 0 n)])
  | [.d (.int a), .d (.int b)] => RgOk a b ∧ Q (.l s1.length) (s1 ++ [.lst (rgT a b)])
  | _ => False
end
end Lv

/-! Lv5: methods, isinstance, what is walked, targets, statements, loops, comprehensions, calls of own defs. -/
namespace Lv
open PySem L2

section
variable {X : Cx} {M : MP} {e o a b c : Expr} {es : List Expr} {pos : Pos} {va vb : ATE}
/-! ### isinstance -/
def tyN (s : ST) : SV → Option String
  | .d .non => some "NoneType"
  | .d (.bl _) => some "bool"
  | .d (.int _) => some "int"
  | .d (.str _) => some "str"
  | .d (.lst _) => some "list"
  | .d (.scr _) => some "list"
  | .d (.tup _) => some "tuple"
  | .d (.dk _ _) => some "dict"
  | .l n => (match s[n]? with
    | some (.lst _) => some "list"
    | some (.tp _) => some "tuple"
    | some (.dK _) => some "dict"
    | some (.dT _) => some "dict"
    | some (.ll _) => some "list"
    | some (.mK _) => some "dict"
    | some (.mT _) => some "dict"
    | _ => none)
  | _ => none
theorem tyN_ok {K : Fr} {H B : Hp} {φ : Fi} {s : ST} (re : Re K M H B φ s) {v : V} {x : SV} (r : Rs K B φ v x) {n : String} (h : tyN s x = some n) : TyX K H v (.type n) := by
  cases x with
  | l k =>
    have h : (match s[k]? with | some (.lst _) => some "list" | some (.tp _) => some "tuple" | some (.dK _) => some "dict" | some (.dT _) => some "dict" | some (.ll _) => some "list" | some (.mK _) => some "dict" | some (.mT _) => some "dict" | _ => none) = some n := h
    cases hs : s[k]? with
    | none => rw [hs] at h; cases h
    | some u =>
      rw [hs] at h
      obtain ⟨p, rfl, hp, ho⟩ := at_loc re r hs
      cases u with
      | lst ts => cases (show some "list" = some n from h); obtain ⟨vs, _, e1⟩ := ho; exact .base (.lst e1)
      | tp ts => cases (show some "tuple" = some n from h); obtain ⟨vs, _, e1⟩ := ho; exact .base (.tup e1)
      | dK ts => cases (show some "dict" = some n from h); obtain ⟨vs, _, e1⟩ := ho; exact .base (.dK e1)
      | dT ts => cases (show some "dict" = some n from h); obtain ⟨vs, _, e1⟩ := ho; exact .base (.dT e1)
      | ll ts => cases (show some "list" = some n from h); obtain ⟨vs, _, e1⟩ := ho; exact .base (.lst e1)
      | mK ts => cases (show some "dict" = some n from h); obtain ⟨vs, _, e1⟩ := ho; exact .base (.dK e1)
      | mT ts => cases (show some "dict" = some n from h); obtain ⟨vs, _, e1⟩ := ho; exact .base (.dT e1)
      | _ => cases h
  | d t =>
    cases t with
    | non => cases (show some "NoneType" = some n from h); cases non_of r; exact .base .non
    | bl y => cases (show some "bool" = some n from h); cases bl_of r; exact .base (.bl _)
    | int y => cases (show some "int" = some n from h); cases int_of r; exact .base (.int _)
    | str y => cases (show some "str" = some n from h); cases str_of r; exact .base (.str _)
    | lst ts =>
      cases (show some "list" = some n from h)
      obtain ⟨p, vs, rfl, e1, _⟩ := lst_of re r
      exact .base (.lst e1)
    | scr ts =>
      cases (show some "list" = some n from h)
      obtain ⟨p, vs, rfl, e1, _, _⟩ := scr_of re r
      rcases e1 with (e1 | ⟨ob, e1⟩) | ⟨ob, its, m, hk, hc, _⟩
      · exact .base (.lst e1)
      · exact .base (.frz e1)
      · exact .kList hk hc
    | tup ts =>
      cases (show some "tuple" = some n from h)
      obtain ⟨p, vs, rfl, _, e1, _⟩ := tup_of re r
      rcases e1 with e1 | ⟨⟨ob, its, m, hk, hc, _⟩, _⟩
      · exact .base (.tup (re.ex _ _ e1))
      · exact .kTuple hk hc
    | dk ks ts =>
      cases (show some "dict" = some n from h)
      cases (show Fz K B v (.dk ks ts) from r) with
      | dk h1 _ _ =>
        exact .fDict (re.ex _ _ h1)
    | dt _ _ => cases h
    | obj _ _ _ => cases h
    | exc _ _ => cases h
    | ref _ => cases h
    | ty _ => cases h
def kitsB (a : String) : List String → Option Bool
  | [] => some false
  | b :: r => match kitB a b with
    | some true => some true
    | some false => kitsB a r
    | none => none
theorem kitsB_ok {K : Fr} {a : String} : ∀ {bs : List String} {r : Bool}, kitsB a bs = some r → PySem.W.kitAny K (.type a) (bs.map Value.type) = some r
  | [], r, h => by cases h; exact kitAny_nil
  | b :: bs, r, h => by
    unfold kitsB at h
    cases hb : kitB a b with
    | none => rw [hb] at h; cases h
    | some z =>
      rw [hb] at h
      refine kitAny_cons (kit_ty hb) (fun e => ?_) (fun e => ?_)
      · subst e; exact kitsB_ok h
      · subst e; cases h; rfl
def isiG : ARC := fun xs s Q => match xs with
  | [x, .d (.ty b)] => ∃ a r, tyN s x = some a ∧ kitB a b = some r ∧ Q (.d (.bl r)) s
  | [x, .d (.tup ts)] => ∃ a bs r, tyN s x = some a ∧ ts = bs.map T.ty ∧ kitsB a bs = some r ∧ Q (.d (.bl r)) s
  | _ => False
def rIsiA (K : Fr) : List V → Hp → VK → Prop := fun xs H Q => rIsi K xs H Q ∨ rIsiT K xs H Q ∨ rIsiK K xs H Q
theorem cr_isi : CallR X (.builtin "isinstance") (rIsiA X.K) := CallR.or call_isi (CallR.or call_isiT call_isiK)
theorem fz_tys {K : Fr} {B : Hp} : ∀ {vs : List V} {bs : List String}, FzAll K B vs (bs.map T.ty) → vs = bs.map V.ty
  | _, [], .nil => rfl
  | _, _ :: _, .cons (.ty _) r => by rw [fz_tys r]; rfl
theorem clsv_tys : ∀ bs : List String, Paired ClsV (bs.map V.ty) (bs.map Value.type)
  | [] => .nil
  | b :: r => .cons (.ty b) (clsv_tys r)
theorem vals_tys : ∀ {bs : List String} {us : List Value}, Vals (bs.map V.ty) us → us = bs.map Value.type
  | [], _, .nil => rfl
  | _ :: _, _, .cons r t => by
    rw [vals_tys t]
    have : _ = _ := r
    rw [this]; rfl
theorem lr_isi {K : Fr} : LiftC K M (rIsiA K) isiG := by
  intro H B φ s x sx Q re rx h Q' f
  unfold isiG at h
  split at h
  · obtain ⟨v, w, rfl, r1, r2⟩ := rsall2 rx
    obtain ⟨a, r, h1, h2, q⟩ := h
    cases (show Fz K B w (.ty _) from r2) with
    | ty => exact .inl ⟨v, _, _, _, r, rfl, .ty _, tyN_ok re r1 h1, kit_ty h2, f.bl re q⟩
  · obtain ⟨v, w, rfl, r1, r2⟩ := rsall2 rx
    obtain ⟨a, bs, r, h1, rfl, h2, q⟩ := h
    obtain ⟨p, vs, rfl, _, e2, f1⟩ := tup_of re r2
    have e := fz_tys f1
    subst e
    rcases e2 with e2 | ⟨⟨⟨oc, od, dt, sl⟩, its, n, hk, hc, hd, hz, hv⟩, _⟩
    · exact .inr (.inl ⟨v, p, _, _, _, r, rfl, re.ex _ _ e2, clsv_tys bs, tyN_ok re r1 h1, kitsB_ok h2, f.bl re q⟩)
    · simp only at hc hd
      subst hc hd
      refine .inr (.inr ⟨v, p, od, bs.map Value.type, n, sl, _, r, rfl, ?_, tyN_ok re r1 h1, kitsB_ok h2, f.bl re q⟩)
      rw [hk]
      have : its = (bs.map Value.type).toArray := by
        have := vals_tys hv
        rw [← this]
      rw [this]
  · exact h.elim
theorem ae_isi {e2 : Expr} {p : Pos} {t : ATA} (hm : X.mg "isinstance" = none) (ha : AA X M [e, e2] t) (hg : Gl X "isinstance" := by rfl) (he : starEach [e, e2] X.env = (false, eval e X.env) :: starEach [e2] X.env := by rfl) (hpl : (backTo pos (starEach [e2] X.env)).any (·.1) = false := by rfl) :
    AE X M (.Call (.Name "isinstance" p) [e, e2] [] pos) (aCall isiG t) := ae_callB cr_isi lr_isi hg hm (by decide +kernel) ha (he := he) (hpl := hpl)
/-- a built-in class as a value -/
theorem ae_ty {x : Str} {n : String} (hm : X.mg x = none) (hv : bootBuiltins x = some (.type n)) (hg : Gl X x := by rfl) (hn : x ≠ "__name__" := by decide) (hd : (x == ("__debug__" : Str)) = false := by decide) : AE X M (.Name x pos) (aC (.ty n)) :=
  .of (pe_bltn hg hm hv (v := .ty n) rfl hn hd) fun H B φ σ δ s Q re sl q Q' f => f.now re (.dat (.ty n)) q

/-! ### methods -/
def isTy (s : ST) : SV → Option String
  | .d (.str _) => some "str"
  | .d (.lst _) => some "list"
  | .d (.scr _) => some "list"
  | .l n => (match s[n]? with
    | some (.lst _) => some "list"
    | some (.dK _) => some "dict"
    | some (.dT _) => some "dict"
    | some (.ll _) => some "list"
    | some (.mK _) => some "dict"
    | some (.mT _) => some "dict"
    | _ => none)
  | _ => none
theorem isTy_ok {K : Fr} {H B : Hp} {φ : Fi} {s : ST} (re : Re K M H B φ s) {v : V} {x : SV} (r : Rs K B φ v x) {n : String} (h : isTy s x = some n) : tyV K n v H := by
  cases x with
  | l k =>
    have h : (match s[k]? with | some (.lst _) => some "list" | some (.dK _) => some "dict" | some (.dT _) => some "dict" | some (.ll _) => some "list" | some (.mK _) => some "dict" | some (.mT _) => some "dict" | _ => none) = some n := h
    cases hs : s[k]? with
    | none => rw [hs] at h; cases h
    | some u =>
      rw [hs] at h
      obtain ⟨p, rfl, hp, ho⟩ := at_loc re r hs
      cases u with
      | lst ts => cases (show some "list" = some n from h); obtain ⟨vs, _, e1⟩ := ho; exact .inl ⟨rfl, _, SqL.of e1⟩
      | dK ts => cases (show some "dict" = some n from h); obtain ⟨vs, _, e1⟩ := ho; exact .inr (.inr (.inl ⟨rfl, .inl ⟨_, e1⟩⟩))
      | dT ts => cases (show some "dict" = some n from h); obtain ⟨vs, _, e1⟩ := ho; exact .inr (.inr (.inl ⟨rfl, .inr ⟨_, e1⟩⟩))
      | ll ts => cases (show some "list" = some n from h); obtain ⟨vs, _, e1⟩ := ho; exact .inl ⟨rfl, _, SqL.of e1⟩
      | mK ts => cases (show some "dict" = some n from h); obtain ⟨vs, _, e1⟩ := ho; exact .inr (.inr (.inl ⟨rfl, .inl ⟨_, e1⟩⟩))
      | mT ts => cases (show some "dict" = some n from h); obtain ⟨vs, _, e1⟩ := ho; exact .inr (.inr (.inl ⟨rfl, .inr ⟨_, e1⟩⟩))
      | _ => cases h
  | d t =>
    cases t with
    | str y => cases (show some "str" = some n from h); cases str_of r; exact rfl
    | lst ts =>
      cases (show some "list" = some n from h)
      obtain ⟨p, vs, rfl, e1, _⟩ := lst_of re r
      exact .inl ⟨rfl, _, SqL.of e1⟩
    | scr ts =>
      cases (show some "list" = some n from h)
      obtain ⟨p, vs, rfl, e1, _, _⟩ := scr_of re r
      exact .inl ⟨rfl, _, e1⟩
    | _ => cases h
def aMe (ty : String) (g : ARM) (to : ATE) (t : ATA) : ATE := fun δ s Q => to δ s fun x s1 => isTy s1 x = some ty ∧ t δ s1 fun xs s2 => g x xs s2 Q
def aMe0 (ty : String) (g : ARM) (to : ATE) : ATE := fun δ s Q => to δ s fun x s1 => isTy s1 x = some ty ∧ g x [] s1 Q
theorem ae_me {name : Str} {apos : Pos} {ty id : String} {r : V → List V → Hp → VK → Prop} {g : ARM} {t : ATA} (pa : PlainAttrs ty) (slot : Slot ty name id) (hty : typeOf (.builtin id) = pure (.type "method_descriptor")) (hm : MtR X id r) (lm : LiftM X.K M r g) (ho : AE X M o va) (ha : AA X M (e :: es) t)
    (hbase : attributeBase o name X.env (eval o X.env) = eval o X.env := by rfl)
    (hfew : ((backTo pos (starEach (e :: es) X.env)).all (fun x => !x.1) && (backToKw pos (keywordEach [] X.env)).all (fun x => x.1.isSome)
      && decide ((e :: es).length + ([] : List Keyword).length + (if ([] : List Keyword).isEmpty then 0 else 1) < 30)) = true := by rfl)
    (hline : (apos.endLine == pos.line) = true := by rfl) (hs : starEach (e :: es) X.env = (false, eval e X.env) :: starEach es X.env := by rfl) (hplain : (backTo pos (starEach es X.env)).any (·.1) = false := by rfl) :
    AE X M (.Call (.Attribute o name apos) (e :: es) [] pos) (aMe ty g va t) :=
  .of (pe_bm pa slot hty hm ho.pe ha.pa hbase hfew hline hs hplain) fun H B φ σ δ s Q re sl q Q' f => uE_lift (t := va) H B φ σ δ s _ re sl q _ fun H1 B1 φ1 s1 v x g1 re1 r1 ⟨q0, q1⟩ =>
    ⟨isTy_ok re1 r1 q0, uA_lift (t := t) H1 B1 φ1 σ δ s1 _ re1 (sl.mono g1) q1 _ fun H2 B2 φ2 s2 vs xs g2 re2 r2 q2 => lm H2 B2 φ2 s2 v x vs xs Q re2 (r1.mono g2) r2 q2 Q' (f.grow (g1.trans g2))⟩
/-- the store's list n becomes zs -/
theorem FinE.setL {K : Fr} {H B : Hp} {φ : Fi} {s : ST} {Q : SV → ST → Prop} {Q' : VK} (f : FinE K M H B φ Q Q') (re : Re K M H B φ s) {n : Nat} {p : Addr} {vs : List V} {ts : List T} (hp : φ[n]? = some (one p)) (hB : B p = none) (hv : FzAll K B vs ts) {w : V} {t : T} (hw : Fz K B w t)
    (q : Q (.d t) (s.set n (.lst ts))) : Q' w (upd H p (.lst vs)) := by
  obtain ⟨g, re2⟩ := re.set (.lst vs) (.lst ts) hp hB ⟨vs, hv, rfl⟩
  exact f _ _ _ _ _ _ g re2 (.dat hw) q
def appG : ARM := fun x xs s Q => match x, xs with
  | .l n, [.d t] => ∃ ts, s[n]? = some (.lst ts) ∧ ts.length < sizeLine ∧ Q (.d .non) (s.set n (.lst (ts ++ [t])))
  | .l n, [.l m] => ∃ xs, s[n]? = some (.ll xs) ∧ xs.length < sizeLine ∧ Q (.d .non) (s.set n (.ll (xs ++ [.l m])))
  | _, _ => False
theorem RsAll.app1 {K : Fr} {B : Hp} {φ : Fi} {v : V} {x : SV} (h : Rs K B φ v x) : ∀ {vs : List V} {xs : List SV}, RsAll K B φ vs xs → RsAll K B φ (vs ++ [v]) (xs ++ [x])
  | _, _, .nil => .cons h .nil
  | _, _, .cons a r => .cons a (RsAll.app1 h r)
theorem lr_app {K : Fr} : LiftM K M rAppend appG := by
  intro H B φ s x sx y sy Q re rx ry h Q' f
  unfold appG at h
  split at h
  · obtain ⟨v, rfl, r⟩ := rsall1 ry
    obtain ⟨ts, h1, h2, q⟩ := h
    obtain ⟨p, vs, rfl, hp, e1, hB, f1⟩ := own_of re rx h1
    exact ⟨p, vs, v, rfl, rfl, e1, by rw [f1.length]; exact h2, f.setL re hp hB (f1.append (.cons r .nil)) .non q⟩
  · obtain ⟨w, rfl, r⟩ := rsall1 ry
    obtain ⟨xs, h1, h2, q⟩ := h
    obtain ⟨p, hp, rfl⟩ := rx
    obtain ⟨a, ha, vs, f1, e1⟩ := re.at_ h1
    rw [Fi.r_of ha] at hp; cases hp
    obtain ⟨g, re2⟩ := re.set (.lst (vs ++ [w])) (.ll (xs ++ [_])) ha (re.fr1 ha h1 rfl) ⟨vs ++ [w], f1.app1 r, rfl⟩
    exact ⟨a, vs, w, rfl, rfl, e1, by rw [f1.length]; exact h2, f _ _ _ _ _ _ g re2 (.dat .non) q⟩
  · exact h.elim
def revG : ARM := fun x xs s Q => match x, xs with
  | .l n, [] => ∃ ts, s[n]? = some (.lst ts) ∧ Q (.d .non) (s.set n (.lst ts.reverse))
  | _, _ => False
def clrG : ARM := fun x xs s Q => match x, xs with
  | .l n, [] => ∃ ts, s[n]? = some (.lst ts) ∧ Q (.d .non) (s.set n (.lst []))
  | _, _ => False
theorem FzAll.dropLast {K : Fr} {B : Hp} {vs : List V} {ts : List T} (h : FzAll K B vs ts) : FzAll K B vs.dropLast ts.dropLast := by
  rw [List.dropLast_eq_take, List.dropLast_eq_take, h.length]
  exact h.take _
def popG : ARM := fun x xs s Q => match x, xs with
  | .l n, [] => ∃ ts t, s[n]? = some (.lst ts) ∧ ts[ts.length - 1]? = some t ∧ Q (.d t) (s.set n (.lst ts.dropLast))
  | _, _ => False
def popAtG : ARM := fun x xs s Q => match x, xs with
  | .l n, [.d (.int i)] => ∃ ts k t, s[n]? = some (.lst ts) ∧ -(2 ^ 63) ≤ i ∧ i < 2 ^ 63 ∧ seqIndex? i ts.length = some k ∧ ts[k]? = some t ∧ Q (.d t) (s.set n (.lst (ts.eraseIdx k)))
  | _, _ => False
/-- l.extend(m): m another list -/
def extG : ARM := fun x xs s Q => match x, xs with
  | .l n, [y] => ∃ ts us, s[n]? = some (.lst ts) ∧ lsV s y = some us ∧ ts.length + us.length ≤ sizeLine ∧ Q (.d .non) (s.set n (.lst (ts ++ us)))
  | _, _ => False
def insG : ARM := fun x xs s Q => match x, xs with
  | .l n, [.d (.int i), .d t] => ∃ ts, s[n]? = some (.lst ts) ∧ ts.length < sizeLine ∧ 0 ≤ i ∧ i < 2 ^ 63 ∧ Q (.d .non) (s.set n (.lst (ts.take i.toNat ++ [t] ++ ts.drop i.toNat)))
  | _, _ => False
/-- index of flat data that is there -/
def eqF (a b : T) : Bool := eqV a.v b.v
def idxG : ARM := fun x xs s Q => match xs with
  | [.d y] => ∃ ts j z, lsV s x = some ts ∧ y.flat = true ∧ ts.all T.flat = true ∧ ts[j]? = some z ∧ eqF z y = true ∧ (∀ m z', m < j → ts[m]? = some z' → eqF z' y = false) ∧ Q (.d (.int (j : Nat))) s
  | _ => False
def jnG : ARM := fun x xs s Q => match x, xs with
  | .d (.str a), [y] => ∃ ys : List Str, sqV s y = some (ys.map T.str) ∧ (ys.map (·.length)).sum + ys.length * a.length ≤ 16777216 ∧ Q (.d (.str (Txt.join a ys))) s
  | _, _ => False
theorem lr_jn {K : Fr} : LiftM K M (fun x xs H Q => ∃ a p, ∃ ys : List Str, x = .str a ∧ xs = [.ref p] ∧ (SqL K H p (ys.map V.str) ∨ SqT K H p (ys.map V.str)) ∧
    (ys.map (·.length)).sum + ys.length * a.length ≤ 16777216 ∧ Q (.str (Txt.join a ys)) H) jnG := by
  intro H B φ s x sx y sy Q re rx ry h Q' f
  unfold jnG at h
  split at h
  · obtain ⟨v, rfl, r⟩ := rsall1 ry
    cases str_of rx
    obtain ⟨ys, h1, h2, q⟩ := h
    obtain ⟨p, vs, rfl, e1, f1⟩ := sq_of re r h1
    have e := f1.of_strs
    subst e
    exact ⟨_, p, ys, rfl, rfl, e1, h2, f.str re q⟩
  · exact h.elim
def cntG : ARM := fun x xs s Q => match x, xs with
  | .d (.str a), [.d (.str b)] => Q (.d (.int (Txt.count a b))) s
  | _, _ => False
def splG : ARM := fun x xs s Q => match x, xs with
  | .d (.str a), [.d (.str b)] => (b.length == 0) = false ∧ a.length + 2 ≤ sizeLine ∧ Q (.l s.length) (s ++ [.lst ((Txt.split a b).map T.str)])
  | _, _ => False
theorem fz_strs {K : Fr} {B : Hp} : ∀ ys : List Str, FzAll K B (ys.map V.str) (ys.map T.str)
  | [] => .nil
  | y :: r => .cons (.str y) (fz_strs r)
theorem lr_spl {K : Fr} : LiftM K M (fun x xs H Q => ∃ a b, x = .str a ∧ xs = [.str b] ∧ (b.length == 0) = false ∧ a.length + 2 ≤ sizeLine ∧ rNewStrs (Txt.split a b) H Q) splG := by
  intro H B φ s x sx y sy Q re rx ry h Q' f
  unfold splG at h
  split at h
  · obtain ⟨v, rfl, r⟩ := rsall1 ry
    cases str_of rx
    cases str_of r
    exact ⟨_, _, rfl, rfl, h.1, h.2.1, f.newL re (fz_strs _) h.2.2⟩
  · exact h.elim
variable {apos : Pos} {t : ATA}
abbrev HB (X : Cx) (o : Expr) (name : Str) : Prop := attributeBase o name X.env (eval o X.env) = eval o X.env
abbrev HF (X : Cx) (es : List Expr) (pos : Pos) : Prop := ((backTo pos (starEach es X.env)).all (fun x => !x.1) && (backToKw pos (keywordEach [] X.env)).all (fun x => x.1.isSome) && decide (es.length + ([] : List Keyword).length + (if ([] : List Keyword).isEmpty then 0 else 1) < 30)) = true
abbrev HS1 (X : Cx) (e : Expr) (es : List Expr) : Prop := starEach (e :: es) X.env = (false, eval e X.env) :: starEach es X.env
abbrev HP1 (X : Cx) (es : List Expr) (pos : Pos) : Prop := (backTo pos (starEach es X.env)).any (·.1) = false
theorem ae_append (ho : AE X M o va) (ha : AA X M [e] t) (hb : HB X o "append" := by rfl) (hf : HF X [e] pos := by rfl) (hl : (apos.endLine == pos.line) = true := by rfl) (hs : HS1 X e [] := by rfl) (hp : HP1 X [] pos := by rfl) :
    AE X M (.Call (.Attribute o "append" apos) [e] [] pos) (aMe "list" appG va t) := ae_me PySem.F.plainAttrs_list PySem.F.slot_list_append PySem.F.type_list_append mt_append lr_app ho ha hb hf hl hs hp
theorem ae_join (ho : AE X M o va) (ha : AA X M [e] t) (hb : HB X o "join" := by rfl) (hf : HF X [e] pos := by rfl) (hl : (apos.endLine == pos.line) = true := by rfl) (hs : HS1 X e [] := by rfl) (hp : HP1 X [] pos := by rfl) :
    AE X M (.Call (.Attribute o "join" apos) [e] [] pos) (aMe "str" jnG va t) := ae_me PySem.F.plainAttrs_str PySem.F.slot_str_join PySem.F.type_str_join mt_join lr_jn ho ha hb hf hl hs hp
theorem ae_split (ho : AE X M o va) (ha : AA X M [e] t) (hb : HB X o "split" := by rfl) (hf : HF X [e] pos := by rfl) (hl : (apos.endLine == pos.line) = true := by rfl) (hs : HS1 X e [] := by rfl) (hp : HP1 X [] pos := by rfl) :
    AE X M (.Call (.Attribute o "split" apos) [e] [] pos) (aMe "str" splG va t) := ae_me PySem.F.plainAttrs_str PySem.F.slot_str_split PySem.F.type_str_split mt_split lr_spl ho ha hb hf hl hs hp
end
end Lv

/-! LvI: enumerate and zip over lists, tuples and texts in any mix; a list or a tuple walked. -/
namespace LvI
open PySem PySem.Spec PyProof.Rows L2
open AutoSeq1 (wpAny_loadPart')

/-! ### enumerate of anything that begins -/
set_option maxHeartbeats 4000000 in
theorem meets_enum1 {v : Value} {o : Obj} {H : Heap → Prop} (B : Begins v o H) :
    Meets (Builtin.«enumerate.__new__» ⟨[.type "enumerate", v], []⟩) (fun _ R s => H s.heap ∧
      R (.ok (.ret (.ref (s.heap.push o).objs.size))) { s with heap := (s.heap.push o).push { cls := .type "enumerate", data := .fields #[.none, .bool false, .ref s.heap.objs.size, rawInt 0, .none, .none] } }) :=
  .of_wp fun prog w A R s h => by
    obtain ⟨hp, g, d, tk, os⟩ := s; obtain ⟨h1, h⟩ := h
    have hsub := sub_enumerate
    have q1 : ∀ {A' : Around} {E : Value → Shared → Prop} {Q : Value → Shared → Prop}, Q (.ref hp.objs.size) ⟨hp.push o, g, d, tk, os⟩ → wpAny (model prog w) A' (pyIter v) Q E ⟨hp, g, d, tk, os⟩ :=
      fun q => B.iter prog w _ _ ⟨hp, g, d, tk, os⟩ _ h1 q
    wp_walk using q1
    refine wpAny_stack_any fun st => wpAny_pure ?_
    split
    · rename_i c _ _ _ _ _
      cases (c == Value.type "enumerate")
      · wp_walk using q1
        exact ⟨_, rfl, h⟩
      · wp_walk using q1
        exact ⟨_, rfl, h⟩
    · wp_walk using q1
      exact ⟨_, rfl, h⟩
theorem enum_begins1 {prog : Program} {w : World} {A : Around} {E : Value → Shared → Prop} {s : Shared} {v : Value} {o : Obj} {H : Heap → Prop} {Q : Value → Shared → Prop} (B : Begins v o H) (h1 : H s.heap)
    (h : ∀ h', IsEnum h' (s.heap.objs.size + 1) s.heap.objs.size 0 .none → h'.get? s.heap.objs.size = some o → h'.objs.size = s.heap.objs.size + 2 →
      (∀ b o, s.heap.get? b = some o → h'.get? b = some o) → Q (.ref (s.heap.objs.size + 1)) { s with heap := h' }) :
    wpAny (model prog w) A (call (.type "enumerate") [v]) Q E s := by
  refine callType_new F.called_enumerate (by decide) (F.typeCall_enumerate_1 _) (F.newCall_enumerate_1 _) (fun obj => F.args_object_init_2 obj _) F.entry_enumerate_new
    (meets_enum1 B) ⟨h1, ?_⟩
  have hz : (s.heap.push o).objs.size = s.heap.objs.size + 1 := Heap.size_push ..
  show _ ∧ _
  rw [hz]
  have he : IsEnum ((s.heap.push o).push { cls := .type "enumerate", data := .fields #[.none, .bool false, .ref s.heap.objs.size, rawInt 0, .none, .none] }) (s.heap.objs.size + 1) s.heap.objs.size 0 .none := by
    have := Heap.get?_push_size (s.heap.push o) (o := { cls := .type "enumerate", data := .fields #[.none, .bool false, .ref s.heap.objs.size, rawInt 0, .none, .none] }) rfl
    rw [hz] at this; exact this
  refine ⟨⟨_, he, rfl⟩, h _ he (Heap.get?_push_of_some _ (Heap.get?_push_size _ B.free)) (by rw [Heap.size_push, hz]) fun b o x => Heap.get?_push_of_some _ (Heap.get?_push_of_some _ x)⟩

/-! ### what is drawn from -/
inductive Src where
  | L (a : Addr) | U (a : Addr) | S (z : Str)
def Src.rd (K : PySem.W.Frag) : Src → Hp → List V → Prop
  | .L a, H, xs => SqL K H a xs
  | .U a, H, xs => SqT K H a xs
  | .S z, _, xs => xs = z.cps.toList.map fun c => V.str ⟨#[c]⟩
def Src.v : Src → V
  | .L a => .ref a
  | .U a => .ref a
  | .S z => .str z
def Src.it : Src → Heap → Addr → Nat → Prop
  | .L a, h, it, i => h.IsListIter it a i
  | .U a, h, it, i => h.IsTupleIter it a i
  | .S z, h, it, i => ∃ t, h.IsStrIter it (strIterType z) z t i
def Src.ad : Src → List Addr
  | .L a => [a]
  | .U a => [a]
  | .S _ => []
section
variable {X : Cx} {pins : List (Addr × Obj)} {σ : L2.St} {H : Hp} {s : Shared} {xs : List V}
theorem Src.obj {k : Src} {h : Heap} {it : Addr} {i : Nat} (st : k.it h it i) : ∃ o, h.get? it = some o ∧ ∀ v, o.data ≠ .cell v := by
  cases k with
  | L a => obtain ⟨o, e, _, d⟩ := st; exact ⟨o, e, fun v q => by rw [d] at q; cases q⟩
  | U a => obtain ⟨o, e, _, d⟩ := st; exact ⟨o, e, fun v q => by rw [d] at q; cases q⟩
  | S z => obtain ⟨t, o, e, _, d⟩ := st; exact ⟨o, e, fun v q => by rw [d] at q; cases q⟩
theorem Src.keep {k : Src} {h h' : Heap} {it : Addr} {i : Nat} (st : k.it h it i) (hk : ∀ o, h.get? it = some o → h'.get? it = some o) : k.it h' it i := by
  cases k with
  | L a => exact st.at hk
  | U a => exact st.at hk
  | S z => obtain ⟨t, o, e, d⟩ := st; exact ⟨t, o, hk o e, d⟩
theorem Src.inj {k : Src} (I : Inv X pins σ H s) {ys : List V} (h : k.rd X.K H xs) (h' : k.rd X.K H ys) : xs = ys := by
  cases k with
  | L a => exact I.list_inj h h'
  | U a => exact I.tuple_inj h h'
  | S z => exact h.trans h'.symm
/-- the iterator draws the items as they stand -/
theorem Src.draws {k : Src} {it : Addr} {i : Nat} (I : Inv X pins σ H s) (hc : X.calm = true) (hr : k.rd X.K H xs) (hi : k.it s.heap it i) (hne : it ∉ k.ad) :
    ∃ (P : Nat → Value → Prop) (Sx : Nat → Heap → Prop), Draws X.prog X.w X.A.in1 it (it :: k.ad) xs.length P Sx ∧ Sx i s.heap ∧ (∀ j v, P j v → ∃ x, xs[j]? = some x ∧ RelV x v) ∧ (∀ j h', Sx j h' → k.it h' it j) := by
  have hh : X.A.in1.handled = none := I.ok.hd hc
  cases k with
  | L a =>
    obtain ⟨its, rv, p, hz⟩ := I.list hr
    have hne' : a ≠ it := fun z => hne (by rw [← z]; exact List.mem_singleton.mpr rfl)
    have hl : its.toArray.size = xs.length := by rw [List.size_toArray]; exact rv.length.symm
    refine ⟨_, _, hl ▸ Draws.list hh it a hne' its.toArray, ⟨hi, p.isList⟩, fun j v hv => ?_, fun j h' st => st.1⟩
    have hv' : its[j]? = some v := by simpa using hv
    obtain ⟨hj, hv2⟩ := List.getElem?_eq_some_iff.mp hv'
    have hj2 : j < xs.length := by rw [rv.length]; exact hj
    obtain ⟨u, hu, ru⟩ := rv.get (List.getElem?_eq_getElem hj2)
    rw [hv'] at hu
    cases hu
    exact ⟨_, List.getElem?_eq_getElem hj2, ru⟩
  | U a =>
    obtain ⟨its, rv, p, hz⟩ := I.tuple hr
    have hne' : a ≠ it := fun z => hne (by rw [← z]; exact List.mem_singleton.mpr rfl)
    have hl : its.toArray.size = xs.length := by rw [List.size_toArray]; exact rv.length.symm
    refine ⟨_, _, hl ▸ Draws.tuple hh it a hne' its.toArray, ⟨hi, p⟩, fun j v hv => ?_, fun j h' st => st.1⟩
    have hv' : its[j]? = some v := by simpa using hv
    obtain ⟨hj, hv2⟩ := List.getElem?_eq_some_iff.mp hv'
    have hj2 : j < xs.length := by rw [rv.length]; exact hj
    obtain ⟨u, hu, ru⟩ := rv.get (List.getElem?_eq_getElem hj2)
    rw [hv'] at hu
    cases hu
    exact ⟨_, List.getElem?_eq_getElem hj2, ru⟩
  | S z =>
    obtain ⟨t, st⟩ := hi
    have hl : z.cps.size = xs.length := by rw [show xs = z.cps.toList.map (fun c => V.str ⟨#[c]⟩) from hr, List.length_map, Array.length_toList]
    refine ⟨_, _, hl ▸ Draws.text hh it z t, st, fun j v hv => ?_, fun j h' st => ⟨t, st⟩⟩
    obtain ⟨c, u, h1, h2⟩ := hv
    refine ⟨.str ⟨#[c]⟩, ?_, u, h2⟩
    rw [show xs = z.cps.toList.map (fun c => V.str ⟨#[c]⟩) from hr, List.getElem?_map, Array.getElem?_toList, h1]
    rfl

/-! ### enumerate -/
def IteK (K : PySem.W.Frag) (k : Src) : It :=
  ⟨fun i H => ∃ (xs : List V) (x : V), k.rd K H xs ∧ xs[i]? = some x, fun i H v H' => ∃ T x, v = .ref T ∧ H T = none ∧ H' = upd H T (.tup [.int (i : Nat), x]) ∧ ∀ xs, k.rd K H xs → xs[i]? = some x, fun i H => ∃ xs : List V, k.rd K H xs ∧ xs.length = i⟩
theorem turn_enumK {P : Program} {w : World} {K : PySem.W.Frag} {elts : List Expr} {kk : Nat} {tpos : Pos} (k : Src) (e it : Addr) :
    Turn P w K (.Tuple elts kk tpos) (IteK K k) [e, it] e (fun i h => (∃ old, IsEnum h e it ((i : Nat) : Int) old) ∧ k.it h it i ∧ e ≠ it ∧ e ∉ k.ad ∧ it ∉ k.ad) where
  mem := by simp
  obj := fun i h st b hb => by
    obtain ⟨⟨old, he⟩, hi, _⟩ := st
    have e' : b = e ∨ b = it := by simpa using hb
    rcases e' with z | z
    · rw [z]; exact ⟨_, he, fun v q => nomatch q⟩
    · rw [z]; exact Src.obj hi
  keep := fun i h h' st k' => let ⟨⟨old, he⟩, hi, r⟩ := st; ⟨⟨old, k' e (by simp) _ he⟩, Src.keep hi fun o q => k' it (by simp) o q, r⟩
  item := by
    intro X hP hw hK hc i pins s σ H E I hf st hg
    subst hP hw hK
    obtain ⟨⟨old, he⟩, hit, hne, hea, hia⟩ := st
    obtain ⟨xs, x, hq, hx⟩ := hg
    obtain ⟨Pv, Sx, D, st1, hP, hS⟩ := Src.draws I hc hq hit hia
    have hi : i < xs.length := (List.getElem?_eq_some_iff.mp hx).1
    have hel : e < s.heap.objs.size := Heap.lt_size he
    have hil : it < s.heap.objs.size := by obtain ⟨o, q, _⟩ := Src.obj hit; exact Heap.lt_size q
    have G := GoesN.enumFrom (elts := elts) (x1 := kk) (pos := tpos) 0 D e hne (by simp [hne, hea]) (by simp)
    have z0 : (0 : Int) + (i : Int) = (i : Int) := Int.zero_add _
    refine G.goes i s _ E hi ⟨⟨old, by rw [z0]; exact he⟩, st1⟩ fun v h' tk ⟨T, t, u, ev, hT, hPu, hTu⟩ ⟨⟨old', he'⟩, st2⟩ hk htk => ?_
    obtain ⟨x', hx', ru⟩ := hP i u hPu
    rw [hx] at hx'; cases hx'
    rw [z0] at hTu
    have new : ObjOk X.prog X.w (upd H T (.tup [.int (i : Nat), x])) h' T (.tup [.int (i : Nat), x]) :=
      ⟨by show 2 ≤ sizeLine; decide, [.int i t, u], .cons ⟨_, rfl⟩ (.cons ru .nil), hTu⟩
    have I1 : Inv X pins σ (upd H T (.tup [.int (i : Nat), x])) { s with heap := h', toks := tk } :=
      I.turnedNew (ch := [e, it]) (fun b ob hb q => hk b ob hb q) hf hT new
    subst ev
    refine ⟨.ref T, _, I1, rfl, ⟨T, x, rfl, I.hok.fresh hT, rfl, fun ys hy => by rw [Src.inj I hy hq]; exact hx⟩, ⟨⟨old', ?_⟩, hS _ _ st2, hne, hea, hia⟩, fun b hb => ?_⟩
    · have e1 : (0 : Int) + ((i + 1 : Nat) : Int) = ((i + 1 : Nat) : Int) := Int.zero_add _
      rw [e1] at he'; exact he'
    · have hb' : b < s.heap.objs.size := by
        have e' : b = e ∨ b = it := by simpa using hb
        rcases e' with z | z
        · rw [z]; exact hel
        · rw [z]; exact hil
      rw [upd_ne (Nat.ne_of_lt (Nat.lt_of_lt_of_le hb' hT))]
      exact (hf b hb).1
  done := by
    intro X hP hw hK hc i pins s σ H E I hf st hg
    subst hP hw hK
    obtain ⟨⟨old, he⟩, hit, hne, hea, hia⟩ := st
    obtain ⟨xs, hq, hx⟩ := hg
    subst hx
    obtain ⟨Pv, Sx, D, st1, hP, hS⟩ := Src.draws I hc hq hit hia
    have G := GoesN.enumFrom (elts := elts) (x1 := kk) (pos := tpos) 0 D e hne (by simp [hne, hea]) (by simp)
    have z0 : (0 : Int) + (xs.length : Int) = (xs.length : Int) := Int.zero_add _
    exact G.stops s _ E ⟨⟨old, by rw [z0]; exact he⟩, st1⟩ fun h' tk hk htk => I.turnedL (ch := [e, it]) (fun b o hb q => hk b o hb q) hf
  self := fun A i s Q E st h => let ⟨⟨_, he⟩, _⟩ := st; wpAny_pyIter_enum he h
/-- how a source begins -/
theorem Src.begins {k : Src} {u : Value} (I : Inv X pins σ H s) (hr : k.rd X.K H xs) (r : RelV k.v u) : ∃ (o : Obj) (Hh : Heap → Prop), Begins u o Hh ∧ Hh s.heap ∧ (∀ h' it, h'.get? it = some o → k.it h' it 0) ∧ ∀ a ∈ k.ad, a < s.heap.objs.size := by
  cases k with
  | L a =>
    cases r
    obtain ⟨its, rv, p, hz⟩ := I.list hr
    exact ⟨_, _, begins_list a its.toArray, p.isList, fun h' it e => ⟨_, e, rfl, rfl⟩, fun b hb => by rw [show b = a by simpa [Src.ad] using hb]; obtain ⟨o, n, e, _⟩ := p; exact Heap.lt_size e⟩
  | U a =>
    cases r
    obtain ⟨its, rv, p, hz⟩ := I.tuple hr
    exact ⟨_, _, begins_tuple a its.toArray, p, fun h' it e => ⟨_, e, rfl, rfl⟩, fun b hb => by rw [show b = a by simpa [Src.ad] using hb]; obtain ⟨o, e, _⟩ := p; exact Heap.lt_size e⟩
  | S z =>
    obtain ⟨t, rfl⟩ := r
    exact ⟨_, _, begins_text z t, trivial, fun h' it e => ⟨t, _, e, rfl, rfl⟩, fun b hb => nomatch hb⟩
end
def iEnumK (K : PySem.W.Frag) (ta : TA) : TI := fun σ H R => ta σ H fun vs H1 => ∃ (k : Src) (xs : List V), vs = [k.v] ∧ k.rd K H1 xs ∧ R (IteK K k) H1
theorem pi_enumK {X : Cx} {e : Expr} {ta : TA} {p pos tpos : Pos} {elts : List Expr} {kk : Nat} (hg : Gl X "enumerate") (hm : X.mg "enumerate" = none) (ha : PA X [e] ta) (hs : starEach [e] X.env = [(false, eval e X.env)] := by rfl) :
    PI X (.Tuple elts kk tpos) (.Call (.Name "enumerate" p) [e] [] pos) (iEnumK X.K ta) := by
  refine ⟨fun pins s σ H R I h => ?_⟩
  refine Call_ (ld_blt I hg hm boot_enumerate (PyProof.Rows.callWith_type1 (thn (ha.run pos pins s σ H _ I h) fun us s1 ⟨vs, H1, I1, r1, q1⟩ => ?_) hs rfl))
  obtain ⟨k, xs, ex, hq, q⟩ := q1
  subst ex
  cases r1 with
  | cons r rr =>
    cases rr
    obtain ⟨o, Hh, B, hB, hIt, hAd⟩ := Src.begins I1 hq r
    refine enum_begins1 B hB fun h' he hit hsz hk => wpAny_pyIter_enum he ?_
    have I2 : Inv X pins σ H1 { s1 with heap := h' } := I1.kept (t' := s1.toks) hk
    refine ⟨s1.heap.objs.size + 1, [s1.heap.objs.size + 1, s1.heap.objs.size], _, _, H1, rfl, I2, turn_enumK k (s1.heap.objs.size + 1) s1.heap.objs.size, ⟨⟨.none, he⟩, hIt _ _ hit, Nat.succ_ne_self _, fun z => ?_, fun z => ?_⟩, fun b hb => ?_, q⟩
    · exact absurd (hAd _ z) (Nat.not_lt.mpr (Nat.le_succ _))
    · exact absurd (hAd _ z) (Nat.lt_irrefl _)
    have e' : b = s1.heap.objs.size + 1 ∨ b = s1.heap.objs.size := by simpa using hb
    have hle : s1.heap.objs.size ≤ b := by
      rcases e' with z | z
      · rw [z]; exact Nat.le_add_right _ _
      · rw [z]; exact Nat.le_refl _
    exact I1.fpOk hle (I1.hok.fresh hle)

/-! ### zip -/
def ItzK (K : PySem.W.Frag) (k1 k2 : Src) : It :=
  ⟨fun i H => ∃ (xs ys : List V) (x y : V), k1.rd K H xs ∧ k2.rd K H ys ∧ xs[i]? = some x ∧ ys[i]? = some y,
    fun i H v H' => ∃ T x y, v = .ref T ∧ H T = none ∧ H' = upd H T (.tup [x, y]) ∧ (∀ xs, k1.rd K H xs → xs[i]? = some x) ∧ ∀ ys, k2.rd K H ys → ys[i]? = some y,
    fun i H => ∃ xs ys : List V, k1.rd K H xs ∧ k2.rd K H ys ∧ min xs.length ys.length = i⟩
theorem turn_zipK {P : Program} {w : World} {K : PySem.W.Frag} {elts : List Expr} {kk : Nat} {tpos : Pos} (k1 k2 : Src) (z TI TO i1 i2 : Addr) (S : ZipSep2 z TI TO i1 i2 (i1 :: k1.ad) (i2 :: k2.ad)) :
    Turn P w K (.Tuple elts kk tpos) (ItzK K k1 k2) [z, TI, TO, i1, i2] z (fun i h => IsZip h z TI TO .none ∧ IsTupOf2 h TI (.ref i1) (.ref i2) ∧ (∃ a1 a2, IsTupOf2 h TO a1 a2) ∧ k1.it h i1 i ∧ k2.it h i2 i ∧ i1 ∉ k1.ad ∧ i2 ∉ k2.ad) where
  mem := by simp
  obj := fun i h st c hcm => by
    obtain ⟨hz, hTI, ⟨x, y, hTO⟩, h1, h2, _⟩ := st
    have e' : c = z ∨ c = TI ∨ c = TO ∨ c = i1 ∨ c = i2 := by simpa using hcm
    rcases e' with q | q | q | q | q
    · rw [q]; exact ⟨_, hz, fun v q => nomatch q⟩
    · rw [q]; exact ⟨_, hTI, fun v q => nomatch q⟩
    · rw [q]; exact ⟨_, hTO, fun v q => nomatch q⟩
    · rw [q]; exact Src.obj h1
    · rw [q]; exact Src.obj h2
  keep := fun i h h' st k => by
    obtain ⟨hz, hTI, ⟨x, y, hTO⟩, h1, h2, r⟩ := st
    exact ⟨k z (by simp) _ hz, k TI (by simp) _ hTI, ⟨x, y, k TO (by simp) _ hTO⟩, Src.keep h1 fun o q => k i1 (by simp) o q, Src.keep h2 fun o q => k i2 (by simp) o q, r⟩
  item := by
    intro X hP hw hK hc i pins s σ H E I hf st hg
    subst hP hw hK
    obtain ⟨hz, hTI, hTO, h1, h2, n1, n2⟩ := st
    obtain ⟨xs, ys, x, y, hqx, hqy, hx, hy⟩ := hg
    obtain ⟨P1, S1, D1, st1, hP1, hS1⟩ := Src.draws I hc hqx h1 n1
    obtain ⟨P2, S2, D2, st2, hP2, hS2⟩ := Src.draws I hc hqy h2 n2
    have hi : i < min xs.length ys.length := by
      have a := (List.getElem?_eq_some_iff.mp hx).1
      have b := (List.getElem?_eq_some_iff.mp hy).1
      omega
    have lts : ∀ c ∈ [z, TI, TO, i1, i2], c < s.heap.objs.size := fun c hcm => by
      obtain ⟨x, y, hTO⟩ := hTO
      have e' : c = z ∨ c = TI ∨ c = TO ∨ c = i1 ∨ c = i2 := by simpa using hcm
      rcases e' with q | q | q | q | q
      · rw [q]; exact Heap.lt_size hz
      · rw [q]; exact Heap.lt_size hTI
      · rw [q]; exact Heap.lt_size hTO
      · rw [q]; obtain ⟨o, e, _⟩ := Src.obj h1; exact Heap.lt_size e
      · rw [q]; obtain ⟨o, e, _⟩ := Src.obj h2; exact Heap.lt_size e
    have G := GoesN.zip2 (elts := elts) (x1 := kk) (pos := tpos) S D1 D2
    refine G.goes i s _ E hi ⟨hz, hTI, hTO, st1, st2⟩ fun v h' tk ⟨T, u1, u2, ev, hT, hu1, hu2, hTu⟩ ⟨hz', hTI', hTO', st1', st2'⟩ hk htk => ?_
    obtain ⟨x', hx', r1⟩ := hP1 i u1 hu1
    rw [hx] at hx'; cases hx'
    obtain ⟨y', hy', r2⟩ := hP2 i u2 hu2
    rw [hy] at hy'; cases hy'
    have new : ObjOk X.prog X.w (upd H T (.tup [x, y])) h' T (.tup [x, y]) :=
      ⟨by show 2 ≤ sizeLine; decide, [u1, u2], .cons r1 (.cons r2 .nil), hTu⟩
    have I1 : Inv X pins σ (upd H T (.tup [x, y])) { s with heap := h', toks := tk } :=
      I.turnedNew (ch := [z, TO, i1, i2]) (fun b ob hb q => hk b ob hb q) (fun b hb => hf b (by
        have e' : b = z ∨ b = TO ∨ b = i1 ∨ b = i2 := by simpa using hb
        rcases e' with q | q | q | q <;> simp [q])) hT new
    subst ev
    refine ⟨.ref T, _, I1, rfl, ⟨T, x, y, rfl, I.hok.fresh hT, rfl, fun l hl => by rw [Src.inj I hl hqx]; exact hx, fun l hl => by rw [Src.inj I hl hqy]; exact hy⟩, ⟨hz', hTI', hTO', hS1 _ _ st1', hS2 _ _ st2', n1, n2⟩, fun b hb => ?_⟩
    rw [upd_ne (Nat.ne_of_lt (Nat.lt_of_lt_of_le (lts b hb) hT))]
    exact (hf b hb).1
  done := by
    intro X hP hw hK hc i pins s σ H E I hf st hg
    subst hP hw hK
    obtain ⟨hz, hTI, hTO, h1, h2, n1, n2⟩ := st
    obtain ⟨xs, ys, hqx, hqy, hend⟩ := hg
    subst hend
    obtain ⟨P1, S1, D1, st1, hP1, hS1⟩ := Src.draws I hc hqx h1 n1
    obtain ⟨P2, S2, D2, st2, hP2, hS2⟩ := Src.draws I hc hqy h2 n2
    have G := GoesN.zip2 (elts := elts) (x1 := kk) (pos := tpos) S D1 D2
    exact G.stops s _ E ⟨hz, hTI, hTO, st1, st2⟩ fun h' tk hk htk => I.turnedL (ch := [z, TO, i1, i2]) (fun b o hb q => hk b o hb q) (fun b hb => hf b (by
        have e' : b = z ∨ b = TO ∨ b = i1 ∨ b = i2 := by simpa using hb
        rcases e' with q | q | q | q <;> simp [q]))
  self := fun A i s Q E st h => wpAny_pyIter_zip st.1 h
def iZipK (K : PySem.W.Frag) (ta : TA) : TI := fun σ H R => ta σ H fun vs H1 => ∃ (k1 k2 : Src) (xs ys : List V), vs = [k1.v, k2.v] ∧ k1.rd K H1 xs ∧ k2.rd K H1 ys ∧ R (ItzK K k1 k2) H1
theorem pi_zipK {X : Cx} {e e2 : Expr} {ta : TA} {p pos tpos : Pos} {elts : List Expr} {kk : Nat} (hg : Gl X "zip") (hm : X.mg "zip" = none) (ha : PA X [e, e2] ta)
    (hs : starEach [e, e2] X.env = (false, eval e X.env) :: starEach [e2] X.env := by rfl) (hpl : (backTo pos (starEach [e2] X.env)).any (·.1) = false := by rfl) :
    PI X (.Tuple elts kk tpos) (.Call (.Name "zip" p) [e, e2] [] pos) (iZipK X.K ta) := by
  refine ⟨fun pins s σ H R I h => ?_⟩
  refine Call_ (ld_blt I hg hm PyProof.Rows.boot_zip (PyProof.Rows.callWith_type1 (thn (ha.run pos pins s σ H _ I h) fun us s1 ⟨vs, H1, I1, r1, q1⟩ => ?_) hs hpl))
  obtain ⟨k1, k2, xs, ys, ex, hq1, hq2, q⟩ := q1
  subst ex
  cases r1 with
  | cons r rr =>
    cases rr with
    | cons r' rr =>
      cases rr
      obtain ⟨o1, Hh1, B1, hB1, hIt1, hAd1⟩ := Src.begins I1 hq1 r
      obtain ⟨o2, Hh2, B2, hB2, hIt2, hAd2⟩ := Src.begins I1 hq2 r'
      refine zip_begins2 B1 B2 hB1 hB2 fun h' hz hTI hTO g1 g2 hsz hk => wpAny_pyIter_zip hz ?_
      have I2 : Inv X pins σ H1 { s1 with heap := h' } := I1.kept (t' := s1.toks) hk
      refine ⟨s1.heap.objs.size + 4, [s1.heap.objs.size + 4, s1.heap.objs.size + 2, s1.heap.objs.size + 3, s1.heap.objs.size, s1.heap.objs.size + 1], _, _, H1, rfl, I2, turn_zipK k1 k2 _ _ _ _ _ (zip_sep2 hAd1 hAd2),
        ⟨hz, hTI, ⟨_, _, hTO⟩, hIt1 _ _ g1, hIt2 _ _ g2, fun z => absurd (hAd1 _ z) (Nat.lt_irrefl _), fun z => absurd (hAd2 _ z) (Nat.not_lt.mpr (Nat.le_succ _))⟩, fun c hcm => ?_, q⟩
      have e' : c = s1.heap.objs.size + 4 ∨ c = s1.heap.objs.size + 2 ∨ c = s1.heap.objs.size + 3 ∨ c = s1.heap.objs.size ∨ c = s1.heap.objs.size + 1 := by simpa using hcm
      have hle : s1.heap.objs.size ≤ c := by
        rcases e' with z | z | z | z | z
        · rw [z]; exact Nat.le_add_right _ _
        · rw [z]; exact Nat.le_add_right _ _
        · rw [z]; exact Nat.le_add_right _ _
        · rw [z]; exact Nat.le_refl _
        · rw [z]; exact Nat.le_add_right _ _
      exact I1.fpOk hle (I1.hok.fresh hle)

/-! ### a list, a tuple, a text -/
def Src.itr (K : PySem.W.Frag) : Src → It
  | .L a => Itl K a
  | .U a => Itt K a
  | .S z => Its z
def iSeq (K : PySem.W.Frag) (tl : TE) : TI := fun σ H R => tl σ H fun x H1 => ∃ (k : Src) (xs : List V), x = k.v ∧ k.rd K H1 xs ∧ R (k.itr K) H1
theorem pi_seq {X : Cx} {tg l : Expr} {tl : TE} (hl : PE X l tl) : PI X tg l (iSeq X.K tl) := by
  refine ⟨fun pins s σ H R I h => ?_⟩
  refine thn (hl.run pins s σ H _ I h) fun v s1 ⟨x, H1, I1, r1, q1⟩ => ?_
  obtain ⟨k, xs, rfl, hq, q⟩ := q1
  cases k with
  | L a =>
    cases r1
    obtain ⟨its, rv, p, hz⟩ := I1.list hq
    refine wpAny_pyIter_list p.isList ?_
    refine ⟨s1.heap.objs.size, [s1.heap.objs.size], _, _, H1, rfl, I1.kept (t' := s1.toks) fun b o e => Heap.get?_push_of_some _ e, turn_list a _, ⟨_, Heap.get?_push_size _ rfl, rfl, rfl⟩, fun b hb => ?_, q⟩
    have e : b = s1.heap.objs.size := by simpa using hb
    subst e
    exact I1.fpOk (Nat.le_refl _) (I1.hok.fresh (Nat.le_refl _))
  | U a =>
    cases r1
    obtain ⟨its, rv, p, hz⟩ := I1.tuple hq
    refine wpAny_pyIter_tuple (show s1.heap.IsTuple a its.toArray from p) ?_
    refine ⟨s1.heap.objs.size, [s1.heap.objs.size], _, _, H1, rfl, I1.kept (t' := s1.toks) fun b o e => Heap.get?_push_of_some _ e, turn_tuple a _, ⟨_, Heap.get?_push_size _ rfl, rfl, rfl⟩, fun b hb => ?_, q⟩
    have e : b = s1.heap.objs.size := by simpa using hb
    subst e
    exact I1.fpOk (Nat.le_refl _) (I1.hok.fresh (Nat.le_refl _))
  | S z =>
    obtain ⟨t, rfl⟩ := r1
    cases ha : z.cps.all (· < 128)
    · exact wpAny_pyIter_wide ha (pi_one (tk := s1.toks) I1 _ (turn_str _ z t "str_iterator" (.inr rfl)) ⟨_, Heap.get?_push_size _ rfl, rfl, rfl⟩ q)
    · exact wpAny_pyIter_ascii ha (pi_one (tk := s1.toks) I1 _ (turn_str _ z t "str_ascii_iterator" (.inl rfl)) ⟨_, Heap.get?_push_size _ rfl, rfl, rfl⟩ q)
end LvI

/-! Lv6: what is walked, targets, statements, loops, comprehensions. -/
namespace Lv
open PySem L2 LvI

/-! ### what is walked -/
/-- an iterator that gives these items, as long as the store is so -/
def Wk (K : Fr) (M : MP) (J : It) (items : List T) (grd : ST → Prop) (H0 B0 : Hp) (φ0 : Fi) : Prop :=
  ∃ (G : Hp → Prop) (Y : Nat → Hp → V → Hp → Prop), Walk J items.length G Y ∧ (∀ H B φ s, Gr H0 B0 φ0 H B φ → Re K M H B φ s → grd s → G H) ∧
    (∀ i H x H' B φ s, Gr H0 B0 φ0 H B φ → Re K M H B φ s → grd s → i < items.length → Y i H x H' → ∃ B' t, items[i]? = some t ∧ Gr H B φ H' B' φ ∧ Re K M H' B' φ s ∧ Fz K B' x t)
abbrev ATI := AS → ST → (List T → (ST → Prop) → ST → Prop) → Prop
def LiftI (K : Fr) (M : MP) (wi : TI) (t : ATI) : Prop := ∀ H B φ σ δ s Q, Re K M H B φ s → Rsl K B φ σ δ → t δ s Q → ∀ R : It → Hp → Prop,
  (∀ H' B' φ' s' J items grd, Gr H B φ H' B' φ' → Re K M H' B' φ' s' → Wk K M J items grd H' B' φ' → Q items grd s' → R J H') → wi σ H R
structure AI (X : Cx) (M : MP) (tg e : Expr) (t : ATI) : Prop where
  ex : ∃ wi, PI X tg e wi ∧ LiftI X.K M wi t
def chT (z : Str) : List T := z.cps.toList.map fun c => T.str ⟨#[c]⟩
def wkV (s : ST) : SV → Option (List T × Option Nat)
  | .d (.lst ts) => some (ts, none)
  | .d (.tup ts) => some (ts, none)
  | .d (.scr ts) => some (ts, none)
  | .d (.str z) => some (chT z, none)
  | .l n => (match s[n]? with
    | some (.lst ts) => some (ts, some n)
    | _ => none)
  | _ => none
def grd (ts : List T) : Option Nat → ST → Prop
  | none, _ => True
  | some n, s => s[n]? = some (.lst ts)
section
variable {K : Fr} {M : MP} {H B : Hp} {φ : Fi} {s : ST}
theorem chT_fz (z : Str) : FzAll K B (z.cps.toList.map fun c => V.str ⟨#[c]⟩) (chT z) := by
  unfold chT
  generalize z.cps.toList = l
  induction l with
  | nil => exact .nil
  | cons x r ih => exact .cons (.str _) ih
theorem src_of (re : Re K M H B φ s) {v : V} {x : SV} (r : Rs K B φ v x) {ts : List T} {g : Option Nat} (h : wkV s x = some (ts, g)) :
    ∃ k : Src, v = k.v ∧ grd ts g s ∧ ∀ H2 B2 φ2 s2, Gr H B φ H2 B2 φ2 → Re K M H2 B2 φ2 s2 → grd ts g s2 → ∃ ws, k.rd K H2 ws ∧ FzAll K B2 ws ts := by
  cases x with
  | l n =>
    have h : (match s[n]? with | some (.lst ts) => some (ts, some n) | _ => none) = some (ts, g) := h
    cases hs : s[n]? with
    | none => rw [hs] at h; cases h
    | some o =>
      rw [hs] at h
      cases o with
      | lst us =>
        cases (show some (us, some n) = some (ts, g) from h)
        obtain ⟨p, vs, rfl, hp, e1, hB, f1⟩ := own_of re r hs
        refine ⟨.L p, rfl, hs, fun H2 B2 φ2 s2 g2 re2 gd => ?_⟩
        obtain ⟨p2, ws, e4, hp2, e5, _, f2⟩ := own_of re2 (r.mono g2) gd
        cases e4
        exact ⟨ws, SqL.of e5, f2⟩
      | _ => cases h
  | d t =>
    cases t with
    | lst us =>
      cases (show some (us, none) = some (ts, g) from h)
      cases (show Fz K B v (.lst ts) from r) with
      | lst eb fb => exact ⟨.L _, rfl, trivial, fun H2 B2 φ2 s2 g2 re2 _ => ⟨_, SqL.of (re2.ex _ _ (g2.eb _ _ eb)), fb.mono g2.eb⟩⟩
    | tup us =>
      cases (show some (us, none) = some (ts, g) from h)
      cases (show Fz K B v (.tup ts) from r) with
      | tup eb fb => exact ⟨.U _, rfl, trivial, fun H2 B2 φ2 s2 g2 re2 _ => ⟨_, ((eb.mono g2.eb).mono re2.ex).sq, fb.mono g2.eb⟩⟩
    | scr us =>
      cases (show some (us, none) = some (ts, g) from h)
      cases (show Fz K B v (.scr ts) from r) with
      | scr eb fb => exact ⟨.L _, rfl, trivial, fun H2 B2 φ2 s2 g2 re2 _ => ⟨_, ex_l re2.ex (ex_l g2.eb eb), fb.mono g2.eb⟩⟩
    | str z =>
      cases (show some (chT z, none) = some (ts, g) from h)
      cases str_of r
      exact ⟨.S z, rfl, trivial, fun H2 B2 φ2 s2 g2 re2 _ => ⟨_, rfl, chT_fz z⟩⟩
    | _ => cases h
/-- a new pair of data -/
theorem pair_new (re : Re K M H B φ s) {x : V} {H' : Hp} {v w : V} {a b : T} (h : ∃ T0, x = .ref T0 ∧ H T0 = none ∧ H' = upd H T0 (.tup [v, w])) (hv : Fz K B v a) (hw : Fz K B w b) : ∃ B', Gr H B φ H' B' φ ∧ Re K M H' B' φ s ∧ Fz K B' x (.tup [a, b]) := by
  obtain ⟨T0, rfl, h1, rfl⟩ := h
  obtain ⟨g, re2⟩ := re.newD (.tup [v, w]) h1
  exact ⟨_, g, re2, .tup (.inl upd_same) (.cons (hv.mono g.eb) (.cons (hw.mono g.eb) .nil))⟩
end
section
variable {X : Cx} {M : MP} {tg e e2 a b : Expr} {pos p : Pos} {va vb : ATE}
/-- over a list, a tuple, a text -/
def aSeq (t : ATE) : ATI := fun δ s Q => t δ s fun x s1 => ∃ ts g, wkV s1 x = some (ts, g) ∧ Q ts (grd ts g) s1
theorem ai_seq (h : AE X M e va) : AI X M tg e (aSeq va) := by
  refine ⟨_, pi_seq h.pe, fun H B φ σ δ s Q re sl q R f => uE_lift (t := va) H B φ σ δ s _ re sl q _ fun H1 B1 φ1 s1 v x g1 re1 r1 ⟨ts, g, hw, q1⟩ => ?_⟩
  obtain ⟨k, rfl, gd, hk⟩ := src_of re1 r1 hw
  obtain ⟨ws, hr, fw⟩ := hk _ _ _ _ .refl re1 gd
  refine ⟨k, ws, rfl, hr, f _ _ _ _ _ _ _ g1 re1 ⟨fun H => ∃ ws, k.rd X.K H ws ∧ ws.length = ts.length, (k.itr X.K).yld, ?_, fun H2 B2 φ2 s2 g2 re2 gd2 => ?_, fun i H2 x H3 B2 φ2 s2 g2 re2 gd2 hi y => ?_⟩ q1⟩
  · cases k with
    | L a => exact ⟨fun i H hi ⟨ws, h1, h2⟩ => ⟨ws, ws[i]'(by omega), h1, by simp [h2, hi]⟩, fun H ⟨ws, h1, h2⟩ => ⟨ws, h1, by omega⟩, fun i H x H' _ _ y => y⟩
    | U a => exact ⟨fun i H hi ⟨ws, h1, h2⟩ => ⟨ws, ws[i]'(by omega), h1, by simp [h2, hi]⟩, fun H ⟨ws, h1, h2⟩ => ⟨ws, h1, by omega⟩, fun i H x H' _ _ y => y⟩
    | S z =>
      have e : ∀ ws, Src.rd X.K (.S z) H ws → ws.length = z.cps.size := fun ws h => by rw [show ws = z.cps.toList.map (fun c => V.str ⟨#[c]⟩) from h, List.length_map, Array.length_toList]
      exact ⟨fun i H hi ⟨ws, h1, h2⟩ => by rw [← h2, e ws h1] at hi; exact hi, fun H ⟨ws, h1, h2⟩ => by rw [← h2, e ws h1]; exact Nat.le_refl _, fun i H x H' _ _ y => y⟩
  · obtain ⟨ws, hr, fw⟩ := hk _ _ _ _ g2 re2 gd2
    exact ⟨ws, hr, fw.length⟩
  · obtain ⟨ws, hr, fw⟩ := hk _ _ _ _ g2 re2 gd2
    cases k with
    | L a =>
      obtain ⟨rfl, hx⟩ := y
      obtain ⟨t, ht, r⟩ := fw.get (hx ws hr)
      exact ⟨B2, t, ht, .refl, re2, r⟩
    | U a =>
      obtain ⟨rfl, hx⟩ := y
      obtain ⟨t, ht, r⟩ := fw.get (hx ws hr)
      exact ⟨B2, t, ht, .refl, re2, r⟩
    | S z =>
      obtain ⟨rfl, c, hc, rfl⟩ := y
      have hx : ws[i]? = some (.str ⟨#[c]⟩) := by
        rw [show ws = z.cps.toList.map (fun c => V.str ⟨#[c]⟩) from hr, List.getElem?_map, Array.getElem?_toList, hc]; rfl
      obtain ⟨t, ht, r⟩ := fw.get hx
      exact ⟨B2, t, ht, .refl, re2, r⟩
/-- range -/
def aRng1 (t : ATE) : ATI := fun δ s Q => t δ s fun x s1 => match x with
  | .d (.int n) => -(2 ^ 62) ≤ n ∧ n < 2 ^ 62 ∧ Q (rgT 0 n) (fun _ => True) s1
  | _ => False
def aRng2 (t u : ATE) : ATI := fun δ s Q => t δ s fun x s1 => u δ s1 fun y s2 => match x, y with
  | .d (.int a), .d (.int b) => (-(2 ^ 62) ≤ a ∧ a < 2 ^ 62 ∧ -(2 ^ 62) ≤ b ∧ b < 2 ^ 62) ∧ Q (rgT a b) (fun _ => True) s2
  | _, _ => False
theorem rgT_len (a b : Int) : (rgT a b).length = (b - a).toNat := by unfold rgT; rw [List.length_map, List.length_range]
theorem rgT_get {a b : Int} {i : Nat} (h : i < (b - a).toNat) : (rgT a b)[i]? = some (.int (a + i)) := by
  unfold rgT
  rw [List.getElem?_map, List.getElem?_range h]
  rfl
theorem wk_rng {K : Fr} {M : MP} {H0 B0 : Hp} {φ0 : Fi} (a b : Int) {n : Nat} (hn : n = (b - a).toNat) : Wk K M (Itr a n) (rgT a b) (fun _ => True) H0 B0 φ0 := by
  subst hn
  refine ⟨fun _ => True, YFn fun i => .int (a + i), by rw [rgT_len]; exact walk_range, fun _ _ _ _ _ _ _ => trivial, fun i H x H' B φ s g re _ hi ⟨e, hx⟩ => ?_⟩
  subst e; subst hx
  rw [rgT_len] at hi
  exact ⟨B, _, rgT_get hi, .refl, re, .int _⟩
theorem ai_range1 (hm : X.mg "range" = none) (ha : AE X M a va) (hg : Gl X "range" := by rfl) (hs : HS1 X a [] := by rfl) (hs2 : starEach [a] X.env = [(false, eval a X.env)] := by rfl) : AI X M tg (.Call (.Name "range" p) [a] [] pos) (aRng1 va) :=
  ⟨_, pi_range1 hg hm (pa_cons ha.pe pa_nil hs) hs2, fun H B φ σ δ s Q re sl q R f => uE_lift (t := va) H B φ σ δ s _ re sl q _ fun H1 B1 φ1 s1 v x g1 re1 r1 q1 => by
    dsimp only at q1
    split at q1
    · cases int_of r1
      exact ⟨_, rfl, q1.1, q1.2.1, f _ _ _ _ _ _ _ g1 re1 (wk_rng 0 _ (by rw [Int.sub_zero])) q1.2.2⟩
    · exact q1.elim⟩
theorem ai_range2 (hm : X.mg "range" = none) (ha : AE X M a va) (hb : AE X M b vb) (hg : Gl X "range" := by rfl) (hs : HS1 X a [b] := by rfl) (hs1 : HS1 X b [] := by rfl) (hs2 : starEach [a, b] X.env = [(false, eval a X.env), (false, eval b X.env)] := by rfl) (hs3 : starEach [b] X.env = [(false, eval b X.env)] := by rfl) :
    AI X M tg (.Call (.Name "range" p) [a, b] [] pos) (aRng2 va vb) :=
  ⟨_, pi_range2 hg hm (pa_cons ha.pe (pa_cons hb.pe pa_nil hs1) hs) hs2 hs3, fun H B φ σ δ s Q re sl q R f => uE_lift (t := va) H B φ σ δ s _ re sl q _ fun H1 B1 φ1 s1 v x g1 re1 r1 q1 => uE_lift (t := vb) H1 B1 φ1 σ δ s1 _ re1 (sl.mono g1) q1 _ fun H2 B2 φ2 s2 w y g2 re2 r2 q2 => by
    dsimp only at q2
    split at q2
    · cases int_of r1
      cases int_of r2
      exact ⟨_, _, rfl, q2.1, f _ _ _ _ _ _ _ (g1.trans g2) re2 (wk_rng _ _ rfl) q2.2⟩
    · exact q2.elim⟩
/-- enumerate, zip -/
def enT (ts : List T) : List T := ts.zipIdx.map fun p => T.tup [.int (p.2 : Nat), p.1]
def zpT (ts us : List T) : List T := List.zipWith (fun a b => T.tup [a, b]) ts us
theorem enT_get {ts : List T} {i : Nat} {t : T} (h : ts[i]? = some t) : (enT ts)[i]? = some (.tup [.int (i : Nat), t]) := by
  unfold enT
  rw [List.getElem?_map, List.getElem?_zipIdx, h]
  simp
theorem enT_len (ts : List T) : (enT ts).length = ts.length := by unfold enT; rw [List.length_map, List.length_zipIdx]
theorem zpT_get {ts us : List T} {i : Nat} {t u : T} (h : ts[i]? = some t) (h2 : us[i]? = some u) : (zpT ts us)[i]? = some (.tup [t, u]) := by
  unfold zpT
  rw [List.getElem?_zipWith, h, h2]
theorem zpT_len (ts us : List T) : (zpT ts us).length = min ts.length us.length := by unfold zpT; rw [List.length_zipWith]
def aEnm (t : ATE) : ATI := fun δ s Q => t δ s fun x s1 => ∃ ts g, wkV s1 x = some (ts, g) ∧ Q (enT ts) (grd ts g) s1
theorem ai_enum {elts : List Expr} {kk : Nat} {tpos : Pos} (hm : X.mg "enumerate" = none) (ha : AE X M e va) (hg : Gl X "enumerate" := by rfl) (hs : HS1 X e [] := by rfl) (hs2 : starEach [e] X.env = [(false, eval e X.env)] := by rfl) :
    AI X M (.Tuple elts kk tpos) (.Call (.Name "enumerate" p) [e] [] pos) (aEnm va) := by
  refine ⟨_, pi_enumK hg hm (pa_cons ha.pe pa_nil hs) hs2, fun H B φ σ δ s Q re sl q R f => uE_lift (t := va) H B φ σ δ s _ re sl q _ fun H1 B1 φ1 s1 v x g1 re1 r1 ⟨ts, g, hw, q1⟩ => ?_⟩
  obtain ⟨k, rfl, gd, hk⟩ := src_of re1 r1 hw
  obtain ⟨ws, hr, fw⟩ := hk _ _ _ _ .refl re1 gd
  refine ⟨k, ws, rfl, hr, f _ _ _ _ _ _ _ g1 re1 ⟨fun H => ∃ ws, k.rd X.K H ws ∧ ws.length = ts.length, (IteK X.K k).yld, ?_, fun H2 B2 φ2 s2 g2 re2 gd2 => ?_, fun i H2 x H3 B2 φ2 s2 g2 re2 gd2 hi y => ?_⟩ q1⟩
  · rw [enT_len]
    exact ⟨fun i H hi ⟨ws, h1, h2⟩ => ⟨ws, ws[i]'(by omega), h1, by simp [h2, hi]⟩, fun H ⟨ws, h1, h2⟩ => ⟨ws, h1, h2⟩, fun i H x H' _ _ y => y⟩
  · obtain ⟨ws, hr, fw⟩ := hk _ _ _ _ g2 re2 gd2
    exact ⟨ws, hr, fw.length⟩
  · obtain ⟨ws, hr, fw⟩ := hk _ _ _ _ g2 re2 gd2
    obtain ⟨T0, x0, h1, h2, h3, h4⟩ := y
    obtain ⟨t, ht, r⟩ := fw.get (h4 ws hr)
    obtain ⟨B3, g3, re3, r3⟩ := pair_new re2 ⟨T0, h1, h2, h3⟩ (.int _) r
    exact ⟨B3, _, enT_get ht, g3, re3, r3⟩
def aZip (t u : ATE) : ATI := fun δ s Q => t δ s fun x s1 => u δ s1 fun y s2 => ∃ ts g us g', wkV s2 x = some (ts, g) ∧ wkV s2 y = some (us, g') ∧ Q (zpT ts us) (fun s => grd ts g s ∧ grd us g' s) s2
theorem ai_zip {elts : List Expr} {kk : Nat} {tpos : Pos} (hm : X.mg "zip" = none) (ha : AE X M e va) (hb : AE X M e2 vb) (hg : Gl X "zip" := by rfl) (hs : HS1 X e [e2] := by rfl) (hs1 : HS1 X e2 [] := by rfl) (hpl : (backTo pos (starEach [e2] X.env)).any (·.1) = false := by rfl) :
    AI X M (.Tuple elts kk tpos) (.Call (.Name "zip" p) [e, e2] [] pos) (aZip va vb) := by
  refine ⟨_, pi_zipK hg hm (pa_cons ha.pe (pa_cons hb.pe pa_nil hs1) hs) hs hpl, fun H B φ σ δ s Q re sl q R f => uE_lift (t := va) H B φ σ δ s _ re sl q _ fun H0 B0 φ0 s0 v0 x0 g0 re0 r0 q0 => uE_lift (t := vb) H0 B0 φ0 σ δ s0 _ re0 (sl.mono g0) q0 _ fun H1 B1 φ1 s1 v x g1 re1 r1 ⟨ts, g, us, g', hw, hw', q1⟩ => ?_⟩
  obtain ⟨k, rfl, gd, hk⟩ := src_of re1 (r0.mono g1) hw
  obtain ⟨k', rfl, gd', hk'⟩ := src_of re1 r1 hw'
  obtain ⟨ws, hr, fw⟩ := hk _ _ _ _ .refl re1 gd
  obtain ⟨ws', hr', fw'⟩ := hk' _ _ _ _ .refl re1 gd'
  refine ⟨k, k', ws, ws', rfl, hr, hr', f _ _ _ _ _ _ _ (g0.trans g1) re1 ⟨fun H => ∃ ws ws', k.rd X.K H ws ∧ ws.length = ts.length ∧ k'.rd X.K H ws' ∧ ws'.length = us.length, (ItzK X.K k k').yld, ?_, fun H2 B2 φ2 s2 g2 re2 gd2 => ?_, fun i H2 x H3 B2 φ2 s2 g2 re2 gd2 hi y => ?_⟩ q1⟩
  · rw [zpT_len]
    exact ⟨fun i H hi ⟨ws, ws', h1, h2, h3, h4⟩ => ⟨ws, ws', ws[i]'(by omega), ws'[i]'(by omega), h1, h3, List.getElem?_eq_getElem (by omega), List.getElem?_eq_getElem (by omega)⟩, fun H ⟨ws, ws', h1, h2, h3, h4⟩ => ⟨ws, ws', h1, h3, by rw [h2, h4]⟩, fun i H x H' _ _ y => y⟩
  · obtain ⟨ws, hr, fw⟩ := hk _ _ _ _ g2 re2 gd2.1
    obtain ⟨ws', hr', fw'⟩ := hk' _ _ _ _ g2 re2 gd2.2
    exact ⟨ws, ws', hr, fw.length, hr', fw'.length⟩
  · obtain ⟨ws, hr, fw⟩ := hk _ _ _ _ g2 re2 gd2.1
    obtain ⟨ws', hr', fw'⟩ := hk' _ _ _ _ g2 re2 gd2.2
    obtain ⟨T0, x0, y0, h1, h2, h3, h4, h5⟩ := y
    obtain ⟨t, ht, r⟩ := fw.get (h4 ws hr)
    obtain ⟨t', ht', r'⟩ := fw'.get (h5 ws' hr')
    obtain ⟨B3, g3, re3, r3⟩ := pair_new re2 ⟨T0, h1, h2, h3⟩ r r'
    exact ⟨B3, _, zpT_get ht ht', g3, re3, r3⟩
end

/-! ### targets -/
abbrev ATG := SV → AS → ST → (AS → ST → Prop) → Prop
abbrev ATGs := List SV → AS → ST → (AS → ST → Prop) → Prop
def FinG (K : Fr) (M : MP) (H B : Hp) (φ : Fi) (Q : AS → ST → Prop) (Q' : St → Hp → Prop) : Prop := ∀ H' B' φ' s' σ' δ', Gr H B φ H' B' φ' → Re K M H' B' φ' s' → Rsl K B' φ' σ' δ' → Q δ' s' → Q' σ' H'
theorem FinG.grow {K : Fr} {M : MP} {H B H' B' : Hp} {φ φ' : Fi} {Q : AS → ST → Prop} {Q' : St → Hp → Prop} (f : FinG K M H B φ Q Q') (g : Gr H B φ H' B' φ') : FinG K M H' B' φ' Q Q' := fun _ _ _ _ _ _ g2 re sl q => f _ _ _ _ _ _ (g.trans g2) re sl q
/-- only the slots vs are written -/
def Onl (vs : List Nat) (σ σ' : St) : Prop := σ'.length = σ.length ∧ ∀ i, i ∉ vs → σ'[i]? = σ[i]?
def LiftG (K : Fr) (M : MP) (vs : List Nat) (g : TG) (t : ATG) : Prop := ∀ H B φ σ δ s v x Q, Re K M H B φ s → Rsl K B φ σ δ → Rs K B φ v x → t x δ s Q → ∀ Q', FinG K M H B φ Q (fun σ' H' => Onl vs σ σ' → Q' σ' H') → g v σ H Q'
def LiftGs (K : Fr) (M : MP) (vs : List Nat) (g : TGs) (t : ATGs) : Prop := ∀ H B φ σ δ s v x Q, Re K M H B φ s → Rsl K B φ σ δ → RsAll K B φ v x → t x δ s Q → ∀ Q', FinG K M H B φ Q (fun σ' H' => Onl vs σ σ' → Q' σ' H') → g v σ H Q'
structure AG (X : Cx) (M : MP) (vs : List Nat) (e : Expr) (t : ATG) : Prop where
  ex : ∃ g, PG X e g ∧ LiftG X.K M vs g t
structure AGs (X : Cx) (M : MP) (vs : List Nat) (es : List Expr) (t : ATGs) : Prop where
  ex : ∃ g, PGs X es g ∧ LiftGs X.K M vs g t
def uG (K : Fr) (M : MP) (vs : List Nat) (t : ATG) : TG := fun v σ H Q => ∀ g, LiftG K M vs g t → g v σ H Q
theorem uG_lift {K : Fr} {M : MP} {vs : List Nat} {t : ATG} : LiftG K M vs (uG K M vs t) t := fun H B φ σ δ s v x Q re sl r q Q' f te l => l H B φ σ δ s v x Q re sl r q Q' f
theorem Onl.refl (vs : List Nat) (σ : St) : Onl vs σ σ := ⟨rfl, fun _ _ => rfl⟩
theorem Onl.trans {vs ws us : List Nat} {σ σ' σ2 : St} (h : Onl vs σ σ') (h2 : Onl ws σ' σ2) (hv : ∀ i ∈ vs, i ∈ us) (hw : ∀ i ∈ ws, i ∈ us) : Onl us σ σ2 := ⟨h2.1.trans h.1, fun i hi => (h2.2 i fun z => hi (hw i z)).trans (h.2 i fun z => hi (hv i z))⟩
section
variable {X : Cx} {M : MP} {e : Expr} {es : List Expr} {pos : Pos} {vs ws : List Nat}
theorem AG.pg {t : ATG} (h : AG X M vs e t) : PG X e (uG X.K M vs t) := by
  obtain ⟨g, h1, h2⟩ := h.ex
  exact ⟨fun pins s σ H v u Q I r q => h1.run pins s σ H v u Q I r (q g h2)⟩
def aName (i : Nat) : ATG := fun x δ s Q => Q (δ.set i (some x)) s
theorem ag_name {i : Nat} {x : Str} (hN : X.N.Nodup) (hi : X.N[i]? = some x := by rfl) (hx : Loc X.env.scope x := by first | exact Or.inl rfl | exact Or.inr rfl) (hf : X.fn x = true ∨ X.env.scope.names.lookup x = some .local := by first | exact .inl rfl | exact .inr rfl) : AG X M [i] (.Name x pos) (aName i) :=
  ⟨_, pg_name hN hi hx hf, fun H B φ σ δ s v x Q re sl r q Q' f => f _ _ _ _ _ _ .refl re (sl.set i r) q ⟨List.length_set, fun j hj => List.getElem?_set_ne (fun z => hj (by rw [← z]; exact List.mem_singleton.mpr rfl))⟩⟩
def agNil : ATGs := fun xs δ s Q => xs = [] ∧ Q δ s
def agCons (t : ATG) (u : ATGs) : ATGs := fun xs δ s Q => match xs with
  | x :: r => t x δ s fun δ' s' => u r δ' s' Q
  | [] => False
theorem ags_nil : AGs X M [] [] agNil := ⟨_, pgs_nil, fun H B φ σ δ s v x Q re sl r q Q' f => by
  obtain ⟨rfl, q⟩ := q
  exact ⟨rsall0 r, f _ _ _ _ _ _ .refl re sl q (Onl.refl _ _)⟩⟩
theorem ags_cons {t : ATG} {u : ATGs} (h : AG X M vs e t) (h2 : AGs X M ws es u) (hs : (assignEach (e :: es) X.env).map (·.2) = assign e X.env :: (assignEach es X.env).map (·.2) := by rfl) : AGs X M (vs ++ ws) (e :: es) (agCons t u) := by
  obtain ⟨g, h3, h4⟩ := h2.ex
  refine ⟨_, pgs_cons h.pg h3 hs, fun H B φ σ δ s v x Q re sl r q Q' f => ?_⟩
  cases r with
  | nil => exact q.elim
  | cons r1 r2 =>
    exact ⟨_, _, rfl, uG_lift (t := t) H B φ σ δ s _ _ _ re sl r1 q _ fun H1 B1 φ1 s1 σ1 δ1 g1 re1 sl1 q1 o1 => h4 H1 B1 φ1 σ1 δ1 s1 _ _ _ re1 sl1 (r2.mono g1) q1 _ fun H2 B2 φ2 s2 σ2 δ2 g2 re2 sl2 q2 o2 =>
      f _ _ _ _ _ _ (g1.trans g2) re2 sl2 q2 (o1.trans o2 (fun i hi => List.mem_append_left _ hi) fun i hi => List.mem_append_right _ hi)⟩
theorem PG.or {e : Expr} {g g' : TG} (h : PG X e g) (h' : PG X e g') : PG X e (fun v σ H Q => g v σ H Q ∨ g' v σ H Q) :=
  ⟨fun pins s σ H v u Q I r q => q.elim (fun q => h.run pins s σ H v u Q I r q) fun q => h'.run pins s σ H v u Q I r q⟩
/-- (a, b, ..) = a tuple or a list -/
def aTupG (n : Nat) (u : ATGs) : ATG := fun x δ s Q => match x with
  | .d (.tup ts) => ts.length = n ∧ u (ts.map SV.d) δ s Q
  | .d (.lst ts) => ts.length = n ∧ u (ts.map SV.d) δ s Q
  | .l k => (match s[k]? with
    | some (.tp xs) => xs.length = n ∧ u xs δ s Q
    | some (.lst ts) => ts.length = n ∧ u (ts.map SV.d) δ s Q
    | _ => False)
  | _ => False
theorem ag_tup {k n : Nat} {u : ATGs} (hc : X.calm = true) (h : AGs X M vs es u) (hn : (assignEach es X.env).length = n := by rfl) (hst : (assignEach es X.env).findIdx? (·.1) = none := by rfl) : AG X M vs (.Tuple es k pos) (aTupG n u) := by
  obtain ⟨g, h3, h4⟩ := h.ex
  refine ⟨_, PG.or (pg_tup hc h3 hn hst) (pg_lst hc h3 hn hst), fun H B φ σ δ s v x Q re sl r q Q' f => ?_⟩
  replace q : aTupG n u x δ s Q := q
  unfold aTupG at q
  split at q
  · obtain ⟨p, vs, rfl, e1, _, f1⟩ := tup_of re r
    exact .inl ⟨p, vs, rfl, e1, by rw [f1.length]; exact q.1, h4 H B φ σ δ s vs _ Q re sl (RsAll.of_fz f1) q.2 Q' f⟩
  · obtain ⟨p, vs, rfl, e1, f1⟩ := lst_of re r
    exact .inr ⟨p, vs, rfl, SqL.of e1, by rw [f1.length]; exact q.1, h4 H B φ σ δ s vs _ Q re sl (RsAll.of_fz f1) q.2 Q' f⟩
  · rename_i x j
    cases hs : s[j]? with
    | none => rw [hs] at q; exact q.elim
    | some o =>
      rw [hs] at q
      obtain ⟨p, rfl, hp, ho⟩ := at_loc re r hs
      cases o with
      | tp xs =>
        obtain ⟨vs, f1, e1⟩ := ho
        exact .inl ⟨p, vs, rfl, SqT.of e1, by rw [f1.length]; exact q.1, h4 H B φ σ δ s vs _ Q re sl f1 q.2 Q' f⟩
      | lst ts =>
        obtain ⟨vs, f1, e1⟩ := ho
        exact .inr ⟨p, vs, rfl, SqL.of e1, by rw [f1.length]; exact q.1, h4 H B φ σ δ s vs _ Q re sl (RsAll.of_fz f1) q.2 Q' f⟩
      | _ => exact q.elim
  · exact q.elim
/-- l[i] = data, l a list of the store -/
def aSetL (vo vi : ATE) : ATG := fun x δ s Q => vo δ s fun o s1 => vi δ s1 fun i s2 => match o, i, x with
  | .l n, .d (.int k), .d t => ∃ ts j, s2[n]? = some (.lst ts) ∧ ixN ts.length k = some j ∧ Q δ (s2.set n (.lst (ts.set j t)))
  | _, _, _ => False
theorem ag_sub {o i : Expr} {vo vi : ATE} (ho : AE X M o vo) (hi : AE X M i vi) (hsb : ∀ v, assign (.Subscript o i pos) X.env v = (do
    let ov ← holding [v] (eval o X.env)
    let iv ← holding [v, ov] (eval i X.env)
    standAt pos
    holding [v, ov, iv] (setItem ov iv v)
    release [v, ov, iv] []) := by exact fun _ => rfl) : AG X M [] (.Subscript o i pos) (aSetL vo vi) :=
  ⟨_, pg_sub ho.pe hi.pe set_list hsb, fun H B φ σ δ s v x Q re sl r q Q' f => uE_lift (t := vo) H B φ σ δ s _ re sl q _ fun H1 B1 φ1 s1 v1 x1 g1 re1 r1 q1 => uE_lift (t := vi) H1 B1 φ1 σ δ s1 _ re1 (sl.mono g1) q1 _ fun H2 B2 φ2 s2 v2 x2 g2 re2 r2 q2 => by
    dsimp only at q2
    split at q2
    · cases int_of r2
      obtain ⟨ts, j, h1, h2, q2⟩ := q2
      obtain ⟨p, vs, rfl, hp, e1, hB, f1⟩ := own_of re2 (r1.mono g2) h1
      refine ⟨p, vs, _, j, rfl, rfl, e1, by rw [f1.length]; exact h2, ?_⟩
      obtain ⟨g3, re3⟩ := re2.set (.lst (vs.set j v)) (.lst (ts.set j _)) hp hB ⟨_, f1.set ((r.mono g1).mono g2) j, rfl⟩
      exact f _ _ _ _ _ _ ((g1.trans g2).trans g3) re3 (((sl.mono g1).mono g2).mono g3) q2 (Onl.refl _ _)
    · exact q2.elim⟩
end
end Lv

/-! Lv7: statements, loops, comprehensions. -/
namespace Lv
open PySem L2 LvI

structure AEnds where
  nx : AS → ST → Prop
  rt : SV → ST → Prop
  bk : AS → ST → Prop := fun _ _ => False
  ct : AS → ST → Prop := fun _ _ => False
abbrev ATS := AEnds → AS → ST → Prop
structure FinS (K : Fr) (M : MP) (H B : Hp) (φ : Fi) (A : AEnds) (D : Ends) : Prop where
  nx : FinG K M H B φ A.nx D.nx
  rt : FinE K M H B φ A.rt D.rt
  bk : FinG K M H B φ A.bk D.bk
  ct : FinG K M H B φ A.ct D.ct
theorem FinS.grow {K : Fr} {M : MP} {H B H' B' : Hp} {φ φ' : Fi} {A : AEnds} {D : Ends} (f : FinS K M H B φ A D) (g : Gr H B φ H' B' φ') : FinS K M H' B' φ' A D := ⟨f.nx.grow g, f.rt.grow g, f.bk.grow g, f.ct.grow g⟩
def LiftS (K : Fr) (M : MP) (ts : TS) (t : ATS) : Prop := ∀ H B φ σ δ s A, Re K M H B φ s → Rsl K B φ σ δ → t A δ s → ∀ D, FinS K M H B φ A D → ts D σ H
structure AP (X : Cx) (M : MP) (st : Stmt) (t : ATS) : Prop where
  ex : ∃ ts, PS X st ts ∧ LiftS X.K M ts t
structure APs (X : Cx) (M : MP) (st : List Stmt) (t : ATS) : Prop where
  ex : ∃ ts, PSs X st ts ∧ LiftS X.K M ts t
def uS (K : Fr) (M : MP) (t : ATS) : TS := fun D σ H => ∀ ts, LiftS K M ts t → ts D σ H
theorem uS_lift {K : Fr} {M : MP} {t : ATS} : LiftS K M (uS K M t) t := fun H B φ σ δ s A re sl q D f te l => l H B φ σ δ s A re sl q D f
section
variable {X : Cx} {M : MP} {st : Stmt} {rest body : List Stmt} {t u : ATS} {e c : Expr} {pos : Pos} {va : ATE}
theorem AP.ps (h : AP X M st t) : PS X st (uS X.K M t) := by
  obtain ⟨ts, h1, h2⟩ := h.ex
  exact ⟨fun pins s σ H D I q => h1.run pins s σ H D I (q ts h2)⟩
theorem APs.pss (h : APs X M body t) : PSs X body (uS X.K M t) := by
  obtain ⟨ts, h1, h2⟩ := h.ex
  exact ⟨fun pins s σ H D I q => h1.run pins s σ H D I (q ts h2)⟩
def pNext : ATS := fun A δ s => A.nx δ s
def pSeq (t u : ATS) : ATS := fun A δ s => t { A with nx := fun δ' s' => u A δ' s' } δ s
theorem ap_nil : APs X M [] pNext := ⟨_, pss_nil, fun H B φ σ δ s A re sl q D f => f.nx _ _ _ _ _ _ .refl re sl q⟩
theorem ap_cons (h1 : AP X M st t) (h2 : APs X M rest u) : APs X M (st :: rest) (pSeq t u) :=
  ⟨_, pss_cons h1.ps h2.pss, fun H B φ σ δ s A re sl q D f => uS_lift (t := t) H B φ σ δ s _ re sl q _ ⟨fun H' B' φ' s' σ' δ' g re' sl' q' => uS_lift (t := u) H' B' φ' σ' δ' s' A re' sl' q' D (f.grow g), f.rt, f.bk, f.ct⟩⟩
theorem ap_one (h1 : AP X M st t) : APs X M [st] t := ⟨_, pss_one h1.ps, uS_lift⟩
def pBrk : ATS := fun A δ s => A.bk δ s
def pCnt : ATS := fun A δ s => A.ct δ s
theorem ap_never : AP X M st (fun _ _ _ => False) := ⟨_, ps_never, fun H B φ σ δ s A re sl q D f => q.elim⟩
/-- an expression whose value is dropped; what was made on the way is forgotten -/
def pDrop (t : ATE) : ATS := fun A δ s => t δ s fun _ s1 => (s1.take s.length).all (clO s.length) = true ∧ A.nx δ (s1.take s.length)
theorem ap_expr (h : AE X M e va) (hs : swapsWith e none pos.line X.env = pure false := by rfl) : AP X M (.Expr e pos) (pDrop va) :=
  ⟨_, ps_expr h.pe hs, fun H B φ σ δ s A re sl q D f => uE_lift (t := va) H B φ σ δ s _ re sl q _ fun H1 B1 φ1 s1 v x g1 re1 r1 ⟨c, q1⟩ => by
    obtain ⟨g2, re2⟩ := re1.take g1 re (Nat.le_of_eq re.len) (by rw [← re.len]; exact g1.le) c
    exact f.nx _ _ _ _ _ _ g2 re2 (sl.mono g2) q1⟩
def pRet (t : ATE) : ATS := fun A δ s => t δ s A.rt
theorem ap_ret (h : AE X M e va) : AP X M (.Return (some e) pos) (pRet va) := ⟨_, ps_ret h.pe, fun H B φ σ δ s A re sl q D f => uE_lift (t := va) H B φ σ δ s _ re sl q _ f.rt⟩
def pRetN : ATS := fun A _ s => A.rt (.d .non) s
def pIf (tc : ATT) (t u : ATS) : ATS := fun A δ s => tc δ s fun b s1 => (b = true → t A δ s1) ∧ (b = false → u A δ s1)
theorem ap_if {tc : ATT} {a b : List Stmt} (hc : AT X M c tc) (ha : APs X M a t) (hb : APs X M b u) : AP X M (.If c a b pos) (pIf tc t u) :=
  ⟨_, ps_if hc.pt ha.pss hb.pss, fun H B φ σ δ s A re sl q D f => uT_lift (t := tc) H B φ σ δ s _ re sl q _ fun H1 B1 φ1 s1 b g1 re1 q1 => by
    cases b with
    | true => exact iteT (uS_lift (t := t) H1 B1 φ1 σ δ s1 A re1 (sl.mono g1) (q1.1 rfl) D (f.grow g1))
    | false => exact iteF (uS_lift (t := u) H1 B1 φ1 σ δ s1 A re1 (sl.mono g1) (q1.2 rfl) D (f.grow g1))⟩
/-- target = value: the value is data (what was made on the way is forgotten), or as it is -/
def pAsg (t : ATE) (g : ATG) : ATS := fun A δ s => t δ s fun x s1 => g x δ s1 A.nx
theorem ap_asg {tg : Expr} {vs : List Nat} {g : ATG} (he : AE X M e va) (hg : AG X M vs tg g) (hs : swapsWithSole [tg] e pos.line X.env = pure false := by rfl) (hw : swappedStores [tg] e X.env = pure none := by rfl) (h1 : (assignEach [tg] X.env).map (·.2) = [assign tg X.env] := by rfl) : AP X M (.Assign [tg] e pos) (pAsg va g) :=
  ⟨_, ps_asg he.pe hg.pg hs hw h1, fun H B φ σ δ s A re sl q D f => uE_lift (t := va) H B φ σ δ s _ re sl q _ fun H1 B1 φ1 s1 v x g1 re1 r1 q1 =>
    uG_lift (t := g) H1 B1 φ1 σ δ s1 v x _ re1 (sl.mono g1) r1 q1 _ fun H2 B2 φ2 s2 σ2 δ2 g2 re2 sl2 q2 _ => f.nx _ _ _ _ _ _ (g1.trans g2) re2 sl2 q2⟩
def pSet (t : ATE) (i : Nat) : ATS := fun A δ s => t δ s fun x s1 => A.nx (δ.set i (some x)) s1
theorem ap_set {i : Nat} {x : Str} {pos' : Pos} (hN : X.N.Nodup) (he : AE X M e va) (hi : X.N[i]? = some x := by rfl) (hx : Loc X.env.scope x := by first | exact Or.inl rfl | exact Or.inr rfl)
    (hs : swapsWith e (some (.Name x pos')) pos.line X.env = pure false := by rfl) (hf : X.fn x = true ∨ X.env.scope.names.lookup x = some .local := by first | exact .inl rfl | exact .inr rfl) : AP X M (.Assign [.Name x pos'] e pos) (pSet va i) :=
  ⟨_, ps_set hN hi hx he.pe hs hf, fun H B φ σ δ s A re sl q D f => uE_lift (t := va) H B φ σ δ s _ re sl q _ fun H1 B1 φ1 s1 v x g1 re1 r1 q1 => f.nx _ _ _ _ _ _ g1 re1 ((sl.mono g1).set i r1) q1⟩
/-- a, b = x, y -/
def pPar (i j : Nat) (t : ATA) : ATS := fun A δ s => t δ s fun xs s1 => match xs with
  | [x, y] => A.nx ((δ.set i (some x)).set j (some y)) s1
  | _ => False
theorem ap_par {i j : Nat} {x y : Str} {a b : Expr} {ta : ATA} {px py pt : Pos} {kt k2 pt2} (hN : X.N.Nodup) (ha : AA X M [a, b] ta) (hc : X.calm = true := by rfl) (hi : X.N[i]? = some x := by rfl) (hj : X.N[j]? = some y := by rfl) (hij : i ≠ j := by decide)
    (h : ∀ {T : TA}, PA X [a, b] T → PS X (.Assign [.Tuple [.Name x px, .Name y py] kt pt] (.Tuple [a, b] k2 pt2) pos) (tPar i j T)) : AP X M (.Assign [.Tuple [.Name x px, .Name y py] kt pt] (.Tuple [a, b] k2 pt2) pos) (pPar i j ta) :=
  ⟨_, h ha.pa, fun H B φ σ δ s A re sl q D f => uA_lift (t := ta) H B φ σ δ s _ re sl q _ fun H1 B1 φ1 s1 v x g1 re1 r1 q1 => by
    dsimp only at q1
    split at q1
    · obtain ⟨v, w, rfl, r, r2⟩ := rsall2 r1
      exact ⟨_, _, rfl, f.nx _ _ _ _ _ _ g1 re1 (((sl.mono g1).set i r).set j r2) q1⟩
    · exact q1.elim⟩
/-- name += e -/
def pAug (i : Nat) (g : AR2) (t : ATE) : ATS := fun A δ s => match δ[i]? with
  | some (some x) => t δ s fun y s1 => g x y s1 fun z s2 => A.nx (δ.set i (some z)) s2
  | _ => False
theorem ap_aug {i : Nat} {x : Str} {op : Operator} {ti : TIp} {g : AR2} {pos' : Pos} (hN : X.N.Nodup) (ho : PIp X op ti) (lr : LiftR X.K M ti g) (he : AE X M e va)
    (h : ∀ {te : TE}, PE X e te → PS X (.AugAssign (.Name x pos') op e pos) (tAug i te ti)) : AP X M (.AugAssign (.Name x pos') op e pos) (pAug i g va) :=
  ⟨_, h he.pe, fun H B φ σ δ s A re sl q D f => by
    replace q : pAug i g va A δ s := q
    unfold pAug at q
    split at q
    · rename_i x hx
      obtain ⟨v, h1, r⟩ := sl.at_ i x hx
      exact ⟨v, h1, uE_lift (t := va) H B φ σ δ s _ re sl q _ fun H1 B1 φ1 s1 w y g1 re1 r1 q1 => lr H1 B1 φ1 s1 v w x y _ re1 (r.mono g1) r1 q1 _ fun H2 B2 φ2 s2 z zz g2 re2 r2 q2 => f.nx _ _ _ _ _ _ (g1.trans g2) re2 ((sl.mono (g1.trans g2)).set i r2) q2⟩
    · exact q.elim⟩
theorem lr_ipAdd {K : Fr} : LiftR K M (ipI fun i j => i + j) (fun x y s Q => match x, y with | .d (.int i), .d (.int j) => Q (.d (.int (i + j))) s | _, _ => False) := by
  intro H B φ s x y sx sy Q re rx ry h Q' f
  split at h
  · cases int_of rx; cases int_of ry
    exact ⟨_, _, rfl, rfl, f.int re h⟩
  · exact h.elim
def ipAddG : AR2 := fun x y s Q => match x, y with | .d (.int i), .d (.int j) => Q (.d (.int (i + j))) s | _, _ => False
theorem ap_augAdd {i : Nat} {x : Str} {pos' : Pos} (hN : X.N.Nodup) (he : AE X M e va) (hi : X.N[i]? = some x := by rfl) (hx : Loc X.env.scope x := by first | exact Or.inl rfl | exact Or.inr rfl)
    (hf : X.fn x = true ∨ X.env.scope.names.lookup x = some .local := by first | exact .inl rfl | exact .inr rfl) : AP X M (.AugAssign (.Name x pos') .Add e pos) (pAug i ipAddG va) :=
  ap_aug hN ip_add lr_ipAdd he fun h => ps_aug hN hi hx h ip_add hf

/-! ### loops -/
def pFor (ti : ATI) (g : ATG) (tb : ATS) : ATS := fun A δ s => ti δ s fun items grd s1 => ∃ Pv : Nat → AS → ST → Prop, Pv 0 δ s1 ∧ (∀ i δ' s', Pv i δ' s' → grd s') ∧
  (∀ i x δ' s', items[i]? = some x → Pv i δ' s' → g (.d x) δ' s' fun δ2 s2 => tb { A with nx := Pv (i + 1), ct := Pv (i + 1), bk := A.nx } δ2 s2) ∧ (∀ δ' s', Pv items.length δ' s' → A.nx δ' s')
theorem ap_for {tg iter : Expr} {ti : ATI} {vs : List Nat} {g : ATG} (hp : PassesOwn (model X.prog X.w) X.A X.env X.xe) (hi : AI X M tg iter ti) (hg : AG X M vs tg g) (hb : APs X M body t) (hc : X.calm = true := by rfl) (hfs : ∀ x, foldedSetIterable iter X.env x = pure x := by exact fun _ => rfl) : AP X M (.For tg iter body [] pos) (pFor ti g t) := by
  obtain ⟨wi, h1, h2⟩ := hi.ex
  refine ⟨_, ps_for hp hc h1 hg.pg hb.pss hfs, fun H B φ σ δ s A re sl q D f => h2 H B φ σ δ s _ re sl q _ fun H1 B1 φ1 s1 J items grd g1 re1 wk ⟨Pv, p0, pg, ps, pd⟩ => ?_⟩
  obtain ⟨G, Y, W, hG, hY⟩ := wk
  refine for_it W (fun i σ' H' => ∃ B' φ' s' δ', Gr H1 B1 φ1 H' B' φ' ∧ Re X.K M H' B' φ' s' ∧ Rsl X.K B' φ' σ' δ' ∧ Pv i δ' s') ⟨B1, φ1, s1, δ, .refl, re1, sl.mono g1, p0⟩ (fun i σ' H' hi ⟨B', φ', s', δ', g2, re2, sl2, p2⟩ => ?_) (fun i x σ' H2 H3 hi ⟨B', φ', s', δ', g2, re2, sl2, p2⟩ hy => ?_) (fun σ' H' ⟨B', φ', s', δ', g2, re2, sl2, p2⟩ => ?_)
  · exact hG H' B' φ' s' g2 re2 (pg _ _ _ p2)
  · obtain ⟨B3, t0, ht, g3, re3, fz⟩ := hY i H2 x H3 B' φ' s' g2 re2 (pg _ _ _ p2) hi hy
    refine uG_lift (t := g) H3 B3 φ' σ' δ' s' x (.d t0) _ re3 (sl2.mono g3) (.dat fz) (ps i t0 δ' s' ht p2) _ fun H4 B4 φ4 s4 σ4 δ4 g4 re4 sl4 q4 _ => ?_
    refine uS_lift (t := t) H4 B4 φ4 σ4 δ4 s4 _ re4 sl4 q4 _ ⟨fun H5 B5 φ5 s5 σ5 δ5 g5 re5 sl5 q5 => ⟨B5, φ5, s5, δ5, ((g2.trans g3).trans g4).trans g5, re5, sl5, q5⟩, f.rt.grow (((g1.trans g2).trans g3).trans g4), f.nx.grow (((g1.trans g2).trans g3).trans g4), fun H5 B5 φ5 s5 σ5 δ5 g5 re5 sl5 q5 => ⟨B5, φ5, s5, δ5, ((g2.trans g3).trans g4).trans g5, re5, sl5, q5⟩⟩
  · exact f.nx _ _ _ _ _ _ (g1.trans g2) re2 sl2 (pd _ _ p2)
/-- while: the word by a measure -/
def pWhile (tc : ATT) (tb : ATS) : ATS := fun A δ s => ∃ Pv : Nat → AS → ST → Prop, (∃ m, Pv m δ s) ∧ ∀ m δ' s', Pv m δ' s' →
  tc δ' s' fun b s1 => (b = true → tb { A with nx := fun δ2 s2 => ∃ m', m' < m ∧ Pv m' δ2 s2, ct := fun δ2 s2 => ∃ m', m' < m ∧ Pv m' δ2 s2, bk := A.nx } δ' s1) ∧ (b = false → A.nx δ' s1)
theorem ap_while {tc : ATT} (hp : PassesOwn (model X.prog X.w) X.A X.env X.xe) (hc : AT X M c tc) (hb : APs X M body t) : AP X M (.While c body [] pos) (pWhile tc t) := by
  refine ⟨_, ps_while hp hc.pt hb.pss, fun H B φ σ δ s A re sl ⟨Pv, ⟨m0, p0⟩, ps⟩ D f => ?_⟩
  refine ⟨fun m σ' H' => ∃ B' φ' s' δ', Gr H B φ H' B' φ' ∧ Re X.K M H' B' φ' s' ∧ Rsl X.K B' φ' σ' δ' ∧ Pv m δ' s', ⟨m0, B, φ, s, δ, .refl, re, sl, p0⟩, fun m σ' H' ⟨B', φ', s', δ', g2, re2, sl2, p2⟩ => ?_⟩
  refine uT_lift (t := tc) H' B' φ' σ' δ' s' _ re2 sl2 (ps m δ' s' p2) _ fun H3 B3 φ3 s3 b g3 re3 q3 => ?_
  have g := g2.trans g3
  cases b with
  | false => exact iteF (f.nx _ _ _ _ _ _ g re3 (sl2.mono g3) (q3.2 rfl))
  | true =>
    refine iteT ⟨fun σ4 H4 => ∃ m', m' < m ∧ ∃ B' φ' s' δ', Gr H B φ H4 B' φ' ∧ Re X.K M H4 B' φ' s' ∧ Rsl X.K B' φ' σ4 δ' ∧ Pv m' δ' s', fun σ4 H4 h => h, ?_⟩
    exact uS_lift (t := t) H3 B3 φ3 σ' δ' s3 _ re3 (sl2.mono g3) (q3.1 rfl) _ ⟨fun H5 B5 φ5 s5 σ5 δ5 g5 re5 sl5 ⟨m', hm, q5⟩ => ⟨m', hm, B5, φ5, s5, δ5, g.trans g5, re5, sl5, q5⟩, f.rt.grow g, f.nx.grow g, fun H5 B5 φ5 s5 σ5 δ5 g5 re5 sl5 ⟨m', hm, q5⟩ => ⟨m', hm, B5, φ5, s5, δ5, g.trans g5, re5, sl5, q5⟩⟩

/-! ### list comprehensions -/
def wipeA (δ : AS) : List Nat → AS
  | [] => δ
  | v :: vs => (wipeA δ vs).set v none
theorem wipeA_length (δ : AS) : ∀ vs, (wipeA δ vs).length = δ.length
  | [] => rfl
  | v :: vs => by unfold wipeA; rw [List.length_set, wipeA_length δ vs]
theorem Rsl.wipe {K : Fr} {B : Hp} {φ : Fi} {σ : St} {δ : AS} (h : Rsl K B φ σ δ) : ∀ vs, Rsl K B φ (L2.wipe σ vs) (wipeA δ vs)
  | [] => h
  | v :: vs => by
    have ih := Rsl.wipe h vs
    refine ⟨by unfold L2.wipe wipeA; rw [List.length_set, List.length_set]; exact ih.len, fun i x e => ?_⟩
    unfold wipeA at e
    unfold L2.wipe
    by_cases hi : v = i
    · subst hi
      by_cases hl : v < (wipeA δ vs).length
      · rw [List.getElem?_set_self hl] at e; cases e
      · rw [List.getElem?_eq_none (by rw [List.length_set]; omega)] at e; cases e
    · rw [List.getElem?_set_ne hi] at e ⊢
      exact ih.at_ i x e
theorem wipe_at {σ : St} {i : Nat} : ∀ {vs : List Nat}, (L2.wipe σ vs)[i]? = if i ∈ vs ∧ i < σ.length then some none else σ[i]?
  | [] => by simp [L2.wipe]
  | v :: vs => by
    unfold L2.wipe
    by_cases hv : v = i
    · subst hv
      by_cases hl : v < σ.length
      · rw [List.getElem?_set_self (by rw [wipe_length]; exact hl), if_pos ⟨List.mem_cons_self, hl⟩]
      · rw [List.getElem?_eq_none (by rw [List.length_set, wipe_length]; omega), if_neg (fun z => hl z.2), List.getElem?_eq_none (by omega)]
    · rw [List.getElem?_set_ne hv, wipe_at (vs := vs)]
      have e : (i ∈ v :: vs ∧ i < σ.length) ↔ (i ∈ vs ∧ i < σ.length) := by
        rw [List.mem_cons]
        exact ⟨fun ⟨a, b⟩ => ⟨a.resolve_left fun z => hv z.symm, b⟩, fun ⟨a, b⟩ => ⟨.inr a, b⟩⟩
      by_cases z : i ∈ vs ∧ i < σ.length
      · rw [if_pos z, if_pos (e.mpr z)]
      · rw [if_neg z, if_neg fun y => z (e.mp y)]
theorem wipe_only {σ σ' : St} {vs ws : List Nat} (h : Onl ws (L2.wipe σ vs) σ') (hw : ∀ i ∈ ws, i ∈ vs) : L2.wipe σ' vs = L2.wipe σ vs := by
  refine List.ext_getElem? fun i => ?_
  have hl : σ'.length = σ.length := by rw [h.1, wipe_length]
  rw [wipe_at, wipe_at, hl]
  by_cases z : i ∈ vs ∧ i < σ.length
  · rw [if_pos z, if_pos z]
  · rw [if_neg z, if_neg z]
    by_cases hi : i ∈ vs
    · have : σ.length ≤ i := Nat.le_of_not_lt fun y => z ⟨hi, y⟩
      rw [List.getElem?_eq_none (by omega), List.getElem?_eq_none this]
    · rw [h.2 i (fun y => hi (hw i y)), wipe_at, if_neg z]
/-- an object beside the store is made or changed -/
theorem Re.poke {K : Fr} {M : MP} {H B H0 B0 : Hp} {φ φ0 : Fi} {s s0 : ST} {o : HO} {D : Addr} (re : Re K M H B φ s) (e0 : Re K M H0 B0 φ0 s0) (g : Gr H0 B0 φ0 H B φ) (h0 : H0 D = none) (hφ : D ∉ adr φ) (hB : B D = none) : Gr H0 B0 φ0 (upd H D o) B φ ∧ Re K M (upd H D o) B φ s := by
  have g2 : Gr H0 B0 φ0 (upd H D o) B φ := ⟨g.eb, g.pf, fun a u h hn => by rw [upd_ne (ne_of_none h h0)]; exact g.kp a u h hn, g.nb, g.nf⟩
  have ne : ∀ {n : Nat} {c : Ce} {a : Addr}, φ[n]? = some c → a ∈ c.al → a ≠ D := fun h ha z => hφ (by rw [← z]; exact adr_mem h ha)
  exact ⟨g2, ⟨fun a u h => by rw [upd_ne (ne_of_none h hB)]; exact re.ex a u h, re.nd, re.len, fun p hp => by rw [upd_ne (fun z => hφ (by rw [← z]; exact hp))]; exact re.al p hp, fun n c o h1 h2 h3 a ha => (re.fr n c o h1 h2 h3 a ha).imp id fun z => kT_ne z (ne h1 ha), fun n c o h1 h2 => (re.ob n c o h1 h2).mo .refl fun a ha => upd_ne (ne h1 ha), fun H3 B3 φ3 g3 => e0.pm _ _ _ (g2.trans g3)⟩⟩
/-- an object beside the store comes into it -/
theorem Re.adopt {K : Fr} {M : MP} {H B H0 B0 : Hp} {φ φ0 : Fi} {s s0 : ST} {vs : List V} {ts : List T} {D : Addr} (re : Re K M H B φ s) (e0 : Re K M H0 B0 φ0 s0) (g : Gr H0 B0 φ0 H B φ) (h0 : H0 D = none) (hφ : D ∉ adr φ) (hB : B D = none) (h : H D = some (.lst vs)) (f : FzAll K B vs ts) :
    Gr H0 B0 φ0 H B (φ ++ [one D]) ∧ Re K M H B (φ ++ [one D]) (s ++ [.lst ts]) :=
  re.snoc g e0 (fun a ha => by rw [show a = D by simpa [Ce.al] using ha]; exact .inr h0) (fun a ha => by rw [show a = D by simpa [Ce.al] using ha]; exact hφ) (by simp [Ce.al]) (fun a ha => by rw [show a = D by simpa [Ce.al] using ha, h]; exact fun z => nomatch z)
    (fun _ a ha => by rw [show a = D by simpa [Ce.al] using ha]; exact hB) (.sim rfl rfl ⟨vs, f, h⟩)
structure ATs (X : Cx) (M : MP) (es : List Expr) (t : ATT) : Prop where
  ex : ∃ te, PTs X es te ∧ LiftT X.K M te t
def aYes : ATT := fun _ s Q => Q true s
theorem ats_nil : ATs X M [] aYes := ⟨_, pts_nil, fun H B φ σ δ s Q re sl q Q' f => f _ _ _ _ _ .refl re q⟩
theorem ats_one {t : ATT} (h : AT X M c t) : ATs X M [c] t := ⟨_, pts_one h.pt, uT_lift⟩
theorem ATs.pts {es : List Expr} {t : ATT} (h : ATs X M es t) : PTs X es (uT X.K M t) := by
  obtain ⟨te, h1, h2⟩ := h.ex
  exact ⟨fun pins s σ H Q I q => h1.run pins s σ H Q I (q te h2)⟩
/-- the items of a comprehension: the word by the turn and what is made so far -/
def aLcI (ti : ATI) (g : ATG) (tt : ATT) (te : ATE) (vs : List Nat) : AS → ST → (List T → ST → Prop) → Prop := fun δ s Q => ti δ s fun items grd s1 => ∃ Pv : Nat → List T → ST → Prop, Pv 0 [] s1 ∧ (∀ i acc s', Pv i acc s' → grd s') ∧
  (∀ i x acc s', items[i]? = some x → Pv i acc s' → g (.d x) (wipeA δ vs) s' fun δ2 s2 => tt δ2 s2 fun b s3 => (b = true → te δ2 s3 fun y s4 => ∃ t, y = .d t ∧ acc.length < sizeLine ∧ Pv (i + 1) (acc ++ [t]) s4) ∧ (b = false → Pv (i + 1) acc s3)) ∧
  (∀ acc s', Pv items.length acc s' → Q acc s')
def aLc (ti : ATI) (g : ATG) (tt : ATT) (te : ATE) (vs : List Nat) : ATE := fun δ s Q => aLcI ti g tt te vs δ s fun acc s' => Q (.l s'.length) (s' ++ [.lst acc])
theorem lift_lc {K : Fr} {wi : TI} {ti : ATI} {g : TG} {ag : ATG} {tt : TT} {att : ATT} {te : TE} {ate : ATE} {vs ws : List Nat} (hi : LiftI K M wi ti) (hg : LiftG K M ws g ag) (hw : ∀ i ∈ ws, i ∈ vs) (ht : LiftT K M tt att) (he : LiftE K M te ate) :
    LiftE K M (tLc wi g tt te vs) (aLc ti ag att ate vs) := fun H B φ σ δ s Q re sl q Q' f => by
  refine hi H B φ σ δ s _ re sl q _ fun H1 B1 φ1 s1 J items grd g1 re1 wk ⟨Pv, p0, pg, ps, pd⟩ => ?_
  obtain ⟨G, Y, W, hG, hY⟩ := wk
  intro Dl hD
  have hB1 : B1 Dl = none := re1.none_b hD
  have hφ1 : Dl ∉ adr φ1 := fun z => re1.al Dl z hD
  obtain ⟨ga, rea⟩ := re1.poke (o := .lst []) re1 .refl hD hφ1 hB1
  refine lc_it W (fun i H' => ∃ B' φ' s' acc vs', Gr H1 B1 φ1 H' B' φ' ∧ Re K M H' B' φ' s' ∧ Dl ∉ adr φ' ∧ B' Dl = none ∧ H' Dl = some (.lst vs') ∧ FzAll K B' vs' acc ∧ Pv i acc s')
    ⟨B1, φ1, s1, [], [], ga, rea, hφ1, hB1, upd_same, .nil, p0⟩ (fun i H' hi ⟨B', φ', s', acc, vs', g2, re2, d1, d2, d3, fz, p2⟩ => hG H' B' φ' s' g2 re2 (pg _ _ _ p2)) (fun i x H2 H3 hi ⟨B', φ', s', acc, vs', g2, re2, d1, d2, d3, fz, p2⟩ hy => ?_)
    (fun H' ⟨B', φ', s', acc, vs', g2, re2, d1, d2, d3, fz, p2⟩ => ?_)
  · obtain ⟨B3, t0, hit, g3, re3, fx⟩ := hY i H2 x H3 B' φ' s' g2 re2 (pg _ _ _ p2) hi hy
    have kd : ∀ {H4 B4 : Hp} {φ4 : Fi}, Gr H2 B' φ' H4 B4 φ4 → Dl ∉ adr φ4 ∧ B4 Dl = none ∧ H4 Dl = some (.lst vs') := fun g4 =>
      ⟨fun z => (g4.nf Dl z).elim d1 (fun w => by rw [w] at d3; cases d3), g4.nbN d2 d3 (fun _ z => by cases z) d1, g4.kp Dl _ d3 d1⟩
    have slw : Rsl K B3 φ' (L2.wipe σ vs) (wipeA δ vs) := (((sl.mono g1).wipe vs).mono g2).mono g3
    refine hg H3 B3 φ' (L2.wipe σ vs) (wipeA δ vs) s' x (.d t0) _ re3 slw (.dat fx) (ps i t0 acc s' hit p2) _ fun H4 B4 φ4 s4 σ4 δ4 g4 re4 sl4 q4 on => ⟨wipe_only on hw, ?_⟩
    refine ht H4 B4 φ4 σ4 δ4 s4 _ re4 sl4 q4 _ fun H5 B5 φ5 s5 b g5 re5 q5 => ?_
    have g25 := (g3.trans g4).trans g5
    cases b with
    | false =>
      refine iteF ?_
      obtain ⟨e1, e2, e3⟩ := kd g25
      exact ⟨B5, φ5, s5, acc, vs', g2.trans g25, re5, e1, e2, e3, fz.mono g25.eb, q5.2 rfl⟩
    | true =>
      refine iteT (he H5 B5 φ5 σ4 δ4 s5 _ re5 (sl4.mono g5) (q5.1 rfl) _ fun H6 B6 φ6 s6 v6 x6 g6 re6 r6 ⟨t6, e6, z6, p6⟩ => ?_)
      subst e6
      have g26 := g25.trans g6
      obtain ⟨e1, e2, e3⟩ := kd g26
      obtain ⟨g7, re7⟩ := re6.poke (o := .lst (vs' ++ [v6])) re1 (g2.trans g26) hD e1 e2
      exact ⟨vs', e3, by rw [fz.length]; exact z6, B6, φ6, s6, acc ++ [t6], vs' ++ [v6], g7, re7, e1, e2, upd_same, (fz.mono g26.eb).append (.cons r6 .nil), p6⟩
  · obtain ⟨g3, re3⟩ := re2.adopt re1 g2 hD d1 d2 d3 fz
    exact f _ _ _ _ _ _ (g1.trans g3) re3 (.loc (re2.top _)) (pd _ _ p2)
/-- [elt for tg in iter if ..] -/
theorem ae_lc {elt tg iter : Expr} {ifs : List Expr} {scope : Scope} {own : List (Str × Nat)} {ti : ATI} {g : ATG} {tt : ATT} {te : ATE} {ws : List Nat} (hN : X.N.Nodup) (hi : AI X M tg iter ti) (ok : BlkOk X.N X.env.scope scope own)
    (hg : ∀ (s : Shared) (H : Hp) (C : Addr) (cl : List (Str × Addr)) (fp : List Addr), AG (X.blk s H scope (compEnvC scope cl C X.env) fp) M ws tg g) (ht : ∀ (s : Shared) (H : Hp) (C : Addr) (cl : List (Str × Addr)) (fp : List Addr), ATs (X.blk s H scope (compEnvC scope cl C X.env) fp) M ifs tt)
    (he : ∀ (s : Shared) (H : Hp) (C : Addr) (cl : List (Str × Addr)) (fp : List Addr), AE (X.blk s H scope (compEnvC scope cl C X.env) fp) M elt te) (hw : ∀ i ∈ ws, i ∈ own.map (·.2) := by decide) (hc : X.calm = true := by rfl) (hs : ∀ x, foldedSetIterable iter X.env x = pure x := by intro _; rfl) :
    AE X M (.ListComp elt [⟨tg, iter, ifs, 0⟩] scope pos) (aLc ti g tt te (own.map (·.2))) := by
  obtain ⟨wi, h1, h2⟩ := hi.ex
  exact .of (pe_lc hc hN h1 ok (fun s H C cl fp => show PG _ tg (uG X.K M ws g) from (hg s H C cl fp).pg) (fun s H C cl fp => show PTs _ ifs (uT X.K M tt) from (ht s H C cl fp).pts) (fun s H C cl fp => show PE _ elt (uE X.K M te) from (he s H C cl fp).pe) hs) (lift_lc h2 uG_lift hw uT_lift uE_lift)
/-- name = [..] on one line -/
theorem ap_setLc {i : Nat} {y : Str} {py spos : Pos} {elt tg iter : Expr} {ifs : List Expr} {scope : Scope} {own : List (Str × Nat)} {ti : ATI} {g : ATG} {tt : ATT} {te : ATE} {ws : List Nat} {t' : ATE} (hN : X.N.Nodup) (hi : AI X M tg iter ti) (ok : BlkOk X.N X.env.scope scope own)
    (hg : ∀ (s : Shared) (H : Hp) (C : Addr) (cl : List (Str × Addr)) (fp : List Addr), AG (X.blk s H scope (compEnvC scope cl C X.env) fp) M ws tg g) (ht : ∀ (s : Shared) (H : Hp) (C : Addr) (cl : List (Str × Addr)) (fp : List Addr), ATs (X.blk s H scope (compEnvC scope cl C X.env) fp) M ifs tt)
    (he : ∀ (s : Shared) (H : Hp) (C : Addr) (cl : List (Str × Addr)) (fp : List Addr), AE (X.blk s H scope (compEnvC scope cl C X.env) fp) M elt te)
    (hm : ∀ {T : TE}, LiftE X.K M T (aLc ti g tt te (own.map (·.2))) → LiftE X.K M T t')
    (hsw : swapsWith (.ListComp elt [⟨tg, iter, ifs, 0⟩] scope pos) (some (.Name y py)) spos.line X.env = pure true) (hw : ∀ i ∈ ws, i ∈ own.map (·.2) := by decide) (hc : X.calm = true := by rfl) (hy : X.N[i]? = some y := by rfl) (hyl : X.env.scope.names.lookup y = some .local := by rfl) (hs : ∀ x, foldedSetIterable iter X.env x = pure x := by intro _; rfl) :
    AP X M (.Assign [.Name y py] (.ListComp elt [⟨tg, iter, ifs, 0⟩] scope pos) spos) (pSet t' i) := by
  obtain ⟨wi, h1, h2⟩ := hi.ex
  refine ⟨_, ps_setLc hc hN hy hyl hsw h1 ok (fun s H C cl fp => show PG _ tg (uG X.K M ws g) from (hg s H C cl fp).pg) (fun s H C cl fp => show PTs _ ifs (uT X.K M tt) from (ht s H C cl fp).pts) (fun s H C cl fp => show PE _ elt (uE X.K M te) from (he s H C cl fp).pe) hs, fun H B φ σ δ s A re sl q D f => ?_⟩
  exact hm (lift_lc h2 uG_lift hw uT_lift uE_lift) H B φ σ δ s _ re sl q _ fun H1 B1 φ1 s1 v x g1 re1 r1 q1 => f.nx _ _ _ _ _ _ g1 re1 ((sl.mono g1).set i r1) q1
end
end Lv

/-! Lg: promises of defs that are called where no repr is running. -/
namespace Lv
open PySem PySem.Spec PyProof.Rows L2 LvI
/-- room for k calls more, no repr runs -/
structure RoomG (k : Nat) (A : Around) : Prop where
  rm : Room k A
  gd : A.guards = some []
theorem RoomG.mono {j k : Nat} {A : Around} (r : RoomG k A) (h : j ≤ k) : RoomG j A := ⟨r.rm.mono h, r.gd⟩
theorem RoomG.un {k : Nat} {A : Around} (r : RoomG k A) : A.units + 16 * k + 200 < cLine := r.rm.un
theorem RoomG.deeper {k : Nat} {A : Around} (r : RoomG (k + 1) A) (e : Env) : RoomG k (A.deeper e) := ⟨r.rm.deeper e, r.gd⟩
structure FnG (P : Program) (w : World) (K : Fr) (mg : Str → Option Value) (base : Heap) (k : Nat) (f : Addr) (fd : FuncData) (ps : List Str) (sp : Sp) : Prop where
  ln : ∀ vs H Q E, sp vs H Q E → vs.length = ps.length
  go : ∀ (A : Around) (outer : List Env) (t : Shared) (H : Hp) (args : Args) (us : List Value) (vs : List V) (Q : VK) (E : XK),
    RoomG k A → Env0 P w K mg base A outer t H → BindsTo t fd args (ps.zip us) → Vals vs us → sp vs H Q E → codeAny (model P w) A (.call (.ref f) args) (CR (L2.CX P w) outer P w H t Q E) t
section
variable {P : Program} {w : World} {K : Fr} {mg : Str → Option Value} {base : Heap} {k : Nat} {f : Addr} {fd : FuncData} {ps : List Str} {sp sp' : Sp}
theorem FnG.imp (F : FnG P w K mg base k f fd ps sp) (h : ∀ vs H Q E, sp' vs H Q E → sp vs H Q E) : FnG P w K mg base k f fd ps sp' :=
  ⟨fun _ _ _ _ q => F.ln _ _ _ _ (h _ _ _ _ q), fun A outer t H args us vs Q E r1 r2 r3 r4 q => F.go A outer t H args us vs Q E r1 r2 r3 r4 (h _ _ _ _ q)⟩
end
/-- no error is let out -/
abbrev XN : XK := fun _ _ _ => False
theorem cx_no {P : Program} {w : World} {outer : List Env} {H : Hp} {s s' : Shared} {u : Value} (h : L2.CX P w outer H s XN u s') : False := by
  obtain ⟨_, _, _, _, _, _, _, _, _, _, _, _, z⟩ := h
  exact z
section
variable {X : Cx} {k : Nat} {f C : Addr} {fd : FuncData} {ps : List Str} {sp : Sp} {E : XK} {x m : Str} {p pos apos : Pos} {e o : Expr} {es : List Expr} {ta : TA} {to : TE}
/-- such a def runs -/
theorem run_G {pins : List (Addr × Obj)} {σ : L2.St} {H : Hp} {s : Shared} {Q : VK} {us : List Value} {vs : List V} (F : FnG X.prog X.w X.K X.mg X.base k f fd ps sp) (hr : RoomG k X.A) (hb : Binds X.K fd ps []) (hx : PassesAt (L2.CX X.prog X.w) X σ E)
    (I : L2.Inv X pins σ H s) (r : Vals vs us) (h : sp vs H Q E) : wpAny (model X.prog X.w) X.A (call (.ref f) us) (EP X pins σ Q) X.xe s := by
  have hl : us.length = ps.length := r.length.symm.trans (F.ln _ _ _ _ h)
  have bnd := hb s us I.kIn (by rw [List.append_nil]; exact hl)
  rw [List.append_nil] at bnd
  refine wpAny_call (codeAny_mono (F.go X.A X.stack s H ⟨us, []⟩ us vs Q E hr I.env0 bnd r h) fun res t2 fin => ?_)
  match res, fin with
  | .error y, fin => exact hx pins H s y t2 I fin
  | .ok (.ret u), fin => exact I.after fin
  | .ok .next, fin => exact fin.elim
  | .ok .brk, fin => exact fin.elim
  | .ok .cont, fin => exact fin.elim
theorem pass_no {σ : L2.St} : PassesAt (L2.CX X.prog X.w) X σ XN := fun _ _ _ _ _ _ c => (cx_no c).elim
/-- a call of such a def; E is wished of an error -/
theorem pe_callX {E : L2.St → XK} (F : FnG X.prog X.w X.K X.mg X.base k f fd ps sp) (hr : RoomG k X.A) (hg : Gl X x) (hm : X.mg x = some (.ref f)) (hk : PySem.W.keepIn X.K (.ref f) = true) (hb : Binds X.K fd ps []) (hx : ∀ σ, PassesAt (L2.CX X.prog X.w) X σ (E σ)) (ha : PA X (e :: es) ta)
    (hdb : (x == ("__debug__" : Str)) = false := by decide) (he : starEach (e :: es) X.env = (false, eval e X.env) :: starEach es X.env := by rfl)
    (hpl : (backTo pos (starEach es X.env)).any (·.1) = false := by rfl) : PE X (.Call (.Name x p) (e :: es) [] pos) (fun σ H Q => ta σ H fun vs H1 => sp vs H1 Q (E σ)) := by
  constructor
  intro pins t σ H Q I q0
  refine wpAny_Call_Name_kw (ld_glob I hg hm ?_ hdb)
  refine PySem.W.callWith_K (h₀ := X.base) I.ok.mod.kin hk (thn (ha.run pos pins t σ H _ I q0) fun us t1 ⟨vs, H1, I1, rv, q1⟩ => ⟨I1.kIn, ?_⟩) he hpl
  exact run_G F hr hb (hx σ) I1 rv q1
/-- a call of such a def, nothing is let out -/
theorem pe_callG (F : FnG X.prog X.w X.K X.mg X.base k f fd ps sp) (hr : RoomG k X.A) (hg : Gl X x) (hm : X.mg x = some (.ref f)) (hk : PySem.W.keepIn X.K (.ref f) = true) (hb : Binds X.K fd ps []) (ha : PA X (e :: es) ta)
    (hdb : (x == ("__debug__" : Str)) = false := by decide) (he : starEach (e :: es) X.env = (false, eval e X.env) :: starEach es X.env := by rfl)
    (hpl : (backTo pos (starEach es X.env)).any (·.1) = false := by rfl) : PE X (.Call (.Name x p) (e :: es) [] pos) (fun σ H Q => ta σ H fun vs H1 => sp vs H1 Q XN) := pe_callX (E := fun _ => XN) F hr hg hm hk hb (fun _ => pass_no) ha hdb he hpl
theorem RoomG.make {k : Nat} {A : Around} (r : RoomG (k + 1) A) (C : Addr) (us : List Value) (kw : List (Str × Value)) : RoomG k (A.under (.builtin "type.__call__" ⟨.ref C :: us, kw⟩)) := ⟨r.rm.make C us kw, by first | exact r.gd | (have := r.gd; simpa [Around.under] using this)⟩
/-- C(..): a new instance, its __init__ runs -/
theorem run_makeX {E : L2.St → XK} {pins : List (Addr × Obj)} {σ : L2.St} {H : Hp} {s : Shared} {Q : VK} {us : List Value} {vs : List V} (M : Mk X.K C f) (F : FnG X.prog X.w X.K X.mg X.base k f fd ps sp) (hr : RoomG (k + 1) X.A) (hb : Binds X.K fd ps [])
    (hx : ∀ σ pins H s e s', L2.Inv X pins σ H s → L2.CX X.prog X.w X.stack H s (E σ) e s' → X.xe e s') (I : L2.Inv X pins σ H s) (r : Vals vs us)
    (h : ∀ x dx, H x = none → H dx = none → dx ≠ x → sp (.ref x :: vs) (upd (upd H dx (.own x)) x (.ins C dx [])) (fun v H2 => v = .non ∧ Q (.ref x) H2) (E σ)) :
    wpAny (model X.prog X.w) X.A (call (.ref C) us) (EP X pins σ Q) X.xe s := by
  have hq := h (s.heap.objs.size + 1) s.heap.objs.size (I.hok.fresh (Nat.le_succ _)) (I.hok.fresh (Nat.le_refl _)) (Nat.ne_of_lt (Nat.lt_succ_self _))
  have I2 := Inv.made (C := C) I
  have r2 : Vals (V.ref (s.heap.objs.size + 1) :: vs) (Value.ref (s.heap.objs.size + 1) :: us) := .cons rfl r
  have hl : (Value.ref (s.heap.objs.size + 1) :: us ++ []).length = ps.length := by
    have e := r2.length
    rw [F.ln _ _ _ _ hq] at e
    rw [List.append_nil]; exact e.symm
  have bnd := hb _ (Value.ref (s.heap.objs.size + 1) :: us) I2.kIn hl
  rw [List.append_nil] at bnd
  refine wpAny_call (make_map (f := f) I.kIn M.makes M.init (beq_iff_eq.mp M.fn) (codeAny_mono (F.go _ X.stack _ _ ⟨Value.ref (s.heap.objs.size + 1) :: us, []⟩ (Value.ref (s.heap.objs.size + 1) :: us) _ _ (E σ) (hr.make C us [])
    (I2.env0.make C us []) bnd r2 hq) fun r s' hq' => ?_))
  match r, hq' with
  | .error e, hq' => exact hx σ pins _ _ e s' I2 hq'
  | .ok (.ret u), hq' =>
    obtain ⟨v, H', I3, rv, ev, q3⟩ := I2.after hq'
    subst ev
    exact ⟨rv, ⟨V.ref (s.heap.objs.size + 1), H', I3, rfl, q3⟩⟩
  | .ok .next, hq' => exact hq'.elim
  | .ok .brk, hq' => exact hq'.elim
  | .ok .cont, hq' => exact hq'.elim
def tMkX (C : Addr) (sp : Sp) (E : L2.St → XK) (t : TA) : TE := fun σ H Q => t σ H fun vs H1 => ∀ x dx, H1 x = none → H1 dx = none → dx ≠ x → sp (.ref x :: vs) (upd (upd H1 dx (.own x)) x (.ins C dx [])) (fun v H2 => v = .non ∧ Q (.ref x) H2) (E σ)
theorem pe_makeX {E : L2.St → XK} (M : Mk X.K C f) (F : FnG X.prog X.w X.K X.mg X.base k f fd ps sp) (hr : RoomG (k + 1) X.A) (hg : Gl X x) (hm : X.mg x = some (.ref C)) (hb : Binds X.K fd ps []) (hx : ∀ σ, PassesAt (L2.CX X.prog X.w) X σ (E σ))
    (ha : PA X (e :: es) ta) (hdb : (x == ("__debug__" : Str)) = false := by decide) (he : starEach (e :: es) X.env = (false, eval e X.env) :: starEach es X.env := by rfl) (hpl : (backTo pos (starEach es X.env)).any (·.1) = false := by rfl) :
    PE X (.Call (.Name x p) (e :: es) [] pos) (tMkX C sp E ta) := by
  refine ⟨fun pins s σ H Q I h => ?_⟩
  refine wpAny_Call_Name_kw (ld_glob I hg hm ?_ hdb)
  refine PySem.W.callWith_K (h₀ := X.base) I.ok.mod.kin M.kp (thn (ha.run pos pins s σ H _ I h) fun us s1 ⟨vs, H1, I1, r, q⟩ => ⟨I1.kIn, ?_⟩) he hpl
  exact run_makeX M F hr hb (fun σ pins H s e s' => hx σ pins H s e s') I1 r q
end
section
variable {P : Program} {w : World} {K : Fr} {mg : Str → Option Value} {base : Heap} {k : Nat} {f : Addr} {fd : FuncData} {N ps : List Str} {sp : Sp}
/-- such a def, by its body -/
theorem fnG_of {name qual : Str} {pr : Arguments} {body : List Stmt} {scope : Scope} {dV kV doc pm cdv ct oc : Value} {an od : Option Addr} {osl : Array (Option Value)}
    (lk : K.lookup f = some ⟨oc, od, .func (PySem.W.fnOf name qual pr body scope dV kV doc pm an cdv ct), osl⟩) (hcd : PySem.W.codeIn K cdv qual = true) (S : FnScope N ps scope) (ln : ∀ vs H Q E, sp vs H Q E → vs.length = ps.length)
    (hbody : ∀ (A : Around) (outer : List Env) (t : Shared) (H : Hp) (vs : List V) (Q : VK) (E : XK), RoomG k (A.deeper (PyProof.Rows.envOfC qual scope t.heap.objs.size f cdv)) → sp vs H Q E →
      ∃ ts, PSs (cxOf (L2.CX P w) P w K mg base N qual scope f cdv A outer t H E) body ts ∧ ts { nx := fun _ H' => Q .non H', rt := Q } (L2.start N vs) H) :
    FnG P w K mg base (k + 1) f (PySem.W.fnOf name qual pr body scope dV kV doc pm an cdv ct) ps sp := by
  constructor
  · exact ln
  intro A outer t H args us vs Q E hr e0 hb rv hsp
  have hlen := ln _ _ _ _ hsp
  have kin : K.In t.heap := e0.mod.kin.keeps fun b o e => (e0.bs b o e).1
  have nol : t.heap.NoLimit := e0.mod.nolimit.keeps fun b o e => (e0.bs b o e).1
  have kinds : ∀ y ∈ ps.zip us, scope.names.lookup y.1 = some .local ∨ (scope.names.lookup y.1 = some .cell ∧ ((cellsFrom (t.heap.objs.size + 1) scope.names []).lookup y.1).isSome = true) := by
    rintro ⟨n, v⟩ hy
    cases S.par n (List.of_mem_zip hy).1 with
    | inl q => exact .inl q
    | inr q => exact .inr ⟨q, PySem.W.cellsFrom_some _ _ _ (.inl q)⟩
  refine codeAny_call_function hr.rm.depth (kin _ _ lk) rfl S.co S.gen rfl (PySem.W.codeRec_of kin hcd) (hb _ _ _ _ ?_)
  refine wpAny_newFunctionEnv_cells S.kind kinds fun env he t1 call => ?_
  cases he
  refine ⟨nol.keeps call.toInCall.keep, codeAny_func ?_⟩
  obtain ⟨ts, hts, hq⟩ := hbody A outer t H vs Q E (hr.deeper _) hsp
  have I : L2.Inv (cxOf (L2.CX P w) P w K mg base N qual scope f cdv A outer t H E) [] (L2.start N vs) H t1 := inv_start S hr.rm.hd e0 hlen rv call
  refine wpAny_mono (hts.run [] t1 (L2.start N vs) H _ I hq) (fun fl t2 fin => ?_) fun _ _ fin => fin
  match fl, fin with
  | .ret u, ⟨v, σ', H', J, r2, q⟩ => exact ⟨v, H', J.os, J.bare, J.base, J.hok, r2, q⟩
  | .next, ⟨σ', H', J, q⟩ => exact ⟨V.non, H', J.os, J.bare, J.base, J.hok, rfl, q⟩
  | .brk, ⟨_, _, _, q⟩ => exact q.elim
  | .cont, ⟨_, _, _, q⟩ => exact q.elim
end
/-! ### the law itself -/
section
variable {P : Program} {w : World} {K : Fr} {mg mb : Str → Option Value} {k : Nat} {fa a : Addr} {fd : FuncData} {x : Str} {sp : Sp} {t : Shared} {vs : List Value} {ns : List Int}
/-- from an abstract heap that has nothing but the script -/
theorem core_G (KX : K.In t.heap) (hns : t.heap.Ns mainGlobals mg) (hbn : t.heap.Ns builtinsNs mb) (hbb : ∀ y : Str, y ≠ "__name__" → mb y = bootBuiltins y) (hlim : t.heap.NoLimit) (hg : t.gens = #[]) (ha : t.heap.get? a = some { cls := .type "list", data := .seq vs.toArray })
    (hr : RoomG k callerA) (F : ∀ base : Heap, K.In base → base.Ns mainGlobals mg → FnG P w K mg base k fa fd [x] sp) (hbind : ∀ (s : Shared) (u : Value), BindsTo s fd ⟨[u], []⟩ [(x, u)]) (H : Hp) (hO : Only H)
    (hsp : sp [.ref a] H (fun v _ => v = .bl true) fun _ _ _ => False) (hok : HOk P w H t.heap) (hA : ∀ b, H b ≠ none → b = a) (hK : H a ≠ none → K.lookup a = none) :
    codeAny (model P w) callerA (.call (.ref fa) ⟨[.ref a], []⟩) (fun r s' => r = .ok (.ret (.bool true)) ∧ OldK t.heap s'.heap ∧ s'.os = t.os ∧ AllBare s'.gens) t := by
  have only : ∀ b u, H b = some u → b = a := fun b u e => hA b fun z => by rw [e] at z; cases z
  have plain : ∀ {b : Addr} {o : Obj}, t.heap.get? b = some o → H b = none → (hidT t.heap H).get? b = some o := fun e n => hidT_get e n
  have nodict : ∀ {b : Addr} {o : Obj} {es : Array DictEntry} {ep : Nat}, t.heap.get? b = some o → o.data = .dict es ep → H b = none := by
    intro b o es ep e d
    cases q : H b with
    | none => rfl
    | some u =>
      cases only b u q
      rw [ha] at e
      injection e with e
      rw [← e] at d
      cases (show Data.seq vs.toArray _ = Data.dict es ep from d)
  have nsH : ∀ {b : Addr} {m : Str → Option Value}, t.heap.Ns b m → (hidT t.heap H).Ns b m := by
    rintro b m ⟨o, es, ep, e, d, r⟩
    exact ⟨o, es, ep, plain e (nodict e d), d, r⟩
  have kinH : K.In (hidT t.heap H) := by
    intro b o e
    refine plain (KX b o e) ?_
    cases q : H b with
    | none => rfl
    | some u =>
      cases only b u q
      rw [hK (fun z => by rw [q] at z; cases z)] at e
      cases e
  obtain ⟨mc, l1, l2⟩ := hlim
  have env : Env0 P w K mg (hidT t.heap H) callerA [] t H := {
    frames := rfl, mod := ⟨kinH, nsH hns, ⟨mb, nsH hbn, hbb⟩, ⟨mc, nsH l1, l2⟩⟩, bs := fun b o e => of_hidT e, bsz := Nat.le_of_eq (hidT_size _ _),
    funs := trivial, frf := fun b hb => (nomatch (show b ∈ ([] : List Addr) from hb)), hok := hok, bare := .of_eq hg }
  refine codeAny_mono ((F _ kinH (nsH hns)).go callerA [] t H ⟨[.ref a], []⟩ [.ref a] [.ref a] _ _ hr env (hbind t (.ref a)) (.cons rfl .nil) hsp) fun res t' fin => ?_
  match res, fin with
  | .error e, fin => exact (cx_no fin).elim
  | .ok .next, fin => exact fin.elim
  | .ok .brk, fin => exact fin.elim
  | .ok .cont, fin => exact fin.elim
  | .ok (.ret u), ⟨v, H', os, bare, un, hok', rv, q⟩ =>
    cases (show v = .bl true from q)
    cases (show u = Value.bool true from rv)
    refine ⟨rfl, OldK.of_keep fun b o e => ?_, os, bare⟩
    cases hb : H b with
    | none => exact un.keep b o e hb (fun z => nomatch (show b ∈ ([] : List Addr) from z)) (by simp)
    | some u =>
      cases hO b with
      | inl z => rw [hb] at z; cases z
      | inr z =>
        obtain ⟨ob, xs, z⟩ := z
        have o1 := (hok b _ z).1
        have o2 := (hok' b _ (un.frzs b ob _ z)).1
        rw [e] at o1
        cases o1
        exact o2
theorem law_callG (KX : K.In t.heap) (hns : t.heap.Ns mainGlobals mg) (hbn : t.heap.Ns builtinsNs mb) (hbb : ∀ y : Str, y ≠ "__name__" → mb y = bootBuiltins y) (hlim : t.heap.NoLimit) (hg : t.gens = #[]) (ha : t.heap.get? a = some { cls := .type "list", data := .seq vs.toArray })
    (hi : IntsAre vs ns) (hl : ns.length ≤ sizeLine) (hr : RoomG k callerA) (F : ∀ base : Heap, K.In base → base.Ns mainGlobals mg → FnG P w K mg base k fa fd [x] sp) (hbind : ∀ (s : Shared) (u : Value), BindsTo s fd ⟨[u], []⟩ [(x, u)])
    (hsp : ∀ H : Hp, Only H → SqL K H a (ns.map V.int) → sp [.ref a] H (fun v _ => v = .bl true) fun _ _ _ => False) :
    codeAny (model P w) callerA (.call (.ref fa) ⟨[.ref a], []⟩) (fun r s' => r = .ok (.ret (.bool true)) ∧ OldK t.heap s'.heap ∧ s'.os = t.os ∧ AllBare s'.gens) t := by
  have rv := vals_ints hi
  cases hk : K.lookup a with
  | some o =>
    have e := KX a o hk
    rw [ha] at e
    injection e with e
    subst e
    have hS : SqL K (fun _ => none) a (ns.map V.int) := .inr ⟨_, vs.toArray, _, hk, rfl, rfl, rfl, by rw [List.size_toArray, hi.length]; exact hl, by simpa using rv⟩
    exact core_G KX hns hbn hbb hlim hg ha hr F hbind _ (fun _ => .inl rfl) (hsp _ (fun _ => .inl rfl) hS) (fun b u z => nomatch (show (none : Option HO) = some u from z)) (fun b z => absurd rfl z) fun z => absurd rfl z
  | none =>
    let ob : Obj := { cls := .type "list", data := .seq vs.toArray }
    let H : Hp := fun b => if b = a then some (.frz ob (.lst (ns.map V.int))) else none
    have at_ : H a = some (.frz ob (.lst (ns.map V.int))) := if_pos rfl
    have off : ∀ b, b ≠ a → H b = none := fun b hb => if_neg hb
    have hO : Only H := fun b => by
      by_cases hb : b = a
      · exact .inr ⟨ob, _, by rw [hb]; exact at_⟩
      · exact .inl (off b hb)
    refine core_G KX hns hbn hbb hlim hg ha hr F hbind H hO (hsp H hO (.inl (.inr ⟨ob, at_⟩))) (fun b u z => ?_) (fun b z => ?_) fun _ => hk
    · by_cases hb : b = a
      · subst hb
        rw [at_] at z
        cases z
        exact ⟨ha, by rw [List.length_map]; exact hl, vs, _, rv, ha⟩
      · rw [off b hb] at z
        cases z
    · exact Decidable.byContradiction fun hb => z (off b hb)
end
theorem walk_G {l : PySem.W.OpenLaw} {n k : Nat} {q : Program} {loose : List Str} {XP : (Str → Option Value) → Heap → Prop} {YP : World → Heap → Prop} {d : DefRec} {K : Params → Fr} {sp : World → Sp} {x : Str} (hn : l.most = some n) (hn2 : n ≤ sizeLine) (hdf : d.params.defaults = []) (hr : Room k callerA)
    (hY : ∀ (w : World) (h : Heap), YP w h → (K w.params).In h)
    (F : ∀ (w : World) (mg : Str → Option Value) (fa : Addr) (h : Heap), (K w.params).In h → h.Ns mainGlobals mg → mg d.name = some (.ref fa) → ∃ fd : FuncData, (∀ (s : Shared) (u : Value), BindsTo s fd ⟨[u], []⟩ [(x, u)]) ∧ ∀ base : Heap, (K w.params).In base → base.Ns mainGlobals mg → FnG l.prog w (K w.params) mg base k fa fd [x] (sp w))
    (hsp : ∀ (w : World) (H : Hp) (a : Addr) (ns : List Int), ns.length ≤ n → Only H → SqL (K w.params) H a (ns.map V.int) → sp w [.ref a] H (fun v _ => v = .bl true) fun _ _ _ => False) :
    PySem.W.WalkO q loose XP YP l.row.toRowW d [] (fun f vs => PySem.call f vs) := by
  refine Att.attach_call hn hdf fun w s0 t mg mb fa o pm cd doc a vs ns G Y h1 h2 h3 hmg hobj hints hlen hgens => ?_
  have kin := hY w _ Y
  have ⟨fd, bnd, prom⟩ := F w mg fa _ kin G.T.g hmg
  exact law_callG kin G.T.g G.T.b G.T.builtins G.T.nolimit hgens hobj hints (Nat.le_trans hlen hn2) ⟨hr, rfl⟩ prom bnd fun H => hsp w H a ns hlen
end Lv

/-! Lv8: promises of defs, their calls, a def by its body. -/
namespace Lv
open PySem L2 LvI

/-- a def's promise over places and store: the arguments, the store handed in, what is wanted -/
abbrev ASp := List SV → ST → (SV → ST → Prop) → Prop
def M0 : MP := fun _ _ _ => True
def toSp (K : Fr) (sp : ASp) : Sp := fun vs H Q _ => ∃ (B : Hp) (φ : Fi) (s : ST) (svs : List SV) (Qa : SV → ST → Prop), Re K M0 H B φ s ∧ RsAll K B φ vs svs ∧ sp svs s Qa ∧
  ∀ H' B' φ' s' v x, Gr H B φ H' B' φ' → Re K M0 H' B' φ' s' → Rs K B' φ' v x → Qa x s' → Q v H'
def slots (N : List Str) (svs : List SV) : AS := svs.map some ++ List.replicate (N.length - svs.length) none
theorem rsl_start {K : Fr} {B : Hp} {φ : Fi} {N : List Str} {vs : List V} {svs : List SV} (r : RsAll K B φ vs svs) : Rsl K B φ (L2.start N vs) (slots N svs) := by
  have hl := r.length
  refine ⟨by unfold L2.start slots; simp [hl], fun i x e => ?_⟩
  unfold slots at e
  unfold L2.start
  by_cases hi : i < svs.length
  · rw [List.getElem?_append_left (by rw [List.length_map]; exact hi), List.getElem?_map] at e
    rw [List.getElem?_append_left (by rw [List.length_map, hl]; exact hi), List.getElem?_map]
    cases hs : svs[i]? with
    | none => rw [hs] at e; cases e
    | some y =>
      rw [hs] at e
      cases e
      obtain ⟨v, hv, q⟩ := r.get' hs
      exact ⟨v, by rw [hv]; rfl, q⟩
  · rw [List.getElem?_append_right (by rw [List.length_map]; omega)] at e
    have := List.mem_of_getElem? e
    have := List.eq_of_mem_replicate this
    cases this
section
variable {P : Program} {w : World} {K : Fr} {mg : Str → Option Value} {base : Heap}
/-- a def by its body -/
theorem fn_lv {x qual : Str} {st : Stmt} {f : Addr} {fd : FuncData} {N ps : List Str} {k : Nat} {sp : ASp} (F : Fun K x qual st f fd) (S : FnScope N ps (defScope st)) (len : ∀ vs s Q, sp vs s Q → vs.length = ps.length)
    (hbody : ∀ (cdv : Value) (A : Around) (outer : List Env) (s : Shared) (H : Hp) (E : XK), RoomG k (A.deeper (PyProof.Rows.envOfC qual (defScope st) s.heap.objs.size f cdv)) → ∀ (svs : List SV) (s0 : ST) (Q : SV → ST → Prop), sp svs s0 Q →
      ∃ t, APs (cxOf (L2.CX P w) P w K mg base N qual (defScope st) f cdv A outer s H E).nox M0 (defBody st) t ∧ t { nx := fun _ s' => Q (.d .non) s', rt := Q } (slots N svs) s0) : FnG P w K mg base (k + 1) f fd ps (toSp K sp) := by
  obtain ⟨oc, od, kV, doc, pm, an, cdv, ct, osl, rfl, lk, hcd⟩ := F.ex
  refine fnG_of lk hcd S (fun vs H Q E h => ?_) fun A outer s H vs Q E hr h => ?_
  · obtain ⟨B, φ, s, svs, Qa, re, r, h1, h2⟩ := h
    rw [r.length]; exact len _ _ _ h1
  · obtain ⟨B, φ, s0, svs, Qa, re, r, h1, h2⟩ := h
    obtain ⟨t, ⟨ts, p1, p2⟩, q⟩ := hbody cdv A outer s H E hr svs s0 Qa h1
    refine ⟨ts, p1.nox, p2 H B φ (L2.start N vs) (slots N svs) s0 _ re (rsl_start r) q _ ⟨fun H' B' φ' s' σ' δ' g re' sl' q' => h2 _ _ _ _ _ _ g re' (.dat .non) q', fun H' B' φ' s' v x g re' r' q' => h2 _ _ _ _ _ _ g re' r' q', fun H' B' φ' s' σ' δ' g re' sl' q' => q'.elim, fun H' B' φ' s' σ' δ' g re' sl' q' => q'.elim⟩⟩
end

/-! ### a call: the places handed in are the callee's store -/
def argL : List SV → List Nat
  | [] => []
  | .d _ :: r => argL r
  | .l n :: r => if n ∈ argL r then argL r else n :: argL r
theorem argL_nd : ∀ xs, (argL xs).Nodup
  | [] => List.nodup_nil
  | .d _ :: r => argL_nd r
  | .l n :: r => by
    unfold argL
    split
    · exact argL_nd r
    · rename_i h
      exact List.nodup_cons.mpr ⟨h, argL_nd r⟩
theorem argL_mem : ∀ {xs : List SV} {n : Nat}, SV.l n ∈ xs → n ∈ argL xs
  | .d _ :: r, n, h => by
    show n ∈ argL r
    rcases List.mem_cons.mp h with h | h
    · cases h
    · exact argL_mem h
  | .l m :: r, n, h => by
    unfold argL
    rcases List.mem_cons.mp h with h | h
    · cases h
      split
      · assumption
      · exact List.mem_cons_self
    · split
      · exact argL_mem h
      · exact List.mem_cons_of_mem _ (argL_mem h)
def toC (ns : List Nat) : SV → SV
  | .l n => .l (ns.idxOf n)
  | x => x
/-- a callee's place, told by the caller's store of L things -/
def ren (ns : List Nat) (L : Nat) : SV → SV
  | .l k => (match ns[k]? with
    | some n => .l n
    | none => .l (L + (k - ns.length)))
  | x => x
/-- a number of a place likewise -/
def renN (ns : List Nat) (L : Nat) (k : Nat) : Nat := match ns[k]? with
  | some n => n
  | none => L + (k - ns.length)
def renO (ns : List Nat) (L : Nat) : LO → LO
  | .tp xs => .tp (xs.map (ren ns L))
  | .ll xs => .ll (xs.map (ren ns L))
  | .mK kvs => .mK (kvs.map fun p => (p.1, ren ns L p.2))
  | .mT kvs => .mT (kvs.map fun p => (p.1, ren ns L p.2))
  | .fK od vs kvs => .fK od vs (kvs.map fun p => (p.1, ren ns L p.2))
  | .fT od vs kvs => .fT od vs (kvs.map fun p => (p.1, ren ns L p.2))
  | .ins C j fs => .ins C (renN ns L j) (fs.map fun p => (p.1, ren ns L p.2))
  | .own j => .own (renN ns L j)
  | o => o
def simO : LO → Bool
  | .lst _ => true
  | .dK _ => true
  | .dT _ => true
  | .lK _ _ _ => true
  | .lT _ _ _ => true
  | .box _ => true
  | .pool _ _ => true
  | _ => false
section
variable {α : Type}
def putAll : List α → List Nat → List α → List α
  | s, n :: ns, o :: os => putAll (s.set n o) ns os
  | s, _, _ => s
theorem putAll_len : ∀ (s : List α) (ns : List Nat) (os : List α), (putAll s ns os).length = s.length
  | s, [], os => by
    cases os <;> rfl
  | s, _ :: _, [] => rfl
  | s, n :: ns, o :: os => by
    unfold putAll
    rw [putAll_len, List.length_set]
theorem putAll_other : ∀ (s : List α) (ns : List Nat) (os : List α) (i : Nat), i ∉ ns → (putAll s ns os)[i]? = s[i]?
  | s, [], os, i, _ => by
    cases os <;> rfl
  | s, _ :: _, [], i, _ => rfl
  | s, n :: ns, o :: os, i, h => by
    unfold putAll
    rw [putAll_other _ ns os i (fun z => h (List.mem_cons_of_mem _ z)), List.getElem?_set_ne (fun z => h (by rw [← z]; exact List.mem_cons_self))]
theorem putAll_at : ∀ (s : List α) (ns : List Nat) (os : List α) (k n : Nat) (o : α), ns.Nodup → ns[k]? = some n → os[k]? = some o → n < s.length → (putAll s ns os)[n]? = some o
  | s, m :: ns, o' :: os, 0, n, o, nd, h1, h2, h3 => by
    have e1 : m = n := by simpa using h1
    have e2 : o' = o := by simpa using h2
    subst e1; subst e2
    unfold putAll
    rw [putAll_other _ ns os m (List.nodup_cons.mp nd).1, List.getElem?_set_self h3]
  | s, m :: ns, o' :: os, k + 1, n, o, nd, h1, h2, h3 => by
    unfold putAll
    exact putAll_at _ ns os k n o (List.nodup_cons.mp nd).2 (by simpa using h1) (by simpa using h2) (by rw [List.length_set]; exact h3)
end
/-- where each thing behind a call comes from -/
def bck {α : Type} (X : List α) (ns : List Nat) (X' : List α) : List α := putAll X ns X' ++ X'.drop ns.length
theorem bck_ren {α : Type} {X X' : List α} {ns : List Nat} (nd : ns.Nodup) (hlt : ∀ n ∈ ns, n < X.length) (k : Nat) (hk : k < X'.length) : (bck X ns X')[renN ns X.length k]? = X'[k]? := by
  unfold bck renN
  cases hn : ns[k]? with
  | some n =>
    have hm := hlt n (List.mem_of_getElem? hn)
    show (putAll X ns X' ++ X'.drop ns.length)[n]? = _
    rw [List.getElem?_append_left (by rw [putAll_len]; exact hm), List.getElem?_eq_getElem hk]
    exact putAll_at X ns X' k n _ nd hn (List.getElem?_eq_getElem hk) hm
  | none =>
    have := List.getElem?_eq_none_iff.mp hn
    show (putAll X ns X' ++ X'.drop ns.length)[X.length + (k - ns.length)]? = _
    rw [List.getElem?_append_right (by rw [putAll_len]; omega), putAll_len, List.getElem?_drop]
    congr 1; omega
theorem bck_old {α : Type} {X X' : List α} {ns : List Nat} {m : Nat} (h : m < X.length) (hn : m ∉ ns) : (bck X ns X')[m]? = X[m]? := by
  unfold bck
  rw [List.getElem?_append_left (by rw [putAll_len]; exact h), putAll_other _ _ _ _ hn]
theorem bck_len {α : Type} {X X' : List α} {ns : List Nat} : (bck X ns X').length = X.length + (X'.length - ns.length) := by
  unfold bck; rw [List.length_append, putAll_len, List.length_drop]
theorem bck_src {ns : List Nat} {L N m : Nat} (hN : ns.length ≤ N) (h : m < L + (N - ns.length)) : (m < L ∧ m ∉ ns) ∨ ∃ k, k < N ∧ renN ns L k = m := by
  by_cases hm : m ∈ ns
  · obtain ⟨k, hk⟩ := List.getElem?_of_mem hm
    have := (List.getElem?_eq_some_iff.mp hk).1
    exact .inr ⟨k, by omega, by unfold renN; rw [hk]⟩
  · by_cases hL : m < L
    · exact .inl ⟨hL, hm⟩
    · refine .inr ⟨ns.length + (m - L), by omega, ?_⟩
      unfold renN
      rw [List.getElem?_eq_none (by omega)]
      show L + (ns.length + (m - L) - ns.length) = m
      omega
/-- chosen places -/
def selF (φ : Fi) (ns : List Nat) : Fi := ns.map fun n => (φ[n]?).getD (one 0)
theorem selF_len (φ : Fi) (ns : List Nat) : (selF φ ns).length = ns.length := List.length_map ..
theorem selF_at {φ : Fi} {ns : List Nat} (hlt : ∀ n ∈ ns, n < φ.length) {k n : Nat} (h : ns[k]? = some n) : (selF φ ns)[k]? = φ[n]? := by
  unfold selF
  have q : φ[n]? = some (φ[n]'(hlt n (List.mem_of_getElem? h))) := List.getElem?_eq_getElem _
  rw [List.getElem?_map, h, q]
  show some ((φ[n]?).getD (one 0)) = _
  rw [q]; rfl
theorem selF_inv {φ : Fi} {ns : List Nat} (hlt : ∀ n ∈ ns, n < φ.length) {k : Nat} {c : Ce} (h : (selF φ ns)[k]? = some c) : ∃ n, ns[k]? = some n ∧ φ[n]? = some c := by
  have hk := (List.getElem?_eq_some_iff.mp h).1
  rw [selF_len] at hk
  have hn : ns[k]? = some ns[k] := List.getElem?_eq_getElem hk
  exact ⟨_, hn, by rw [← selF_at hlt hn]; exact h⟩
theorem selF_sub {φ : Fi} {ns : List Nat} (hlt : ∀ n ∈ ns, n < φ.length) : ∀ a ∈ adr (selF φ ns), a ∈ adr φ := fun a ha => by
  obtain ⟨k, c, h1, h2⟩ := adr_of ha
  obtain ⟨n, _, h3⟩ := selF_inv hlt h1
  exact adr_mem h3 h2
theorem selF_nd {φ : Fi} {ns : List Nat} (hlt : ∀ n ∈ ns, n < φ.length) (nd : ns.Nodup) (h : (adr φ).Nodup) : (adr (selF φ ns)).Nodup := by
  refine adr_nd_of (fun n c hc => ?_) fun i j c d a h1 h2 h3 h4 => ?_
  · obtain ⟨m, _, h3⟩ := selF_inv hlt hc
    exact ce_nd h h3
  · obtain ⟨m, m1, m2⟩ := selF_inv hlt h1
    obtain ⟨m', m1', m2'⟩ := selF_inv hlt h2
    have := adr_nd h m2 m2' h3 h4
    subst this
    obtain ⟨j1, j2⟩ := List.getElem?_eq_some_iff.mp m1
    obtain ⟨k1, k2⟩ := List.getElem?_eq_some_iff.mp m1'
    exact (List.getElem_inj nd).mp (j2.trans k2.symm)
def aFn (sp : ASp) (t : ATA) : ATE := fun δ s Q => t δ s fun xs s1 =>
  ((argL xs).all fun n => match s1[n]? with | some o => simO o | none => false) = true ∧
    sp (xs.map (toC (argL xs))) ((argL xs).map fun n => (s1[n]?).getD .gone) fun r s2 => Q (ren (argL xs) s1.length r) (putAll s1 (argL xs) (s2.map (renO (argL xs) s1.length)) ++ (s2.drop (argL xs).length).map (renO (argL xs) s1.length))
theorem Ro.sim {K : Fr} {B : Hp} {φ φ' : Fi} {o : LO} {u : Option HO} (h : Ro K B φ o u) (c : simO o = true) : Ro K B φ' o u := by
  cases o with
  | tp _ => cases c
  | gone => cases c
  | lst _ => exact h
  | dK _ => exact h
  | dT _ => exact h
  | lK _ _ _ => exact h
  | lT _ _ _ => exact h
  | box _ => exact h.elim
  | pool _ _ => exact h.elim
  | _ => cases c
theorem Rc.sim_ {K : Fr} {B H : Hp} {φ φ' : Fi} {o : LO} {c : Ce} (h : Rc K B H φ c o) (w : simO o = true) : Rc K B H φ' c o := h.re fun _ h => h.sim w
theorem RsAll.map_to {K : Fr} {B : Hp} {φ φ' : Fi} {f : SV → SV} : ∀ {vs : List V} {xs : List SV}, RsAll K B φ vs xs → (∀ v x, x ∈ xs → Rs K B φ v x → Rs K B φ' v (f x)) → RsAll K B φ' vs (xs.map f)
  | _, _, .nil, _ => .nil
  | _, _, .cons r t, h => .cons (h _ _ List.mem_cons_self r) (RsAll.map_to t fun v x hx => h v x (List.mem_cons_of_mem _ hx))
theorem map_snd {α β γ : Type} (f : β → γ) (l : List (α × β)) : (l.map fun p => (p.1, f p.2)).map (·.2) = (l.map (·.2)).map f ∧ (l.map fun p => (p.1, f p.2)).map (·.1) = l.map (·.1) := by
  rw [List.map_map, List.map_map, List.map_map]; exact ⟨rfl, rfl⟩
/-- behind a call: the callee's places and store put into the caller's; B2 is the data from here on -/
theorem Re.back {K : Fr} {M : MP} {H B H' B' B2 : Hp} {φ φ' : Fi} {s s2 : ST} {ns : List Nat} (re : Re K M H B φ s) (nd : ns.Nodup) (hlt : ∀ n ∈ ns, n < φ.length) {sc : ST} (re' : Re K M0 H' B' φ' sc)
    (pf : ∃ r, φ'.map Ce.p = (selF φ ns).map Ce.p ++ r) (kp : ∀ a o, H a = some o → a ∉ adr (selF φ ns) → H' a = some o) (nf : ∀ a ∈ adr φ', a ∈ adr (selF φ ns) ∨ H a = none)
    (eb : Ex B B2) (ex : Ex B2 H') (nb : ∀ a, B a = none → H a ≠ none → a ∉ adr (selF φ ns) → B2 a = none ∨ kT H a) (nb2 : ∀ a, B' a = none → B2 a = none)
    (l2 : s2.length = sc.length) (i2 : ∀ (k : Nat) o', s2[k]? = some o' → ∃ o, sc[k]? = some o ∧ (o'.is = true → o.is = true) ∧ ∀ c, φ'[k]? = some c → Rc K B' H' φ' c o → Rc K B2 H' (bck φ ns φ') c o') :
    Gr H B φ H' B2 (bck φ ns φ') ∧ Re K M H' B2 (bck φ ns φ') (bck s ns s2) := by
  obtain ⟨r0, er⟩ := pf
  have hL : φ.length = s.length := re.len
  have hN : ns.length ≤ φ'.length := by
    have := congrArg List.length er
    rw [List.length_append, List.length_map, List.length_map, selF_len] at this
    omega
  have hlt2 : ∀ n ∈ ns, n < s.length := fun n hn => by rw [← hL]; exact hlt n hn
  have ls2 : s2.length = φ'.length := by rw [l2]; exact re'.len.symm
  have root : ∀ (k n : Nat), ns[k]? = some n → φ'.r k = φ.r n := fun k n hk => by
    have hkl := (List.getElem?_eq_some_iff.mp hk).1
    rw [r_map, er, List.getElem?_append_left (by rw [List.length_map, selF_len]; exact hkl), ← r_map]
    unfold Fi.r
    rw [selF_at hlt hk]
  -- each place of the new ones
  have src : ∀ (m : Nat) c, (bck φ ns φ')[m]? = some c → (m < φ.length ∧ m ∉ ns ∧ φ[m]? = some c) ∨ ∃ k, k < φ'.length ∧ renN ns φ.length k = m ∧ φ'[k]? = some c := fun m c h => by
    have hm := (List.getElem?_eq_some_iff.mp h).1
    rw [bck_len] at hm
    rcases bck_src hN hm with ⟨h1, h2⟩ | ⟨k, h1, h2⟩
    · exact .inl ⟨h1, h2, by rw [← bck_old h1 h2]; exact h⟩
    · exact .inr ⟨k, h1, h2, by rw [← bck_ren nd hlt k h1, h2]; exact h⟩
  have apart : ∀ {m : Nat} {c : Ce} {a : Addr}, m ∉ ns → φ[m]? = some c → a ∈ c.al → a ∉ adr φ' ∧ a ∉ adr (selF φ ns) := fun {m c a} h1 h2 h3 => by
    have h4 : a ∉ adr (selF φ ns) := fun z => by
      obtain ⟨k, d, q1, q2⟩ := adr_of z
      obtain ⟨n, q3, q4⟩ := selF_inv hlt q1
      have := adr_nd re.nd h2 q4 h3 q2
      exact h1 (by rw [this]; exact List.mem_of_getElem? q3)
    exact ⟨fun z => (nf a z).elim h4 fun w => re.al a (adr_mem h2 h3) w, h4⟩
  have ad : ∀ a ∈ adr (bck φ ns φ'), (a ∈ adr φ ∧ a ∉ adr (selF φ ns)) ∨ a ∈ adr φ' := fun a ha => by
    obtain ⟨m, c, h1, h2⟩ := adr_of ha
    rcases src m c h1 with ⟨_, q2, q3⟩ | ⟨k, q1, q2, q3⟩
    · exact .inl ⟨adr_mem q3 h2, (apart q2 q3 h2).2⟩
    · exact .inr (adr_mem q3 h2)
  have sub := selF_sub hlt
  have g : Gr H B φ H' B2 (bck φ ns φ') := by
    refine ⟨eb, ⟨(φ'.drop ns.length).map Ce.p, ?_⟩, fun a o ha hn => kp a o ha fun z => hn (sub a z), fun a h1 h2 h3 => nb a h1 h2 fun z => h3 (sub a z), fun a ha => ?_⟩
    · unfold bck
      rw [List.map_append]
      congr 1
      refine List.ext_getElem? fun m => ?_
      rw [← r_map, ← r_map]
      by_cases hm : m ∈ ns
      · obtain ⟨k, hk⟩ := List.getElem?_of_mem hm
        have hkl := (List.getElem?_eq_some_iff.mp hk).1
        have hk' : φ'[k]? = some φ'[k] := List.getElem?_eq_getElem (by omega)
        rw [Fi.r_of (putAll_at φ ns φ' k m _ nd hk hk' (hlt m hm)), ← root k m hk, Fi.r_of hk']
      · unfold Fi.r
        rw [putAll_other _ _ _ _ hm]
    · rcases ad a ha with ⟨h, _⟩ | h
      · exact .inl h
      · exact (nf a h).imp (sub a) id
  have same : ∀ {m : Nat} {c : Ce}, m ∉ ns → φ[m]? = some c → ∀ a ∈ c.al, H' a = H a := fun {m c} h1 h2 a ha => by
    cases hHp : H a with
    | none => exact absurd hHp (re.al a (adr_mem h2 ha))
    | some o => exact kp a o hHp (apart h1 h2 ha).2
  have ob2 : ∀ (m : Nat) o', (bck s ns s2)[m]? = some o' → (m < s.length ∧ m ∉ ns ∧ s[m]? = some o') ∨ ∃ k, renN ns s.length k = m ∧ s2[k]? = some o' := fun m o' h => by
    have hm := (List.getElem?_eq_some_iff.mp h).1
    rw [bck_len] at hm
    rcases bck_src (by rw [ls2]; exact hN) hm with ⟨h1, h2⟩ | ⟨k, h1, h2⟩
    · exact .inl ⟨h1, h2, by rw [← bck_old h1 h2]; exact h⟩
    · exact .inr ⟨k, h2, by rw [← bck_ren nd hlt2 k h1, h2]; exact h⟩
  have both : ∀ (m : Nat) c o', (bck φ ns φ')[m]? = some c → (bck s ns s2)[m]? = some o' → (m ∉ ns ∧ φ[m]? = some c ∧ s[m]? = some o') ∨ ∃ k, φ'[k]? = some c ∧ s2[k]? = some o' := fun m c o' h1 h2 => by
    rcases src m c h1 with ⟨q1, q2, q3⟩ | ⟨k, q1, q2, q3⟩
    · refine .inl ⟨q2, q3, ?_⟩
      rw [← bck_old (X' := s2) (by rw [← hL]; exact q1) q2]; exact h2
    · refine .inr ⟨k, q3, ?_⟩
      rw [← bck_ren (X' := s2) nd hlt2 k (by rw [ls2]; exact q1), ← hL, q2]; exact h2
  refine ⟨g, ⟨ex, ?_, by rw [bck_len, bck_len, ls2, hL], fun a ha => ?_, fun m c o' h1 h2 h3 a ha => ?_, fun m c o' h1 h2 => ?_, fun H3 B3 φ3 g3 => re.pm _ _ _ (g.trans g3)⟩⟩
  · refine adr_nd_of (fun m c h => ?_) fun i j c d a h1 h2 h3 h4 => ?_
    · rcases src m c h with ⟨_, _, q⟩ | ⟨k, _, _, q⟩
      · exact ce_nd re.nd q
      · exact ce_nd re'.nd q
    · rcases src i c h1 with ⟨_, p2, p3⟩ | ⟨k, p1, p2, p3⟩
      · rcases src j d h2 with ⟨_, q2, q3⟩ | ⟨l, q1, q2, q3⟩
        · exact adr_nd re.nd p3 q3 h3 h4
        · exact absurd (adr_mem q3 h4) (apart p2 p3 h3).1
      · rcases src j d h2 with ⟨_, q2, q3⟩ | ⟨l, q1, q2, q3⟩
        · exact absurd (adr_mem p3 h3) (apart q2 q3 h4).1
        · rw [← p2, ← q2, adr_nd re'.nd p3 q3 h3 h4]
  · rcases ad a ha with ⟨h, h2⟩ | h
    · cases hHp : H a with
      | none => exact absurd hHp (re.al a h)
      | some o => rw [kp a o hHp h2]; exact fun z => nomatch z
    · exact re'.al a h
  · rcases both m c o' h1 h2 with ⟨q1, q2, q3⟩ | ⟨k, q1, q2⟩
    · have kk : kT H a → kT H' a := fun ⟨k, z⟩ => ⟨k, by rw [same q1 q2 a ha]; exact z⟩
      rcases re.fr m c o' q2 q3 h3 a ha with hb | hk
      · exact (nb a hb (re.al a (adr_mem q2 ha)) (apart q1 q2 ha).2).imp id kk
      · exact .inr (kk hk)
    · obtain ⟨o, e1, e2, _⟩ := i2 k o' q2
      exact (re'.fr k c o q1 e1 (e2 h3) a ha).imp (nb2 a) id
  · rcases both m c o' h1 h2 with ⟨q1, q2, q3⟩ | ⟨k, q1, q2⟩
    · exact (re.ob m c o' q2 q3).mo g.mo (same q1 q2)
    · obtain ⟨o, e1, e2, e3⟩ := i2 k o' q2
      exact e3 c q1 (re'.ob k c o q1 e1)
/-- a callee's place is the caller's renamed -/
theorem bck_r {φ φ' : Fi} {ns : List Nat} (nd : ns.Nodup) (hlt : ∀ n ∈ ns, n < φ.length) {k : Nat} {p : Addr} (h : φ'.r k = some p) : Fi.r (bck φ ns φ') (renN ns φ.length k) = some p := by
  obtain ⟨c, h1, rfl⟩ := Fi.r_inv h
  refine Fi.r_of ?_
  rw [bck_ren nd hlt k (List.getElem?_eq_some_iff.mp h1).1]
  exact h1
theorem ren_l (ns : List Nat) (L k : Nat) : ren ns L (.l k) = .l (renN ns L k) := by simp only [ren, renN]; cases ns[k]? <;> rfl
theorem Rs.ren {K : Fr} {B : Hp} {φ φ' : Fi} {ns : List Nat} (nd : ns.Nodup) (hlt : ∀ n ∈ ns, n < φ.length) {u : V} {y : SV} (ry : Rs K B φ' u y) : Rs K B (bck φ ns φ') u (Lv.ren ns φ.length y) := by
  cases y with
  | d t => exact ry
  | l k =>
    obtain ⟨p, e1, rfl⟩ := ry
    rw [ren_l]
    exact ⟨p, bck_r nd hlt e1, rfl⟩
theorem Ro.ren {K : Fr} {B : Hp} {φ φ' : Fi} {ns : List Nat} (nd : ns.Nodup) (hlt : ∀ n ∈ ns, n < φ.length) {o : LO} {u : Option HO} (ho : Ro K B φ' o u) : Ro K B (bck φ ns φ') (renO ns φ.length o) u := by
  have rr : ∀ v x, Rs K B φ' v x → Rs K B (bck φ ns φ') v (Lv.ren ns φ.length x) := fun v x h => h.ren nd hlt
  cases o with
  | tp ys =>
    obtain ⟨ws, f1, e1⟩ := ho
    exact ⟨ws, f1.map_to fun v x _ rx => rr v x rx, e1⟩
  | gone => trivial
  | lst _ => exact ho
  | dK _ => exact ho
  | dT _ => exact ho
  | ll ys =>
    obtain ⟨ws, f1, e1⟩ := ho
    exact ⟨ws, f1.map_to fun v x _ rx => rr v x rx, e1⟩
  | mK kvs =>
    obtain ⟨ws, f1, e1⟩ := ho
    obtain ⟨m1, m2⟩ := map_snd (Lv.ren ns φ.length) kvs
    exact ⟨ws, by rw [m1]; exact f1.map_to fun v x _ rx => rr v x rx, by rw [m2]; exact e1⟩
  | mT kvs =>
    obtain ⟨ws, f1, e1⟩ := ho
    obtain ⟨m1, m2⟩ := map_snd (Lv.ren ns φ.length) kvs
    exact ⟨ws, by rw [m1]; exact f1.map_to fun v x _ rx => rr v x rx, by rw [m2]; exact e1⟩
  | fK od vs kvs =>
    obtain ⟨f1, e1⟩ := ho
    obtain ⟨m1, m2⟩ := map_snd (Lv.ren ns φ.length) kvs
    exact ⟨by rw [m1]; exact f1.map_to fun v x _ rx => rr v x rx, by rw [m2]; exact e1⟩
  | lK od vs kvs => exact ho
  | lT od vs kvs => exact ho
  | fT od vs kvs =>
    obtain ⟨f1, e1⟩ := ho
    obtain ⟨m1, m2⟩ := map_snd (Lv.ren ns φ.length) kvs
    exact ⟨by rw [m1]; exact f1.map_to fun v x _ rx => rr v x rx, by rw [m2]; exact e1⟩
  | ins C j fs =>
    obtain ⟨ws, dx, f1, j1, e1⟩ := ho
    obtain ⟨m1, m2⟩ := map_snd (Lv.ren ns φ.length) fs
    exact ⟨ws, dx, by rw [m1]; exact f1.map_to fun v x _ rx => rr v x rx, bck_r nd hlt j1, by rw [m2]; exact e1⟩
  | own j =>
    obtain ⟨x, j1, e1⟩ := ho
    exact ⟨x, bck_r nd hlt j1, e1⟩
  | box _ => exact ho.elim
  | pool _ _ => exact ho.elim
theorem renO_is {ns : List Nat} {L : Nat} {o : LO} : (renO ns L o).is = o.is ∧ (renO ns L o).smp = o.smp := by cases o <;> exact ⟨rfl, rfl⟩
theorem Rc.ren {K : Fr} {B H : Hp} {φ φ' : Fi} {ns : List Nat} (nd : ns.Nodup) (hlt : ∀ n ∈ ns, n < φ.length) {c : Ce} {o : LO} (ho : Rc K B H φ' c o) : Rc K B H (bck φ ns φ') c (renO ns φ.length o) := by
  cases ho with
  | gone => exact .gone
  | sim h1 h2 h3 => exact .sim (by rw [renO_is.2]; exact h1) h2 (h3.ren nd hlt)
  | box ψ h1 h2 h3 h4 => exact .box ψ h1 h2 h3 h4
  | pool h1 h2 h3 h4 => exact .pool h1 h2 (h3.shl h1) h4
/-- ahead of a call: the callee's places and store -/
theorem Re.fore {K : Fr} {M : MP} {H B Bc : Hp} {φ : Fi} {s : ST} {ns : List Nat} (re : Re K M H B φ s) (nd : ns.Nodup) (hlt : ∀ n ∈ ns, n < φ.length) (ex : Ex Bc H) {sc : ST} (l : sc.length = ns.length)
    (fr : ∀ n ∈ ns, ∀ c, φ[n]? = some c → ∀ a ∈ c.al, B a = none → Bc a = none) (ob : ∀ (k n : Nat) c o, ns[k]? = some n → φ[n]? = some c → sc[k]? = some o → ∃ o0, s[n]? = some o0 ∧ (o.is = true → o0.is = true) ∧ (Rc K B H φ c o0 → Rc K Bc H (selF φ ns) c o)) : Re K M0 H Bc (selF φ ns) sc := by
  refine ⟨ex, selF_nd hlt nd re.nd, by rw [selF_len, l], fun p hp => re.al p (selF_sub hlt p hp), fun k c o e1 e2 e3 a ha => ?_, fun k c o e1 e2 => ?_, fun _ _ _ _ => trivial⟩
  · obtain ⟨n, q1, q2⟩ := selF_inv hlt e1
    obtain ⟨o0, p1, p2, _⟩ := ob k n c o q1 q2 e2
    exact (re.fr n c o0 q2 p1 (p2 e3) a ha).imp (fr n (List.mem_of_getElem? q1) c q2 a ha) id
  · obtain ⟨n, q1, q2⟩ := selF_inv hlt e1
    obtain ⟨o0, p1, p2, p3⟩ := ob k n c o q1 q2 e2
    exact p3 (re.ob n c o0 q2 p1)
theorem Rs.toC {K : Fr} {B : Hp} {φ : Fi} {ns : List Nat} (hlt : ∀ n ∈ ns, n < φ.length) {v : V} {x : SV} (r : Rs K B φ v x) (h : ∀ n, x = .l n → n ∈ ns) : Rs K B (selF φ ns) v (Lv.toC ns x) := by
  cases x with
  | d t => exact r
  | l n =>
    obtain ⟨p, e1, rfl⟩ := r
    have hm : n ∈ ns := h n rfl
    have hk : ns[ns.idxOf n]? = some n := by
      rw [List.getElem?_eq_getElem (List.idxOf_lt_length_of_mem hm)]
      exact congrArg some (List.getElem_idxOf (List.idxOf_lt_length_of_mem hm))
    exact ⟨p, by unfold Fi.r at e1 ⊢; rw [selF_at hlt hk]; exact e1, rfl⟩
theorem bck_st (s : ST) (ns : List Nat) (f : LO → LO) (s2 : ST) : putAll s ns (s2.map f) ++ (s2.drop ns.length).map f = bck s ns (s2.map f) := by unfold bck; rw [List.map_drop]
theorem lift_fn {K : Fr} {M : MP} {H B : Hp} {φ : Fi} {s : ST} {vs : List V} {xs : List SV} {Q : SV → ST → Prop} {Q' : VK} {E : XK} {sp : ASp} (re : Re K M H B φ s) (r : RsAll K B φ vs xs)
    (h1 : ((argL xs).all fun n => match s[n]? with | some o => simO o | none => false) = true)
    (h2 : sp (xs.map (toC (argL xs))) ((argL xs).map fun n => (s[n]?).getD .gone) fun r s2 => Q (ren (argL xs) s.length r) (putAll s (argL xs) (s2.map (renO (argL xs) s.length)) ++ (s2.drop (argL xs).length).map (renO (argL xs) s.length)))
    (f : FinE K M H B φ Q Q') : toSp K sp vs H Q' E := by
  generalize hns : argL xs = ns at h1 h2
  have nd : ns.Nodup := by rw [← hns]; exact argL_nd xs
  have hat : ∀ n ∈ ns, ∃ o, s[n]? = some o ∧ simO o = true := fun n hn => by
    have := List.all_eq_true.mp h1 n hn
    cases hs : s[n]? with
    | none => rw [hs] at this; cases this
    | some o => rw [hs] at this; exact ⟨o, rfl, this⟩
  have hlt : ∀ n ∈ ns, n < φ.length := fun n hn => by
    obtain ⟨o, ho, _⟩ := hat n hn
    rw [re.len]; exact (List.getElem?_eq_some_iff.mp ho).1
  have rec_ : Re K M0 H B (selF φ ns) (ns.map fun n => (s[n]?).getD .gone) := by
    refine re.fore nd hlt re.ex (List.length_map ..) (fun _ _ _ _ _ _ h => h) fun k n c o q1 q2 q3 => ?_
    obtain ⟨o', ho', so'⟩ := hat n (List.mem_of_getElem? q1)
    rw [List.getElem?_map, q1] at q3
    have q3 : (s[n]?).getD .gone = o := by simpa using q3
    rw [ho'] at q3
    cases q3
    exact ⟨_, ho', id, fun h => h.sim_ so'⟩
  have rsc : RsAll K B (selF φ ns) vs (xs.map (toC ns)) := r.map_to fun v x hx rx => rx.toC hlt fun n e => by rw [← hns]; exact argL_mem (e ▸ hx)
  refine ⟨B, selF φ ns, _, _, _, rec_, rsc, h2, fun H' B' φ' s' v x g re' r' q' => ?_⟩
  have hL : φ.length = s.length := re.len
  rw [bck_st, ← hL] at q'
  obtain ⟨g2, re2⟩ := re.back nd hlt re' g.pf g.kp g.nf g.eb re'.ex g.nb (fun _ h => h) (s2 := s'.map (renO ns φ.length)) (List.length_map ..) fun k o' h => by
    rw [List.getElem?_map] at h
    obtain ⟨o, h1, rfl⟩ := Option.map_eq_some_iff.mp h
    exact ⟨o, h1, fun w => by rw [renO_is.1] at w; exact w, fun c _ hc => hc.ren nd hlt⟩
  exact f _ _ _ _ _ _ g2 re2 (r'.ren nd hlt) q'
section
variable {X : Cx} {M : MP} {e : Expr} {es : List Expr} {pos p : Pos}
theorem ae_fn {k : Nat} {f : Addr} {fd : FuncData} {ps : List Str} {sp : ASp} {x : Str} {t : ATA} (F : FnG X.prog X.w X.K X.mg X.base k f fd ps (toSp X.K sp)) (hr : RoomG k X.A) (hm : X.mg x = some (.ref f)) (hk : PySem.W.keepIn X.K (.ref f) = true) (hb : Binds X.K fd ps []) (ha : AA X M (e :: es) t)
    (hg : Gl X x := by rfl) (hdb : (x == ("__debug__" : Str)) = false := by decide) (he : starEach (e :: es) X.env = (false, eval e X.env) :: starEach es X.env := by rfl) (hpl : (backTo pos (starEach es X.env)).any (·.1) = false := by rfl) :
    AE X M (.Call (.Name x p) (e :: es) [] pos) (aFn sp t) :=
  .of (pe_callG F hr hg hm hk hb ha.pa hdb he hpl) fun H B φ σ δ s Q re sl q Q' f => uA_lift (t := t) H B φ σ δ s _ re sl q _ fun H1 B1 φ1 s1 vs xs g1 re1 r1 ⟨h1, h2⟩ => by
    exact lift_fn re1 r1 h1 h2 (f.grow g1)
end
/-- a weaker promise -/
theorem toSp_imp {K : Fr} {sp sp' : ASp} (h : ∀ vs s Q, sp' vs s Q → sp vs s Q) : ∀ vs H Q E, toSp K sp' vs H Q E → toSp K sp vs H Q E := fun vs H Q E ⟨B, φ, s, svs, Qa, re, r, h1, h2⟩ => ⟨B, φ, s, svs, Qa, re, r, h _ _ _ h1, h2⟩
end Lv

/-! Lv9: xs[i] op= e of lists, the end of a law. -/
namespace Lv
open PySem L2 LvI
section
variable {X : Cx} {M : MP} {e o i : Expr} {pos : Pos} {vo vi ve : ATE}
/-- l[i] op= e of ints, l a list of the store -/
def pAugL (f : Int → Int → Int) (vo vi ve : ATE) : ATS := fun A δ s => vo δ s fun o s1 => vi δ s1 fun i s2 => match o, i with
  | .l n, .d (.int k) => ∃ ts j c, s2[n]? = some (.lst ts) ∧ ixN ts.length k = some j ∧ ts[j]? = some (.int c) ∧ ve δ s2 fun y s3 => match y with
    | .d (.int d) => s3[n]? = some (.lst ts) ∧ A.nx δ (s3.set n (.lst (ts.set j (.int (f c d)))))
    | _ => False
  | _, _ => False
end
/-- a law's promise: a script of at most 63 numbers -/
def spLawA : ASp := fun vs s Q => ∃ ns : List Int, vs = [.d (.scr (ns.map T.int))] ∧ ns.length ≤ 63 ∧ s = [] ∧ ∀ s', Q (.d (.bl true)) s'
theorem re_start {K : Fr} {H : Hp} : Re K M0 H H [] [] := by
  refine ⟨fun _ _ h => h, List.nodup_nil, rfl, fun p hp => (nomatch hp), fun n p o e => by simp at e, fun n p o e => by simp at e, fun _ _ _ _ => trivial⟩
theorem law_start {K : Fr} {H : Hp} {a : Addr} {ns : List Int} (h : SqL K H a (ns.map V.int)) (hl : ns.length ≤ 63) {E : XK} : toSp K spLawA [.ref a] H (fun v _ => v = .bl true) E := by
  refine ⟨H, [], [], _, fun v _ => v = .d (.bl true), re_start, .cons (.dat (.scr h (FzAll.ints ns))) .nil, ⟨ns, rfl, hl, rfl, fun _ => rfl⟩, fun H' B' φ' s' v x g re r q => ?_⟩
  subst q
  exact bl_of r
end Lv

/-! Lv10: bodies and blocks that leave no rest, defs by name. -/
namespace Lv
open PySem L2 LvI
/-- the value only, all that was made behind the first things forgotten but a fresh thing that is handed on -/
def ownC (k : Nat) (Q : SV → ST → Prop) : SV → ST → Prop := fun x s1 => (s1.take k).all (clO k) = true ∧ match x with
  | .d y => Q (.d y) (s1.take k)
  | .l n => (n < k → Q (.l n) (s1.take k)) ∧ (k ≤ n → ∃ o, s1[n]? = some o ∧ simO o = true ∧ Q (.l k) (s1.take k ++ [o]))
section
variable {K : Fr} {M : MP} {H B : Hp} {φ : Fi} {s : ST} {Q : SV → ST → Prop} {Q' : VK}
theorem fin_own (re : Re K M H B φ s) (f : FinE K M H B φ Q Q') : FinE K M H B φ (ownC s.length Q) Q' := fun H1 B1 φ1 s1 v x g1 re1 r1 q1 => by
  obtain ⟨c, q1⟩ := q1
  have hk : φ.length ≤ s.length := Nat.le_of_eq re.len
  have hk2 : s.length ≤ φ1.length := by rw [← re.len]; exact g1.le
  cases x with
  | d y =>
    obtain ⟨g2, re2⟩ := re1.take g1 re hk hk2 c
    exact f _ _ _ _ _ _ g2 re2 (.dat r1) q1
  | l n =>
    obtain ⟨p, hp, rfl⟩ := r1
    by_cases hn : n < s.length
    · obtain ⟨g2, re2⟩ := re1.take g1 re hk hk2 c
      exact f _ _ _ _ _ _ g2 re2 (.loc (r_take hp hn)) (q1.1 hn)
    have hn : s.length ≤ n := by omega
    obtain ⟨o, hx, hs, q1⟩ := q1.2 hn
    obtain ⟨d, hd, rfl⟩ := Fi.r_inv hp
    obtain ⟨g3, re3⟩ := re1.pick g1 re hk hk2 c hn hd hx ((re1.ob n d o hd hx).sim_ hs)
    refine f _ _ _ _ _ _ g3 re3 (.loc (Fi.r_of (c := d) ?_)) q1
    rw [List.getElem?_append_right (by rw [List.length_take]; omega), List.length_take, Nat.min_eq_left hk2, Nat.sub_self]; rfl
/-- a slot of things that stay -/
def lowS (k : Nat) : Option SV → Option SV
  | some (.l n) => if n < k then some (.l n) else none
  | x => x
def endC (k : Nat) (Q : AS → ST → Prop) : AS → ST → Prop := fun δ s1 => (s1.take k).all (clO k) = true ∧ Q (δ.map (lowS k)) (s1.take k)
theorem Rsl.low {B : Hp} {φ1 : Fi} {σ : St} {δ : AS} {k : Nat} (h : Rsl K B φ1 σ δ) : Rsl K B (φ1.take k) σ (δ.map (lowS k)) := by
  refine ⟨by rw [List.length_map]; exact h.len, fun i x hx => ?_⟩
  rw [List.getElem?_map] at hx
  cases hd : δ[i]? with
  | none => rw [hd] at hx; cases hx
  | some o =>
    rw [hd] at hx
    have hx : lowS k o = some x := Option.some.inj hx
    cases o with
    | none => cases hx
    | some y =>
      obtain ⟨v, e1, e2⟩ := h.at_ i y hd
      cases y with
      | d t => cases hx; exact ⟨v, e1, e2⟩
      | l n =>
        have hx : (if n < k then some (SV.l n) else none) = some x := hx
        by_cases hn : n < k
        · rw [if_pos hn] at hx
          cases hx
          obtain ⟨p, e3, e4⟩ := e2
          exact ⟨v, e1, p, r_take e3 hn, e4⟩
        · rw [if_neg hn] at hx; cases hx
theorem Rsl.wipeA {B : Hp} {φ : Fi} {σ : St} {δ : AS} (h : Rsl K B φ σ δ) (vs : List Nat) : Rsl K B φ σ (wipeA δ vs) := by
  refine h.weak (wipeA_length δ vs) ?_
  induction vs with
  | nil => exact fun i x e => e
  | cons v vs ih =>
    intro i x e
    unfold Lv.wipeA at e
    by_cases hi : v = i
    · subst hi
      rw [List.getElem?_set] at e
      simp at e
    · rw [List.getElem?_set_ne hi] at e
      exact ih i x e
/-- and slots forgotten -/
def endW (k : Nat) (vs : List Nat) (Q : AS → ST → Prop) : AS → ST → Prop := fun δ s1 => (s1.take k).all (clO k) = true ∧ Q (wipeA (δ.map (lowS k)) vs) (s1.take k)
theorem fin_blk {Q : AS → ST → Prop} {Q' : St → Hp → Prop} (re : Re K M H B φ s) (f : FinG K M H B φ Q Q') : FinG K M H B φ (endC s.length Q) Q' := fun H1 B1 φ1 s1 σ δ g1 re1 sl ⟨c, q1⟩ => by
  obtain ⟨g2, re2⟩ := re1.take g1 re (Nat.le_of_eq re.len) (by rw [← re.len]; exact g1.le) c
  exact f _ _ _ _ _ _ g2 re2 sl.low q1
end
section
variable {K : Fr} {M : MP} {H B : Hp} {φ : Fi} {s : ST}
theorem fin_wip {vs : List Nat} {Q : AS → ST → Prop} {Q' : St → Hp → Prop} (f : FinG K M H B φ Q Q') : FinG K M H B φ (fun δ s1 => Q (wipeA δ vs) s1) Q' := fun H1 B1 φ1 s1 σ δ g1 re1 sl q1 => f _ _ _ _ _ _ g1 re1 (sl.wipeA vs) q1
end
section
variable {X : Cx} {M : MP} {st : List Stmt} {t : ATS} {e : Expr} {va : ATE}
/-- a value whose rests are forgotten -/
def aFr (t : ATE) : ATE := fun δ s Q => t δ s (ownC s.length Q)
theorem lift_fr {K : Fr} {te : TE} {t : ATE} (l : LiftE K M te t) : LiftE K M te (aFr t) := fun H B φ σ δ s Q re sl q Q' f => l H B φ σ δ s _ re sl q _ (fin_own re f)
theorem ae_fr (ha : AE X M e va) : AE X M e (aFr va) := .of ha.pe (lift_fr uE_lift)
/-- a test whose rests are forgotten -/
def aFrT (t : ATT) : ATT := fun δ s Q => t δ s fun b s1 => (s1.take s.length).all (clO s.length) = true ∧ Q b (s1.take s.length)
/-- a block of a loop: what it makes is forgotten at its end -/
def pBlk (vs : List Nat) (t : ATS) : ATS := fun A δ s => t { nx := endW s.length vs A.nx, rt := A.rt, bk := endW s.length vs A.bk, ct := endW s.length vs A.ct } δ s
theorem ap_blk (vs : List Nat) (h : APs X M st t) : APs X M st (pBlk vs t) := ⟨_, h.pss, fun H B φ σ δ s A re sl q D f => uS_lift (t := t) H B φ σ δ s _ re sl q _ ⟨fin_blk re (fin_wip f.nx), f.rt, fin_blk re (fin_wip f.bk), fin_blk re (fin_wip f.ct)⟩⟩
/-- a def's body: what it makes is forgotten but what it hands back -/
def pBody (t : ATS) : ATS := fun A δ s => t { nx := endC s.length A.nx, rt := ownC s.length A.rt } δ s
theorem ap_body (h : APs X M st t) : APs X M st (pBody t) := ⟨_, h.pss, fun H B φ σ δ s A re sl q D f => uS_lift (t := t) H B φ σ δ s _ re sl q _ ⟨fin_blk re f.nx, fin_own re f.rt, fun _ _ _ _ _ _ _ _ _ z => z.elim, fun _ _ _ _ _ _ _ _ _ z => z.elim⟩⟩
end

/-! ### defs by name -/
def BindA (fd : FuncData) (ps : List Str) : Prop := ∀ us : List Value, us.length = ps.length → bindArgs fd ⟨us, []⟩ = pure (ps.zip us)
/-- x stands in the program: its def, as written -/
structure Df (K : Fr) (mg : Str → Option Value) (x qual : Str) (st : Stmt) (ps : List Str) : Prop where
  ex : ∃ f fd, Fun K x qual st f fd ∧ mg x = some (.ref f) ∧ PySem.W.keepIn K (.ref f) = true ∧ BindA fd ps
/-- x keeps its promise -/
structure Cal (P : Program) (w : World) (K : Fr) (mg : Str → Option Value) (base : Heap) (k : Nat) (x : Str) (ps : List Str) (sp : ASp) : Prop where
  ex : ∃ f fd, FnG P w K mg base k f fd ps (toSp K sp) ∧ mg x = some (.ref f) ∧ PySem.W.keepIn K (.ref f) = true ∧ BindA fd ps
section
variable {P : Program} {w : World} {K : Fr} {mg : Str → Option Value} {base : Heap}
theorem fn_body {f : Addr} {fd : FuncData} {x qual : Str} {st : Stmt} {ps : List Str} {k : Nat} {sp : ASp} (F : Fun K x qual st f fd) {N : List Str} (S : FnScope N ps (defScope st)) (len : ∀ vs s Q, sp vs s Q → vs.length = ps.length)
    (hbody : ∀ (f : Addr) (cdv : Value) (A : Around) (outer : List Env) (s : Shared) (H : Hp) (E : XK), RoomG k (A.deeper (PyProof.Rows.envOfC qual (defScope st) s.heap.objs.size f cdv)) →
      ∃ t, APs (cxOf (L2.CX P w) P w K mg base N qual (defScope st) f cdv A outer s H E).nox M0 (defBody st) t ∧ ∀ (svs : List SV) (s0 : ST) (Q : SV → ST → Prop), sp svs s0 Q → pBody t { nx := fun _ s' => Q (.d .non) s', rt := Q } (slots N svs) s0) : FnG P w K mg base (k + 1) f fd ps (toSp K sp) :=
  fn_lv F S len fun cdv A outer s H E hr svs s0 Q h => by
    obtain ⟨t, p, q⟩ := hbody f cdv A outer s H E hr
    exact ⟨_, ap_body p, q svs s0 Q h⟩
theorem Df.cal {x qual : Str} {st : Stmt} {ps : List Str} {k : Nat} {sp : ASp} (D : Df K mg x qual st ps) {N : List Str} (S : FnScope N ps (defScope st)) (len : ∀ vs s Q, sp vs s Q → vs.length = ps.length)
    (hbody : ∀ (f : Addr) (cdv : Value) (A : Around) (outer : List Env) (s : Shared) (H : Hp) (E : XK), RoomG k (A.deeper (PyProof.Rows.envOfC qual (defScope st) s.heap.objs.size f cdv)) →
      ∃ t, APs (cxOf (L2.CX P w) P w K mg base N qual (defScope st) f cdv A outer s H E).nox M0 (defBody st) t ∧ ∀ (svs : List SV) (s0 : ST) (Q : SV → ST → Prop), sp svs s0 Q → pBody t { nx := fun _ s' => Q (.d .non) s', rt := Q } (slots N svs) s0) : Cal P w K mg base (k + 1) x ps sp := by
  obtain ⟨f, fd, F, h1, h2, h3⟩ := D.ex
  exact ⟨f, fd, fn_body F S len hbody, h1, h2, h3⟩
theorem Cal.imp {k : Nat} {x : Str} {ps : List Str} {sp sp' : ASp} (C : Cal P w K mg base k x ps sp) (h : ∀ vs s Q, sp' vs s Q → sp vs s Q) : Cal P w K mg base k x ps sp' := by
  obtain ⟨f, fd, F, h1, h2, h3⟩ := C.ex
  exact ⟨f, fd, F.imp (toSp_imp h), h1, h2, h3⟩
end
section
variable {X : Cx} {M : MP} {e : Expr} {es : List Expr} {pos p : Pos}
theorem ae_cal {k : Nat} {ps : List Str} {sp : ASp} {x : Str} {t : ATA} (C : Cal X.prog X.w X.K X.mg X.base k x ps sp) (hr : RoomG k X.A) (ha : AA X M (e :: es) t)
    (hg : Gl X x := by rfl) (hdb : (x == ("__debug__" : Str)) = false := by decide) (he : starEach (e :: es) X.env = (false, eval e X.env) :: starEach es X.env := by rfl) (hpl : (backTo pos (starEach es X.env)).any (·.1) = false := by rfl) :
    AE X M (.Call (.Name x p) (e :: es) [] pos) (aFn sp t) := by
  obtain ⟨f, fd, F, h1, h2, h3⟩ := C.ex
  exact ae_fn F hr h1 h2 (.all h3) ha hg hdb he hpl
end
/-- what the top has written of a def -/
structure Wr (K : Fr) (x qual : Str) (st : Stmt) : Prop where
  ex : ∃ (f : Addr) (od an : Option Addr) (oc kV dc pm cd ct : Value) (sl : Array (Option Value)), PySem.W.nsIn K mainGlobals x = some (some (.ref f)) ∧
    K.lookup f = some ⟨oc, od, .func (PySem.W.fnOf x qual (defArgs st) (defBody st) (defScope st) .none kV dc pm an cd ct), sl⟩ ∧ PySem.W.codeIn K cd qual = true ∧ PySem.W.keepIn K (.ref f) = true
theorem Wr.df {K : Fr} {h : Heap} {mg : Str → Option Value} {x qual : Str} {st : Stmt} {ps : List Str} (W : Wr K x qual st) (X : K.In h) (G : h.Ns mainGlobals mg)
    (hb : ∀ (kV doc pm : Value) (an : Option Addr) (cdv ct : Value) (us : List Value), us.length = ps.length → bindArgs (PySem.W.fnOf x qual (defArgs st) (defBody st) (defScope st) .none kV doc pm an cdv ct) ⟨us, []⟩ = pure (ps.zip us)) : Df K mg x qual st ps := by
  obtain ⟨f, od, an, oc, kV, dc, pm, cd, ct, sl, h1, h2, h3, h4⟩ := W.ex
  have F := fun_mk (st := st) h2 h3 h4
  exact ⟨f, _, F, PySem.W.mg_of X G h1, h4, fun us hl => hb _ _ _ _ _ _ us hl⟩
theorem law_end {l : PySem.W.OpenLaw} {q : Program} {loose : List Str} {XP : (Str → Option Value) → Heap → Prop} {YP : World → Heap → Prop} {d : DefRec} {K : Params → Fr} {k : Nat} {x : Str} (hn : l.most = some 63) (hdf : d.params.defaults = []) (hr : Room k callerA)
    (hY : ∀ (w : World) (h : Heap), YP w h → (K w.params).In h)
    (F : ∀ (w : World) (mg : Str → Option Value) (h : Heap), (K w.params).In h → h.Ns mainGlobals mg → ∃ (f : Addr) (fd : FuncData), mg d.name = some (.ref f) ∧ BindA fd [x] ∧ ∀ base : Heap, (K w.params).In base → base.Ns mainGlobals mg → FnG l.prog w (K w.params) mg base k f fd [x] (toSp (K w.params) spLawA)) :
    PySem.W.WalkO q loose XP YP l.row.toRowW d [] (fun f vs => PySem.call f vs) := by
  refine walk_G (n := 63) (k := k) (x := x) (K := K) (sp := fun w => toSp (K w.params) spLawA) hn (by decide) hdf hr hY (fun w mg fa h X G hfa => ?_) fun w H a ns hl _ hS => law_start hS hl
  obtain ⟨f, fd, e, b, C⟩ := F w mg h X G
  have e := hfa.symm.trans e
  cases e
  exact ⟨fd, fun s u => .of_eq (b [u] rfl), C⟩
end Lv

/-! Lv11: readings of loops by an invariant over a state of one's own. -/
namespace Lv
open PySem L2 LvI
/-- what follows, shut to simp -/
structure Lk {α : Type} (a : α) : Type where
  mk ::
/-- a call, as it stands: only its places are looked at by simp -/
def callK (sp : ASp) (Q : SV → ST → Prop) (_ : Lk Q) (xs : List SV) (s1 : ST) : Prop :=
  ((argL xs).all fun n => match s1[n]? with | some o => simO o | none => false) = true ∧
    sp (xs.map (toC (argL xs))) ((argL xs).map fun n => (s1[n]?).getD .gone) fun r s2 => Q (ren (argL xs) s1.length r) (putAll s1 (argL xs) (s2.map (renO (argL xs) s1.length)) ++ (s2.drop (argL xs).length).map (renO (argL xs) s1.length))
theorem aFn_eq (sp : ASp) (t : ATA) (δ : AS) (s : ST) (Q : SV → ST → Prop) : aFn sp t δ s Q = t δ s fun xs s1 => callK sp Q .mk xs s1 := rfl
theorem callK_of {sp : ASp} {xs : List SV} {s : ST} {Q : SV → ST → Prop} {l : Lk Q} {ns : List Nat} (e : argL xs = ns) (h1 : (ns.all fun n => match s[n]? with | some o => simO o | none => false) = true)
    (h2 : sp (xs.map (toC ns)) (ns.map fun n => (s[n]?).getD .gone) fun r s2 => Q (ren ns s.length r) (putAll s ns (s2.map (renO ns s.length)) ++ (s2.drop ns.length).map (renO ns s.length))) : callK sp Q l xs s := by
  subst e; exact ⟨h1, h2⟩
def forK (ti : ATI) (g : ATG) (tb : ATS) (A : AEnds) (_ : Lk (ti, g, tb, A)) (δ : AS) (s : ST) : Prop := pFor ti g tb A δ s
theorem pFor_eq (ti : ATI) (g : ATG) (tb : ATS) (A : AEnds) (δ : AS) (s : ST) : pFor ti g tb A δ s = forK ti g tb A .mk δ s := rfl
def whileK (tc : ATT) (tb : ATS) (A : AEnds) (_ : Lk (tc, tb, A)) (δ : AS) (s : ST) : Prop := pWhile tc tb A δ s
theorem pWhile_eq (tc : ATT) (tb : ATS) (A : AEnds) (δ : AS) (s : ST) : pWhile tc tb A δ s = whileK tc tb A .mk δ s := rfl
def lcK (ti : ATI) (g : ATG) (tt : ATT) (te : ATE) (Q : List T → ST → Prop) (_ : Lk (ti, g, tt, te, Q)) (vs : List Nat) (δ : AS) (s : ST) : Prop := aLcI ti g tt te vs δ s Q
theorem aLcI_eq (ti : ATI) (g : ATG) (tt : ATT) (te : ATE) (Q : List T → ST → Prop) (vs : List Nat) (δ : AS) (s : ST) : aLcI ti g tt te vs δ s Q = lcK ti g tt te Q .mk vs δ s := rfl
theorem pFor_of {ti : ATI} {g : ATG} {tb : ATS} {A : AEnds} {l : Lk (ti, g, tb, A)} {δ : AS} {s : ST} {Z : Type} (items : List T) (inv : Nat → Z → Prop) (dl : Z → AS) (so : Z → ST)
    (h1 : ∀ Q' : List T → (ST → Prop) → ST → Prop, (∀ grd : ST → Prop, (∀ i z, inv i z → grd (so z)) → Q' items grd s) → ti δ s Q') (h0 : ∃ z, inv 0 z ∧ δ = dl z ∧ s = so z)
    (hs : ∀ i x z, items[i]? = some x → inv i z → ∀ C : AS → ST → Prop, (∀ z', inv (i + 1) z' → C (dl z') (so z')) → ∀ (B : AS → ST → Prop) (R : SV → ST → Prop), (∀ δ s, A.nx δ s → B δ s) → (∀ x s, A.rt x s → R x s) → g (.d x) (dl z) (so z) fun δ2 s2 => tb { nx := C, rt := R, bk := B, ct := C } δ2 s2)
    (hd : ∀ z, inv items.length z → A.nx (dl z) (so z)) : forK ti g tb A l δ s := by
  unfold forK pFor
  refine h1 _ fun grd hg => ⟨fun i δ' s' => ∃ z, inv i z ∧ δ' = dl z ∧ s' = so z, h0, ?_, ?_, ?_⟩
  · rintro i δ' s' ⟨z, hz, rfl, rfl⟩; exact hg i z hz
  · rintro i x δ' s' hx ⟨z, hz, rfl, rfl⟩
    exact hs i x z hx hz _ (fun z' hz' => ⟨z', hz', rfl, rfl⟩) A.nx A.rt (fun _ _ h => h) fun _ _ h => h
  · rintro δ' s' ⟨z, hz, rfl, rfl⟩; exact hd z hz
/-- a loop whose items are told -/
def forI (g : ATG) (tb : ATS) (A : AEnds) (_ : Lk (g, tb, A)) (items : List T) (grd : ST → Prop) (δ : AS) (s1 : ST) : Prop := pFor (fun _ s Q => Q items grd s) g tb A δ s1
theorem forK_in {ti : ATI} {g : ATG} {tb : ATS} {A : AEnds} {l : Lk (ti, g, tb, A)} {δ : AS} {s : ST} (h : ti δ s fun items grd s1 => forI g tb A .mk items grd δ s1) : forK ti g tb A l δ s := h
theorem forI_of {g : ATG} {tb : ATS} {A : AEnds} {l : Lk (g, tb, A)} {items : List T} {grd : ST → Prop} {δ : AS} {s : ST} {Z : Type} (inv : Nat → Z → Prop) (dl : Z → AS) (so : Z → ST)
    (h1 : ∀ i z, inv i z → grd (so z)) (h0 : ∃ z, inv 0 z ∧ δ = dl z ∧ s = so z)
    (hs : ∀ i x z, items[i]? = some x → inv i z → ∀ C : AS → ST → Prop, (∀ z', inv (i + 1) z' → C (dl z') (so z')) → ∀ (B : AS → ST → Prop) (R : SV → ST → Prop), (∀ δ s, A.nx δ s → B δ s) → (∀ x s, A.rt x s → R x s) → g (.d x) (dl z) (so z) fun δ2 s2 => tb { nx := C, rt := R, bk := B, ct := C } δ2 s2)
    (hd : ∀ z, inv items.length z → A.nx (dl z) (so z)) : forI g tb A l items grd δ s :=
  pFor_of (l := .mk) items inv dl so (fun Q' h => h grd h1) h0 hs hd
theorem pWhile_of {tc : ATT} {tb : ATS} {A : AEnds} {l : Lk (tc, tb, A)} {δ : AS} {s : ST} {Z : Type} (inv : Nat → Z → Prop) (dl : Z → AS) (so : Z → ST) (h0 : ∃ m z, inv m z ∧ δ = dl z ∧ s = so z)
    (hs : ∀ m z, inv m z → ∀ C : AS → ST → Prop, (∀ m' z', m' < m → inv m' z' → C (dl z') (so z')) → ∀ (B : AS → ST → Prop) (R : SV → ST → Prop), (∀ δ s, A.nx δ s → B δ s) → (∀ x s, A.rt x s → R x s) → tc (dl z) (so z) fun b s1 => (b = true → tb { nx := C, rt := R, bk := B, ct := C } (dl z) s1) ∧ (b = false → B (dl z) s1)) : whileK tc tb A l δ s := by
  unfold whileK pWhile
  obtain ⟨m, z, hz, e1, e2⟩ := h0
  refine ⟨fun i δ' s' => ∃ z, inv i z ∧ δ' = dl z ∧ s' = so z, ⟨m, z, hz, e1, e2⟩, ?_⟩
  rintro i δ' s' ⟨z, hz, rfl, rfl⟩
  exact hs i z hz _ (fun m' z' hm hz' => ⟨m', hm, z', hz', rfl, rfl⟩) A.nx A.rt (fun _ _ h => h) fun _ _ h => h
theorem lcI_of {ti : ATI} {g : ATG} {tt : ATT} {te : ATE} {vs : List Nat} {δ : AS} {s : ST} {Q : List T → ST → Prop} {l : Lk (ti, g, tt, te, Q)} {Z : Type} (items : List T) (inv : Nat → List T → Z → Prop) (so : Z → ST)
    (h1 : ∀ Q' : List T → (ST → Prop) → ST → Prop, (∀ grd : ST → Prop, (∀ i acc z, inv i acc z → grd (so z)) → Q' items grd s) → ti δ s Q') (h0 : ∃ z, inv 0 [] z ∧ s = so z)
    (hs : ∀ i x acc z, items[i]? = some x → inv i acc z → ∀ C : List T → ST → Prop, (∀ acc' z', inv (i + 1) acc' z' → C acc' (so z')) → g (.d x) (wipeA δ vs) (so z) fun δ2 s2 => tt δ2 s2 fun b s3 => (b = true → te δ2 s3 fun y s4 => ∃ t, y = .d t ∧ acc.length < sizeLine ∧ C (acc ++ [t]) s4) ∧ (b = false → C acc s3))
    (hd : ∀ acc z, inv items.length acc z → Q acc (so z)) : lcK ti g tt te Q l vs δ s := by
  unfold lcK aLcI
  refine h1 _ fun grd hg => ⟨fun i acc s' => ∃ z, inv i acc z ∧ s' = so z, h0, ?_, ?_, ?_⟩
  · rintro i acc s' ⟨z, hz, rfl⟩; exact hg i acc z hz
  · rintro i x acc s' hx ⟨z, hz, rfl⟩
    exact hs i x acc z hx hz (fun acc' s' => ∃ z, inv (i + 1) acc' z ∧ s' = so z) fun acc' z' hz' => ⟨z', hz', rfl⟩
  · rintro acc s' ⟨z, hz, rfl⟩; exact hd acc z hz
/-- a comprehension that changes nothing -/
theorem lcI_pure {ti : ATI} {g : ATG} {tt : ATT} {te : ATE} {vs : List Nat} {δ : AS} {s : ST} {Q : List T → ST → Prop} {l : Lk (ti, g, tt, te, Q)} (items : List T) (fB : T → Bool) (fE : T → T) (hsz : items.length < sizeLine)
    (h1 : ∀ Q' : List T → (ST → Prop) → ST → Prop, (∀ grd : ST → Prop, grd s → Q' items grd s) → ti δ s Q')
    (hs : ∀ (i : Nat) x, items[i]? = some x → ∀ (acc : List T) (C : List T → ST → Prop), acc.length < sizeLine → (fB x = true → C (acc ++ [fE x]) s) → (fB x = false → C acc s) → g (.d x) (wipeA δ vs) s fun δ2 s2 => tt δ2 s2 fun b s3 => (b = true → te δ2 s3 fun y s4 => ∃ t, y = .d t ∧ acc.length < sizeLine ∧ C (acc ++ [t]) s4) ∧ (b = false → C acc s3))
    (hd : Q ((items.filter fB).map fE) s) : lcK ti g tt te Q l vs δ s := by
  have hlen : ∀ i, i ≤ items.length → (((items.take i).filter fB).map fE).length < sizeLine := fun i hi => by
    rw [List.length_map]
    refine Nat.lt_of_le_of_lt (List.length_filter_le _ _) ?_
    rw [List.length_take]; omega
  refine lcI_of items (fun i acc (_ : Unit) => acc = ((items.take i).filter fB).map fE) (fun _ => s) (fun Q' h => h1 Q' fun grd hg => h grd fun _ _ _ _ => hg) ⟨(), by simp, rfl⟩ ?_ ?_
  · rintro i x acc ⟨⟩ hx rfl C hC
    have hi := (List.getElem?_eq_some_iff.mp hx).1
    have e : ((items.take (i + 1)).filter fB).map fE = ((items.take i).filter fB).map fE ++ (if fB x then [fE x] else []) := by
      rw [List.take_succ, hx, List.filter_append, List.map_append]
      cases hb : fB x <;> simp [hb]
    refine hs i x hx _ C (hlen i (by omega)) (fun hb => hC _ () ?_) (fun hb => hC _ () ?_)
    · rw [e, hb]; rfl
    · rw [e, hb]; simp
  · rintro acc ⟨⟩ rfl
    rw [List.take_length]; exact hd
/-- a def that is never called -/
theorem Df.none {P : Program} {w : World} {K : Fr} {mg : Str → Option Value} {base : Heap} {x qual : Str} {st : Stmt} {ps : List Str} {k : Nat} {sp : ASp} (D : Df K mg x qual st ps) (h : ∀ vs s Q, ¬ sp vs s Q) : Cal P w K mg base k x ps sp := by
  obtain ⟨f, fd, F, h1, h2, h3⟩ := D.ex
  refine ⟨f, fd, ⟨fun vs H Q E q => ?_, fun A outer s H args us vs Q E _ _ _ _ q => ?_⟩, h1, h2, h3⟩
  · obtain ⟨_, _, _, _, _, _, _, q, _⟩ := q; exact absurd q (h _ _ _)
  · obtain ⟨_, _, _, _, _, _, _, q, _⟩ := q; exact absurd q (h _ _ _)
end Lv

/-! Lv12: data compared. -/
namespace Lv
open PySem L2 LvI
section
variable (u : ATGs) (a b c d : T) (δ : AS) (s : ST) (Q : AS → ST → Prop)
theorem aTupG_2 : aTupG 2 u (.d (.tup [a, b])) δ s Q = u [.d a, .d b] δ s Q := propext ⟨fun h => h.2, fun h => ⟨rfl, h⟩⟩
theorem aTupG_2l : aTupG 2 u (.d (.lst [a, b])) δ s Q = u [.d a, .d b] δ s Q := propext ⟨fun h => h.2, fun h => ⟨rfl, h⟩⟩
theorem aTupG_3 : aTupG 3 u (.d (.tup [a, b, c])) δ s Q = u [.d a, .d b, .d c] δ s Q := propext ⟨fun h => h.2, fun h => ⟨rfl, h⟩⟩
theorem aTupG_3l : aTupG 3 u (.d (.lst [a, b, c])) δ s Q = u [.d a, .d b, .d c] δ s Q := propext ⟨fun h => h.2, fun h => ⟨rfl, h⟩⟩
theorem aTupG_4 : aTupG 4 u (.d (.tup [a, b, c, d])) δ s Q = u [.d a, .d b, .d c, .d d] δ s Q := propext ⟨fun h => h.2, fun h => ⟨rfl, h⟩⟩
theorem agCons_c (t : ATG) (x : SV) (r : List SV) : agCons t u (x :: r) δ s Q = t x δ s fun δ' s' => u r δ' s' Q := rfl
theorem aTupG_l (n k : Nat) : aTupG n u (.l k) δ s Q = (match s[k]? with
    | some (.tp xs) => xs.length = n ∧ u xs δ s Q
    | some (.lst ts) => ts.length = n ∧ u (ts.map SV.d) δ s Q
    | _ => False) := rfl
end
mutual
/-- plain data, at most n deep -/
def T.ok : Nat → T → Bool
  | _, .non => true
  | _, .bl _ => true
  | _, .int _ => true
  | _, .str x => PyData.strOk x
  | n + 1, .lst xs => T.oks n xs
  | n + 1, .tup xs => T.oks n xs
  | _, _ => false
def T.oks : Nat → List T → Bool
  | _, [] => true
  | n, x :: r => T.ok n x && T.oks n r
end
mutual
theorem ok_py : ∀ (n : Nat) (t : T), T.ok n t = true → t.py.canLay0 = true ∧ t.py.depth ≤ n
  | n, .non, _ => by unfold T.py; exact ⟨rfl, Nat.zero_le _⟩
  | n, .bl _, _ => by unfold T.py; exact ⟨rfl, Nat.zero_le _⟩
  | n, .int _, _ => by unfold T.py; exact ⟨rfl, Nat.zero_le _⟩
  | n, .str x, h => by
    unfold T.ok at h; unfold T.py
    exact ⟨by unfold PyData.canLay0; exact h, Nat.zero_le _⟩
  | n + 1, .lst xs, h => by
    unfold T.ok at h; unfold T.py PyData.canLay0 PyData.depth
    obtain ⟨a, b⟩ := oks_py n xs h
    exact ⟨a, by omega⟩
  | n + 1, .tup xs, h => by
    unfold T.ok at h; unfold T.py PyData.canLay0 PyData.depth
    obtain ⟨a, b⟩ := oks_py n xs h
    exact ⟨a, by omega⟩
  | 0, .lst _, h => by unfold T.ok at h; cases h
  | 0, .tup _, h => by unfold T.ok at h; cases h
  | n, .scr _, h => by unfold T.ok at h; cases h
  | n, .ref _, h => by unfold T.ok at h; cases h
  | n, .ty _, h => by unfold T.ok at h; cases h
theorem oks_py : ∀ (n : Nat) (xs : List T), T.oks n xs = true → PyData.canLayAll0 (T.pys xs) = true ∧ PyData.depthAll (T.pys xs) ≤ n
  | n, [], _ => by unfold T.pys; exact ⟨rfl, Nat.zero_le _⟩
  | n, x :: r, h => by
    unfold T.oks at h
    rw [Bool.and_eq_true] at h
    obtain ⟨a, b⟩ := ok_py n x h.1
    obtain ⟨c, d⟩ := oks_py n r h.2
    unfold T.pys PyData.canLayAll0 PyData.depthAll
    exact ⟨by rw [a, c]; rfl, by omega⟩
end
theorem shaped_ok {n : Nat} {t : T} (h : T.ok n t = true) (hn : n ≤ 64 := by decide) : SeqAt.shaped t.py = true := by
  obtain ⟨a, b⟩ := ok_py n t h
  unfold SeqAt.shaped
  rw [a]
  exact decide_eq_true (by omega)
mutual
/-- no truths within: then == is = -/
def T.nb : T → Bool
  | .non => true
  | .int _ => true
  | .str _ => true
  | .lst xs => T.nbs xs
  | .tup xs => T.nbs xs
  | _ => false
def T.nbs : List T → Bool
  | [] => true
  | x :: r => T.nb x && T.nbs r
end
theorem pyV_d (s : ST) (t : T) : pyV s (.d t) = some t.py := rfl
theorem pyV_l (s : ST) (n : Nat) : pyV s (.l n) = match s[n]? with
    | some (.lst xs) => some (T.lst xs).py
    | some (.tp xs) => (optT (datF 4 s) xs).map fun ts => (T.tup ts).py
    | some (.ll xs) => (optT (datF 4 s) xs).map fun ts => (T.lst ts).py
    | _ => none := by
  show Option.map T.py (match s[n]? with
    | some (.lst xs) => some (T.lst xs)
    | some (.tp xs) => (optT (datF 4 s) xs).map T.tup
    | some (.ll xs) => (optT (datF 4 s) xs).map T.lst
    | _ => none) = _
  cases s[n]? with
  | none => rfl
  | some o => cases o <;> first | rfl | (dsimp only; rw [Option.map_map]; rfl)
def tysB : List T → Option (List String)
  | [] => some []
  | .ty b :: r => (tysB r).map (b :: ·)
  | _ => none
theorem tysB_some : ∀ {ts : List T} {bs : List String}, tysB ts = some bs → ts = bs.map T.ty
  | [], bs, h => by cases h; rfl
  | t :: r, bs, h => by
    cases t with
    | ty b =>
      unfold tysB at h
      cases hr : tysB r with
      | none => rw [hr] at h; cases h
      | some cs =>
        rw [hr] at h
        cases h
        rw [tysB_some hr]; rfl
    | _ => unfold tysB at h; cases h
theorem tysB_map : ∀ bs : List String, tysB (bs.map T.ty) = some bs
  | [] => rfl
  | b :: bs => by show (tysB (bs.map T.ty)).map (b :: ·) = _; rw [tysB_map bs]; rfl
/-- isinstance, reckoned out -/
def isiH : ARC := fun xs s Q => match xs with
  | [x, .d (.ty b)] => (match (tyN s x).bind fun a => kitB a b with
    | some r => Q (.d (.bl r)) s
    | none => False)
  | [x, .d (.tup ts)] => (match (tyN s x).bind fun a => (tysB ts).bind fun bs => kitsB a bs with
    | some r => Q (.d (.bl r)) s
    | none => False)
  | _ => False
theorem isiG_eq (xs : List SV) (s : ST) (Q : SV → ST → Prop) : isiG xs s Q = isiH xs s Q := by
  unfold isiG isiH
  split
  · rename_i x b
    (try dsimp only); apply propext
    constructor
    · rintro ⟨a, r, h1, h2, q⟩
      rw [h1]; show match kitB a b with | some r => _ | none => False
      rw [h2]; exact q
    · intro h
      cases h1 : tyN s x with
      | none => rw [h1] at h; exact h.elim
      | some a =>
        rw [h1] at h
        have h : (match kitB a b with | some r => Q (.d (.bl r)) s | none => False) := h
        cases h2 : kitB a b with
        | none => rw [h2] at h; exact h.elim
        | some r => rw [h2] at h; exact ⟨a, r, rfl, h2, h⟩
  · rename_i x ts
    (try dsimp only); apply propext
    constructor
    · rintro ⟨a, bs, r, h1, rfl, h2, q⟩
      rw [h1, tysB_map]; show match kitsB a bs with | some r => _ | none => False
      rw [h2]; exact q
    · intro h
      cases h1 : tyN s x with
      | none => rw [h1] at h; exact h.elim
      | some a =>
        rw [h1] at h
        cases h3 : tysB ts with
        | none => rw [h3] at h; exact h.elim
        | some bs =>
          rw [h3] at h
          have h : (match kitsB a bs with | some r => Q (.d (.bl r)) s | none => False) := h
          cases h2 : kitsB a bs with
          | none => rw [h2] at h; exact h.elim
          | some r => rw [h2] at h; exact ⟨a, bs, r, rfl, tysB_some h3, h2, h⟩
  · rename_i h1 h2
    first
    | rfl
    | (split
       · exact (h1 _ _ rfl).elim
       · exact (h2 _ _ rfl).elim
       · rfl)
mutual
/-- no long lists within -/
def T.sz : T → Bool
  | .lst xs => decide (xs.length ≤ 100000) && T.szs xs
  | .tup xs => decide (xs.length ≤ 100000) && T.szs xs
  | _ => true
def T.szs : List T → Bool
  | [] => true
  | x :: r => T.sz x && T.szs r
end
theorem sz_tab : 1 ≤ sizeLine ∧ 2 ≤ sizeLine ∧ 3 ≤ sizeLine ∧ 4 ≤ sizeLine ∧ 5 ≤ sizeLine ∧ 6 ≤ sizeLine ∧ 7 ≤ sizeLine ∧ 8 ≤ sizeLine ∧ 9 ≤ sizeLine ∧ 10 ≤ sizeLine ∧ 11 ≤ sizeLine ∧ 12 ≤ sizeLine := by decide
def wkH (s : ST) (x : SV) (Q : List T → Option Nat → Prop) : Prop := match wkV s x with
  | some (ts, g) => Q ts g
  | none => False
theorem wkH_of (s : ST) (x : SV) (Q : List T → Option Nat → Prop) : (∃ ts g, wkV s x = some (ts, g) ∧ Q ts g) = wkH s x Q := by
  unfold wkH
  apply propext
  cases wkV s x with
  | none => exact ⟨fun ⟨_, _, h, _⟩ => (by cases h), fun (h : False) => h.elim⟩
  | some p => exact ⟨fun ⟨_, _, h, q⟩ => (by cases h; exact q), fun q => ⟨_, _, rfl, q⟩⟩
theorem aSeq_eq (t : ATE) (δ : AS) (s : ST) (Q : List T → (ST → Prop) → ST → Prop) : aSeq t δ s Q = t δ s fun x s1 => wkH s1 x fun ts g => Q ts (grd ts g) s1 := by
  unfold aSeq
  congr 1; funext x s1; exact wkH_of ..
theorem aEnm_eq (t : ATE) (δ : AS) (s : ST) (Q : List T → (ST → Prop) → ST → Prop) : aEnm t δ s Q = t δ s fun x s1 => wkH s1 x fun ts g => Q (enT ts) (grd ts g) s1 := by
  unfold aEnm
  congr 1; funext x s1; exact wkH_of ..
theorem aZip_eq (t u : ATE) (δ : AS) (s : ST) (Q : List T → (ST → Prop) → ST → Prop) : aZip t u δ s Q = t δ s fun x s1 => u δ s1 fun y s2 => wkH s2 x fun ts g => wkH s2 y fun us g' => Q (zpT ts us) (fun s => grd ts g s ∧ grd us g' s) s2 := by
  unfold aZip
  congr 1; funext x s1; congr 1; funext y s2
  rw [← wkH_of]
  apply propext
  constructor
  · rintro ⟨ts, g, us, g', h1, h2, q⟩
    exact ⟨ts, g, h1, by rw [← wkH_of]; exact ⟨us, g', h2, q⟩⟩
  · rintro ⟨ts, g, h1, h⟩
    rw [← wkH_of] at h
    obtain ⟨us, g', h2, q⟩ := h
    exact ⟨ts, g, us, g', h1, h2, q⟩
theorem ixN_nat {n k : Nat} (h : k < n) : ixN n (k : Int) = some k := by
  unfold ixN
  rw [if_pos (Int.natCast_nonneg k), if_pos (by omega)]; rfl
theorem atI_at {α : Type} {xs : List α} {k : Nat} {x : α} (h : xs[k]? = some x) : atI xs (k : Int) = some x := by
  unfold atI; rw [ixN_nat (List.getElem?_eq_some_iff.mp h).1]; exact h
theorem atI_0 {α : Type} (a : α) (r : List α) : atI (a :: r) 0 = some a := atI_at (k := 0) rfl
theorem atI_1 {α : Type} (a b : α) (r : List α) : atI (a :: b :: r) 1 = some b := atI_at (k := 1) rfl
theorem atI_2 {α : Type} (a b c : α) (r : List α) : atI (a :: b :: c :: r) 2 = some c := atI_at (k := 2) rfl
theorem atI_3 {α : Type} (a b c d : α) (r : List α) : atI (a :: b :: c :: d :: r) 3 = some d := atI_at (k := 3) rfl
theorem ixN_tab : ixN 1 0 = some 0 ∧ ixN 2 0 = some 0 ∧ ixN 2 1 = some 1 ∧ ixN 3 0 = some 0 ∧ ixN 3 1 = some 1 ∧ ixN 3 2 = some 2 ∧ ixN 4 0 = some 0 ∧ ixN 4 1 = some 1 ∧ ixN 4 2 = some 2 ∧ ixN 4 3 = some 3 ∧ ixN 5 0 = some 0 ∧ ixN 5 1 = some 1 ∧ ixN 5 2 = some 2 ∧ ixN 5 3 = some 3 ∧ ixN 5 4 = some 4 ∧ ixN 6 0 = some 0 ∧ ixN 6 1 = some 1 ∧ ixN 6 2 = some 2 ∧ ixN 6 3 = some 3 ∧ ixN 6 4 = some 4 ∧ ixN 6 5 = some 5 := by decide
theorem Wr.of {K : Fr} {x qual : Str} {st : Stmt} {f : Addr} {od an : Option Addr} {oc kV dc pm cd ct : Value} {sl : Array (Option Value)} (h1 : PySem.W.nsIn K mainGlobals x = some (some (.ref f)))
    (h2 : K.lookup f = some ⟨oc, od, .func (PySem.W.fnOf x qual (defArgs st) (defBody st) (defScope st) .none kV dc pm an cd ct), sl⟩) (h3 : PySem.W.codeIn K cd qual = true) (h4 : PySem.W.keepIn K (.ref f) = true) : Wr K x qual st := ⟨f, od, an, oc, kV, dc, pm, cd, ct, sl, h1, h2, h3, h4⟩
theorem clO_lst (k : Nat) (ts : List T) : clO k (.lst ts) = true := rfl
theorem clO_gone (k : Nat) : clO k .gone = true := rfl
theorem clO_dK (k : Nat) (ts : List (Key × T)) : clO k (.dK ts) = true := rfl
theorem clO_dT (k : Nat) (ts : List (List Key × T)) : clO k (.dT ts) = true := rfl
theorem kit_tab : kitB "NoneType" "bool" = some false ∧ kitB "NoneType" "int" = some false ∧ kitB "NoneType" "str" = some false ∧ kitB "NoneType" "list" = some false ∧ kitB "NoneType" "tuple" = some false ∧ kitB "NoneType" "dict" = some false ∧ kitB "bool" "bool" = some true ∧ kitB "bool" "int" = some true ∧ kitB "bool" "str" = some false ∧ kitB "bool" "list" = some false ∧ kitB "bool" "tuple" = some false ∧ kitB "bool" "dict" = some false ∧ kitB "int" "bool" = some false ∧ kitB "int" "int" = some true ∧ kitB "int" "str" = some false ∧ kitB "int" "list" = some false ∧ kitB "int" "tuple" = some false ∧ kitB "int" "dict" = some false ∧ kitB "str" "bool" = some false ∧ kitB "str" "int" = some false ∧ kitB "str" "str" = some true ∧ kitB "str" "list" = some false ∧ kitB "str" "tuple" = some false ∧ kitB "str" "dict" = some false ∧ kitB "list" "bool" = some false ∧ kitB "list" "int" = some false ∧ kitB "list" "str" = some false ∧ kitB "list" "list" = some true ∧ kitB "list" "tuple" = some false ∧ kitB "list" "dict" = some false ∧ kitB "tuple" "bool" = some false ∧ kitB "tuple" "int" = some false ∧ kitB "tuple" "str" = some false ∧ kitB "tuple" "list" = some false ∧ kitB "tuple" "tuple" = some true ∧ kitB "tuple" "dict" = some false ∧ kitB "dict" "bool" = some false ∧ kitB "dict" "int" = some false ∧ kitB "dict" "str" = some false ∧ kitB "dict" "list" = some false ∧ kitB "dict" "tuple" = some false ∧ kitB "dict" "dict" = some true := by
  decide +kernel
end Lv

/-! Lv13: sorted lists of data. -/
namespace Lv
open PySem L2 LvI
/-- sorted data -/
def sortT (ts : List T) : List T := ts.mergeSort fun a b => PySem.W.dataLe false T.py a b
def sortG : ARC := fun xs s Q => match xs with
  | [x] => ∃ ts, lsV s x = some ts ∧ T.oks 60 ts = true ∧ PySem.W.AllAlike (ts.map T.py) ∧ PySem.W.Sortable (ts.map T.py) ∧ Q (.l s.length) (s ++ [.lst (sortT ts)])
  | _ => False
/-- a block of a loop whose things stay in the store, slots forgotten -/
def pWip (vs : List Nat) (t : ATS) : ATS := fun A δ s => t { nx := fun δ1 s1 => A.nx (wipeA δ1 vs) s1, rt := A.rt, bk := fun δ1 s1 => A.bk (wipeA δ1 vs) s1, ct := fun δ1 s1 => A.ct (wipeA δ1 vs) s1 } δ s
/-- xs.remove(k), k among the numbers -/
def aRem (vo ve : ATE) : ATE := fun δ s Q => vo δ s fun x s1 => isTy s1 x = some "list" ∧ ve δ s1 fun y s2 => match x, y with
  | .l n, .d (.int k) => ∃ ns : List Int, s2[n]? = some (.lst (ns.map T.int)) ∧ k ∈ ns ∧ Q (.d .non) (s2.set n (.lst ((ns.erase k).map T.int)))
  | _, _ => False
section
variable {X : Cx} {M : MP} {e o : Expr} {pos apos : Pos} {vo ve : ATE}
end
end Lv

/-! Lv14: the least of some data. -/
namespace Lv
open PySem L2 LvI
section
variable {X : Cx} {M : MP} {e : Expr} {es : List Expr} {pos : Pos}
end
end Lv

/-! Lv15: a call to which lists of one's own are handed as data. -/
namespace Lv
open PySem L2 LvI
/-- the arguments as handed: the marked lists as data -/
def viewM (s : ST) : List Bool → List SV → Option (List SV)
  | [], xs => some xs
  | _, [] => some []
  | true :: ms, .l n :: r => (match s[n]? with
    | some (.lst ts) => (viewM s ms r).map (SV.d (.lst ts) :: ·)
    | _ => none)
  | _ :: ms, x :: r => (viewM s ms r).map (x :: ·)
def viewP : List Bool → List SV → List Nat
  | true :: ms, .l n :: r => n :: viewP ms r
  | _ :: ms, _ :: r => viewP ms r
  | _, _ => []
def flatO : LO → Bool
  | .lst ts => ts.all T.flat
  | _ => false
def flatS : SV → Bool
  | .d t => t.flat
  | .l _ => true
section
variable {K : Fr} {M : MP} {H B B' Bc : Hp} {φ φ' : Fi} {s : ST}
theorem Fz.flatB {v : V} {t : T} (h : Fz K B v t) (f : t.flat = true) : Fz K B' v t := by
  cases h with
  | non => exact .non
  | bl b => exact .bl b
  | int i => exact .int i
  | str x => exact .str x
  | _ => cases f
theorem FzAll.flatB : ∀ {vs : List V} {ts : List T}, FzAll K B vs ts → ts.all T.flat = true → FzAll K B' vs ts
  | _, _, .nil, _ => .nil
  | _, _, .cons h r, f => by
    rw [List.all_cons, Bool.and_eq_true] at f
    exact .cons (h.flatB f.1) (FzAll.flatB r f.2)
theorem Ro.flatB {o : LO} {u : Option HO} (h : Ro K B φ o u) (f : flatO o = true) : Ro K B' φ' o u := by
  cases o with
  | lst ts => obtain ⟨vs, h1, h2⟩ := h; exact ⟨vs, h1.flatB f, h2⟩
  | _ => cases f
/-- in W as there, else as here -/
def thaw (W : List Addr) (H B : Hp) : Hp := fun a => if a ∈ W then H a else B a
theorem thaw_in {W : List Addr} {H B : Hp} {a : Addr} (h : a ∈ W) : thaw W H B a = H a := if_pos h
theorem thaw_out {W : List Addr} {H B : Hp} {a : Addr} (h : a ∉ W) : thaw W H B a = B a := if_neg h
theorem thaw_ex {W : List Addr} (e : Ex B H) : Ex B (thaw W H B) := fun a o h => by
  by_cases w : a ∈ W
  · rw [thaw_in w]; exact e a o h
  · rw [thaw_out w]; exact h
/-- a call to which the places vw are handed as data -/
theorem lift_view {vs : List V} {ys : List SV} {Q : SV → ST → Prop} {Q' : VK} {E : XK} {sp : ASp} {vw ns : List Nat} {good : SV → ST → Prop} (re : Re K M H B φ s) (hns : argL ys = ns) (hvw : ∀ n ∈ vw, n < s.length) (dis : ∀ n ∈ ns, n ∉ vw)
    (h1 : (ns.all fun n => match s[n]? with | some o => simO o | none => false) = true) (rys : RsAll K (thaw (adr (selF φ vw)) H B) φ vs ys)
    (h2 : sp (ys.map (toC ns)) (ns.map fun n => (s[n]?).getD .gone) fun r s2 => good r s2 ∧ Q (ren ns s.length r) (putAll s ns (s2.map (renO ns s.length)) ++ (s2.drop ns.length).map (renO ns s.length)))
    (back : ∀ H' B' φ' s' v x, Ex (thaw (adr (selF φ vw)) H B) B' → Ex B' H' → good x s' → (Rs K B' φ' v x → Rs K (thaw (adr (selF φ vw)) B B') φ' v x) ∧ ∀ (k : Nat) c o, s'[k]? = some o → Rc K B' H' φ' c o → Rc K (thaw (adr (selF φ vw)) B B') H' φ' c o)
    (f : FinE K M H B φ Q Q') : toSp K sp vs H Q' E := by
  have hL : φ.length = s.length := re.len
  have hvl : ∀ n ∈ vw, n < φ.length := fun n hn => by rw [hL]; exact hvw n hn
  have nd : ns.Nodup := by rw [← hns]; exact argL_nd ys
  have hat : ∀ n ∈ ns, ∃ o, s[n]? = some o ∧ simO o = true := fun n hn => by
    have := List.all_eq_true.mp h1 n hn
    cases hs : s[n]? with
    | none => rw [hs] at this; cases this
    | some o => rw [hs] at this; exact ⟨o, rfl, this⟩
  have hlt : ∀ n ∈ ns, n < φ.length := fun n hn => by
    obtain ⟨o, ho, _⟩ := hat n hn
    rw [hL]; exact (List.getElem?_eq_some_iff.mp ho).1
  have apart : ∀ a, a ∈ adr (selF φ vw) → a ∉ adr (selF φ ns) := fun a h z => by
    obtain ⟨i, c, i1, i2⟩ := adr_of h
    obtain ⟨n, n1, n2⟩ := selF_inv hvl i1
    obtain ⟨j, d, j1, j2⟩ := adr_of z
    obtain ⟨m, m1, m2⟩ := selF_inv hlt j1
    have := adr_nd re.nd n2 m2 i2 j2
    subst this
    exact dis n (List.mem_of_getElem? m1) (List.mem_of_getElem? n1)
  generalize hW : adr (selF φ vw) = W at rys back apart
  have hWal : ∀ a ∈ W, H a ≠ none := fun a ha => re.al a (selF_sub hvl a (by rw [hW]; exact ha))
  have exc : Ex B (thaw W H B) := thaw_ex re.ex
  have exH : Ex (thaw W H B) H := fun a o h => by
    by_cases w : a ∈ W
    · rw [thaw_in w] at h; exact h
    · rw [thaw_out w] at h; exact re.ex a o h
  have rec_ : Re K M0 H (thaw W H B) (selF φ ns) (ns.map fun n => (s[n]?).getD .gone) := by
    refine re.fore nd hlt exH (List.length_map ..) (fun n hn c hc a ha hb => ?_) fun k n c o q1 q2 q3 => ?_
    · have : a ∉ W := fun w => by
        obtain ⟨k, hk⟩ := List.getElem?_of_mem hn
        exact apart a w (adr_mem (by rw [selF_at hlt hk]; exact hc) ha)
      rw [thaw_out this]; exact hb
    · obtain ⟨o', ho', so'⟩ := hat n (List.mem_of_getElem? q1)
      rw [List.getElem?_map, q1] at q3
      have q3 : (s[n]?).getD .gone = o := by simpa using q3
      rw [ho'] at q3
      cases q3
      exact ⟨_, ho', id, fun h => (h.mo ⟨exc, fun _ _ h => h⟩ (fun _ _ => rfl)).sim_ so'⟩
  have rsc : RsAll K (thaw W H B) (selF φ ns) vs (ys.map (toC ns)) := rys.map_to fun v x hx rx => rx.toC hlt fun n e => by rw [← hns]; exact argL_mem (e ▸ hx)
  refine ⟨thaw W H B, selF φ ns, _, _, _, rec_, rsc, h2, fun H' B' φ' s' v x g re' r' q' => ?_⟩
  obtain ⟨gd, q'⟩ := q'
  obtain ⟨bk1, bk2⟩ := back H' B' φ' s' v x g.eb re'.ex gd
  rw [bck_st, ← hL] at q'
  have b2 : ∀ a, thaw W B B' a = if a ∈ W then B a else B' a := fun _ => rfl
  obtain ⟨g2, re2⟩ := re.back nd hlt re' (B2 := thaw W B B') g.pf g.kp g.nf (fun a o h => by
    by_cases w : a ∈ W
    · rw [thaw_in w]; exact h
    · rw [thaw_out w]; exact g.eb a o (by rw [thaw_out w]; exact h)) (fun a o h => by
    by_cases w : a ∈ W
    · rw [thaw_in w] at h; exact g.kp a o (re.ex a o h) (apart a w)
    · rw [thaw_out w] at h; exact re'.ex a o h) (fun a h1 h2 h3 => by
    by_cases w : a ∈ W
    · rw [thaw_in w]; exact .inl h1
    · rw [thaw_out w]; exact g.nb a (by rw [thaw_out w]; exact h1) h2 h3) (fun a h => by
    by_cases w : a ∈ W
    · cases hHp : H a with
      | none => exact absurd hHp (hWal a w)
      | some o => rw [g.eb a o (by rw [thaw_in w]; exact hHp)] at h; cases h
    · rw [thaw_out w]; exact h) (s2 := s'.map (renO ns φ.length)) (List.length_map ..) fun k o' h => by
    rw [List.getElem?_map] at h
    obtain ⟨o, h1, rfl⟩ := Option.map_eq_some_iff.mp h
    exact ⟨o, h1, fun w => by rw [renO_is.1] at w; exact w, fun c _ hc => (bk2 k c o h1 hc).ren nd hlt⟩
  exact f _ _ _ _ _ _ g2 re2 ((bk1 r').ren nd hlt) q'
end
/-- a call, some lists handed as data; what comes back is flat -/
def viewK (ms : List Bool) (sp : ASp) (Q : SV → ST → Prop) (_ : Lk Q) (xs : List SV) (s : ST) : Prop := ∃ ys, viewM s ms xs = some ys ∧ ((argL ys).all fun n => !(viewP ms xs).contains n) = true ∧
  ((argL ys).all fun n => match s[n]? with | some o => simO o | none => false) = true ∧
    sp (ys.map (toC (argL ys))) ((argL ys).map fun n => (s[n]?).getD .gone) fun r s2 => s2.all flatO = true ∧ flatS r = true ∧ Q (ren (argL ys) s.length r) (putAll s (argL ys) (s2.map (renO (argL ys) s.length)) ++ (s2.drop (argL ys).length).map (renO (argL ys) s.length))
def aFnV (ms : List Bool) (sp : ASp) (t : ATA) : ATE := fun δ s Q => t δ s fun xs s1 => viewK ms sp Q .mk xs s1
section
variable {X : Cx} {M : MP} {e : Expr} {es : List Expr} {pos p : Pos}
end
end Lv

/-! Lv16: bits, truths of any data. -/
namespace Lv
open PySem L2 LvI
def shlG : AR2 := fun x y s Q => match x, y with
  | .d (.int i), .d (.int j) => CPow i j ∧ Q (.d (.int (i * 2 ^ j.toNat))) s
  | _, _ => False
def shrG : AR2 := fun x y s Q => match x, y with
  | .d (.int i), .d (.int j) => 0 ≤ j ∧ Q (.d (.int (i / 2 ^ j.toNat))) s
  | _, _ => False
/-- n & 1 -/
def oddG : AR2 := fun x y s Q => ∃ n : Nat, x = .d (.int n) ∧ y = .d (.int 1) ∧ Q (.d (.int ((n % 2 : Nat) : Int))) s
section
variable {K : Fr} {M : MP}
end
section
variable {X : Cx} {M : MP} {e a b : Expr} {pos : Pos} {va vb : ATE}
/-- a test by a value's truth -/
def truG (s : ST) : SV → Option Bool
  | .d .non => some false
  | .d (.bl b) => some b
  | .d (.int i) => some (i != 0)
  | .d (.lst ts) => some (!ts.isEmpty)
  | .d (.tup ts) => some (!ts.isEmpty)
  | .l n => (match s[n]? with
    | some (.lst ts) => some (!ts.isEmpty)
    | _ => none)
  | _ => none
def aTru (t : ATE) : ATT := fun δ s Q => t δ s fun x s1 => match truG s1 x with
  | some b => Q b s1
  | none => False
end
end Lv

/-! Lv17: repr, str of data. -/
namespace Lv
open PySem L2 LvI
def rRepr (K : Fr) : List V → Hp → VK → Prop := fun vs H Q => ∃ (x : V) (d : PyData), vs = [x] ∧ Dp K H x d ∧ d.canLay0 = true ∧ d.showable = true ∧ d.depth ≤ 60 ∧ d.shown.length ≤ sizeLine ∧ Q (.str d.shown) H
theorem cr_repr {X : Cx} (hg : X.A.guards = some []) (hu : X.A.units + 64 < cLine) : CallR X (.builtin "repr") (rRepr X.K) := by
  intro pins s σ H vs us Q I r h
  obtain ⟨x, d, rfl, hd, hc, hs, hdp, hz, q⟩ := h
  obtain ⟨u, rfl, ru⟩ := vals1 r
  obtain ⟨as, rd⟩ := Dp.reads I d x u hd ru
  have hn := PyData.noDict_hsm (as := as) (PyData.hasDict_of_canLay d hc)
  have fin : ∀ h' t tk, (∀ b o, s.heap.get? b = some o → h'.get? b = some o) → EP X pins σ Q (.str d.shown t) { s with heap := h', toks := tk } := fun h' t tk hk => ⟨.str _, H, I.kept hk, ⟨_, rfl⟩, q⟩
  cases rd with
  | none => exact PySem.P.repr_of_none (fin _ _ _ fun _ _ e => e)
  | bool => exact PySem.P.repr_of_bool (fin _ _ _ fun _ _ e => e)
  | int => 
    refine PySem.P.repr_of_int ?_ (fin _ _ _ fun _ _ e => e)
    simpa [PyData.showable] using hs
  | str => exact PySem.P.repr_of_str (fin _ _ _ fun _ _ e => e) hz
  | list h1 h2 h3 h4 => exact repr_of_reads' (.list h1 h2 h3 h4) hs hn hg (by omega) (fun _ _ e => e) fin hz
  | tuple h1 h2 h3 h4 => exact repr_of_reads' (.tuple h1 h2 h3 h4) hs hn hg (by omega) (fun _ _ e => e) fin hz
  | dict h1 h2 h3 h4 h5 => exact repr_of_reads' (.dict h1 h2 h3 h4 h5) hs hn hg (by omega) (fun _ _ e => e) fin hz
/-- str(x): a text as it is, else as repr -/
def strD : PyData → Str
  | .str x => x
  | d => d.shown
mutual
/-- small data, at most n deep: what repr can show -/
def T.sm : Nat → T → Bool
  | _, .non => true
  | _, .bl _ => true
  | _, .int i => decide (i.natAbs < 10 ^ 12)
  | _, .str x => PyData.strOk x
  | n + 1, .lst xs => T.sms n xs
  | n + 1, .tup xs => T.sms n xs
  | _, _ => false
def T.sms : Nat → List T → Bool
  | _, [] => true
  | n, x :: r => T.sm n x && T.sms n r
end
theorem sms_all : ∀ (n : Nat) (xs : List T), T.sms n xs = xs.all (T.sm n)
  | n, [] => by unfold T.sms; rfl
  | n, x :: r => by unfold T.sms; rw [sms_all n r, List.all_cons]
theorem log_small {i : Nat} (h : i < 10 ^ 12) : i.log2 < 1920 := by
  by_cases h0 : i = 0
  · subst h0; decide
  · have : i.log2 < 40 := (Nat.log2_lt h0).mpr (Nat.lt_of_lt_of_le h (by decide))
    omega
theorem strOk_lt {x : Str} (h : PyData.strOk x = true) : (x.cps.toList.all fun c => decide (c < 16 ^ 8)) = true := by
  unfold PyData.strOk at h
  rw [List.all_eq_true]
  intro c hc
  have := Array.all_eq_true'.mp h c (by simpa using hc)
  have h2 : c < 0x110000 := by simpa using this
  exact decide_eq_true (Nat.lt_trans h2 (by decide))
mutual
theorem sm_ok : ∀ (n : Nat) (t : T), T.sm n t = true → T.ok n t = true ∧ t.py.showable = true ∧ t.py.leavesShort 13 = true
  | n, .non, _ => by unfold T.py T.ok; exact ⟨rfl, rfl, rfl⟩
  | n, .bl _, _ => by unfold T.py T.ok; exact ⟨rfl, rfl, rfl⟩
  | n, .int i, h => by
    unfold T.sm at h
    have h := of_decide_eq_true h
    unfold T.py T.ok
    refine ⟨rfl, ?_, ?_⟩
    · simp only [PyData.showable, decide_eq_true_eq]; exact log_small h
    · have e : (PyData.shown (.int i)).length ≤ 13 := by
        simp only [PyData.shown]
        have := int_text_length_le10 (k := 12) (by decide) h
        rw [ofString_length]
        exact this
      simp only [PyData.leavesShort]
      exact decide_eq_true e
  | n, .str x, h => by
    unfold T.sm at h
    unfold T.py T.ok
    refine ⟨h, by simp only [PyData.showable], ?_⟩
    simp only [PyData.leavesShort]
    exact strOk_lt h
  | n + 1, .lst xs, h => by
    unfold T.sm at h
    obtain ⟨a, b, c⟩ := sms_ok n xs h
    unfold T.py T.ok
    exact ⟨a, by simp only [PyData.showable]; exact b, by simp only [PyData.leavesShort]; exact c⟩
  | n + 1, .tup xs, h => by
    unfold T.sm at h
    obtain ⟨a, b, c⟩ := sms_ok n xs h
    unfold T.py T.ok
    exact ⟨a, by simp only [PyData.showable]; exact b, by simp only [PyData.leavesShort]; exact c⟩
  | 0, .lst _, h => by unfold T.sm at h; cases h
  | 0, .tup _, h => by unfold T.sm at h; cases h
  | n, .scr _, h => by unfold T.sm at h; cases h
  | n, .ref _, h => by unfold T.sm at h; cases h
  | n, .ty _, h => by unfold T.sm at h; cases h
theorem sms_ok : ∀ (n : Nat) (xs : List T), T.sms n xs = true → T.oks n xs = true ∧ PyData.showableAll (T.pys xs) = true ∧ PyData.leavesShortAll 13 (T.pys xs) = true
  | n, [], _ => by unfold T.pys T.oks; exact ⟨rfl, rfl, rfl⟩
  | n, x :: r, h => by
    unfold T.sms at h
    rw [Bool.and_eq_true] at h
    obtain ⟨a, b, c⟩ := sm_ok n x h.1
    obtain ⟨d, e, f⟩ := sms_ok n r h.2
    unfold T.pys T.oks
    simp only [PyData.showableAll, PyData.leavesShortAll]
    exact ⟨by rw [a, d]; rfl, by rw [b, e]; rfl, by rw [c, f]; rfl⟩
end
/-- how heavy -/
def T.wt (t : T) : Nat := t.py.weight
def wts (ts : List T) : Nat := PyData.weightAll (T.pys ts)
theorem wt_int {i : Int} (h : i.natAbs < 10 ^ 12) : (T.int i).wt ≤ 40 := by
  unfold T.wt T.py
  simp only [PyData.weight]
  split
  · exact Nat.zero_le _
  · rename_i hi
    have h0 : i.natAbs ≠ 0 := fun e => hi (by simpa using Int.natAbs_eq_zero.mp e)
    have : i.natAbs.log2 < 40 := (Nat.log2_lt h0).mpr (Nat.lt_of_lt_of_le h (by decide))
    omega
theorem wt_lst (ts : List T) : (T.lst ts).wt = wts ts := by unfold T.wt T.py; simp only [PyData.weight]; rfl
theorem wt_tup (ts : List T) : (T.tup ts).wt = wts ts := by unfold T.wt T.py; simp only [PyData.weight]; rfl
theorem wts_nil : wts [] = 0 := by unfold wts T.pys; rfl
theorem wts_cons (t : T) (ts : List T) : wts (t :: ts) = t.wt + 1 + wts ts := by unfold wts T.wt; simp only [T.pys, PyData.weightAll]
/-- data by a place -/
def datV (s : ST) (x : SV) : Option T := datF 5 s x
theorem datV_d (s : ST) (t : T) : datV s (.d t) = some t := rfl
theorem datV_l (s : ST) (n : Nat) : datV s (.l n) = match s[n]? with
    | some (.lst xs) => some (.lst xs)
    | some (.tp xs) => (optT (datF 4 s) xs).map T.tup
    | some (.ll xs) => (optT (datF 4 s) xs).map T.lst
    | _ => none := rfl
def T.rep (t : T) : Str := t.py.shown
def reprG : ARC := fun xs s Q => match xs with
  | [x] => ∃ t, datV s x = some t ∧ T.sm 60 t = true ∧ t.wt ≤ 2 ^ 20 ∧ Q (.d (.str t.rep)) s
  | _ => False
def strG : ARC := fun xs s Q => match xs with
  | [x] => ∃ t, datV s x = some t ∧ T.sm 60 t = true ∧ t.wt ≤ 2 ^ 20 ∧ Q (.d (.str (strD t.py))) s
  | _ => False
section
variable {K : Fr} {M : MP}
theorem dat_py {s : ST} {x : SV} {t : T} (h : datV s x = some t) : pyV s x = some t.py := by
  unfold pyV
  unfold datV at h
  rw [h]; rfl
theorem lr_repr : LiftC K M (rRepr K) reprG := by
  intro H B φ s x sx Q re rx h Q' f
  unfold reprG at h
  split at h
  · obtain ⟨v, rfl, r⟩ := rsall1 rx
    obtain ⟨t, h1, h2, h3, q⟩ := h
    obtain ⟨c1, c2, c3⟩ := sm_ok 60 t h2
    obtain ⟨d1, d2⟩ := ok_py 60 t c1
    exact ⟨v, t.py, rfl, py_of re r (dat_py h1) (shaped_ok c1), d1, c2, d2, PyData.shown_fits (B := 13) (by decide) (by decide) c3 h3, f.str re q⟩
  · exact h.elim
end
section
variable {X : Cx} {M : MP} {e : Expr} {pos p : Pos}
theorem ae_repr {t : ATA} (hgd : X.A.guards = some []) (hu : X.A.units + 64 < cLine) (hm : X.mg "repr" = none) (ha : AA X M [e] t) (hg : Gl X "repr" := by rfl) (he : starEach [e] X.env = (false, eval e X.env) :: starEach [] X.env := by rfl) :
    AE X M (.Call (.Name "repr" p) [e] [] pos) (aCall reprG t) := ae_callB (cr_repr hgd hu) lr_repr hg hm (by decide +kernel) ha (he := he)
end
end Lv

/-! Lv18: a, b, c = x, y, z. -/
namespace Lv
open PySem L2 LvI
theorem rsall3 {K : Fr} {B : Hp} {φ : Fi} {vs : List V} {x y z : SV} (h : RsAll K B φ vs [x, y, z]) : ∃ u v w, vs = [u, v, w] ∧ Rs K B φ u x ∧ Rs K B φ v y ∧ Rs K B φ w z := by
  cases h with
  | cons r t =>
    obtain ⟨v, w, rfl, r2, r3⟩ := rsall2 t
    exact ⟨_, _, _, rfl, r, r2, r3⟩
def pPar3 (i j l : Nat) (t : ATA) : ATS := fun A δ s => t δ s fun xs s1 => match xs with
  | [x, y, z] => A.nx (((δ.set i (some x)).set j (some y)).set l (some z)) s1
  | _ => False
section
variable {X : Cx} {M : MP} {pos : Pos}
theorem ap_par3 {i j l : Nat} {x y z : Str} {a b c : Expr} {ta : ATA} {px py pz pt : Pos} {kt k2 pt2} (ha : AA X M [a, b, c] ta)
    (h : ∀ {T : TA}, PA X [a, b, c] T → PS X (.Assign [.Tuple [.Name x px, .Name y py, .Name z pz] kt pt] (.Tuple [a, b, c] k2 pt2) pos) (tPar3 i j l T)) :
    AP X M (.Assign [.Tuple [.Name x px, .Name y py, .Name z pz] kt pt] (.Tuple [a, b, c] k2 pt2) pos) (pPar3 i j l ta) :=
  ⟨_, h ha.pa, fun H B φ σ δ s A re sl q D f => uA_lift (t := ta) H B φ σ δ s _ re sl q _ fun H1 B1 φ1 s1 v x g1 re1 r1 q1 => by
    dsimp only at q1
    split at q1
    · obtain ⟨u, v, w, rfl, r, r2, r3⟩ := rsall3 r1
      exact ⟨_, _, _, rfl, f.nx _ _ _ _ _ _ g1 re1 ((((sl.mono g1).set i r).set j r2).set l r3) q1⟩
    · exact q1.elim⟩
end
end Lv

/-! Kq: keeping the most asks, leg by leg; plain lists. -/
namespace Kq
def hasL (p : Nat × Nat) (i : Nat) : Bool := decide (p.1 ≤ i ∧ i < p.2)
/-- places in order of ends, then of places -/
def lexN (a b : Nat × Nat) : Bool := decide (a.1 < b.1 ∨ (a.1 = b.1 ∧ a.2 ≤ b.2))
theorem lex_total (a b : Nat × Nat) : (lexN a b || lexN b a) = true := by
  unfold lexN
  rw [Bool.or_eq_true, decide_eq_true_eq, decide_eq_true_eq]
  omega
theorem lex_trans (a b c : Nat × Nat) (h : lexN a b = true) (h2 : lexN b c = true) : lexN a c = true := by
  unfold lexN at *
  rw [decide_eq_true_eq] at *
  omega
theorem lex_anti {a b : Nat × Nat} (h : lexN a b = true) (h2 : lexN b a = true) : a = b := by
  unfold lexN at *
  rw [decide_eq_true_eq] at *
  exact Prod.ext (by omega) (by omega)
theorem srt_pw (l : List (Nat × Nat)) : (l.mergeSort lexN).Pairwise fun a b => lexN a b = true := List.pairwise_mergeSort lex_trans lex_total l
def askAt (as : List (Nat × Nat)) (p : Nat) : Nat × Nat := as[p]?.getD (0, 0)
def hereL (as : List (Nat × Nat)) (i : Nat) (kept : List Nat) : List Nat := kept.filter fun p => hasL (askAt as p) i
def srtL (as : List (Nat × Nat)) (i : Nat) (kept : List Nat) : List (Nat × Nat) := ((hereL as i kept).map fun p => ((askAt as p).2, p)).mergeSort lexN
def leftL (as : List (Nat × Nat)) (i m : Nat) (kept : List Nat) : List Nat := ((srtL as i kept).drop m).map Prod.snd
def stepK (as : List (Nat × Nat)) (i m : Nat) (kept : List Nat) : List Nat := kept.filter fun p => !(leftL as i m kept).contains p
section
variable {as : List (Nat × Nat)} {i m : Nat} {kept : List Nat}
theorem srt_perm : (srtL as i kept).Perm ((hereL as i kept).map fun p => ((askAt as p).2, p)) := List.mergeSort_perm _ _
theorem srt_snd : ((srtL as i kept).map Prod.snd).Perm (hereL as i kept) := by
  have := (srt_perm (as := as) (i := i) (kept := kept)).map Prod.snd
  rw [List.map_map] at this
  have e : (Prod.snd ∘ fun p => ((askAt as p).2, p)) = (id : Nat → Nat) := rfl
  rw [e, List.map_id] at this
  exact this
theorem srt_key {q : Nat × Nat} (h : q ∈ srtL as i kept) : q.1 = (askAt as q.2).2 ∧ q.2 ∈ kept ∧ hasL (askAt as q.2) i = true := by
  obtain ⟨p, hp, rfl⟩ := List.mem_map.mp (srt_perm.mem_iff.mp h)
  exact ⟨rfl, (List.mem_filter.mp hp).1, (List.mem_filter.mp hp).2⟩
end
section
variable {as : List (Nat × Nat)} {room : List Nat}
abbrev rm (room : List Nat) (j : Nat) : Nat := room[j]?.getD 0
end
/-! ### counting -/
theorem cp_split {α : Type} (l : List α) (P Q : α → Bool) : l.countP P = l.countP (fun a => P a && Q a) + l.countP (fun a => P a && !Q a) := by
  induction l with
  | nil => rfl
  | cons a r ih =>
    rw [List.countP_cons, List.countP_cons, List.countP_cons, ih]
    cases P a <;> cases Q a <;> simp <;> omega
theorem cp_congr {α : Type} {l : List α} {P Q : α → Bool} (h : ∀ a ∈ l, P a = Q a) : l.countP P = l.countP Q := List.countP_congr fun a ha => by rw [h a ha]
/-- misses all legs of J -/
def miss (J : List Nat) (a : Nat × Nat) : Bool := !(J.any fun j => hasL a j)
theorem miss_app (J : List Nat) (k : Nat) (a : Nat × Nat) : miss (J ++ [k]) a = (miss J a && !hasL a k) := by
  unfold miss
  rw [List.any_append]
  simp
theorem miss_lt {J : List Nat} {a : Nat × Nat} (h : ∀ j ∈ J, j < a.1) : miss J a = true := by
  unfold miss
  rw [Bool.not_eq_true', List.any_eq_false]
  intro j hj
  have := h j hj
  unfold hasL
  rw [decide_eq_true_eq]
  omega
def sumJ (room : List Nat) (J : List Nat) : Nat := (J.map (rm room)).sum
section
variable {as : List (Nat × Nat)} {room : List Nat}
/-- the count of who ends by n -/
abbrev U (as : List (Nat × Nat)) := List.range as.length
end
/-! ### asks themselves -/
/-- how many asks have leg i -/
def cntL (as : List (Nat × Nat)) (i : Nat) : Nat := as.countP fun p => hasL p i
/-- no choice is greater than a paper -/
theorem weak {as ks : List (Nat × Nat)} {room J : List Nat} (hs : ks.Sublist as) (hr : ∀ j ∈ J, cntL ks j ≤ rm room j) : ks.length ≤ sumJ room J + as.countP (miss J) := by
  have h1 : ks.length = ks.countP (miss J) + ks.countP (fun a => !miss J a) := by
    have := cp_split ks (fun _ => true) (miss J)
    simpa using this
  have h2 : ks.countP (miss J) ≤ as.countP (miss J) := hs.countP_le
  have h3 : ks.countP (fun a => !miss J a) ≤ sumJ room J := by
    clear h1 h2
    induction J with
    | nil => simp [miss]
    | cons j J ih =>
      have e : sumJ room (j :: J) = rm room j + sumJ room J := by unfold sumJ; simp
      rw [e]
      have := cp_split ks (fun a => !miss (j :: J) a) (fun a => hasL a j)
      have a1 : ks.countP (fun a => !miss (j :: J) a && hasL a j) ≤ cntL ks j := List.countP_mono_left fun a _ h => by
        rw [Bool.and_eq_true] at h; exact h.2
      have a2 : ks.countP (fun a => !miss (j :: J) a && !hasL a j) ≤ ks.countP (fun a => !miss J a) := List.countP_mono_left fun a _ h => by
        unfold miss at *
        rw [List.any_cons] at h
        cases h1 : hasL a j <;> simp_all
      have := hr j List.mem_cons_self
      have := ih fun k hk => hr k (List.mem_cons_of_mem _ hk)
      omega
  omega
/-- the last of the first n of a sorted list is the greatest of them -/
theorem top_of {S : List (Nat × Nat)} (h : S.Pairwise fun a b => lexN a b = true) {n : Nat} (hn : n < S.length) : ∀ q ∈ S.take (n + 1), lexN q S[n] = true := by
  intro q hq
  obtain ⟨i, hi, e⟩ := List.mem_iff_getElem.mp hq
  rw [List.length_take] at hi
  rw [List.getElem_take] at e
  subst e
  by_cases hin : i = n
  · subst hin
    unfold lexN
    rw [decide_eq_true_eq]
    omega
  · exact List.pairwise_iff_getElem.mp h i n (by omega) hn (by omega)
/-- of rising places the last one of the greatest end -/
def lastN (e : Nat → Nat) : List Nat → Nat → Nat
  | [], b => b
  | p :: r, b => lastN e r (if e b ≤ e p then p else b)
theorem lastN_ok (e : Nat → Nat) : ∀ (l : List Nat) (b : Nat), (b :: l).Pairwise (· < ·) ∨ (b ∈ l.head? ∧ l.Pairwise (· < ·)) → (lastN e l b = b ∨ lastN e l b ∈ l) ∧ lexN (e b, b) (e (lastN e l b), lastN e l b) = true ∧ ∀ q ∈ l, lexN (e q, q) (e (lastN e l b), lastN e l b) = true
  | [], b, _ => ⟨.inl rfl, by unfold lastN lexN; rw [decide_eq_true_eq]; omega, fun q h => by cases h⟩
  | p :: r, b, h => by
    have hpr : (p :: r).Pairwise (· < ·) := by
      rcases h with h | h
      · exact (List.pairwise_cons.mp h).2
      · exact h.2
    have hbp : b ≤ p := by
      rcases h with h | h
      · exact Nat.le_of_lt ((List.pairwise_cons.mp h).1 p List.mem_cons_self)
      · exact Nat.le_of_eq (Option.some.inj h.1).symm
    have hbr : ∀ q ∈ r, b < q := fun q hq => Nat.lt_of_le_of_lt hbp ((List.pairwise_cons.mp hpr).1 q hq)
    unfold lastN
    by_cases hc : e b ≤ e p
    · rw [if_pos hc]
      obtain ⟨h1, h2, h3⟩ := lastN_ok e r p (.inl hpr)
      refine ⟨.inr ?_, ?_, fun q hq => ?_⟩
      · rcases h1 with h1 | h1
        · rw [h1]; exact List.mem_cons_self
        · exact List.mem_cons_of_mem _ h1
      · refine lex_trans _ _ _ ?_ h2
        unfold lexN
        rw [decide_eq_true_eq]
        show e b < e p ∨ (e b = e p ∧ b ≤ p)
        omega
      · rcases List.mem_cons.mp hq with hq | hq
        · rw [hq]; exact h2
        · exact h3 q hq
    · rw [if_neg hc]
      obtain ⟨h1, h2, h3⟩ := lastN_ok e r b (.inl (List.pairwise_cons.mpr ⟨hbr, (List.pairwise_cons.mp hpr).2⟩))
      refine ⟨?_, h2, fun q hq => ?_⟩
      · rcases h1 with h1 | h1
        · exact .inl h1
        · exact .inr (List.mem_cons_of_mem _ h1)
      · rcases List.mem_cons.mp hq with hq | hq
        · rw [hq]
          refine lex_trans _ _ _ ?_ h2
          unfold lexN
          rw [decide_eq_true_eq]
          show e p < e b ∨ (e p = e b ∧ p ≤ b)
          omega
        · exact h3 q hq
/-- one taken away -/
theorem step_ok {e : Nat → Nat} {S : List (Nat × Nat)} (hs : S.Pairwise fun a b => lexN a b = true) {l : List Nat} (hl : l.Pairwise (· < ·)) {n : Nat} (hn : n < S.length) (hp : (l.map fun p => (e p, p)).Perm (S.take (n + 1))) {b : Nat} (hb : l.head? = some b) :
    lastN e l b ∈ l ∧ (e (lastN e l b), lastN e l b) = S[n] ∧ ((l.erase (lastN e l b)).map fun p => (e p, p)).Perm (S.take n) := by
  obtain ⟨h1, h2, h3⟩ := lastN_ok e l b (.inr ⟨hb, hl⟩)
  have hbl : b ∈ l := List.mem_of_mem_head? hb
  have hm : lastN e l b ∈ l := by
    rcases h1 with h1 | h1
    · rw [h1]; exact hbl
    · exact h1
  generalize lastN e l b = L at *
  have e1 : lexN (e L, L) S[n] = true := top_of hs hn _ (hp.mem_iff.mp (List.mem_map.mpr ⟨L, hm, rfl⟩))
  have tk : S.take (n + 1) = S.take n ++ [S[n]] := by rw [List.take_succ, List.getElem?_eq_getElem hn]; rfl
  have e2 : lexN S[n] (e L, L) = true := by
    have : S[n] ∈ S.take (n + 1) := by rw [tk]; exact List.mem_append_right _ List.mem_cons_self
    obtain ⟨q, hq, eq⟩ := List.mem_map.mp (hp.mem_iff.mpr this)
    rw [← eq]; exact h3 q hq
  have ek : (e L, L) = S[n] := lex_anti e1 e2
  refine ⟨hm, ek, ?_⟩
  have p1 : (l.map fun p => (e p, p)).Perm ((e L, L) :: (l.erase L).map fun p => (e p, p)) := (List.perm_cons_erase hm).map _
  have p2 : ((e L, L) :: (l.erase L).map fun p => (e p, p)).Perm (S[n] :: S.take n) := (p1.symm.trans hp).trans (by rw [tk]; exact List.perm_append_singleton _ _)
  rw [ek] at p2
  exact List.Perm.cons_inv p2
/-- what is kept when one more is taken away -/
theorem erase_filter {k : List Nat} (hk : k.Nodup) {R : List Nat} {L : Nat} : (k.filter fun p => !R.contains p).erase L = k.filter fun p => !(L :: R).contains p := by
  rw [List.Nodup.erase_eq_filter (hk.filter _), List.filter_filter]
  refine List.filter_congr fun p _ => ?_
  rw [List.contains_cons]
  cases h : p == L <;> cases h2 : R.contains p <;> simp_all
/-- the while of one by one: n are on the leg yet -/
structure Wl (as : List (Nat × Nat)) (z m : Nat) (kept : List Nat) (n : Nat) (h k : List Nat) : Prop where
  le : n ≤ (srtL as z kept).length
  mo : n = (srtL as z kept).length ∨ m ≤ n
  pw : h.Pairwise (· < ·)
  pm : (h.map fun p => ((askAt as p).2, p)).Perm ((srtL as z kept).take n)
  ke : k = kept.filter fun p => !(((srtL as z kept).drop n).map Prod.snd).contains p
section
variable {as : List (Nat × Nat)} {z m : Nat} {kept : List Nat} {n : Nat} {h k : List Nat}
theorem Wl.start (hp : kept.Pairwise (· < ·)) : Wl as z m kept (srtL as z kept).length (hereL as z kept) kept where
  le := Nat.le_refl _
  mo := .inl rfl
  pw := hp.filter _
  pm := by rw [List.take_length]; exact srt_perm.symm
  ke := by rw [List.drop_length]; exact (List.filter_eq_self.mpr fun a _ => rfl).symm
theorem Wl.len (w : Wl as z m kept n h k) : h.length = n := by
  have := w.pm.length_eq
  rw [List.length_map, List.length_take] at this
  have := w.le
  omega
theorem Wl.mem (w : Wl as z m kept n h k) {p : Nat} (hp : p ∈ h) : p ∈ kept := by
  have : ((askAt as p).2, p) ∈ (srtL as z kept).take n := w.pm.mem_iff.mp (List.mem_map.mpr ⟨p, hp, rfl⟩)
  exact (srt_key (List.mem_of_mem_take this)).2.1
theorem Wl.stop (w : Wl as z m kept n h k) (hn : n ≤ m) : k = stepK as z m kept := by
  rw [w.ke]
  unfold stepK leftL
  rcases w.mo with e | e
  · rw [List.drop_of_length_le (i := n) (by omega), List.drop_of_length_le (i := m) (by omega)]
  · rw [show n = m by omega]
theorem Wl.step {b : Nat} (w : Wl as z m kept (n + 1) h k) (hk : kept.Nodup) (hn : m < n + 1) (hb : h.head? = some b) : lastN (fun p => (askAt as p).2) h b ∈ h ∧ lastN (fun p => (askAt as p).2) h b ∈ k ∧
    Wl as z m kept n (h.erase (lastN (fun p => (askAt as p).2) h b)) (k.erase (lastN (fun p => (askAt as p).2) h b)) := by
  have hl : n < (srtL as z kept).length := w.le
  obtain ⟨h1, h2, h3⟩ := step_ok (e := fun p => (askAt as p).2) (srt_pw _) w.pw hl w.pm hb
  generalize lastN (fun p => (askAt as p).2) h b = L at *
  have h2 : ((askAt as L).2, L) = (srtL as z kept)[n] := h2
  have hd : ((srtL as z kept).drop n).map Prod.snd = L :: ((srtL as z kept).drop (n + 1)).map Prod.snd := by
    rw [List.drop_eq_getElem_cons hl, ← h2]; rfl
  have hS : ((srtL as z kept).map Prod.snd).Nodup := (srt_snd.nodup_iff).mpr (hk.filter _)
  have hLk : L ∈ kept := by
    have : (srtL as z kept)[n] ∈ srtL as z kept := List.getElem_mem hl
    rw [← h2] at this
    exact (srt_key this).2.1
  refine ⟨h1, ?_, Nat.le_of_lt hl, .inr (by omega), (w.pw.sublist List.erase_sublist), h3, ?_⟩
  · rw [w.ke]
    refine List.mem_filter.mpr ⟨hLk, ?_⟩
    rw [← List.take_append_drop n (srtL as z kept), List.map_append, hd] at hS
    have := (List.nodup_cons.mp (List.nodup_append.mp hS).2.1).1
    rw [Bool.not_eq_true']
    cases hc : (((srtL as z kept).drop (n + 1)).map Prod.snd).contains L with
    | false => rfl
    | true => exact absurd (List.contains_iff_mem.mp hc) this
  · rw [w.ke, erase_filter hk, hd]
end
end Kq

/-! Kr: the paper, by the least of all. -/
namespace Kr
open Kq
/-- how many asks lie between a and b -/
def within (as : List (Nat × Nat)) (a b : Nat) : Nat := as.countP fun p => decide (a ≤ p.1) && decide (p.2 ≤ b)
/-- what J comes to, of the asks that end by k -/
def val (as : List (Nat × Nat)) (room : List Nat) (k : Nat) (J : List Nat) : Nat := sumJ room J + as.countP fun p => decide (p.2 ≤ k) && miss J p
theorem sumJ_app (room J : List Nat) (k : Nat) : sumJ room (J ++ [k]) = sumJ room J + rm room k := by
  unfold sumJ
  rw [List.map_append, List.sum_append]; simp
/-- one leg more -/
theorem val_snoc {as : List (Nat × Nat)} {room J : List Nat} {j k : Nat} (hp : ∀ p ∈ as, p.1 < p.2) (hJ : ∀ i ∈ J, i < j) (hjk : j < k) : val as room k (J ++ [j] ++ [k]) = val as room j (J ++ [j]) + rm room k + within as (j + 1) k := by
  unfold val within
  rw [sumJ_app room (J ++ [j]) k]
  have := cp_split as (fun p => decide (p.2 ≤ k) && miss (J ++ [j] ++ [k]) p) (fun p => decide (p.2 ≤ j))
  rw [this]
  rw [cp_congr (P := fun p => (decide (p.2 ≤ k) && miss (J ++ [j] ++ [k]) p) && decide (p.2 ≤ j)) (Q := fun p => decide (p.2 ≤ j) && miss (J ++ [j]) p) fun p hm => ?_,
    cp_congr (P := fun p => (decide (p.2 ≤ k) && miss (J ++ [j] ++ [k]) p) && !decide (p.2 ≤ j)) (Q := fun p => decide (j + 1 ≤ p.1) && decide (p.2 ≤ k)) fun p hm => ?_]
  · omega
  · have := hp p hm
    rw [miss_app (J ++ [j]) k p]
    by_cases h1 : p.2 ≤ k
    · rw [decide_eq_true h1, show hasL p k = false by unfold hasL; rw [decide_eq_false_iff_not]; omega]
      by_cases h2 : p.2 ≤ j
      · rw [decide_eq_true h2, decide_eq_false (show ¬ j + 1 ≤ p.1 by omega)]; simp
      · rw [decide_eq_false h2, miss_app]
        by_cases h3 : j + 1 ≤ p.1
        · rw [decide_eq_true h3, miss_lt fun i hi => by have := hJ i hi; omega, show hasL p j = false by unfold hasL; rw [decide_eq_false_iff_not]; omega]; rfl
        · rw [decide_eq_false h3, show hasL p j = true by unfold hasL; rw [decide_eq_true_eq]; omega]; simp
    · rw [decide_eq_false h1]; simp
  · rw [miss_app (J ++ [j]) k p]
    by_cases h2 : p.2 ≤ j
    · rw [decide_eq_true h2, decide_eq_true (show p.2 ≤ k by omega), show hasL p k = false by unfold hasL; rw [decide_eq_false_iff_not]; omega]; simp
    · rw [decide_eq_false h2]; simp
theorem val_one {as : List (Nat × Nat)} {room : List Nat} {k : Nat} (hp : ∀ p ∈ as, p.1 < p.2) : val as room k [k] = 0 + rm room k + within as 0 k := by
  unfold val within
  rw [show sumJ room [k] = rm room k by unfold sumJ; simp]
  rw [cp_congr (P := fun p => decide (p.2 ≤ k) && miss [k] p) (Q := fun p => decide (0 ≤ p.1) && decide (p.2 ≤ k)) fun p hm => ?_]
  · omega
  · by_cases h1 : p.2 ≤ k
    · rw [decide_eq_true h1, decide_eq_true (Nat.zero_le _)]
      have : hasL p k = false := by unfold hasL; rw [decide_eq_false_iff_not]; omega
      unfold miss
      simp [this]
    · rw [decide_eq_false h1]; simp
/-- a line of the table: what it comes to, of all that end there the least -/
structure Row (as : List (Nat × Nat)) (room : List Nat) (k : Nat) (r : Nat × List Nat) : Prop where
  ex : ∃ J, r.2 = J ++ [k] ∧ J.Pairwise (· < ·) ∧ ∀ i ∈ J, i < k
  v : r.1 = val as room k r.2
  least : ∀ J : List Nat, J.Pairwise (· < ·) → (∀ i ∈ J, i < k) → r.1 ≤ val as room k (J ++ [k])
/-- the table up to leg k -/
structure Tab (as : List (Nat × Nat)) (room : List Nat) (k : Nat) (L : List (Nat × List Nat)) : Prop where
  len : L.length = k + 1
  at0 : L[0]? = some (0, [])
  at_ : ∀ i r, L[i + 1]? = some r → Row as room i r
def cand (as : List (Nat × Nat)) (room : List Nat) (k : Nat) (L : List (Nat × List Nat)) : List (Nat × List Nat) := L.mapIdx fun i r => (r.1 + rm room k + within as i k, r.2 ++ [k])
section
variable {as : List (Nat × Nat)} {room : List Nat} {k : Nat} {L : List (Nat × List Nat)}
theorem cand_get (i : Nat) : (cand as room k L)[i]? = L[i]?.map fun r => (r.1 + rm room k + within as i k, r.2 ++ [k]) := by
  unfold cand; rw [List.getElem?_mapIdx]
theorem Tab.cand (t : Tab as room k L) (hp : ∀ p ∈ as, p.1 < p.2) {c : Nat × List Nat} (h : c ∈ cand as room k L) : (∃ J, c.2 = J ++ [k] ∧ J.Pairwise (· < ·) ∧ ∀ i ∈ J, i < k) ∧ c.1 = val as room k c.2 := by
  obtain ⟨i, hi, e⟩ := List.mem_iff_getElem.mp h
  have e2 : (Kr.cand as room k L)[i]? = some c := by rw [List.getElem?_eq_getElem hi, e]
  rw [cand_get] at e2
  cases hr : L[i]? with
  | none => rw [hr] at e2; cases e2
  | some r =>
    rw [hr] at e2
    cases e2
    have hil : i < k + 1 := by rw [← t.len]; exact (List.getElem?_eq_some_iff.mp hr).1
    cases i with
    | zero =>
      rw [t.at0] at hr; cases hr
      exact ⟨⟨[], rfl, List.Pairwise.nil, fun i hi => (nomatch hi)⟩, (val_one hp).symm⟩
    | succ i =>
      obtain ⟨⟨J, h1, h2, h3⟩, hv, _⟩ := t.at_ i r hr
      refine ⟨⟨r.2, rfl, ?_, ?_⟩, ?_⟩
      · rw [h1]
        refine List.pairwise_append.mpr ⟨h2, List.pairwise_singleton _ _, fun a ha b hb => ?_⟩
        rw [List.mem_singleton.mp hb]; exact h3 a ha
      · intro a ha
        rw [h1] at ha
        rcases List.mem_append.mp ha with ha | ha
        · have := h3 a ha; omega
        · rw [List.mem_singleton.mp ha]; omega
      · show r.1 + rm room k + within as (i + 1) k = val as room k (r.2 ++ [k])
        rw [hv, h1, val_snoc hp h3 (by omega)]
theorem Tab.least (t : Tab as room k L) (hp : ∀ p ∈ as, p.1 < p.2) {J : List Nat} (h1 : J.Pairwise (· < ·)) (h2 : ∀ i ∈ J, i < k) : ∃ c ∈ Kr.cand as room k L, c.1 ≤ val as room k (J ++ [k]) := by
  have go : ∀ i r, L[i]? = some r → (r.1 + rm room k + within as i k, r.2 ++ [k]) ∈ Kr.cand as room k L := fun i r hr => by
    refine List.mem_of_getElem? (i := i) ?_
    rw [cand_get, hr]; rfl
  rcases List.eq_nil_or_concat J with rfl | ⟨J', j, rfl⟩
  · refine ⟨_, go 0 _ t.at0, ?_⟩
    rw [List.nil_append, val_one hp]
    exact Nat.le_refl _
  · rw [List.concat_eq_append] at *
    have hj : j < k := h2 j (List.mem_append_right _ List.mem_cons_self)
    have hJ : ∀ i ∈ J', i < j := fun i hi => (List.pairwise_append.mp h1).2.2 i hi j List.mem_cons_self
    have hl : j + 1 < L.length := by rw [t.len]; omega
    have hr : L[j + 1]? = some L[j + 1] := List.getElem?_eq_getElem hl
    refine ⟨_, go (j + 1) _ hr, ?_⟩
    have := (t.at_ j _ hr).least J' (List.pairwise_append.mp h1).1 hJ
    rw [val_snoc hp hJ hj]
    show L[j + 1].1 + rm room k + within as (j + 1) k ≤ _
    omega
theorem Tab.start : Tab as room 0 [(0, [])] := ⟨rfl, rfl, fun i r h => by simp at h⟩
/-- one leg more -/
theorem Tab.step (t : Tab as room k L) (hp : ∀ p ∈ as, p.1 < p.2) {c : Nat × List Nat} (hc : c ∈ Kr.cand as room k L) (hm : ∀ d ∈ Kr.cand as room k L, c.1 ≤ d.1) : Tab as room (k + 1) (L ++ [c]) := by
  refine ⟨by rw [List.length_append, t.len]; rfl, by rw [List.getElem?_append_left (by rw [t.len]; omega)]; exact t.at0, fun i r h => ?_⟩
  by_cases hi : i + 1 < L.length
  · rw [List.getElem?_append_left hi] at h
    exact t.at_ i r h
  · have hl := (List.getElem?_eq_some_iff.mp h).1
    rw [List.length_append, List.length_singleton] at hl
    rw [List.getElem?_append_right (by omega), show i + 1 - L.length = 0 by omega] at h
    have e : c = r := Option.some.inj h
    subst e
    have : i = k := by rw [t.len] at hi hl; omega
    subst this
    obtain ⟨q1, q2⟩ := t.cand hp hc
    refine ⟨q1, q2, fun J h1 h2 => ?_⟩
    obtain ⟨d, hd, hle⟩ := t.least hp h1 h2
    exact Nat.le_trans (hm d hd) hle
end
end Kr

/-! Lx: asks, numbers, tables as data. -/
namespace Lv
open PySem L2 LvI Kq Kr
theorem rgT_lt {a b : Int} {i : Nat} {x : T} (h : (rgT a b)[i]? = some x) : i < (b - a).toNat ∧ x = .int (a + i) := by
  have hi := (List.getElem?_eq_some_iff.mp h).1
  rw [rgT_len] at hi
  rw [rgT_get hi] at h
  exact ⟨hi, (Option.some.inj h).symm⟩
theorem cm_l {i j : Int} (h : -(2 ^ 64) < i ∧ i < 2 ^ 64) : CM i j := .inl (.inl h)
theorem cm_r {i j : Int} (h : -(2 ^ 64) < j ∧ j < 2 ^ 64) : CM i j := .inl (.inr h)
theorem cd_s {i j : Int} (h : 0 < j ∧ j < 1073741824) : CD i j := .inl h
def Bx (β : Int) (o : LO) : Prop := ∃ a m c : Int, o = .lst [.int a, .int m, .int c] ∧ 0 ≤ a ∧ 0 ≤ m ∧ m < 2 ^ 62 ∧ 0 ≤ c ∧ c ≤ β
theorem Bx.mono {β γ : Int} {o : LO} (h : Bx β o) (l : β ≤ γ) : Bx γ o := by
  obtain ⟨a, m, c, e, h1, h2, h3, h4, h5⟩ := h
  exact ⟨a, m, c, e, h1, h2, h3, h4, by omega⟩
theorem Bx.lst {β : Int} {o : LO} (h : Bx β o) : ∃ ts, o = .lst ts := by
  obtain ⟨a, m, c, e, _⟩ := h
  exact ⟨_, e⟩
theorem nat_of {i : Int} (h : 0 ≤ i) : ∃ n : Nat, i = n := ⟨i.toNat, by omega⟩
theorem filt_true {α : Type} (l : List α) : l.filter (fun _ => true) = l := List.filter_eq_self.mpr fun _ _ => rfl


def natT (l : List Nat) : List T := l.map fun i => .int (i : Nat)
theorem natT_len (l : List Nat) : (natT l).length = l.length := by unfold natT; rw [List.length_map]
theorem natT_get {l : List Nat} {i : Nat} (h : i < l.length) : (natT l)[i]? = some (.int (l[i] : Nat)) := by
  unfold natT; rw [List.getElem?_map, List.getElem?_eq_getElem h]; rfl
theorem natT_app (l : List Nat) (q : Nat) : natT l ++ [.int (q : Nat)] = natT (l ++ [q]) := by unfold natT; rw [List.map_append]; rfl
def fSnd : T → T
  | .tup [_, x] => x
  | _ => .non
theorem cut_drop (ts : List T) (m : Nat) : cut ts (some (m : Int)) none = ts.drop m := by
  unfold cut
  rw [HT.sIx_nat, HT.sIx_none]
  by_cases h : m ≤ ts.length
  · rw [Nat.min_eq_left h]
    exact List.take_of_length_le (by rw [List.length_drop]; exact Nat.le_refl _)
  · rw [Nat.min_eq_right (by omega), List.drop_of_length_le (Nat.le_refl _), List.drop_of_length_le (show ts.length ≤ m by omega)]; simp
theorem len_lt {n : Nat} (h : n ≤ 1000) : n < sizeLine := Nat.lt_of_le_of_lt h (by decide)
theorem natT_drop1 (l : List Nat) : cut (natT l) (some 1) none = natT (l.drop 1) := by
  rw [show (1 : Int) = ((1 : Nat) : Int) by rfl, cut_drop]
  unfold natT
  rw [List.map_drop]
end Lv

/-! Ly: choices and papers as any data. -/
namespace Lv
open PySem L2 LvI Kq Kr
def isNum : T → Bool
  | .int _ => true
  | _ => false
def ltP : T → Bool
  | .tup [.int a, .int b] => decide (a < b)
  | _ => false
def natOf : T → Nat
  | .int i => i.toNat
  | _ => 0
/-- the asks chosen -/
def chosen (as : List (Nat × Nat)) (ks : List Nat) : List (Nat × Nat) := ks.map (askAt as)
theorem cut_take (ts : List T) (n : Nat) : cut ts none (some (n : Int)) = ts.take n := by
  unfold cut
  rw [HT.sIx_nat, HT.sIx_none, List.drop_zero, Nat.sub_zero]
  by_cases h : n ≤ ts.length
  · rw [Nat.min_eq_left h]
  · rw [Nat.min_eq_right (by omega), List.take_length, List.take_of_length_le (by omega)]
end Lv

/-! Lz: small data, its keeping. -/
namespace Lv
open PySem L2 LvI
mutual
theorem sm_mono : ∀ (n m : Nat) (t : T), n ≤ m → T.sm n t = true → T.sm m t = true
  | n, m, .non, _, _ => by unfold T.sm; rfl
  | n, m, .bl _, _, _ => by unfold T.sm; rfl
  | n, m, .int i, _, h => by unfold T.sm at h ⊢; exact h
  | n, m, .str x, _, h => by unfold T.sm at h ⊢; exact h
  | n + 1, m + 1, .lst xs, l, h => by unfold T.sm at h ⊢; exact sms_mono n m xs (by omega) h
  | n + 1, m + 1, .tup xs, l, h => by unfold T.sm at h ⊢; exact sms_mono n m xs (by omega) h
  | n + 1, 0, .lst xs, l, h => by omega
  | n + 1, 0, .tup xs, l, h => by omega
  | 0, m, .lst _, _, h => by unfold T.sm at h; cases h
  | 0, m, .tup _, _, h => by unfold T.sm at h; cases h
  | n, m, .scr _, _, h => by unfold T.sm at h; cases h
  | n, m, .ref _, _, h => by unfold T.sm at h; cases h
  | n, m, .ty _, _, h => by unfold T.sm at h; cases h
theorem sms_mono : ∀ (n m : Nat) (xs : List T), n ≤ m → T.sms n xs = true → T.sms m xs = true
  | n, m, [], _, _ => by unfold T.sms; rfl
  | n, m, x :: r, l, h => by
    unfold T.sms at h ⊢
    rw [Bool.and_eq_true] at h ⊢
    exact ⟨sm_mono n m x l h.1, sms_mono n m r l h.2⟩
end
theorem sm_lst {n : Nat} {xs : List T} (h : ∀ x ∈ xs, T.sm n x = true) : T.sm (n + 1) (.lst xs) = true := by
  unfold T.sm; rw [sms_all]; exact List.all_eq_true.mpr h
theorem sm_tup {n : Nat} {xs : List T} (h : ∀ x ∈ xs, T.sm n x = true) : T.sm (n + 1) (.tup xs) = true := by
  unfold T.sm; rw [sms_all]; exact List.all_eq_true.mpr h
theorem wt_str (x : Str) : (T.str x).wt = x.length := by unfold T.wt T.py; simp only [PyData.weight]; rfl
theorem cut_sub (ts : List T) (a b : Option Int) : (cut ts a b).Sublist ts := by
  unfold cut
  exact (List.take_sublist _ _).trans (List.drop_sublist _ _)
end Lv

/-! Lw1: a comprehension whose iterable changes the store; sizes by weight. -/
namespace Lv
open PySem L2
def lcJ (g : ATG) (tt : ATT) (te : ATE) (Q : List T → ST → Prop) (_ : Lk (g, tt, te, Q)) (vs : List Nat) (items : List T) (grd : ST → Prop) (δ : AS) (s : ST) : Prop := aLcI (fun _ s Q => Q items grd s) g tt te vs δ s Q
theorem lcK_in {ti : ATI} {g : ATG} {tt : ATT} {te : ATE} {vs : List Nat} {δ : AS} {s : ST} {Q : List T → ST → Prop} {l : Lk (ti, g, tt, te, Q)} (h : ti δ s fun items grd s1 => lcJ g tt te Q .mk vs items grd δ s1) : lcK ti g tt te Q l vs δ s := h
theorem lcJ_of {g : ATG} {tt : ATT} {te : ATE} {vs : List Nat} {items : List T} {grd : ST → Prop} {δ : AS} {s : ST} {Q : List T → ST → Prop} {l : Lk (g, tt, te, Q)} {Z : Type} (inv : Nat → List T → Z → Prop) (so : Z → ST)
    (h1 : ∀ i acc z, inv i acc z → grd (so z)) (h0 : ∃ z, inv 0 [] z ∧ s = so z)
    (hs : ∀ i x acc z, items[i]? = some x → inv i acc z → ∀ C : List T → ST → Prop, (∀ acc' z', inv (i + 1) acc' z' → C acc' (so z')) → g (.d x) (wipeA δ vs) (so z) fun δ2 s2 => tt δ2 s2 fun b s3 => (b = true → te δ2 s3 fun y s4 => ∃ t, y = .d t ∧ acc.length < sizeLine ∧ C (acc ++ [t]) s4) ∧ (b = false → C acc s3))
    (hd : ∀ acc z, inv items.length acc z → Q acc (so z)) : lcJ g tt te Q l vs items grd δ s :=
  lcI_of (l := .mk) items inv so (fun Q' h => h grd h1) h0 hs hd
theorem sm_okT {n : Nat} {t : T} (h : T.sm n t = true) : T.ok n t = true := (sm_ok n t h).1
theorem wts_natT : ∀ {l : List Nat}, (∀ x ∈ l, x < 10 ^ 12) → wts (natT l) ≤ 41 * l.length
  | [], _ => by rw [show natT [] = [] from rfl, wts_nil]; omega
  | a :: r, h => by
    rw [show natT (a :: r) = .int (a : Nat) :: natT r from rfl, wts_cons, List.length_cons]
    have h1 := wt_int (i := (a : Int)) (by have := h a List.mem_cons_self; omega)
    have h2 := wts_natT (l := r) fun x hx => h x (List.mem_cons_of_mem _ hx)
    omega
end Lv

/-! Lw2: sorted(set(a list of ints)). -/
namespace Lv
open PySem L2 PySem.Spec PyProof.Rows
/-- an empty set, as set(..) makes it ahead of filling it -/
def mtSet (w : World) : Obj := { cls := .type "set", dict := none, data := .set #[] 0 (.fresh 0 0 (!w.params.followText "set-order")) }
section
variable {P : Program} {w : World} {A : Around} {E : Value → Shared → Prop} {s : Shared}
end
section
variable {X : Cx} {M : MP} {e : Expr} {pos : Pos} {va : ATE}
def aSortSet (t : ATE) : ATE := fun δ s Q => t δ s fun x s1 => ∃ ns : List Int, lsV s1 x = some (ns.map T.int) ∧ ns.length < 64 ∧ ∀ ms : List Int, ms.Pairwise (· < ·) → (∀ k, k ∈ ms ↔ k ∈ ns) → Q (.l s1.length) (s1 ++ [.lst (ms.map T.int)])
end
end Lv

/-! Lo1: dicts of the store whose values are places or data. -/
namespace Lv
open PySem L2
section
variable {κ : Type} [DecidableEq κ]
def valS (kvs : List (κ × SV)) (k : κ) : Option SV := (kvs.find? fun kv => decide (kv.1 = k)).map (·.2)
def putS (kvs : List (κ × SV)) (k : κ) (x : SV) : List (κ × SV) :=
  if (kvs.any fun kv => decide (kv.1 = k)) = true then kvs.map (fun kv => if kv.1 = k then (kv.1, x) else kv) else kvs ++ [(k, x)]
variable {K : Fr} {B : Hp} {φ : Fi}
theorem RsAll.append {vs ws : List V} {xs ys : List SV} (h : RsAll K B φ vs xs) (g : RsAll K B φ ws ys) : RsAll K B φ (vs ++ ws) (xs ++ ys) := by
  induction h with
  | nil => exact g
  | cons a _ ih => exact .cons a ih
end
/-- keys: whole numbers and texts -/
def keyT : T → Option Key
  | .int i => some (.inl i)
  | .str z => some (.inr z)
  | _ => none
section
variable {X : Cx} {M : MP} {e o f : Expr} {pos apos : Pos} {va vo vk vx : ATE}
def aDic0 : ATE := fun _ s Q => Q (.l s.length) (s ++ [.mK []])
def isMK (s : ST) : SV → Bool
  | .l n => (match s[n]? with | some (.mK _) => true | _ => false)
  | _ => false
/-- what setdefault does to a dict of the store -/
def setdG (x y z : SV) (s : ST) (Q : SV → ST → Prop) : Prop := match x, y with
  | .l n, .d t => ∃ k, keyT t = some k ∧ ∃ kvs, s[n]? = some (.mK kvs) ∧ kvs.length < sizeLine ∧ (∀ v, valS kvs k = some v → Q v s) ∧ (valS kvs k = none → Q z (s.set n (.mK (putS kvs k z))))
  | _, _ => False
def aSetd (to tk tx : ATE) : ATE := fun δ s Q => to δ s fun x s1 => isMK s1 x = true ∧ tk δ s1 fun y s2 => tx δ s2 fun z s3 => setdG x y z s3 Q
end
end Lv

/-! Lo2: what is kept of the store: the first k things, and chosen later ones, in a chosen order. -/
namespace Lv
open PySem L2
def mvN (k : Nat) (ns : List Nat) (n : Nat) : Nat := if n < k then n else k + ns.idxOf n
def mvS (k : Nat) (ns : List Nat) : SV → SV
  | .l n => .l (mvN k ns n)
  | x => x
def mvO (k : Nat) (ns : List Nat) : LO → LO
  | .tp xs => .tp (xs.map (mvS k ns))
  | .ll xs => .ll (xs.map (mvS k ns))
  | .mK kvs => .mK (kvs.map fun p => (p.1, mvS k ns p.2))
  | .mT kvs => .mT (kvs.map fun p => (p.1, mvS k ns p.2))
  | .fK od vs kvs => .fK od vs (kvs.map fun p => (p.1, mvS k ns p.2))
  | .fT od vs kvs => .fT od vs (kvs.map fun p => (p.1, mvS k ns p.2))
  | .ins C j fs => .ins C (mvN k ns j) (fs.map fun p => (p.1, mvS k ns p.2))
  | .own j => .own (mvN k ns j)
  | o => o
def inN (k : Nat) (ns : List Nat) (n : Nat) : Bool := decide (n < k) || ns.contains n
def inS (k : Nat) (ns : List Nat) : SV → Bool
  | .l n => inN k ns n
  | _ => true
def inO (k : Nat) (ns : List Nat) : LO → Bool
  | .tp xs => xs.all (inS k ns)
  | .ll xs => xs.all (inS k ns)
  | .mK kvs => (kvs.map (·.2)).all (inS k ns)
  | .mT kvs => (kvs.map (·.2)).all (inS k ns)
  | .fK _ _ kvs => (kvs.map (·.2)).all (inS k ns)
  | .fT _ _ kvs => (kvs.map (·.2)).all (inS k ns)
  | .ins _ j fs => inN k ns j && (fs.map (·.2)).all (inS k ns)
  | .own j => inN k ns j
  | _ => true
def kpO (s : ST) (n : Nat) : LO := (s[n]?).getD .gone
/-- the choice is one: later things, none twice, and nothing kept leans on what is not kept -/
def selOk (k : Nat) (ns : List Nat) (s : ST) : Bool := ns.all (fun n => decide (k ≤ n) && decide (n < s.length)) && decide ns.Nodup && (s.take k).all (inO k ns) && ns.all fun n => inO k ns (kpO s n)
def selS (k : Nat) (ns : List Nat) (s : ST) : ST := (s.take k).map (mvO k ns) ++ ns.map fun n => mvO k ns (kpO s n)
section
variable {K : Fr} {M : MP} {H B H0 B0 : Hp} {φ φ0 : Fi} {s s0 : ST}
theorem mvO_is {k : Nat} {ns : List Nat} {o : LO} : (mvO k ns o).is = o.is := by cases o <;> rfl
theorem Re.sel (re : Re K M H B φ s) (g : Gr H0 B0 φ0 H B φ) (e0 : Re K M H0 B0 φ0 s0) {ns : List Nat} {k : Nat} (hk : k = φ0.length) (h : selOk k ns s = true) :
    ∃ φ', Gr H0 B0 φ0 H B φ' ∧ Re K M H B φ' (selS k ns s) ∧ ∀ v x, Rs K B φ v x → inS k ns x = true → Rs K B φ' v (mvS k ns x) := by
  unfold selOk at h
  rw [Bool.and_eq_true, Bool.and_eq_true, Bool.and_eq_true] at h
  obtain ⟨⟨⟨h1, h2⟩, h3⟩, h4⟩ := h
  have nd := of_decide_eq_true h2
  have hr : ∀ n ∈ ns, k ≤ n ∧ n < s.length := fun n hn => by
    have := List.all_eq_true.mp h1 n hn
    rw [Bool.and_eq_true] at this
    exact ⟨of_decide_eq_true this.1, of_decide_eq_true this.2⟩
  have lφ := re.len
  have hk2 : k ≤ φ.length := by rw [hk]; exact g.le
  have hlt : ∀ n ∈ ns, n < φ.length := fun n hn => by rw [lφ]; exact (hr n hn).2
  have ltk : (φ.take k).length = k := by rw [List.length_take]; omega
  -- the kept places
  have at1 : ∀ i c, (φ.take k ++ selF φ ns)[i]? = some c → ∃ n, φ[n]? = some c ∧ ((i < k ∧ n = i) ∨ (k ≤ i ∧ ns[i - k]? = some n)) := fun i c hp => by
    by_cases hi : i < k
    · rw [List.getElem?_append_left (by omega), List.getElem?_take_of_lt hi] at hp
      exact ⟨i, hp, .inl ⟨hi, rfl⟩⟩
    · rw [List.getElem?_append_right (by omega), ltk] at hp
      obtain ⟨n, q1, q2⟩ := selF_inv hlt hp
      exact ⟨n, q2, .inr ⟨by omega, q1⟩⟩
  have at2 : ∀ n c, φ[n]? = some c → inN k ns n = true → (φ.take k ++ selF φ ns)[mvN k ns n]? = some c := fun n c hp hn => by
    unfold mvN
    split
    · rename_i hl
      rw [List.getElem?_append_left (by omega), List.getElem?_take_of_lt hl]; exact hp
    · rename_i hge
      have hm : n ∈ ns := by
        unfold inN at hn
        rw [decide_eq_false hge, Bool.false_or] at hn
        exact List.contains_iff_mem.mp hn
      have hx : ns[ns.idxOf n]? = some n := by
        rw [List.getElem?_eq_getElem (List.idxOf_lt_length_of_mem hm)]
        exact congrArg some (List.getElem_idxOf (List.idxOf_lt_length_of_mem hm))
      rw [List.getElem?_append_right (by omega), ltk, Nat.add_sub_cancel_left, selF_at hlt hx]; exact hp
  have at3 : ∀ n p, φ.r n = some p → inN k ns n = true → Fi.r (φ.take k ++ selF φ ns) (mvN k ns n) = some p := fun n p hp hn => by
    obtain ⟨c, h1, rfl⟩ := Fi.r_inv hp
    exact Fi.r_of (at2 n c h1 hn)
  have so : ∀ i o, (selS k ns s)[i]? = some o → ∃ n o', s[n]? = some o' ∧ o = mvO k ns o' ∧ inO k ns o' = true ∧ ((i < k ∧ n = i) ∨ (k ≤ i ∧ ns[i - k]? = some n)) := fun i o ho => by
    have lt : ((s.take k).map (mvO k ns)).length = k := by rw [List.length_map, List.length_take]; omega
    unfold selS at ho
    by_cases hi : i < k
    · rw [List.getElem?_append_left (by omega), List.getElem?_map, List.getElem?_take_of_lt hi] at ho
      have hs : s[i]? = some s[i] := List.getElem?_eq_getElem (by omega)
      rw [hs] at ho
      exact ⟨i, s[i], hs, (Option.some.inj ho).symm, List.all_eq_true.mp h3 _ (List.mem_of_getElem? (by rw [List.getElem?_take_of_lt hi]; exact hs)), .inl ⟨hi, rfl⟩⟩
    · rw [List.getElem?_append_right (by omega), lt, List.getElem?_map] at ho
      cases hq : ns[i - k]? with
      | none => rw [hq] at ho; cases ho
      | some n =>
        rw [hq] at ho
        have hm := List.mem_of_getElem? hq
        have hnl := (hr n hm).2
        have hs : s[n]? = some s[n] := List.getElem?_eq_getElem hnl
        have e : kpO s n = s[n] := by unfold kpO; rw [hs]; rfl
        refine ⟨n, s[n], hs, ?_, ?_, .inr ⟨by omega, rfl⟩⟩
        · rw [← e]; exact (Option.some.inj ho).symm
        · rw [← e]; exact List.all_eq_true.mp h4 n hm
  have uniq : ∀ {i n m}, ((i < k ∧ n = i) ∨ (k ≤ i ∧ ns[i - k]? = some n)) → ((i < k ∧ m = i) ∨ (k ≤ i ∧ ns[i - k]? = some m)) → n = m := fun a b => by
    rcases a with ⟨a1, a2⟩ | ⟨a1, a2⟩ <;> rcases b with ⟨b1, b2⟩ | ⟨b1, b2⟩
    · omega
    · omega
    · omega
    · rw [a2] at b2; exact Option.some.inj b2
  have rs : ∀ v x, Rs K B φ v x → inS k ns x = true → Rs K B (φ.take k ++ selF φ ns) v (mvS k ns x) := fun v x hx hi => by
    cases x with
    | d t => exact hx
    | l n => obtain ⟨p, hp, rfl⟩ := hx; exact ⟨p, at3 n p hp hi, rfl⟩
  have rsa : ∀ {vs xs}, RsAll K B φ vs xs → xs.all (inS k ns) = true → RsAll K B (φ.take k ++ selF φ ns) vs (xs.map (mvS k ns)) := fun hx hi => hx.map_to fun v x m rx => rs v x rx (List.all_eq_true.mp hi x m)
  have g2 : Gr H0 B0 φ0 H B (φ.take k ++ selF φ ns) := ⟨g.eb, ⟨(selF φ ns).map Ce.p, by
    obtain ⟨r, er⟩ := g.pf
    rw [List.map_append, List.map_take, er, hk, ← List.length_map (f := Ce.p), List.take_left]⟩, g.kp, g.nb, fun a ha => by
    obtain ⟨i, c, hi, hc⟩ := adr_of ha
    obtain ⟨n, hn, _⟩ := at1 i c hi
    exact g.nf a (adr_mem hn hc)⟩
  refine ⟨_, g2, ⟨re.ex, ?_, ?_, fun p hp => ?_, fun i c o e1 e2 e3 => ?_, fun i c o e1 e2 => ?_, fun H3 B3 φ3 g3 => e0.pm _ _ _ (g2.trans g3)⟩, rs⟩
  · refine adr_nd_of (fun i c hc => ?_) fun i j c d a q1 q2 q3 q4 => ?_
    · obtain ⟨n, hn, _⟩ := at1 i c hc
      exact ce_nd re.nd hn
    · obtain ⟨n, hn, cn⟩ := at1 i c q1
      obtain ⟨m, hm, cm⟩ := at1 j d q2
      have := adr_nd re.nd hn hm q3 q4
      subst this
      rcases cn with ⟨a1, a2⟩ | ⟨a1, a2⟩ <;> rcases cm with ⟨b1, b2⟩ | ⟨b1, b2⟩
      · omega
      · have := (hr n (List.mem_of_getElem? b2)).1; omega
      · have := (hr n (List.mem_of_getElem? a2)).1; omega
      · obtain ⟨j1, j2⟩ := List.getElem?_eq_some_iff.mp a2
        obtain ⟨k1, k2⟩ := List.getElem?_eq_some_iff.mp b2
        have := (List.getElem_inj nd).mp (j2.trans k2.symm)
        omega
  · unfold selS
    rw [List.length_append, List.length_append, List.length_map, List.length_map, selF_len, ltk, List.length_take]; omega
  · obtain ⟨i, c, hi, hc⟩ := adr_of hp
    obtain ⟨n, hn, _⟩ := at1 i c hi
    exact re.al p (adr_mem hn hc)
  · obtain ⟨n, hn, cn⟩ := at1 i c e1
    obtain ⟨m, o', ho, rfl, _, cm⟩ := so i o e2
    have := uniq cn cm
    subst this
    exact re.fr n c o' hn ho (by rw [← mvO_is (k := k) (ns := ns)]; exact e3)
  · obtain ⟨n, hn, cn⟩ := at1 i c e1
    obtain ⟨m, o', ho, rfl, io, cm⟩ := so i o e2
    have := uniq cn cm
    subst this
    have hob := re.ob n c o' hn ho
    have go : ∀ u, Ro K B φ o' u → Ro K B (φ.take k ++ selF φ ns) (mvO k ns o') u := fun u hob => by
      cases o' with
      | gone => trivial
      | lst _ => exact hob
      | dK _ => exact hob
      | dT _ => exact hob
      | tp xs => obtain ⟨vs, f1, e⟩ := hob; exact ⟨vs, rsa f1 io, e⟩
      | ll xs => obtain ⟨vs, f1, e⟩ := hob; exact ⟨vs, rsa f1 io, e⟩
      | mK kvs =>
        obtain ⟨vs, f1, e⟩ := hob
        obtain ⟨m1, m2⟩ := map_snd (mvS k ns) kvs
        exact ⟨vs, by rw [m1]; exact rsa f1 io, by rw [m2]; exact e⟩
      | mT kvs =>
        obtain ⟨vs, f1, e⟩ := hob
        obtain ⟨m1, m2⟩ := map_snd (mvS k ns) kvs
        exact ⟨vs, by rw [m1]; exact rsa f1 io, by rw [m2]; exact e⟩
      | fK od vs kvs =>
        obtain ⟨f1, e⟩ := hob
        obtain ⟨m1, m2⟩ := map_snd (mvS k ns) kvs
        exact ⟨by rw [m1]; exact rsa f1 io, by rw [m2]; exact e⟩
      | lK od vs kvs => exact hob
      | lT od vs kvs => exact hob
      | fT od vs kvs =>
        obtain ⟨f1, e⟩ := hob
        obtain ⟨m1, m2⟩ := map_snd (mvS k ns) kvs
        exact ⟨by rw [m1]; exact rsa f1 io, by rw [m2]; exact e⟩
      | ins C j fs =>
        obtain ⟨vs, dx, f1, j1, e⟩ := hob
        obtain ⟨m1, m2⟩ := map_snd (mvS k ns) fs
        have io := Bool.and_eq_true_iff.mp io
        exact ⟨vs, dx, by rw [m1]; exact rsa f1 io.2, at3 j dx j1 io.1, by rw [m2]; exact e⟩
      | own j => obtain ⟨x, j1, e⟩ := hob; exact ⟨x, at3 j x j1 io, e⟩
      | box _ => exact hob.elim
      | pool _ _ => exact hob.elim
    have hsm : (mvO k ns o').smp = o'.smp := by cases o' <;> rfl
    cases hob with
    | gone => exact .gone
    | sim w1 w2 w3 => exact .sim (by rw [hsm]; exact w1) w2 (go _ w3)
    | box ψ w1 w2 w3 w4 => exact .box ψ w1 w2 w3 w4
    | pool w1 w2 w3 w4 => exact .pool w1 w2 (w3.shl w1) w4
/-- a value, and what is kept with it -/
def keepC (k : Nat) (Q : SV → ST → Prop) : SV → ST → Prop := fun x s1 => ∃ ns : List Nat, selOk k ns s1 = true ∧ inS k ns x = true ∧ Q (mvS k ns x) (selS k ns s1)
theorem fin_keep {Q : SV → ST → Prop} {Q' : VK} (re : Re K M H B φ s) (f : FinE K M H B φ Q Q') : FinE K M H B φ (keepC s.length Q) Q' := fun H1 B1 φ1 s1 v x g1 re1 r1 ⟨ns, h1, h2, q⟩ => by
  obtain ⟨φ', g2, re2, rs⟩ := re1.sel g1 re re.len.symm h1
  exact f _ _ _ _ _ _ g2 re2 (rs v x r1 h2) q
theorem keepC_of {k : Nat} {Q : SV → ST → Prop} {x : SV} {s1 : ST} (ns : List Nat) (h1 : selOk k ns s1 = true) (h2 : inS k ns x = true) (q : Q (mvS k ns x) (selS k ns s1)) : keepC k Q x s1 := ⟨ns, h1, h2, q⟩
def mvA (k : Nat) (ns : List Nat) : Option SV → Option SV
  | some x => if inS k ns x then some (mvS k ns x) else none
  | none => none
def endK (k : Nat) (vs : List Nat) (Q : AS → ST → Prop) : AS → ST → Prop := fun δ s1 => ∃ ns : List Nat, selOk k ns s1 = true ∧ Q ((wipeA δ vs).map (mvA k ns)) (selS k ns s1)
theorem fin_endK {vs : List Nat} {Q : AS → ST → Prop} {Q' : St → Hp → Prop} (re : Re K M H B φ s) (f : FinG K M H B φ Q Q') : FinG K M H B φ (endK s.length vs Q) Q' := fun H1 B1 φ1 s1 σ δ g1 re1 sl ⟨ns, h1, q⟩ => by
  obtain ⟨φ', g2, re2, rs⟩ := re1.sel g1 re re.len.symm h1
  have sl2 := sl.wipeA vs
  refine f _ _ _ _ _ _ g2 re2 ⟨by rw [List.length_map]; exact sl2.len, fun i x e => ?_⟩ q
  rw [List.getElem?_map] at e
  cases hd : (wipeA δ vs)[i]? with
  | none => rw [hd] at e; cases e
  | some y =>
    rw [hd] at e
    cases y with
    | none => cases e
    | some z =>
      have e : mvA s.length ns (some z) = some x := Option.some.inj e
      unfold mvA at e
      simp only at e
      split at e
      · rename_i hz
        cases e
        obtain ⟨v, e1, r1⟩ := sl2.at_ i z hd
        exact ⟨v, e1, rs v z r1 hz⟩
      · cases e
end
section
variable {X : Cx} {M : MP} {e : Expr} {va : ATE} {st : List Stmt} {t : ATS}
def aKp (t : ATE) : ATE := fun δ s Q => t δ s (keepC s.length Q)
/-- a block of a loop, what is kept is chosen -/
def pBlkK (vs : List Nat) (t : ATS) : ATS := fun A δ s => t { nx := endK s.length vs A.nx, rt := A.rt, bk := endK s.length vs A.bk, ct := endK s.length vs A.ct } δ s
/-- a def's body likewise -/
def pBodyK (t : ATS) : ATS := fun A δ s => t { nx := endK s.length [] A.nx, rt := keepC s.length A.rt } δ s
theorem ap_bodyK (h : APs X M st t) : APs X M st (pBodyK t) := ⟨_, h.pss, fun H B φ σ δ s A re sl q D f => uS_lift (t := t) H B φ σ δ s _ re sl q _ ⟨fin_endK re f.nx, fin_keep re f.rt, fun _ _ _ _ _ _ _ _ _ z => z.elim, fun _ _ _ _ _ _ _ _ _ z => z.elim⟩⟩
end
section
variable {P : Program} {w : World} {K : Fr} {mg : Str → Option Value} {base : Heap}
theorem Df.calK {x qual : Str} {st : Stmt} {ps : List Str} {k : Nat} {sp : ASp} (D : Df K mg x qual st ps) {N : List Str} (S : FnScope N ps (defScope st)) (len : ∀ vs s Q, sp vs s Q → vs.length = ps.length)
    (hbody : ∀ (f : Addr) (cdv : Value) (A : Around) (outer : List Env) (s : Shared) (H : Hp) (E : XK), RoomG k (A.deeper (PyProof.Rows.envOfC qual (defScope st) s.heap.objs.size f cdv)) →
      ∃ t, APs (cxOf (L2.CX P w) P w K mg base N qual (defScope st) f cdv A outer s H E).nox M0 (defBody st) t ∧ ∀ (svs : List SV) (s0 : ST) (Q : SV → ST → Prop), sp svs s0 Q → pBodyK t { nx := fun _ s' => Q (.d .non) s', rt := Q } (slots N svs) s0) : Cal P w K mg base (k + 1) x ps sp := by
  obtain ⟨f, fd, F, h1, h2, h3⟩ := D.ex
  exact ⟨f, fd, fn_lv F S len fun cdv A outer s H E hr svs s0 Q h => (by
    obtain ⟨t, p, q⟩ := hbody f cdv A outer s H E hr
    exact ⟨_, ap_bodyK p, q svs s0 Q h⟩), h1, h2, h3⟩
end
end Lv

/-! Kl: asks laid on berths, one by one (no program in sight). An entry: (berth, begin, end); a triple: (begin, end, place). -/
namespace Kl
abbrev E3 := Nat × Nat × Nat
/-- a berth on which some entry has a leg from a on -/
def busy (L : List E3) (a j : Nat) : Bool := L.any fun e => decide (e.1 = j ∧ a < e.2.2)
def ff (L : List E3) (a : Nat) : Nat → Nat → Nat
  | 0, j => j
  | n + 1, j => if busy L a j then ff L a n (j + 1) else j
/-- the least berth that is free from a on -/
def free (L : List E3) (a : Nat) : Nat := ff L a L.length 0
end Kl

/-! Lr1: triples as data; berths. -/
namespace Lv
open PySem L2 Kl
def lastN (as : List (Nat × Nat)) : Nat := (as.map Prod.snd).foldl max 0
end Lv

/-! Lr2: dicts of places: what is found behind a store; the book of who lies on which berth. -/
namespace Lv
open PySem L2 Kl
section
variable {κ : Type} [DecidableEq κ]
end
end Lv

/-! Lt1: lists of small natural numbers as data. -/
namespace Lv
open PySem L2
/-- a list of small natural numbers -/
def gT (ts : List T) (k : Nat) : Prop := (∀ x ∈ ts, ∃ n : Nat, n < 10 ^ 6 ∧ x = .int (n : Nat)) ∧ ts.length ≤ k
theorem gT.mono {ts : List T} {j k : Nat} (h : gT ts j) (l : j ≤ k) : gT ts k := ⟨h.1, Nat.le_trans h.2 l⟩
theorem gT.sub {ts us : List T} {k : Nat} (h : gT ts k) (m : us.Sublist ts) : gT us k := ⟨fun x hx => h.1 x (m.subset hx), Nat.le_trans m.length_le h.2⟩
theorem gT.app {ts us : List T} {j k : Nat} (h : gT ts j) (g : gT us k) : gT (ts ++ us) (j + k) := ⟨fun x hx => (List.mem_append.mp hx).elim (h.1 x) (g.1 x), by rw [List.length_append]; exact Nat.add_le_add h.2 g.2⟩
theorem gT.cut {ts : List T} {k : Nat} (h : gT ts k) (a b : Option Int) : gT (cut ts a b) k := h.sub (cut_sub ts a b)
theorem gT.one {n : Nat} (h : n < 10 ^ 6) : gT [.int (n : Nat)] 1 := ⟨fun x hx => ⟨n, h, List.mem_singleton.mp hx⟩, Nat.le_refl _⟩
theorem gT.nil : gT [] 0 := ⟨fun x hx => (by cases hx), Nat.le_refl _⟩
theorem gT.ex : ∀ {ts : List T} {k : Nat}, gT ts k → ∃ l : List Nat, ts = natT l
  | [], k, h => ⟨[], rfl⟩
  | x :: r, k, h => by
    obtain ⟨n, _, e⟩ := h.1 x List.mem_cons_self
    obtain ⟨l, e2⟩ := gT.ex (h.sub (List.sublist_cons_self x r))
    exact ⟨n :: l, by rw [e, e2]; rfl⟩
theorem gT.get {ts : List T} {k : Nat} (h : gT ts k) {i : Nat} (hi : i < ts.length) : ∃ n : Nat, n < 10 ^ 6 ∧ atI ts (i : Int) = some (.int (n : Nat)) := by
  obtain ⟨n, h1, h2⟩ := h.1 _ (List.getElem_mem hi)
  exact ⟨n, h1, by rw [← h2]; exact atI_at (List.getElem?_eq_getElem hi)⟩
theorem gT.wts : ∀ {ts : List T} {k : Nat}, gT ts k → wts ts ≤ 41 * k
  | [], k, h => by rw [wts_nil]; omega
  | x :: r, 0, h => absurd h.2 (by simp)
  | x :: r, k + 1, h => by
    obtain ⟨n, hn, e⟩ := h.1 x List.mem_cons_self
    have h2 := gT.wts (ts := r) (k := k) ⟨fun y hy => h.1 y (List.mem_cons_of_mem _ hy), by have := h.2; rw [List.length_cons] at this; omega⟩
    have h1 := wt_int (i := (n : Int)) (by omega)
    rw [wts_cons, e]
    omega
theorem gT.sm {ts : List T} {k : Nat} (h : gT ts k) : ∀ x ∈ ts, T.sm 0 x = true := fun x hx => by
  obtain ⟨n, hn, rfl⟩ := h.1 x hx
  unfold T.sm
  exact decide_eq_true (by omega)
end Lv

/-! Lo3: constants of the module by name, a written dict read by a text, a text so many times. -/
namespace Lv
open PySem L2
/-- x stands for data t -/
structure GT (K : Fr) (mg : Str → Option Value) (x : Str) (t : T) : Prop where
  ex : ∃ (v : V) (u : Value), mg x = some u ∧ RelV v u ∧ ∀ B, Fz K B v t
/-- x stands for a written dict with these entries -/
structure GD (K : Fr) (w : World) (mg : Str → Option Value) (x : Str) (tab : List (Str × T)) : Prop where
  ex : ∃ a : Addr, mg x = some (.ref a) ∧ ∀ p ∈ tab, ∃ v, KDct K w a p.1 v ∧ ∀ B, Fz K B v p.2
section
variable {K : Fr} {w : World} {mg : Str → Option Value} {x : Str}
theorem GT.int {i : Int} {t : Tok} (h : mg x = some (.int i t)) : GT K mg x (.int i) := ⟨.int i, _, h, ⟨t, rfl⟩, fun B => .int i⟩
theorem GT.str {z : Str} {t : Tok} (h : mg x = some (.str z t)) : GT K mg x (.str z) := ⟨.str z, _, h, ⟨t, rfl⟩, fun B => .str z⟩
theorem fz_strB {B : Hp} : ∀ xs : List Str, FzAll K B (xs.map V.str) (xs.map T.str)
  | [] => .nil
  | x :: r => .cons (.str x) (fz_strB r)
theorem strs_all (xs : List Str) : ∀ x ∈ xs.map V.str, ∃ z, x = V.str z := fun x hx => by obtain ⟨z, _, rfl⟩ := List.mem_map.mp hx; exact ⟨z, rfl⟩
end
section
variable {X : Cx} {M : MP} {e : Expr} {pos p : Pos} {x : Str} {va vb ve : ATE} {a b : Expr}
theorem ae_glo {t : T} (G : GT X.K X.mg x t) (hg : Gl X x := by rfl) (hd : (x == ("__debug__" : Str)) = false := by decide) : AE X M (.Name x pos) (aC t) := by
  obtain ⟨v, u, hm, r, hf⟩ := G.ex
  exact .of (pe_glob hg hm r (hd := hd)) fun H B φ σ δ s Q re sl q Q' f => f.now re (.dat (hf B)) q
/-- an entry of a written dict -/
def aKd (tab : List (Str × T)) (ve : ATE) : ATE := fun δ s Q => ve δ s fun y s1 => ∃ z t, y = .d (.str z) ∧ (z, t) ∈ tab ∧ Q (.d t) s1
/-- a text so many times -/
def mulSG : AR2 := fun x y s Q => match x, y with
  | .d (.str z), .d (.int k) => MulOk z k ∧ Q (.d (.str (Txt.mul z k))) s
  | _, _ => False
theorem op_mulS : OpR X (binaryOp .Mult) (fun x y H Q => ∃ z k, x = .str z ∧ y = .int k ∧ MulOk z k ∧ Q (.str (Txt.mul z k)) H) := by
  intro pins s σ H x y v u Q I rx ry ⟨z, k, ex, ey, ok, q⟩
  subst ex; subst ey
  obtain ⟨t, rfl⟩ := rx
  obtain ⟨t', rfl⟩ := ry
  exact SB.mul ok fun t2 tk => ⟨.str _, H, I.tok _, ⟨_, rfl⟩, q⟩
theorem ae_mulS (ha : AE X M a va) (hb : AE X M b vb) : AE X M (.BinOp a .Mult b pos) (aOp mulSG va vb) :=
  ae_bin op_mulS (fun H B φ s x y sx sy Q re rx ry h Q' f => by
    unfold mulSG at h
    split at h
    · cases str_of rx; cases int_of ry
      exact ⟨_, _, rfl, rfl, h.1, f.str re h.2⟩
    · exact h.elim) ha hb
end
end Lv
namespace Lv
open PySem L2
/-! what the top has written of constants -/
structure GTk (K : Fr) (x : Str) (t : T) : Prop where
  ex : ∃ (v : V) (u : Value), PySem.W.nsIn K mainGlobals x = some (some u) ∧ RelV v u ∧ ∀ B, Fz K B v t
theorem GTk.int_of {K : Fr} {x : Str} {i : Int} {t : Tok} (h : PySem.W.nsIn K mainGlobals x = some (some (.int i t))) : GTk K x (.int i) := ⟨.int i, _, h, ⟨t, rfl⟩, fun B => .int i⟩
theorem GTk.str_of {K : Fr} {x : Str} {z : Str} {t : Tok} (h : PySem.W.nsIn K mainGlobals x = some (some (.str z t))) : GTk K x (.str z) := ⟨.str z, _, h, ⟨t, rfl⟩, fun B => .str z⟩
theorem GTk.strs_of {K : Fr} {x : Str} {xs : List Str} {a : Addr} {od : Option Addr} {its : Array Value} {n : Nat} {sl : Array (Option Value)} (h : PySem.W.nsIn K mainGlobals x = some (some (.ref a))) (hl : K.lookup a = some ⟨.type "tuple", od, .seq its n, sl⟩)
    (hs : its.size ≤ sizeLine) (hv : Vals (xs.map V.str) its.toList) : GTk K x (.tup (xs.map T.str)) :=
  ⟨.ref a, _, h, rfl, fun B => .tup (.inr ⟨⟨_, its, n, hl, rfl, rfl, hs, hv⟩, strs_all xs⟩) (fz_strB xs)⟩
theorem GTk.gt {K : Fr} {h : Heap} {mg : Str → Option Value} {x : Str} {t : T} (g : GTk K x t) (X : K.In h) (G : h.Ns mainGlobals mg) : GT K mg x t := by
  obtain ⟨v, u, h1, h2, h3⟩ := g.ex
  exact ⟨v, u, PySem.W.mg_of X G h1, h2, h3⟩
structure GDk (K : Fr) (w : World) (x : Str) (tab : List (Str × T)) : Prop where
  ex : ∃ a : Addr, PySem.W.nsIn K mainGlobals x = some (some (.ref a)) ∧ ∀ p ∈ tab, ∃ v, KDct K w a p.1 v ∧ ∀ B, Fz K B v p.2
theorem GDk.gd {K : Fr} {w : World} {h : Heap} {mg : Str → Option Value} {x : Str} {tab : List (Str × T)} (g : GDk K w x tab) (X : K.In h) (G : h.Ns mainGlobals mg) : GD K w mg x tab := by
  obtain ⟨a, h1, h2⟩ := g.ex
  exact ⟨a, PySem.W.mg_of X G h1, h2⟩
end Lv
namespace Lv
open PySem L2
theorem GDk.of {K : Fr} {w : World} {x : Str} {tab : List (Str × T)} {a : Addr} {es : Array DictEntry} {n : Nat} (h : PySem.W.nsIn K mainGlobals x = some (some (.ref a))) (hl : K.lookup a = some ⟨.type "dict", none, .dict es n, #[]⟩)
    (hk : PySem.W.KeysLit w.params es.toList) (ht : ∀ p ∈ tab, ∃ v u, PySem.W.nsIn K a p.1 = some (some u) ∧ RelV v u ∧ ∀ B, Fz K B v p.2) : GDk K w x tab :=
  ⟨a, h, fun p hp => by
    obtain ⟨v, u, h1, h2, h3⟩ := ht p hp
    exact ⟨v, ⟨es, n, u, hl, hk, h1, h2⟩, h3⟩⟩
end Lv
namespace Lv
theorem tab_nil {α : Type} {P : α → Prop} : ∀ p ∈ ([] : List α), P p := fun p h => by cases h
theorem tab_cons {α : Type} {P : α → Prop} {a : α} {r : List α} (h : P a) (g : ∀ p ∈ r, P p) : ∀ p ∈ a :: r, P p := fun p hp => by
  rcases List.mem_cons.mp hp with rfl | hp
  · exact h
  · exact g p hp
end Lv
namespace Lv
open PySem L2
/-- the entries of a written dict of texts -/
inductive GE (K : Fr) (a : Addr) : List (Str × T) → Prop
  | nil : GE K a []
  | str {k z : Str} {t : Tok} {r : List (Str × T)} : PySem.W.nsIn K a k = some (some (.str z t)) → GE K a r → GE K a ((k, .str z) :: r)
theorem GE.all {K : Fr} {a : Addr} {tab : List (Str × T)} (g : GE K a tab) : ∀ p ∈ tab, ∃ v u, PySem.W.nsIn K a p.1 = some (some u) ∧ RelV v u ∧ ∀ B, Fz K B v p.2 := by
  induction g with
  | nil => exact tab_nil
  | str h _ ih => exact tab_cons ⟨.str _, _, h, ⟨_, rfl⟩, fun B => .str _⟩ ih
end Lv

/-! Lo4: {"a": "b", ..}[e], a display of texts read at once. -/
namespace Lv
open PySem L2
inductive KC : List (Option Expr) → List Expr → List (Str × Str) → Prop
  | nil : KC [] [] []
  | cons {k z : Str} {j j' : Nat} {p p' : Pos} {ks : List (Option Expr)} {vs : List Expr} {tab : List (Str × Str)} : KC ks vs tab → KC (some (.Constant (.str k) j p) :: ks) (.Constant (.str z) j' p' :: vs) ((k, z) :: tab)
theorem KC.all {ks : List (Option Expr)} {vs : List Expr} {tab : List (Str × Str)} (h : KC ks vs tab) : ks.all (·.isSome) = true ∧ ks.length = vs.length ∧ ks.length = tab.length := by
  induction h with
  | nil => exact ⟨rfl, rfl, rfl⟩
  | cons _ ih => exact ⟨ih.1, congrArg Nat.succ ih.2.1, congrArg Nat.succ ih.2.2⟩
abbrev tabK (tab : List (Str × Str)) : List (Key × V) := mergeK [] (tab.map fun q => (Sum.inr q.1, V.str q.2))
section
variable {X : Cx} {M : MP} {e : Expr} {pos dpos : Pos} {ve : ATE} {ks : List (Option Expr)} {vs : List Expr} {tab : List (Str × Str)}
def aDIx (tab : List (Str × Str)) (ve : ATE) : ATE := fun δ s Q => ve δ s fun y s1 => ∃ z t, y = .d (.str z) ∧ valV (tabK tab) (Sum.inr z) = some (V.str t) ∧ Q (.d (.str t)) s1
/-- shut to simp -/
def kdK (tab : List (Str × T)) (Q : SV → ST → Prop) (_ : Lk Q) (y : SV) (s : ST) : Prop := ∃ z t, y = .d (.str z) ∧ (z, t) ∈ tab ∧ Q (.d t) s
theorem aKd_eq (tab : List (Str × T)) (ve : ATE) (δ : AS) (s : ST) (Q : SV → ST → Prop) : aKd tab ve δ s Q = ve δ s fun y s1 => kdK tab Q .mk y s1 := rfl
def dixK (tab : List (Str × Str)) (Q : SV → ST → Prop) (_ : Lk Q) (y : SV) (s : ST) : Prop := ∃ z t, y = .d (.str z) ∧ valV (tabK tab) (Sum.inr z) = some (V.str t) ∧ Q (.d (.str t)) s
theorem aDIx_eq (tab : List (Str × Str)) (ve : ATE) (δ : AS) (s : ST) (Q : SV → ST → Prop) : aDIx tab ve δ s Q = ve δ s fun y s1 => dixK tab Q .mk y s1 := rfl
end
end Lv

/-! Lu1: rooms as texts: berths alone, or two mates with a stroke between. -/
namespace Lv
open PySem L2
/-- a berth alone, or with its mate: true is up -/
abbrev U := Bool × Option Bool
def sgn (b : Bool) : Nat := if b then 117 else 108
def encU : U → List Nat
  | (b, none) => [sgn b]
  | (b, some c) => [sgn b, 47, sgn c]
def encR (us : List U) : List Nat := us.flatMap encU
def txt (l : List Nat) : Str := ⟨l.toArray⟩
def wU (u : U) : Nat := if u.2.isSome then 2 else 1
def wR (us : List U) : Nat := (us.map wU).sum
theorem txt_len (l : List Nat) : (txt l).length = l.length := by unfold txt Str.length; simp
theorem txt_inj {a b : List Nat} (h : txt a = txt b) : a = b := by
  unfold txt at h
  injection h with h
  injection h
theorem txt_list (l : List Nat) : (txt l).cps.toList = l := rfl
theorem cut_txt (l : List Nat) (a b : Nat) : cutS (txt l) (some (a : Int)) (some (b : Int)) = txt ((l.drop a).take (b - a)) := by
  unfold cutS
  rw [HT.sIx_nat, HT.sIx_nat, txt_len, txt_list]
  show txt _ = txt _
  congr 1
  by_cases ha : a ≤ l.length
  · rw [Nat.min_eq_left ha]
    by_cases hb : b ≤ l.length
    · rw [Nat.min_eq_left hb]
    · rw [Nat.min_eq_right (by omega), List.take_of_length_le (by rw [List.length_drop]; exact Nat.le_refl _), List.take_of_length_le (by rw [List.length_drop]; omega)]
  · rw [List.drop_eq_nil_of_le (show l.length ≤ min a l.length by omega), List.drop_eq_nil_of_le (show l.length ≤ a by omega), List.take_nil, List.take_nil]
theorem encR_nil : encR [] = [] := rfl
theorem encR_cons (u : U) (r : List U) : encR (u :: r) = encU u ++ encR r := rfl
theorem encR_app (a b : List U) : encR (a ++ b) = encR a ++ encR b := List.flatMap_append
theorem encR_snoc (a : List U) (u : U) : encR (a ++ [u]) = encR a ++ encU u := by rw [encR_app, encR_cons, encR_nil, List.append_nil]
theorem encU_len (u : U) : (encU u).length = if u.2.isSome then 3 else 1 := by
  rcases u with ⟨b, _ | c⟩ <;> rfl
theorem wR_app (a b : List U) : wR (a ++ b) = wR a + wR b := by unfold wR; rw [List.map_append, List.sum_append]
theorem encR_le (us : List U) : (encR us).length ≤ 3 * wR us ∧ us.length ≤ wR us := by
  induction us with
  | nil => exact ⟨Nat.le_refl _, Nat.le_refl _⟩
  | cons u r ih =>
    have e : wR (u :: r) = wU u + wR r := by unfold wR; rw [List.map_cons, List.sum_cons]
    rw [encR_cons, List.length_append, e, List.length_cons]
    rcases u with ⟨b, _ | c⟩
    · have h1 : (encU (b, none)).length = 1 := rfl
      have h2 : wU (b, none) = 1 := rfl
      rw [h1, h2]; omega
    · have h1 : (encU (b, some c)).length = 3 := rfl
      have h2 : wU (b, some c) = 2 := rfl
      rw [h1, h2]; omega
theorem glue_txt (us : List U) : Txt.join (txt []) (us.map fun u => txt (encU u)) = txt (encR us) := by
  show Builtin.Str.glued _ _ = _
  unfold Builtin.Str.glued
  cases us with
  | nil => rfl
  | cons u r =>
    show (⟨(r.map fun u => txt (encU u)).foldl (fun acc p => acc ++ (txt []).cps ++ p.cps) (txt (encU u)).cps⟩ : Str) = _
    have h : ∀ (r : List U) (acc : List Nat), (r.map fun u => txt (encU u)).foldl (fun acc p => acc ++ (txt []).cps ++ p.cps) acc.toArray = (acc ++ encR r).toArray := by
      intro r
      induction r with
      | nil => intro acc; rw [encR_nil, List.append_nil]; rfl
      | cons v r ih =>
        intro acc
        rw [List.map_cons, List.foldl_cons, encR_cons]
        have : acc.toArray ++ (txt []).cps ++ (txt (encU v)).cps = (acc ++ encU v).toArray := by
          unfold txt; simp
        rw [this, ih, List.append_assoc]
    rw [encR_cons]
    show (⟨_⟩ : Str) = ⟨_⟩
    congr 1
    exact h r (encU u)
end Lv

/-! Lb1: instances: data by a place, deep; freezing; boxes opened and shut; a call with a chosen part of the store. -/
namespace Lv
open PySem L2 LvI
/-- a pool's list tells just its own lists, in order -/
def pRefs : List T → List (Addr × PRec) → Bool
  | [], [] => true
  | .ref a :: ts, (b, .lst _) :: rs => decide (a = b) && pRefs ts rs
  | _, _ => false
theorem pRefs_len : ∀ {ts : List T} {rs : List (Addr × PRec)}, pRefs ts rs = true → ts.length = rs.length
  | [], [], _ => rfl
  | .ref a :: ts, (b, .lst _) :: rs, h => by
    unfold pRefs at h
    rw [Bool.and_eq_true] at h
    exact congrArg Nat.succ (pRefs_len h.2)
  | [], _ :: _, h => by unfold pRefs at h; cases h
  | t :: ts, [], h => by unfold pRefs at h; cases t <;> cases h
  | t :: ts, (b, .ins _ _ _) :: rs, h => by unfold pRefs at h; cases t <;> cases h
def PRec.dat : PRec → T
  | .lst us => .lst us
  | _ => .non
/-- a pool's dict tells just its own instances, in order -/
def pInss : List T → List (Addr × PRec) → Bool
  | [], [] => true
  | .ref a :: ts, (b, .ins _ _ _) :: rs => decide (a = b) && pInss ts rs
  | _, _ => false
def PRec.obT : PRec → T
  | .ins _ C fs => .obj C (fs.map (·.1)) (fs.map (·.2))
  | _ => .non
/-- a pool's lists in the place of their addresses -/
def lkR : List (Addr × PRec) → Addr → Option (List T)
  | [], _ => none
  | (b, .lst us) :: rs, a => if b = a then some us else lkR rs a
  | (_, .ins _ _ _) :: rs, a => lkR rs a
mutual
def rsvT (rs : List (Addr × PRec)) : T → T
  | .ref a => (match lkR rs a with | some us => .lst us | none => .ref a)
  | .tup ts => .tup (rsvTs rs ts)
  | .lst ts => .lst (rsvTs rs ts)
  | t => t
def rsvTs (rs : List (Addr × PRec)) : List T → List T
  | [] => []
  | t :: r => rsvT rs t :: rsvTs rs r
end
theorem rsvTs_map (rs : List (Addr × PRec)) : ∀ ts : List T, rsvTs rs ts = ts.map (rsvT rs)
  | [] => by unfold rsvTs; rfl
  | t :: r => by unfold rsvTs; rw [rsvTs_map rs r]; rfl
/-! ### data by a place, deep: only the places that ok tells -/
def deepF (ok : Nat → Bool) : Nat → ST → SV → Option T
  | _, _, .d t => some t
  | 0, _, .l _ => none
  | k + 1, s, .l n => if ok n = true then (match s[n]? with
    | some (.lst xs) => some (.lst xs)
    | some (.tp xs) => (optT (deepF ok k s) xs).map T.tup
    | some (.ll xs) => (optT (deepF ok k s) xs).map T.lst
    | some (.lK _ _ kvs) => some (.dk (kvs.map (·.1)) (kvs.map (·.2)))
    | some (.lT _ _ kvs) => some (.dt (kvs.map (·.1)) (kvs.map (·.2)))
    | some (.fK _ _ kvs) => (optT (deepF ok k s) (kvs.map (·.2))).map (T.dk (kvs.map (·.1)))
    | some (.fT _ _ kvs) => (optT (deepF ok k s) (kvs.map (·.2))).map (T.dt (kvs.map (·.1)))
    | some (.ins C j fs) => (match s[j]? with
      | some (.own m) => if m = n ∧ ok j = true then (optT (deepF ok k s) (fs.map (·.2))).map (T.obj C (fs.map (·.1))) else none
      | _ => none)
    | some (.box st) => deepF (fun _ => true) k st (.l 0)
    | some (.pool (.lst ts) rs) => if pRefs ts rs = true then some (.lst (rs.map fun r => r.2.dat)) else some (.lst (rsvTs rs ts))
    | some (.pool (.lK _ _ kvs) rs) => if pInss (kvs.map (·.2)) rs = true then some (.dk (kvs.map (·.1)) (rs.map fun r => r.2.obT)) else if pRefs (kvs.map (·.2)) rs = true then some (.dk (kvs.map (·.1)) (rs.map fun r => r.2.dat)) else none
    | _ => none) else none
section
variable {K : Fr} {M : MP} {H B B2 : Hp} {φ : Fi} {s : ST}
theorem pRefs_fz (e : Ex B B2) : ∀ {vs : List V} {ts : List T} {rs : List (Addr × PRec)}, FzAll K B vs ts → pRefs ts rs = true → (∀ r ∈ rs, Po K B H r.1 r.2) → (∀ a ∈ poolA rs, B2 a = H a) → FzAll K B2 vs (rs.map fun r => r.2.dat)
  | _, [], [], .nil, _, _, _ => .nil
  | v :: vs, .ref a :: ts, (b, .lst us) :: rs, .cons h q, w, hp, hb => by
    unfold pRefs at w
    rw [Bool.and_eq_true] at w
    have e1 : a = b := of_decide_eq_true w.1
    subst e1
    cases (show Fz K B v (.ref a) from h)
    obtain ⟨ws, f, g⟩ := hp _ List.mem_cons_self
    refine .cons (.lst ((hb a (poolA_mem List.mem_cons_self (by simp [PRec.al]))).trans g) (f.mono e)) (pRefs_fz e q w.2 (fun r hr => hp r (List.mem_cons_of_mem _ hr)) fun x hx => hb x ?_)
    exact List.mem_append_right _ hx
  | _, [], _ :: _, .nil, w, _, _ => by unfold pRefs at w; cases w
  | _, t :: ts, [], .cons _ _, w, _, _ => by unfold pRefs at w; cases t <;> cases w
  | _, t :: ts, (b, .ins _ _ _) :: rs, .cons _ _, w, _, _ => by unfold pRefs at w; cases t <;> cases w
theorem pInss_fz (e : Ex B B2) : ∀ {vs : List V} {ts : List T} {rs : List (Addr × PRec)}, FzAll K B vs ts → pInss ts rs = true → (∀ r ∈ rs, Po K B H r.1 r.2) → (∀ a ∈ poolA rs, B2 a = H a) → FzAll K B2 vs (rs.map fun r => r.2.obT) ∧ ts.length = rs.length
  | _, [], [], .nil, _, _, _ => ⟨.nil, rfl⟩
  | v :: vs, .ref a :: ts, (b, .ins dx C fs) :: rs, .cons h q, w, hp, hb => by
    unfold pInss at w
    rw [Bool.and_eq_true] at w
    have e1 : a = b := of_decide_eq_true w.1
    subst e1
    cases (show Fz K B v (.ref a) from h)
    obtain ⟨ws, f, g1, g2⟩ := hp _ List.mem_cons_self
    obtain ⟨i1, i2⟩ := pInss_fz e q w.2 (fun r hr => hp r (List.mem_cons_of_mem _ hr)) fun x hx => hb x (List.mem_append_right _ hx)
    refine ⟨.cons ?_ i1, congrArg Nat.succ i2⟩
    exact .obj ((hb a (poolA_mem List.mem_cons_self (by simp [PRec.al]))).trans g1) ((hb dx (poolA_mem List.mem_cons_self (by simp [PRec.al]))).trans g2) (f.mono e) (by rw [List.length_map, List.length_map])
  | _, [], _ :: _, .nil, w, _, _ => by unfold pInss at w; cases w
  | _, t :: ts, [], .cons _ _, w, _, _ => by unfold pInss at w; cases t <;> cases w
  | _, t :: ts, (b, .lst _) :: rs, .cons _ _, w, _, _ => by unfold pInss at w; cases t <;> cases w
theorem lkR_mem {a : Addr} {us : List T} : ∀ {rs : List (Addr × PRec)}, lkR rs a = some us → (a, PRec.lst us) ∈ rs
  | [], h => by cases h
  | (b, .lst ws) :: rs, h => by
    unfold lkR at h
    by_cases e : b = a
    · rw [if_pos e] at h; cases h; subst e; exact List.mem_cons_self
    · rw [if_neg e] at h; exact List.mem_cons_of_mem _ (lkR_mem h)
  | (b, .ins _ _ _) :: rs, h => by
    unfold lkR at h
    exact List.mem_cons_of_mem _ (lkR_mem h)
mutual
theorem rsv_fz (e : Ex B B2) {rs : List (Addr × PRec)} (hp : ∀ r ∈ rs, Po K B H r.1 r.2) (hb : ∀ a ∈ poolA rs, B2 a = H a) : ∀ {v : V} {t : T}, Fz K B v t → Fz K B2 v (rsvT rs t)
  | _, _, .non => .non
  | _, _, .bl b => .bl b
  | _, _, .int i => .int i
  | _, _, .str x => .str x
  | _, _, .ref a => by
    unfold rsvT
    cases h : lkR rs a with
    | none => exact .ref a
    | some us =>
      have hm := lkR_mem h
      obtain ⟨ws, f, g⟩ := hp _ hm
      exact .lst ((hb a (poolA_mem hm (by simp [PRec.al]))).trans g) (f.mono e)
  | _, _, .lst h r => by unfold rsvT; exact .lst (e _ _ h) (rsvs_fz e hp hb r)
  | _, _, .scr h r => by unfold rsvT; exact .scr (ex_l e h) (r.mono e)
  | _, _, .ty n => by unfold rsvT; exact .ty n
  | _, _, .tup h r => by unfold rsvT; exact .tup (h.mono e) (rsvs_fz e hp hb r)
  | _, _, .obj h g r l => by unfold rsvT; exact .obj (e _ _ h) (e _ _ g) (r.mono e) l
  | _, _, .dk h r l => by unfold rsvT; exact .dk (e _ _ h) (r.mono e) l
  | _, _, .dt h r l => by unfold rsvT; exact .dt (e _ _ h) (r.mono e) l
  | _, _, .exc h g r => by unfold rsvT; exact .exc (e _ _ h) (e _ _ g) (r.mono e)
theorem rsvs_fz (e : Ex B B2) {rs : List (Addr × PRec)} (hp : ∀ r ∈ rs, Po K B H r.1 r.2) (hb : ∀ a ∈ poolA rs, B2 a = H a) : ∀ {vs : List V} {ts : List T}, FzAll K B vs ts → FzAll K B2 vs (rsvTs rs ts)
  | _, _, .nil => by unfold rsvTs; exact .nil
  | _, _, .cons h r => by unfold rsvTs; exact .cons (rsv_fz e hp hb h) (rsvs_fz e hp hb r)
end
theorem optT_fz {f : SV → Option T} (hf : ∀ {v : V} {x : SV} {t : T}, Rs K B φ v x → f x = some t → Fz K B2 v t) : ∀ {vs : List V} {xs : List SV} {ts : List T}, RsAll K B φ vs xs → optT f xs = some ts → FzAll K B2 vs ts ∧ xs.length = ts.length
  | _, _, ts, .nil, e => by cases e; exact ⟨.nil, rfl⟩
  | _, x :: xs, ts, .cons h r, e => by
    unfold optT at e
    cases hx : f x with
    | none => rw [hx] at e; cases e
    | some t =>
      rw [hx] at e
      cases hq : optT f xs with
      | none => rw [hq] at e; cases e
      | some us =>
        rw [hq] at e
        cases e
        obtain ⟨h1, h2⟩ := optT_fz hf r hq
        exact ⟨.cons (hf h hx) h1, congrArg Nat.succ h2⟩
theorem deep_fz : ∀ (k : Nat) {φ : Fi} {s : ST} {ok : Nat → Bool} {v : V} {x : SV} {t : T}, Ex B B2 → (∀ (n : Nat) c o, ok n = true → φ[n]? = some c → s[n]? = some o → Rc K B H φ c o ∧ ∀ a ∈ c.al, B2 a = H a) → φ.length = s.length → Rs K B φ v x → deepF ok k s x = some t → Fz K B2 v t := by
  intro k
  induction k with
  | zero =>
    intro φ s ok v x t eb h hl r e
    cases x with
    | d u => cases (show some u = some t from e); exact Fz.mono eb r
    | l n => cases e
  | succ k ih =>
    intro φ s ok v x t eb h hl r e
    cases x with
    | d u => cases (show some u = some t from e); exact Fz.mono eb r
    | l n =>
      unfold deepF at e
      split at e
      · rename_i hok
        obtain ⟨p, hp, rfl⟩ := r
        obtain ⟨c, hc, rfl⟩ := Fi.r_inv hp
        cases hs : s[n]? with
        | none => rw [hs] at e; cases e
        | some o =>
          rw [hs] at e
          obtain ⟨rc, hB⟩ := h n c o hok hc hs
          have hBp := hB c.p (Ce.mem c)
          have rec_ : ∀ {v : V} {x : SV} {t : T}, Rs K B φ v x → deepF ok k s x = some t → Fz K B2 v t := fun r e => ih eb h hl r e
          have smp : ∀ {o' : LO}, o = o' → o'.smp = true → Ro K B φ o' (H c.p) := fun e1 w => by
            subst e1
            exact (rc.simp_ w).2
          cases o with
          | gone => cases e
          | own _ => cases e
          | lst xs =>
            obtain ⟨vs, h1, h2⟩ := smp rfl rfl
            cases (show some (T.lst xs) = some t from e)
            exact .lst (hBp.trans h2) (h1.mono eb)
          | tp xs =>
            obtain ⟨vs, h1, h2⟩ := smp rfl rfl
            obtain ⟨ts, q1, rfl⟩ := Option.map_eq_some_iff.mp (show (optT (deepF ok k s) xs).map T.tup = some t from e)
            exact .tup (.inl (hBp.trans h2)) (optT_fz rec_ h1 q1).1
          | ll xs =>
            obtain ⟨vs, h1, h2⟩ := smp rfl rfl
            obtain ⟨ts, q1, rfl⟩ := Option.map_eq_some_iff.mp (show (optT (deepF ok k s) xs).map T.lst = some t from e)
            exact .lst (hBp.trans h2) (optT_fz rec_ h1 q1).1
          | lK od vs kvs =>
            obtain ⟨h1, h2⟩ := smp rfl rfl
            cases (show some (T.dk _ _) = some t from e)
            exact .dk (hBp.trans h2) (h1.mono eb) (by rw [List.length_map, List.length_map])
          | lT od vs kvs =>
            obtain ⟨h1, h2⟩ := smp rfl rfl
            cases (show some (T.dt _ _) = some t from e)
            exact .dt (hBp.trans h2) (h1.mono eb) (by rw [List.length_map, List.length_map])
          | fK od vs kvs =>
            obtain ⟨h1, h2⟩ := smp rfl rfl
            obtain ⟨ts, q1, rfl⟩ := Option.map_eq_some_iff.mp (show (optT (deepF ok k s) (kvs.map (·.2))).map (T.dk (kvs.map (·.1))) = some t from e)
            obtain ⟨f1, f2⟩ := optT_fz rec_ h1 q1
            exact .dk (hBp.trans h2) f1 (by rw [List.length_map] at f2 ⊢; exact f2)
          | fT od vs kvs =>
            obtain ⟨h1, h2⟩ := smp rfl rfl
            obtain ⟨ts, q1, rfl⟩ := Option.map_eq_some_iff.mp (show (optT (deepF ok k s) (kvs.map (·.2))).map (T.dt (kvs.map (·.1))) = some t from e)
            obtain ⟨f1, f2⟩ := optT_fz rec_ h1 q1
            exact .dt (hBp.trans h2) f1 (by rw [List.length_map] at f2 ⊢; exact f2)
          | dK _ => cases e
          | dT _ => cases e
          | mK _ => cases e
          | mT _ => cases e
          | ins C j fs =>
            obtain ⟨vs, dx, h1, h3, h2⟩ := smp rfl rfl
            have e : (match s[j]? with
              | some (.own m) => if m = n ∧ ok j = true then (optT (deepF ok k s) (fs.map (·.2))).map (T.obj C (fs.map (·.1))) else none
              | _ => none) = some t := e
            cases hj : s[j]? with
            | none => rw [hj] at e; cases e
            | some u =>
              rw [hj] at e
              cases u with
              | own m =>
                have e5 : (if m = n ∧ ok j = true then (optT (deepF ok k s) (fs.map (·.2))).map (T.obj C (fs.map (·.1))) else none) = some t := e
                by_cases hm : m = n ∧ ok j = true
                · rw [if_pos hm] at e5
                  obtain ⟨rfl, hokj⟩ := hm
                  obtain ⟨ts, q1, rfl⟩ := Option.map_eq_some_iff.mp e5
                  obtain ⟨f1, f2⟩ := optT_fz rec_ h1 q1
                  obtain ⟨d, hd, rfl⟩ := Fi.r_inv h3
                  obtain ⟨rd, hBd⟩ := h j d _ hokj hd hj
                  obtain ⟨x, x1, x2⟩ := (rd.simp_ rfl).2
                  rw [hp] at x1
                  cases x1
                  exact .obj (hBp.trans h2) ((hBd d.p (Ce.mem d)).trans x2) f1 (by rw [List.length_map] at f2 ⊢; exact f2)
                · rw [if_neg hm] at e5; cases e5
              | _ => cases e
          | pool o rs =>
            cases o with
            | lst ts =>
              have e : (if pRefs ts rs = true then some (T.lst (rs.map fun r => r.2.dat)) else some (T.lst (rsvTs rs ts))) = some t := e
              by_cases hpr : pRefs ts rs = true
              · rw [if_pos hpr] at e
                cases e
                cases rc with
                | sim w => cases w
                | pool w1 w2 w3 w4 =>
                  obtain ⟨vs, f, g⟩ := w3
                  exact .lst (hBp.trans g) (pRefs_fz eb f hpr w4 fun a ha => hB a (List.mem_cons_of_mem _ (by rw [w2]; exact ha)))
              · rw [if_neg hpr] at e
                cases e
                cases rc with
                | sim w => cases w
                | pool w1 w2 w3 w4 =>
                  obtain ⟨vs, f, g⟩ := w3
                  exact .lst (hBp.trans g) (rsvs_fz eb w4 (fun a ha => hB a (List.mem_cons_of_mem _ (by rw [w2]; exact ha))) f)
            | lK od ws kvs =>
              have e : (if pInss (kvs.map (·.2)) rs = true then some (T.dk (kvs.map (·.1)) (rs.map fun r => r.2.obT)) else if pRefs (kvs.map (·.2)) rs = true then some (T.dk (kvs.map (·.1)) (rs.map fun r => r.2.dat)) else none) = some t := e
              by_cases hpr : pInss (kvs.map (·.2)) rs = true
              · rw [if_pos hpr] at e
                cases e
                cases rc with
                | sim w => cases w
                | pool w1 w2 w3 w4 =>
                  obtain ⟨f, g⟩ := w3
                  obtain ⟨i1, i2⟩ := pInss_fz eb f hpr w4 fun a ha => hB a (List.mem_cons_of_mem _ (by rw [w2]; exact ha))
                  exact .dk (hBp.trans g) i1 (by rw [List.length_map] at i2 ⊢; rw [List.length_map]; exact i2)
              · rw [if_neg hpr] at e
                by_cases hpq : pRefs (kvs.map (·.2)) rs = true
                · rw [if_pos hpq] at e
                  cases e
                  cases rc with
                  | sim w => cases w
                  | pool w1 w2 w3 w4 =>
                    obtain ⟨f, g⟩ := w3
                    have i1 := pRefs_fz eb f hpq w4 fun a ha => hB a (List.mem_cons_of_mem _ (by rw [w2]; exact ha))
                    have i2 := pRefs_len hpq
                    exact .dk (hBp.trans g) i1 (by rw [List.length_map] at i2 ⊢; rw [List.length_map]; exact i2)
                · rw [if_neg hpq] at e; cases e
            | _ => cases e
          | box st =>
            have e : deepF (fun _ => true) k st (.l 0) = some t := e
            cases rc with
            | sim w => cases w
            | box ψ w1 w2 w3 w4 =>
              refine ih (φ := ψ) (s := st) (ok := fun _ => true) eb (fun m d o _ q1 q2 => ⟨w4 m d o q1 q2, fun a ha => hB a (by rw [w1]; exact adr_mem q1 ha)⟩) w2 ?_ e
              cases ψ with
              | nil => cases w1
              | cons d ψ =>
                rw [adr_cons] at w1
                have : c.p = d.p := by
                  have := congrArg List.head? w1
                  exact Option.some.inj this
                exact ⟨c.p, by rw [this]; rfl, rfl⟩
      · cases e
/-- all that is new is data from here on -/
theorem Re.frz {H0 B0 : Hp} {φ0 : Fi} {s0 : ST} (re : Re K M H B φ s) (g : Gr H0 B0 φ0 H B φ) (e0 : Re K M H0 B0 φ0 s0) {k : Nat} (hk : φ0.length ≤ k) (hk2 : k ≤ φ.length) (cl : (s.take k).all (clO k) = true) :
    Gr H0 B0 φ0 H (thaw (adr (φ.drop k)) H B) (φ.take k) ∧ Re K M H (thaw (adr (φ.drop k)) H B) (φ.take k) (s.take k) ∧ ∀ (j : Nat) v x t, Rs K B φ v x → deepF (fun n => decide (k ≤ n)) j s x = some t → Fz K (thaw (adr (φ.drop k)) H B) v t := by
  obtain ⟨g1, re1⟩ := re.take g e0 hk hk2 cl
  have exH : Ex (thaw (adr (φ.drop k)) H B) H := fun a o h => by
    by_cases w : a ∈ adr (φ.drop k)
    · rw [thaw_in w] at h; exact h
    · rw [thaw_out w] at h; exact re.ex a o h
  have eb := thaw_ex (W := adr (φ.drop k)) re.ex
  have sub : ∀ a ∈ adr (φ.drop k), a ∈ adr φ := fun a ha => by
    have e : adr φ = adr (φ.take k) ++ adr (φ.drop k) := by rw [← adr_app, List.take_append_drop]
    rw [e]; exact List.mem_append_right _ ha
  have apart : ∀ a ∈ adr (φ.take k), a ∉ adr (φ.drop k) := fun a ha hb => by
    have e : adr φ = adr (φ.take k) ++ adr (φ.drop k) := by rw [← adr_app, List.take_append_drop]
    have nd := re.nd
    rw [e] at nd
    exact (List.nodup_append.mp nd).2.2 a ha a hb rfl
  have g2 : Gr H0 B0 φ0 H (thaw (adr (φ.drop k)) H B) (φ.take k) := ⟨g1.eb.trans eb, g1.pf, g1.kp, fun a h1 h2 h3 => by
    by_cases w : a ∈ adr (φ.drop k)
    · exact absurd (g.nf a (sub a w)) (fun z => z.elim h3 h2)
    · rw [thaw_out w]; exact g1.nb a h1 h2 h3, g1.nf⟩
  refine ⟨g2, ⟨exH, re1.nd, re1.len, re1.al, fun n c o h1 h2 h3 a ha => ?_, fun n c o h1 h2 => (re1.ob n c o h1 h2).mo ⟨eb, fun _ _ h => h⟩ fun _ _ => rfl, fun H3 B3 φ3 g3 => e0.pm _ _ _ (g2.trans g3)⟩, fun j v x t r e => ?_⟩
  · rw [thaw_out (apart a (adr_mem h1 ha))]; exact re1.fr n c o h1 h2 h3 a ha
  · refine deep_fz j eb (fun n c o hn h1 h2 => ⟨re.ob n c o h1 h2, fun a ha => thaw_in ?_⟩) re.len r e
    have hn := of_decide_eq_true hn
    refine adr_mem (n := n - k) (c := c) ?_ ha
    rw [List.getElem?_drop, show k + (n - k) = n by omega]; exact h1
end
section
variable {X : Cx} {M : MP} {e : Expr} {va : ATE}
def aFrz (t : ATE) : ATE := fun δ s Q => t δ s fun x s1 => (s1.take s.length).all (clO s.length) = true ∧ ∃ u, deepF (fun n => decide (s.length ≤ n)) 9 s1 x = some u ∧ Q (.d u) (s1.take s.length)
theorem lift_frz {K : Fr} {te : TE} {t : ATE} (l : LiftE K M te t) : LiftE K M te (aFrz t) := fun H B φ σ δ s Q re sl q Q' f => l H B φ σ δ s _ re sl q _ fun H1 B1 φ1 s1 v x g1 re1 r1 ⟨c, u, hu, q1⟩ => by
  obtain ⟨g2, re2, fz⟩ := re1.frz g1 re (Nat.le_of_eq re.len) (by rw [← re.len]; exact g1.le) c
  exact f _ _ _ _ _ _ g2 re2 (.dat (fz _ _ _ _ r1 hu)) q1
theorem ae_frz (ha : AE X M e va) : AE X M e (aFrz va) := .of ha.pe (lift_frz uE_lift)
end
end Lv

/-! Lb2: attributes, methods, makings. -/
namespace Lv
open PySem L2 LvI
theorem ofS_inj (a b : String) : (Str.ofString a = Str.ofString b) = (a = b) := by
  rw [eq_iff_iff]
  refine ⟨fun h => ?_, fun h => by rw [h]⟩
  rw [Str.ofString_eq_toList, Str.ofString_eq_toList] at h
  injection h with h
  have h : a.toList.map Char.toNat = b.toList.map Char.toNat := by simpa using h
  have e : ∀ {l m : List Char}, l.map Char.toNat = m.map Char.toNat → l = m := by
    intro l
    induction l with
    | nil => intro m h; cases m with
      | nil => rfl
      | cons _ _ => cases h
    | cons x l ih =>
      intro m h
      cases m with
      | nil => cases h
      | cons y m =>
        rw [List.map_cons, List.map_cons] at h
        injection h with h1 h2
        rw [Char.toNat_inj.mp h1, ih h2]
  exact String.toList_inj.mp (e h)
/-- the attribute f is read and set plainly on an instance of the class at C -/
structure AtF (K : Fr) (C : Addr) (f : Str) : Prop where
  c : Cls K C
  n : NoAttr K C f
section
variable {α β : Type}
def lk (f : Str) : List (Str × α) → Option α
  | [] => none
  | (g, x) :: r => if f = g then some x else lk f r
theorem lk_eq (f : Str) : ∀ fs : List (Str × α), fs.lookup f = lk f fs
  | [] => rfl
  | (g, x) :: r => by
    unfold lk List.lookup
    by_cases h : f = g
    · rw [if_pos h, h, beq_self_eq_true]
    · rw [if_neg h, beq_eq_false_iff_ne.mpr h]; exact lk_eq f r
def putA (f : Str) (x : α) : List (Str × α) → List (Str × α)
  | [] => [(f, x)]
  | (g, y) :: r => if g = f then (g, x) :: r else (g, y) :: putA f x r
end
variable {K : Fr} {M : MP} {H H' B B' : Hp} {φ φ' : Fi} {s s' : ST} {Q : SV → ST → Prop} {Q' : VK}
theorem lk_fz {f : Str} : ∀ {ns : List Str} {vs : List V} {ts : List T} {t : T}, FzAll K B vs ts → lk f (ns.zip ts) = some t → ∃ v, (ns.zip vs).lookup f = some v ∧ Fz K B v t
  | [], _, _, _, _, h => by cases h
  | _ :: _, _, _, _, .nil, h => by cases h
  | g :: ns, v :: vs, u :: us, t, .cons r1 r2, h => by
    have h : (if f = g then some u else lk f (ns.zip us)) = some t := h
    rw [lk_eq]
    show ∃ w, (if f = g then some v else lk f (ns.zip vs)) = some w ∧ _
    by_cases e : f = g
    · rw [if_pos e] at h ⊢; cases h; exact ⟨v, rfl, r1⟩
    · rw [if_neg e] at h ⊢
      obtain ⟨w, h1, h2⟩ := lk_fz r2 h
      exact ⟨w, by rw [← lk_eq]; exact h1, h2⟩
theorem lk_rs {f : Str} : ∀ {fs : List (Str × SV)} {vs : List V} {x : SV}, RsAll K B φ vs (fs.map (·.2)) → lk f fs = some x → ∃ v, ((fs.map (·.1)).zip vs).lookup f = some v ∧ Rs K B φ v x
  | [], _, _, _, h => by cases h
  | (g, y) :: fs, vs, x, r, h => by
    cases vs with
    | nil => cases r
    | cons v vs =>
      cases r with
      | cons r1 r2 =>
        have h : (if f = g then some y else lk f fs) = some x := h
        rw [lk_eq]
        show ∃ w, (if f = g then some v else lk f ((fs.map (·.1)).zip vs)) = some w ∧ _
        by_cases e : f = g
        · rw [if_pos e] at h ⊢; cases h; exact ⟨v, rfl, r1⟩
        · rw [if_neg e] at h ⊢
          obtain ⟨w, h1, h2⟩ := lk_rs r2 h
          exact ⟨w, by rw [← lk_eq]; exact h1, h2⟩
theorem putA_rs {f : Str} {v : V} {x : SV} (hx : Rs K B φ v x) : ∀ {fs : List (Str × SV)} {vs : List V}, RsAll K B φ vs (fs.map (·.2)) → ∃ vs', putF f v ((fs.map (·.1)).zip vs) = ((putA f x fs).map (·.1)).zip vs' ∧ RsAll K B φ vs' ((putA f x fs).map (·.2))
  | [], vs, r => by cases r; exact ⟨[v], rfl, .cons hx .nil⟩
  | (g, y) :: fs, vs, r => by
    cases vs with
    | nil => cases r
    | cons w vs =>
      cases r with
      | cons r1 r2 =>
        obtain ⟨vs', h1, h2⟩ := putA_rs hx r2
        by_cases e : g = f
        · refine ⟨v :: vs, ?_, ?_⟩
          · show (if g = f then (g, v) :: (fs.map (·.1)).zip vs else (g, w) :: putF f v ((fs.map (·.1)).zip vs)) = ((if g = f then (g, x) :: fs else (g, y) :: putA f x fs).map (·.1)).zip (v :: vs)
            rw [if_pos e, if_pos e]; rfl
          · show RsAll K B φ (v :: vs) ((if g = f then (g, x) :: fs else (g, y) :: putA f x fs).map (·.2))
            rw [if_pos e]; exact .cons hx r2
        · refine ⟨w :: vs', ?_, ?_⟩
          · show (if g = f then (g, v) :: (fs.map (·.1)).zip vs else (g, w) :: putF f v ((fs.map (·.1)).zip vs)) = ((if g = f then (g, x) :: fs else (g, y) :: putA f x fs).map (·.1)).zip (w :: vs')
            rw [if_neg e, if_neg e, h1]; rfl
          · show RsAll K B φ (w :: vs') ((if g = f then (g, x) :: fs else (g, y) :: putA f x fs).map (·.2))
            rw [if_neg e]; exact .cons r1 h2
theorem putA_fz {f : Str} {v : V} {x : T} (hx : Fz K B v x) : ∀ {fs : List (Str × T)} {vs : List V}, FzAll K B vs (fs.map (·.2)) → ∃ vs', putF f v ((fs.map (·.1)).zip vs) = ((putA f x fs).map (·.1)).zip vs' ∧ FzAll K B vs' ((putA f x fs).map (·.2))
  | [], vs, r => by cases r; exact ⟨[v], rfl, .cons hx .nil⟩
  | (g, y) :: fs, vs, r => by
    cases vs with
    | nil => cases r
    | cons w vs =>
      cases r with
      | cons r1 r2 =>
        obtain ⟨vs', h1, h2⟩ := putA_fz hx r2
        by_cases e : g = f
        · refine ⟨v :: vs, ?_, ?_⟩
          · show (if g = f then (g, v) :: (fs.map (·.1)).zip vs else (g, w) :: putF f v ((fs.map (·.1)).zip vs)) = ((if g = f then (g, x) :: fs else (g, y) :: putA f x fs).map (·.1)).zip (v :: vs)
            rw [if_pos e, if_pos e]; rfl
          · show FzAll K B (v :: vs) ((if g = f then (g, x) :: fs else (g, y) :: putA f x fs).map (·.2))
            rw [if_pos e]; exact .cons hx r2
        · refine ⟨w :: vs', ?_, ?_⟩
          · show (if g = f then (g, v) :: (fs.map (·.1)).zip vs else (g, w) :: putF f v ((fs.map (·.1)).zip vs)) = ((if g = f then (g, x) :: fs else (g, y) :: putA f x fs).map (·.1)).zip (w :: vs')
            rw [if_neg e, if_neg e, h1]; rfl
          · show FzAll K B (w :: vs') ((if g = f then (g, x) :: fs else (g, y) :: putA f x fs).map (·.2))
            rw [if_neg e]; exact .cons r1 h2
/-! ### records of pools -/
def ceP (r : Addr × PRec) : Ce := ⟨r.1, (r.2.al r.1).tail⟩
theorem ceP_al (r : Addr × PRec) : (ceP r).al = r.2.al r.1 := by obtain ⟨a, r⟩ := r; cases r <;> rfl
theorem poolA_adr (rs : List (Addr × PRec)) : poolA rs = adr (rs.map ceP) := by
  unfold poolA adr
  rw [List.flatMap_map]
  congr 1
  funext r
  exact (ceP_al r).symm
theorem poolA_set {rs : List (Addr × PRec)} {j : Nat} {a : Addr} {r r' : PRec} (h : rs[j]? = some (a, r)) (e : r'.al a = r.al a) : poolA (rs.set j (a, r')) = poolA rs := by
  rw [poolA_adr, poolA_adr]
  congr 1
  rw [List.map_set]
  have hc : ceP (a, r') = ceP (a, r) := by unfold ceP; dsimp only; rw [e]
  rw [hc]
  refine List.ext_getElem? fun i => ?_
  by_cases hi : j = i
  · subst hi
    have hl := (List.getElem?_eq_some_iff.mp h).1
    rw [List.getElem?_set_self (by rw [List.length_map]; exact hl), List.getElem?_map, h]; rfl
  · rw [List.getElem?_set_ne hi]
theorem poolA_one {rs : List (Addr × PRec)} (nd : (poolA rs).Nodup) {i j : Nat} {p q : Addr × PRec} {a : Addr} (h1 : rs[i]? = some p) (h2 : rs[j]? = some q) (ha : a ∈ p.2.al p.1) (hb : a ∈ q.2.al q.1) : i = j := by
  rw [poolA_adr] at nd
  refine adr_nd nd (c := ceP p) (d := ceP q) (by rw [List.getElem?_map, h1]; rfl) (by rw [List.getElem?_map, h2]; rfl) (a := a) (by rw [ceP_al]; exact ha) (by rw [ceP_al]; exact hb)
/-- a pool, where it stands -/
theorem Re.poolAt (e : Re K M H B φ s) {n : Nat} {o : LO} {rs : List (Addr × PRec)} (hs : s[n]? = some (.pool o rs)) : ∃ c, φ[n]? = some c ∧ o.shl = true ∧ c.io = poolA rs ∧ Ro K B φ o (H c.p) ∧ (∀ r ∈ rs, Po K B H r.1 r.2) ∧ (c.p :: poolA rs).Nodup ∧ ∀ a ∈ c.p :: poolA rs, B a = none := by
  have hl : n < φ.length := by rw [e.len]; exact (List.getElem?_eq_some_iff.mp hs).1
  have hc : φ[n]? = some φ[n] := List.getElem?_eq_getElem hl
  refine ⟨φ[n], hc, ?_⟩
  cases e.ob n _ _ hc hs with
  | sim w => cases w
  | pool w1 w2 w3 w4 =>
    have hal : (φ[n]).al = (φ[n]).p :: poolA rs := by unfold Ce.al; rw [w2]
    exact ⟨w1, w2, w3, w4, by rw [← hal]; exact ce_nd e.nd hc, fun a ha => by
      have nt : ∃ u, H a = some u ∧ ∀ xs : List V, u ≠ HO.tup xs := by
        rcases List.mem_cons.mp ha with rfl | hm
        · exact w3.mt (by cases o <;> first | rfl | cases w1)
        · obtain ⟨r, hr, hx⟩ := List.mem_flatMap.mp hm
          have hp := w4 r hr
          obtain ⟨b, rc⟩ := r
          cases rc with
          | ins dx C fs =>
            obtain ⟨vs, _, h2, h3⟩ := hp
            have hx : a ∈ [b, dx] := hx
            simp only [List.mem_cons, List.not_mem_nil, or_false] at hx
            rcases hx with rfl | rfl
            · exact ⟨_, h2, fun _ e => by cases e⟩
            · exact ⟨_, h3, fun _ e => by cases e⟩
          | lst ts =>
            obtain ⟨vs, _, h2⟩ := hp
            have hx : a ∈ [b] := hx
            rw [List.mem_singleton.mp hx]
            exact ⟨_, h2, fun _ e => by cases e⟩
      obtain ⟨u, hu, hn⟩ := nt
      exact e.frN hc hs rfl (by rw [hal]; exact ha) hu hn⟩
/-- a record is changed -/
theorem Re.setP (e : Re K M H B φ s) {n j : Nat} {a : Addr} {o : LO} {rs : List (Addr × PRec)} {r r' : PRec} (u : HO) (hs : s[n]? = some (.pool o rs)) (hr : rs[j]? = some (a, r)) (hal : r'.al a = r.al a) (hP : Po K B (upd H a u) a r') :
    Gr H B φ (upd H a u) B φ ∧ Re K M (upd H a u) B φ (s.set n (.pool o (rs.set j (a, r')))) := by
  obtain ⟨c, hc, w1, w2, w3, w4, nd, hB⟩ := e.poolAt hs
  have har : a ∈ r.al a := by cases r <;> simp [PRec.al]
  have haP : a ∈ poolA rs := poolA_mem (List.mem_of_getElem? hr) har
  have hac : a ∈ c.al := List.mem_cons_of_mem _ (by rw [w2]; exact haP)
  have haφ : a ∈ adr φ := adr_mem hc hac
  have hBa : B a = none := hB a (List.mem_cons_of_mem _ haP)
  have g : Gr H B φ (upd H a u) B φ := by
    refine ⟨Ex.refl B, ⟨[], by simp⟩, fun b w q hn => ?_, fun a q1 _ _ => .inl q1, fun a z => Or.inl z⟩
    have : b ≠ a := fun z => hn (by rw [z]; exact haφ)
    rw [upd_ne this]; exact q
  refine ⟨g, ⟨fun b w q => by rw [upd_ne (ne_of_none q hBa)]; exact e.ex b w q, e.nd, by rw [List.length_set]; exact e.len, fun b z w => ?_, fun m c' w h1 h2 h3 b hb => ?_, fun m c' w' h1 h2 => ?_, fun H' B' φ' g' => e.pm _ _ _ (g.trans g')⟩⟩
  · by_cases hne : b = a
    · rw [hne, upd_same] at w; cases w
    · rw [upd_ne hne] at w; exact e.al b z w
  · by_cases hm : n = m
    · subst hm; rw [hc] at h1; cases h1
      exact .inl (hB b (by unfold Ce.al at hb; rw [w2] at hb; exact hb))
    · rw [List.getElem?_set_ne hm] at h2
      exact (e.fr m c' w h1 h2 h3 b hb).imp id fun z => kT_ne z fun y => hm (adr_nd e.nd hc h1 (a := a) hac (by rw [← y]; exact hb))
  · by_cases hm : n = m
    · subst hm
      rw [hc] at h1; cases h1
      have hl : n < s.length := by rw [← e.len]; exact (List.getElem?_eq_some_iff.mp hc).1
      rw [List.getElem?_set_self hl] at h2
      cases h2
      have hpa : c.p ≠ a := fun z => (List.nodup_cons.mp nd).1 (by rw [z]; exact haP)
      refine .pool w1 (by rw [w2, poolA_set hr hal]) (by rw [upd_ne hpa]; exact w3) fun q hq => ?_
      obtain ⟨i, hi⟩ := List.getElem?_of_mem hq
      by_cases hij : j = i
      · subst hij
        rw [List.getElem?_set_self (List.getElem?_eq_some_iff.mp hr).1] at hi
        cases hi
        exact hP
      · rw [List.getElem?_set_ne hij] at hi
        exact (w4 q (List.mem_of_getElem? hi)).mo (Ex.refl B) fun x hx => upd_ne fun z => hij (poolA_one (List.nodup_cons.mp nd).2 hr hi (a := a) har (by rw [← z]; exact hx))
    · rw [List.getElem?_set_ne hm] at h2
      exact (e.ob m c' w' h1 h2).mo .refl fun b hb => upd_ne fun z => hm (adr_nd e.nd hc h1 (a := a) hac (by rw [← z]; exact hb))
/-! ### reading an attribute -/
def refF (K : Fr) (f : Str) (a : Addr) (s : ST) (Q : SV → ST → Prop) (n j : Nat) : Prop := match s[n]? with
  | some (.pool _ rs) => (match rs[j]? with
    | some (b, .ins _ C fs) => b = a ∧ AtF K C f ∧ ∃ t, lk f fs = some t ∧ Q (.d t) s
    | _ => False)
  | _ => False
def fldG (K : Fr) (f : Str) : AR1 := fun x s Q => match x with
  | .d (.obj C ns ts) => AtF K C f ∧ ∃ t, lk f (ns.zip ts) = some t ∧ Q (.d t) s
  | .d (.ref a) => ∃ n j, refF K f a s Q n j
  | .l n => (match s[n]? with
    | some (.ins C _ fs) => AtF K C f ∧ ∃ y, lk f fs = some y ∧ Q y s
    | some (.box (.ins C _ fs :: _)) => AtF K C f ∧ ∃ t, lk f fs = some (.d t) ∧ Q (.d t) s
    | _ => False)
  | _ => False
/-- a box's first thing -/
theorem box_root {c : Ce} {st : List LO} {o : LO} {r : List LO} (h : Rc K B H φ c (.box st)) (e : st = o :: r) (w : o.smp = true) : ∃ ψ : Fi, c.al = adr ψ ∧ ψ.length = st.length ∧ ψ[0]? = some (one c.p) ∧ Ro K B ψ o (H c.p) ∧ (∀ (n : Nat) d o, ψ[n]? = some d → st[n]? = some o → o.is = true) ∧ (∀ (n : Nat) d o, ψ[n]? = some d → st[n]? = some o → Rc K B H ψ d o) := by
  cases h with
  | sim q => cases q
  | box ψ w1 w2 w3 w4 =>
    subst e
    cases ψ with
    | nil => cases w1
    | cons d ψ =>
      rw [adr_cons] at w1
      have hp : c.p = d.p := Option.some.inj (congrArg List.head? w1)
      obtain ⟨h1, h2⟩ := (w4 0 d o rfl rfl).simp_ w
      exact ⟨d :: ψ, by rw [adr_cons]; exact w1, w2, by rw [hp, ← h1]; rfl, by rw [hp]; exact h2, w3, w4⟩
theorem zip_pairs {α β : Type} : ∀ l : List (α × β), (l.map (·.1)).zip (l.map (·.2)) = l
  | [] => rfl
  | p :: r => by rw [List.map_cons, List.map_cons, List.zip_cons_cons, zip_pairs r]
theorem lift_fld {X : Cx} {te : TE} {t : ATE} {f : Str} (l : LiftE X.K M te t) : LiftE X.K M (tFld X.K te f) (aUn (fldG X.K f) t) := fun H B φ σ δ s Q re sl q Q' fn => l H B φ σ δ s _ re sl q _ fun H1 B1 φ1 s1 v x g1 re1 r1 q1 => by
  have fn := fn.grow g1
  unfold fldG at q1
  dsimp only at q1
  split at q1
  · rename_i C ns ts
    obtain ⟨a, t, h1, h2⟩ := q1
    cases (show Fz X.K B1 v (.obj C ns ts) from r1) with
    | obj p1 p2 p3 p4 =>
      obtain ⟨w, e1, e2⟩ := lk_fz p3 h1
      exact ⟨_, C, _, _, w, rfl, re1.ex _ _ p1, a.c, a.n, e1, fn.now re1 (.dat e2) h2⟩
  · rename_i a
    obtain ⟨n, j, q1⟩ := q1
    unfold refF at q1
    split at q1
    · rename_i o rs hs
      split at q1
      · rename_i b dx C fs hj
        obtain ⟨rfl, at_, t, h1, h2⟩ := q1
        obtain ⟨c, hc, w1, w2, w3, w4, _⟩ := re1.poolAt hs
        obtain ⟨vs, f1, f2, f3⟩ := w4 _ (List.mem_of_getElem? hj)
        cases (show Fz X.K B1 v (.ref b) from r1)
        have e0 : fs = (fs.map (·.1)).zip (fs.map (·.2)) := (zip_pairs fs).symm
        rw [e0] at h1
        obtain ⟨w, e1, e2⟩ := lk_fz f1 h1
        exact ⟨b, C, dx, _, w, rfl, f2, at_.c, at_.n, e1, fn.now re1 (.dat e2) h2⟩
      · exact q1.elim
    · exact q1.elim
  · rename_i n
    cases hs : s1[n]? with
    | none => rw [hs] at q1; exact q1.elim
    | some o =>
      rw [hs] at q1
      obtain ⟨p, hp, rfl⟩ := r1
      obtain ⟨c, hc, rfl⟩ := Fi.r_inv hp
      cases o with
      | ins C j fs =>
        obtain ⟨a, y, h1, h2⟩ := q1
        obtain ⟨e1, vs, dx, f1, f2, f3⟩ := (re1.ob n c _ hc hs).simp_ rfl
        obtain ⟨w, w1, w2⟩ := lk_rs f1 h1
        exact ⟨c.p, C, dx, _, w, rfl, f3, a.c, a.n, w1, fn.now re1 w2 h2⟩
      | box st =>
        cases st with
        | nil => exact q1.elim
        | cons o r =>
          cases o with
          | ins C j fs =>
            obtain ⟨a, t, h1, h2⟩ := q1
            obtain ⟨ψ, _, _, _, ⟨vs, dx, f1, f2, f3⟩, _⟩ := box_root (re1.ob n c _ hc hs) rfl rfl
            obtain ⟨w, w1, w2⟩ := lk_rs f1 h1
            exact ⟨c.p, C, dx, _, w, rfl, f3, a.c, a.n, w1, fn.now re1 (x := .d t) w2 h2⟩
          | _ => exact q1.elim
      | _ => exact q1.elim
  · exact q1.elim
section
variable {X : Cx} {e o : Expr} {f m : Str} {pos pos' : Pos} {va vo : ATE}
theorem ae_fld {K : Fr} (hK : X.K = K) (h : AE X M e va) (hb : attributeBase e f X.env (eval e X.env) = eval e X.env := by rfl) : AE X M (.Attribute e f pos) (aUn (fldG K f) va) := by
  subst hK
  exact .of (pe_fld h.pe hb) (lift_fld uE_lift)
end
/-! ### setting an attribute -/
/-- the first thing of a box is changed -/
theorem Re.setB (e : Re K M H B φ s) {n : Nat} {c : Ce} {o0 o : LO} {r : List LO} (u : HO) (h : φ[n]? = some c) (hs : s[n]? = some (.box (o0 :: r))) (w0 : o0.mt = true) (ho : ∀ ψ : Fi, Ro K B ψ o0 (H c.p) → Ro K B ψ o (some u)) (w : o.smp = true) :
    Gr H B φ (upd H c.p u) B φ ∧ Re K M (upd H c.p u) B φ (s.set n (.box (o :: r))) := by
  have g : Gr H B φ (upd H c.p u) B φ := by
    refine ⟨Ex.refl B, ⟨[], by simp⟩, fun a w q hn => ?_, fun a q1 _ _ => .inl q1, fun a z => Or.inl z⟩
    have : a ≠ c.p := fun z => hn (by rw [z]; exact adr_p h)
    rw [upd_ne this]; exact q
  obtain ⟨ψ, w1, w2, w3, w4, w5, w6⟩ := box_root (e.ob n c _ h hs) rfl (mt_smp w0)
  obtain ⟨uu, hu, hun⟩ := w4.mt w0
  have hB : B c.p = none := e.frN h hs rfl c.mem hu hun
  refine ⟨g, ⟨fun a w q => by rw [upd_ne (ne_of_none q hB)]; exact e.ex a w q, e.nd, by rw [List.length_set]; exact e.len, fun a z w => ?_, fun m c' w h1 h2 h3 a ha => ?_, fun m c' w' h1 h2 => ?_, fun H' B' φ' g' => e.pm _ _ _ (g.trans g')⟩⟩
  · by_cases hne : a = c.p
    · rw [hne, upd_same] at w; cases w
    · rw [upd_ne hne] at w; exact e.al a z w
  · by_cases hm : n = m
    · subst hm; rw [h] at h1; cases h1
      by_cases hp : a = c.p
      · rw [hp]; exact .inl hB
      · exact (e.fr n c _ h hs rfl a ha).imp id fun z => kT_ne z hp
    · rw [List.getElem?_set_ne hm] at h2
      exact (e.fr m c' w h1 h2 h3 a ha).imp id fun z => kT_ne z fun y => hm (adr_nd e.nd h h1 (a := c.p) c.mem (by rw [← y]; exact ha))
  · by_cases hm : n = m
    · subst hm
      rw [h] at h1; cases h1
      have hl : n < s.length := by rw [← e.len]; exact (List.getElem?_eq_some_iff.mp h).1
      rw [List.getElem?_set_self hl] at h2
      cases h2
      have ndψ : (adr ψ).Nodup := by rw [← w1]; exact ce_nd e.nd h
      refine .box ψ w1 w2 (fun k d o' q1 q2 => ?_) fun k d o' q1 q2 => ?_
      · cases k with
        | zero => cases q2; exact smp_is w
        | succ k => exact w5 (k + 1) d o' q1 q2
      · cases k with
        | zero =>
          cases q2
          rw [w3] at q1; cases q1
          exact .sim w rfl (by show Ro _ _ _ _ (upd H c.p u c.p); rw [upd_same]; exact ho ψ w4)
        | succ k =>
          refine (w6 (k + 1) d o' q1 q2).mo .refl fun a ha => upd_ne fun z => ?_
          have := adr_nd ndψ w3 q1 (a := c.p) (Ce.mem _) (by rw [← z]; exact ha)
          cases this
    · rw [List.getElem?_set_ne hm] at h2
      refine (e.ob m c' w' h1 h2).mo .refl fun a ha => upd_ne fun z => hm (adr_nd e.nd h h1 (a := c.p) (Ce.mem _) (by rw [← z]; exact ha))
def refS (K : Fr) (f : Str) (a : Addr) (y : SV) (s : ST) (C : ST → Prop) (n j : Nat) : Prop := match s[n]? with
  | some (.pool o rs) => (match rs[j]? with
    | some (b, .ins dx D fs) => b = a ∧ AtF K D f ∧ fs.length < 1000 ∧ ∃ t, y = .d t ∧ C (s.set n (.pool o (rs.set j (b, .ins dx D (putA f t fs)))))
    | _ => False)
  | _ => False
def setG (K : Fr) (f : Str) (y x : SV) (s : ST) (C : ST → Prop) : Prop := match x with
  | .d (.ref a) => ∃ n j, refS K f a y s C n j
  | .l n => (match s[n]? with
    | some (.ins D j fs) => AtF K D f ∧ fs.length < 1000 ∧ C (s.set n (.ins D j (putA f y fs)))
    | some (.box (.ins D j fs :: r)) => AtF K D f ∧ fs.length < 1000 ∧ ∃ t, y = .d t ∧ C (s.set n (.box (.ins D j (putA f (.d t) fs) :: r)))
    | _ => False)
  | _ => False
theorem set_fld {f : Str} {v w : V} {x y : SV} {C : ST → Prop} (re : Re K M H B φ s) (rx : Rs K B φ v x) (ry : Rs K B φ w y) (h : setG K f y x s C) :
    ∃ (a D dx : Addr) (fs : List (Str × V)), v = .ref a ∧ H a = some (.ins D dx fs) ∧ Cls K D ∧ NoAttr K D f ∧ fs.length < 1000 ∧ ∃ s2, Gr H B φ (upd H a (.ins D dx (putF f w fs))) B φ ∧ Re K M (upd H a (.ins D dx (putF f w fs))) B φ s2 ∧ C s2 := by
  cases x with
  | d t =>
    cases t with
    | ref a =>
      obtain ⟨n, j, h⟩ := h
      unfold refS at h
      split at h
      · rename_i o rs hs
        split at h
        · rename_i b dx D fs hj
          obtain ⟨rfl, at_, hl, t, rfl, h⟩ := h
          obtain ⟨c, hc, w1, w2, w3, w4, nd, _⟩ := re.poolAt hs
          obtain ⟨vs, f1, f2, f3⟩ := w4 _ (List.mem_of_getElem? hj)
          cases (show Fz K B v (.ref b) from rx)
          have hln := f1.length
          rw [List.length_map] at hln
          obtain ⟨vs', p1, p2⟩ := putA_fz (f := f) (show Fz K B w t from ry) f1
          have hne : dx ≠ b := fun z => by
            have hsub : (PRec.al b (.ins dx D fs)).Nodup := by
              have hh := ce_nd (c := ceP (b, .ins dx D fs)) (by rw [← poolA_adr]; exact (List.nodup_cons.mp nd).2) (n := j) (by rw [List.getElem?_map, hj]; rfl)
              rw [ceP_al] at hh
              exact hh
            rw [z] at hsub
            simp [PRec.al] at hsub
          obtain ⟨g, re2⟩ := re.setP (r' := .ins dx D (putA f t fs)) (.ins D dx (putF f w ((fs.map (·.1)).zip vs))) hs hj rfl ⟨vs', p2, by rw [upd_same, p1], by rw [upd_ne hne]; exact f3⟩
          exact ⟨b, D, dx, _, rfl, f2, at_.c, at_.n, by rw [List.length_zip, List.length_map, hln, Nat.min_self]; exact hl, _, g, re2, h⟩
        · exact h.elim
      · exact h.elim
    | _ => exact h.elim
  | l n =>
    have h : (match s[n]? with
    | some (.ins D j fs) => AtF K D f ∧ fs.length < 1000 ∧ C (s.set n (.ins D j (putA f y fs)))
    | some (.box (.ins D j fs :: r)) => AtF K D f ∧ fs.length < 1000 ∧ ∃ t, y = .d t ∧ C (s.set n (.box (.ins D j (putA f (.d t) fs) :: r)))
    | _ => False) := h
    cases hs : s[n]? with
    | none => rw [hs] at h; exact h.elim
    | some o =>
      rw [hs] at h
      obtain ⟨p, hp, rfl⟩ := rx
      obtain ⟨c, hc, rfl⟩ := Fi.r_inv hp
      cases o with
      | ins D j fs =>
        obtain ⟨a, hl, h⟩ := h
        obtain ⟨e1, vs, dx, f1, f2, f3⟩ := (re.ob n c _ hc hs).simp_ rfl
        have hln := f1.length
        rw [List.length_map] at hln
        obtain ⟨vs', p1, p2⟩ := putA_rs (f := f) ry f1
        have hB : B c.p = none := re.frN hc hs rfl c.mem f3 (fun _ z => by cases z)
        obtain ⟨g, re2⟩ := re.set (.ins D dx (putF f w ((fs.map (·.1)).zip vs))) (.ins D j (putA f y fs)) (by rw [← e1]; exact hc) hB ⟨vs', dx, p2, f2, by rw [p1]⟩
        exact ⟨c.p, D, dx, _, rfl, f3, a.c, a.n, by rw [List.length_zip, List.length_map, hln, Nat.min_self]; exact hl, _, g, re2, h⟩
      | box st =>
        cases st with
        | nil => exact h.elim
        | cons o r =>
          cases o with
          | ins D j fs =>
            obtain ⟨a, hl, t, ey, h9⟩ := h
            subst ey
            obtain ⟨ψ, w1, w2, w3, ⟨vs, dx, f1, f2, f3⟩, _⟩ := box_root (re.ob n c _ hc hs) rfl rfl
            have hln := f1.length
            rw [List.length_map] at hln
            obtain ⟨g, re2⟩ := re.setB (o := .ins D j (putA f (.d t) fs)) (.ins D dx (putF f w ((fs.map (·.1)).zip vs))) hc hs rfl (fun ψ' ⟨vs', dx', f1', f2', f3'⟩ => by
              rw [f3] at f3'
              injection f3' with f3'
              injection f3' with q1 q2 q3
              obtain ⟨ws, p1, p2⟩ := putA_rs (φ := ψ') (f := f) (x := .d t) (v := w) ry f1'
              exact ⟨ws, dx', p2, f2', by rw [q3, q2, p1]⟩) rfl
            exact ⟨c.p, D, dx, _, rfl, f3, a.c, a.n, by rw [List.length_zip, List.length_map, hln, Nat.min_self]; exact hl, _, g, re2, h9⟩
          | _ => exact h.elim
      | _ => exact h.elim
def pFld (K : Fr) (f : Str) (to tv : ATE) : ATS := fun A δ s => tv δ s fun y s1 => to δ s1 fun x s2 => setG K f y x s2 fun s3 => A.nx δ s3
theorem ap_fld {X : Cx} {K : Fr} {o value : Expr} {f : Str} {pos pos' : Pos} {to tv : ATE} (hK : X.K = K) (ho : AE X M o to) (hv : AE X M value tv) (hs : swapsWith value (some (.Attribute o f pos')) pos.line X.env = pure false := by rfl) : AP X M (.Assign [.Attribute o f pos'] value pos) (pFld K f to tv) := by
  subst hK
  exact ⟨_, ps_fld ho.pe hv.pe hs, fun H B φ σ δ s A re sl q D fn => uE_lift (t := tv) H B φ σ δ s _ re sl q _ fun H1 B1 φ1 s1 w y g1 re1 ry q1 => uE_lift (t := to) H1 B1 φ1 σ δ s1 _ re1 (sl.mono g1) q1 _ fun H2 B2 φ2 s2 v x g2 re2 rx q2 => by
    obtain ⟨a, D', dx, fs, h1, h2, h3, h4, h5, s3, g3, re3, h6⟩ := set_fld re2 rx (ry.mono g2) q2
    exact ⟨a, D', dx, fs, h1, h2, h3, h4, h5, fn.nx _ _ _ _ _ _ (g1.trans (g2.trans g3)) re3 (sl.mono (g1.trans (g2.trans g3))) h6⟩⟩
end Lv

/-! Lb3: calls with a chosen part of the store; with parts of it as data; methods, makings; boxes opened and shut. -/
namespace Lv
open PySem L2 LvI
/-! ### a call to which a chosen part of the store is handed -/
section
variable {K : Fr} {M : MP} {H B : Hp} {φ : Fi} {s : ST}
theorem Rs.sub {ns : List Nat} (hlt : ∀ n ∈ ns, n < φ.length) {v : V} {x : SV} (r : Rs K B φ v x) (h : inS 0 ns x = true) : Rs K B (selF φ ns) v (mvS 0 ns x) := by
  cases x with
  | d t => exact r
  | l n =>
    have hm : n ∈ ns := by
      have h : (decide (n < 0) || ns.contains n) = true := h
      rw [decide_eq_false (Nat.not_lt_zero n), Bool.false_or] at h
      exact List.contains_iff_mem.mp h
    have e : mvS 0 ns (.l n) = .l (ns.idxOf n) := by show SV.l (mvN 0 ns n) = _; unfold mvN; rw [if_neg (Nat.not_lt_zero n), Nat.zero_add]
    have := r.toC hlt (x := .l n) fun m q => by cases q; exact hm
    rw [e]; exact this
theorem mvN_0 (K : Fr) (B : Hp) {ns : List Nat} (hlt : ∀ n ∈ ns, n < φ.length) {j : Nat} {p : Addr} (h : φ.r j = some p) (hj : inN 0 ns j = true) : Fi.r (selF φ ns) (mvN 0 ns j) = some p := by
  have r : Rs K B φ (.ref p) (.l j) := ⟨p, h, rfl⟩
  obtain ⟨q, h1, h2⟩ := r.sub hlt (show inS 0 ns (.l j) = true from hj)
  cases h2
  exact h1
theorem Ro.sub {ns : List Nat} (hlt : ∀ n ∈ ns, n < φ.length) {o : LO} {u : Option HO} (h : Ro K B φ o u) (w : inO 0 ns o = true) : Ro K B (selF φ ns) (mvO 0 ns o) u := by
  have rsa : ∀ {vs xs}, RsAll K B φ vs xs → xs.all (inS 0 ns) = true → RsAll K B (selF φ ns) vs (xs.map (mvS 0 ns)) := fun hx hi => hx.map_to fun v x m rx => rx.sub hlt (List.all_eq_true.mp hi x m)
  cases o with
  | gone => trivial
  | lst _ => exact h
  | dK _ => exact h
  | dT _ => exact h
  | tp xs => obtain ⟨vs, f1, e⟩ := h; exact ⟨vs, rsa f1 w, e⟩
  | ll xs => obtain ⟨vs, f1, e⟩ := h; exact ⟨vs, rsa f1 w, e⟩
  | mK kvs =>
    obtain ⟨vs, f1, e⟩ := h
    obtain ⟨m1, m2⟩ := map_snd (mvS 0 ns) kvs
    exact ⟨vs, by rw [m1]; exact rsa f1 w, by rw [m2]; exact e⟩
  | mT kvs =>
    obtain ⟨vs, f1, e⟩ := h
    obtain ⟨m1, m2⟩ := map_snd (mvS 0 ns) kvs
    exact ⟨vs, by rw [m1]; exact rsa f1 w, by rw [m2]; exact e⟩
  | fK od vs kvs =>
    obtain ⟨f1, e⟩ := h
    obtain ⟨m1, m2⟩ := map_snd (mvS 0 ns) kvs
    exact ⟨by rw [m1]; exact rsa f1 w, by rw [m2]; exact e⟩
  | lK _ _ _ => exact h
  | lT _ _ _ => exact h
  | fT od vs kvs =>
    obtain ⟨f1, e⟩ := h
    obtain ⟨m1, m2⟩ := map_snd (mvS 0 ns) kvs
    exact ⟨by rw [m1]; exact rsa f1 w, by rw [m2]; exact e⟩
  | ins C j fs =>
    obtain ⟨vs, dx, f1, j1, e⟩ := h
    obtain ⟨m1, m2⟩ := map_snd (mvS 0 ns) fs
    have w := Bool.and_eq_true_iff.mp w
    exact ⟨vs, dx, by rw [m1]; exact rsa f1 w.2, mvN_0 K B hlt j1 w.1, by rw [m2]; exact e⟩
  | own j => obtain ⟨x, j1, e⟩ := h; exact ⟨x, mvN_0 K B hlt j1 w, e⟩
  | box _ => exact h.elim
  | pool _ _ => exact h.elim
theorem mvO_smp {k : Nat} {ns : List Nat} {o : LO} : (mvO k ns o).smp = o.smp := by cases o <;> rfl
theorem Rc.sub {ns : List Nat} (hlt : ∀ n ∈ ns, n < φ.length) {o : LO} {c : Ce} (h : Rc K B H φ c o) (w : inO 0 ns o = true) : Rc K B H (selF φ ns) c (mvO 0 ns o) := by
  cases h with
  | gone => exact .gone
  | sim h1 h2 h3 => exact .sim (by rw [mvO_smp]; exact h1) h2 (h3.sub hlt w)
  | box ψ h1 h2 h3 h4 => exact .box ψ h1 h2 h3 h4
  | pool h1 h2 h3 h4 => exact .pool h1 h2 (h3.shl h1) h4
end
def clsd (ns : List Nat) (xs : List SV) (s : ST) : Bool := decide ns.Nodup && ns.all (fun n => decide (n < s.length)) && xs.all (inS 0 ns) && ns.all fun n => inO 0 ns (kpO s n)
def callC (sp : ASp) (Q : SV → ST → Prop) (_ : Lk Q) (xs : List SV) (s : ST) : Prop := ∃ ns : List Nat, clsd ns xs s = true ∧
  sp (xs.map (mvS 0 ns)) (ns.map fun n => mvO 0 ns (kpO s n)) fun r s2 => Q (ren ns s.length r) (putAll s ns (s2.map (renO ns s.length)) ++ (s2.drop ns.length).map (renO ns s.length))
theorem callC_of {sp : ASp} {Q : SV → ST → Prop} {l : Lk Q} {xs : List SV} {s : ST} (ns : List Nat) (h : clsd ns xs s = true)
    (h2 : sp (xs.map (mvS 0 ns)) (ns.map fun n => mvO 0 ns (kpO s n)) fun r s2 => Q (ren ns s.length r) (putAll s ns (s2.map (renO ns s.length)) ++ (s2.drop ns.length).map (renO ns s.length))) : callC sp Q l xs s := ⟨ns, h, h2⟩
theorem lift_fnC {K : Fr} {M : MP} {H B : Hp} {φ : Fi} {s : ST} {vs : List V} {xs : List SV} {Q : SV → ST → Prop} {Q' : VK} {E : XK} {sp : ASp} {l : Lk Q} (re : Re K M H B φ s) (r : RsAll K B φ vs xs) (h : callC sp Q l xs s) (f : FinE K M H B φ Q Q') : toSp K sp vs H Q' E := by
  obtain ⟨ns, h1, h2⟩ := h
  unfold clsd at h1
  simp only [Bool.and_eq_true] at h1
  obtain ⟨⟨⟨nd, hl⟩, hx⟩, hc⟩ := h1
  have nd := of_decide_eq_true nd
  have hL : φ.length = s.length := re.len
  have hls : ∀ n ∈ ns, n < s.length := fun n hn => of_decide_eq_true (List.all_eq_true.mp hl n hn)
  have hlt : ∀ n ∈ ns, n < φ.length := fun n hn => by rw [hL]; exact hls n hn
  have rec_ : Re K M0 H B (selF φ ns) (ns.map fun n => mvO 0 ns (kpO s n)) := by
    refine re.fore nd hlt re.ex (List.length_map ..) (fun _ _ _ _ _ _ h => h) fun k n c o q1 q2 q3 => ?_
    rw [List.getElem?_map, q1] at q3
    have q3 : mvO 0 ns (kpO s n) = o := Option.some.inj q3
    have hm := List.mem_of_getElem? q1
    have e : s[n]? = some (kpO s n) := by unfold kpO; rw [List.getElem?_eq_getElem (hls n hm)]; rfl
    subst q3
    exact ⟨_, e, fun w => by rw [mvO_is] at w; exact w, fun rc => rc.sub hlt (List.all_eq_true.mp hc n hm)⟩
  have rsc : RsAll K B (selF φ ns) vs (xs.map (mvS 0 ns)) := r.map_to fun v x hx' rx => rx.sub hlt (List.all_eq_true.mp hx x hx')
  refine ⟨B, selF φ ns, _, _, _, rec_, rsc, h2, fun H' B' φ' s' v x g re' r' q' => ?_⟩
  rw [bck_st, ← hL] at q'
  obtain ⟨g2, re2⟩ := re.back nd hlt re' g.pf g.kp g.nf g.eb re'.ex g.nb (fun _ h => h) (s2 := s'.map (renO ns φ.length)) (List.length_map ..) fun k o' h => by
    rw [List.getElem?_map] at h
    obtain ⟨o, h1, rfl⟩ := Option.map_eq_some_iff.mp h
    exact ⟨o, h1, fun w => by rw [renO_is.1] at w; exact w, fun c _ hc => hc.ren nd hlt⟩
  exact f _ _ _ _ _ _ g2 re2 (r'.ren nd hlt) q'
/-! ### a call to which parts of the store are handed as data -/
def LO.dct : LO → Bool
  | .dK _ => true
  | .dT _ => true
  | .lK _ _ _ => true
  | .lT _ _ _ => true
  | _ => false
def PRec.isI : PRec → Bool
  | .ins _ _ _ => true
  | _ => false
mutual
/-- nothing in it is a list or a tuple -/
def LO.pv : LO → Bool
  | .ins _ _ _ => true
  | .own _ => true
  | .dK _ => true
  | .dT _ => true
  | .mK _ => true
  | .mT _ => true
  | .fK _ _ _ => true
  | .fT _ _ _ => true
  | .lK _ _ _ => true
  | .lT _ _ _ => true
  | .pool o rs => o.dct && rs.all fun r => r.2.isI
  | .box st => LO.pvs st
  | _ => false
def LO.pvs : List LO → Bool
  | [] => true
  | o :: r => o.pv && LO.pvs r
end
theorem pvs_all : ∀ l : List LO, LO.pvs l = l.all LO.pv
  | [] => by unfold LO.pvs; rfl
  | o :: r => by unfold LO.pvs; rw [pvs_all r, List.all_cons]
mutual
/-- flat data, lists and tuples of such -/
def T.pl : T → Bool
  | .non => true
  | .bl _ => true
  | .int _ => true
  | .str _ => true
  | .lst xs => T.pls xs
  | .tup xs => T.pls xs
  | _ => false
def T.pls : List T → Bool
  | [] => true
  | x :: r => x.pl && T.pls r
end
section
variable {K : Fr} {M : MP} {H B B' : Hp} {φ φ' : Fi} {s : ST} {W : List Addr}
def NoLT (W : List Addr) (H : Hp) : Prop := ∀ a ∈ W, ∀ xs, H a ≠ some (.lst xs) ∧ H a ≠ some (.tup xs)
theorem Rc.pv {c : Ce} {o : LO} (h : Rc K B H φ c o) : o.pv = true → NoLT c.al H := by
  induction h with
  | gone => intro q; unfold LO.pv at q; cases q
  | @sim φ c o h1 h2 h3 =>
    intro q a ha xs
    have : a = c.p := by
      unfold Ce.al at ha
      rw [h2] at ha
      simpa using ha
    subst this
    cases o with
    | ins C j fs => obtain ⟨vs, dx, _, _, e⟩ := h3; rw [e]; exact ⟨nofun, nofun⟩
    | own j => obtain ⟨x, _, e⟩ := h3; rw [e]; exact ⟨nofun, nofun⟩
    | dK _ => obtain ⟨x, _, e⟩ := h3; rw [e]; exact ⟨nofun, nofun⟩
    | dT _ => obtain ⟨x, _, e⟩ := h3; rw [e]; exact ⟨nofun, nofun⟩
    | mK _ => obtain ⟨x, _, e⟩ := h3; rw [e]; exact ⟨nofun, nofun⟩
    | mT _ => obtain ⟨x, _, e⟩ := h3; rw [e]; exact ⟨nofun, nofun⟩
    | fK _ _ _ => obtain ⟨_, e⟩ := h3; rw [e]; exact ⟨nofun, nofun⟩
    | fT _ _ _ => obtain ⟨_, e⟩ := h3; rw [e]; exact ⟨nofun, nofun⟩
    | lK _ _ _ => obtain ⟨_, e⟩ := h3; rw [e]; exact ⟨nofun, nofun⟩
    | lT _ _ _ => obtain ⟨_, e⟩ := h3; rw [e]; exact ⟨nofun, nofun⟩
    | _ => first | (unfold LO.pv at q; cases q) | cases h1
  | @box φ c st ψ h1 h2 h3 h4 ih =>
    intro q a ha xs
    unfold LO.pv at q
    rw [pvs_all] at q
    rw [h1] at ha
    obtain ⟨n, d, n1, n2⟩ := adr_of ha
    have hn : n < st.length := by rw [← h2]; exact (List.getElem?_eq_some_iff.mp n1).1
    have hs : st[n]? = some st[n] := List.getElem?_eq_getElem hn
    exact ih n d _ n1 hs (List.all_eq_true.mp q _ (List.mem_of_getElem? hs)) a n2 xs
  | @pool φ c o rs h1 h2 h3 h4 =>
    intro q a ha xs
    unfold LO.pv at q
    have q := Bool.and_eq_true_iff.mp q
    unfold Ce.al at ha
    rw [h2] at ha
    rcases List.mem_cons.mp ha with rfl | ha
    · cases o with
      | dK _ => obtain ⟨x, _, e⟩ := h3; rw [e]; exact ⟨nofun, nofun⟩
      | dT _ => obtain ⟨x, _, e⟩ := h3; rw [e]; exact ⟨nofun, nofun⟩
      | lK _ _ _ => obtain ⟨_, e⟩ := h3; rw [e]; exact ⟨nofun, nofun⟩
      | lT _ _ _ => obtain ⟨_, e⟩ := h3; rw [e]; exact ⟨nofun, nofun⟩
      | _ => exact absurd q.1 (by simp [LO.dct])
    · obtain ⟨r, hr, hx⟩ := List.mem_flatMap.mp ha
      have hp := h4 r hr
      have hi := List.all_eq_true.mp q.2 r hr
      obtain ⟨b, rc⟩ := r
      cases rc with
      | ins dx C fs =>
        obtain ⟨vs, _, g2, g3⟩ := hp
        have hx : a ∈ [b, dx] := hx
        simp only [List.mem_cons, List.not_mem_nil, or_false] at hx
        rcases hx with rfl | rfl
        · rw [g2]; exact ⟨nofun, nofun⟩
        · rw [g3]; exact ⟨nofun, nofun⟩
      | lst ts => exact absurd hi (by simp [PRec.isI])
end
/-- the arguments: those of the places vw as data -/
def viewX (vw : List Nat) (s : ST) : List SV → Option (List SV)
  | [] => some []
  | .l n :: r => if vw.contains n then (match deepF (fun m => vw.contains m) 9 s (.l n) with
    | some t => (viewX vw s r).map (SV.d t :: ·)
    | none => none) else (viewX vw s r).map (SV.l n :: ·)
  | x :: r => (viewX vw s r).map (x :: ·)
end Lv

/-! Lb4: methods, makings, boxes opened and shut. -/
namespace Lv
open PySem L2 LvI
/-- x is an instance of the class at C, that has no attribute m -/
def isIn (C : Addr) (m : Str) (x : SV) (s : ST) : Prop := match x with
  | .d (.obj D ns ts) => D = C ∧ lk m (ns.zip ts) = none
  | .l n => (match s[n]? with
    | some (.ins D _ fs) => D = C ∧ lk m fs = none
    | some (.box (.ins D _ fs :: _)) => D = C ∧ lk m fs = none
    | _ => False)
  | _ => False
section
variable {K : Fr} {M : MP} {H B : Hp} {φ : Fi} {s : ST}
end
/-- a method keeps its promise -/
structure CalM (P : Program) (w : World) (K : Fr) (mg : Str → Option Value) (base : Heap) (k : Nat) (C : Addr) (m : Str) (ps : List Str) (sp : ASp) : Prop where
  ex : ∃ f fd, FnG P w K mg base k f fd ps (toSp K sp) ∧ Meth K C m f ∧ BindA fd ps
  c : Cls K C
/-- a class's __init__ keeps its promise -/
structure CalI (P : Program) (w : World) (K : Fr) (mg : Str → Option Value) (base : Heap) (k : Nat) (C : Addr) (x : Str) (ps : List Str) (sp : ASp) : Prop where
  ex : ∃ f fd, FnG P w K mg base k f fd ps (toSp K sp) ∧ Mk K C f ∧ BindA fd ps
  m : mg x = some (.ref C)
/-- a call that what stands under it lifts -/
def LiC (K : Fr) (M : MP) (sp : ASp) (cl : (SV → ST → Prop) → List SV → ST → Prop) : Prop := ∀ H B φ s vs xs Q Q', Re K M H B φ s → RsAll K B φ vs xs → cl Q xs s → FinE K M H B φ Q Q' → toSp K sp vs H Q' XN
def aMet (C : Addr) (m : Str) (cl : (SV → ST → Prop) → List SV → ST → Prop) (to : ATE) (ta : ATA) : ATE := fun δ s Q => to δ s fun x s1 => isIn C m x s1 ∧ ta δ s1 fun xs s2 => cl Q (x :: xs) s2
def aCl (cl : (SV → ST → Prop) → List SV → ST → Prop) (ta : ATA) : ATE := fun δ s Q => ta δ s fun xs s2 => cl Q xs s2
section
variable {X : Cx} {M : MP} {e o : Expr} {es : List Expr} {p pos apos : Pos} {x m : Str} {k : Nat} {ps : List Str} {sp : ASp} {C : Addr} {cl : (SV → ST → Prop) → List SV → ST → Prop} {to : ATE} {ta : ATA}
/-- a call of a def, likewise -/
theorem ae_clD (li : LiC X.K M sp cl) (Cc : Cal X.prog X.w X.K X.mg X.base k x ps sp) (hr : RoomG k X.A) (ha : AA X M (e :: es) ta)
    (hg : Gl X x := by rfl) (hdb : (x == ("__debug__" : Str)) = false := by decide) (he : starEach (e :: es) X.env = (false, eval e X.env) :: starEach es X.env := by rfl) (hpl : (backTo pos (starEach es X.env)).any (·.1) = false := by rfl) :
    AE X M (.Call (.Name x p) (e :: es) [] pos) (aCl cl ta) := by
  obtain ⟨f, fd, F, h1, h2, h3⟩ := Cc.ex
  exact .of (pe_callG F hr hg h1 h2 (.all h3) ha.pa hdb he hpl) fun H B φ σ δ s Q re sl q Q' f => uA_lift (t := ta) H B φ σ δ s _ re sl q _ fun H1 B1 φ1 s1 vs xs g1 re1 r1 hv => li _ _ _ _ _ _ _ _ re1 r1 hv (f.grow g1)
/-- C(..): the new instance, its dict behind it -/
def aMk (C : Addr) (sp : ASp) (ta : ATA) : ATE := fun δ s Q => ta δ s fun xs s1 => callC sp (fun r s2 => r = .d .non ∧ Q (.l s1.length) s2) .mk (.l s1.length :: xs) (s1 ++ [.ins C (s1.length + 1) [], .own s1.length])
/-- a gone thing's place is taken again -/
theorem Re.fill {K : Fr} {H B : Hp} {φ : Fi} {s : ST} (e : Re K M H B φ s) {n : Nat} {c : Ce} {o : LO} (h : φ[n]? = some c) (hb : ∀ a ∈ c.al, B a = none) (rc : Rc K B H φ c o) : Re K M H B φ (s.set n o) := by
  refine ⟨e.ex, e.nd, by rw [List.length_set]; exact e.len, e.al, fun m c' o' h1 h2 h3 a ha => ?_, fun m c' o' h1 h2 => ?_, e.pm⟩
  · by_cases hm : n = m
    · subst hm; rw [h] at h1; cases h1; exact .inl (hb a ha)
    · rw [List.getElem?_set_ne hm] at h2; exact e.fr m c' o' h1 h2 h3 a ha
  · by_cases hm : n = m
    · subst hm; rw [h] at h1; cases h1
      have hl : n < s.length := by rw [← e.len]; exact (List.getElem?_eq_some_iff.mp h).1
      rw [List.getElem?_set_self hl] at h2; cases h2; exact rc
    · rw [List.getElem?_set_ne hm] at h2; exact e.ob m c' o' h1 h2
theorem made_re {K : Fr} {H B : Hp} {φ : Fi} {s : ST} (re : Re K M H B φ s) (C : Addr) {x dx : Addr} (hx : H x = none) (hd : H dx = none) (ne : dx ≠ x) :
    Gr H B φ (upd (upd H dx (.own x)) x (.ins C dx [])) B (φ ++ [one x] ++ [one dx]) ∧ Re K M (upd (upd H dx (.own x)) x (.ins C dx [])) B (φ ++ [one x] ++ [one dx]) (s ++ [.ins C (s.length + 1) [], .own s.length]) := by
  have hL := re.len
  have ax : x ∉ adr φ := fun z => re.al x z hx
  have ad : dx ∉ adr φ := fun z => re.al dx z hd
  have bx := re.none_b hx
  have bd := re.none_b hd
  obtain ⟨g1, re1⟩ := re.poke (o := .own x) re .refl hd ad bd
  have hx1 : upd H dx (.own x) x = none := by rw [upd_ne ne.symm]; exact hx
  obtain ⟨g2', re2'⟩ := re1.poke (o := .ins C dx []) re1 .refl hx1 ax bx
  have g2 := g1.trans g2'
  have atx : upd (upd H dx (.own x)) x (.ins C dx []) x = some (.ins C dx []) := upd_same
  have atd : upd (upd H dx (.own x)) x (.ins C dx []) dx = some (.own x) := by rw [upd_ne ne, upd_same]
  have s1 : ∀ {a b : Addr}, a ∈ (one b).al → a = b := fun {a b} h => by simpa [Ce.al] using h
  obtain ⟨g3, re3⟩ := re2'.snoc (c := one x) (o := .gone) g2 re (fun a ha => by rw [s1 ha]; exact .inr hx) (fun a ha => by rw [s1 ha]; exact ax) (by simp [Ce.al]) (fun a ha => by rw [s1 ha, atx]; exact fun z => nomatch z) (fun h => by cases h) .gone
  have ad3 : adr (φ ++ [one x]) = adr φ ++ [x] := by rw [adr_app]; rfl
  have rx : Fi.r (φ ++ [one x] ++ [one dx]) s.length = some x := r_app _ (re.top x)
  obtain ⟨g4, re4⟩ := re3.snoc (c := one dx) (o := .own s.length) g3 re (fun a ha => by rw [s1 ha]; exact .inr hd) (fun a ha => by
    rw [s1 ha, ad3]
    intro z
    rcases List.mem_append.mp z with z | z
    · exact ad z
    · exact ne (by simpa using z)) (by simp [Ce.al]) (fun a ha => by rw [s1 ha, atd]; exact fun z => nomatch z) (fun _ a ha => by rw [s1 ha]; exact bd)
    (.sim rfl rfl ⟨x, rx, atd⟩)
  have hc : (φ ++ [one x] ++ [one dx])[s.length]? = some (one x) := by
    rw [List.getElem?_append_left (by rw [List.length_append, hL]; simp), ← hL, List.getElem?_append_right (Nat.le_refl _), Nat.sub_self]; rfl
  have rd : Fi.r (φ ++ [one x] ++ [one dx]) (s.length + 1) = some dx := by
    have := re3.top dx
    rw [List.length_append] at this
    exact this
  have re5 := re4.fill hc (fun a ha => by rw [s1 ha]; exact bx) (.sim (o := .ins C (s.length + 1) []) rfl rfl ⟨[], dx, .nil, rd, atx⟩)
  refine ⟨g4, ?_⟩
  have e : (s ++ [LO.gone] ++ [LO.own s.length]).set s.length (.ins C (s.length + 1) []) = s ++ [.ins C (s.length + 1) [], .own s.length] := by
    rw [List.append_assoc, List.set_append_right _ _ (Nat.le_refl _), Nat.sub_self]; rfl
  rw [← e]; exact re5
theorem lift_mk {K : Fr} {H B : Hp} {φ : Fi} {s : ST} {vs : List V} {xs : List SV} {Q : SV → ST → Prop} {Q' : VK} (re : Re K M H B φ s) (r : RsAll K B φ vs xs)
    (h : callC sp (fun r s2 => r = .d .non ∧ Q (.l s.length) s2) .mk (.l s.length :: xs) (s ++ [.ins C (s.length + 1) [], .own s.length])) (f : FinE K M H B φ Q Q') {x dx : Addr} (hx : H x = none) (hd : H dx = none) (ne : dx ≠ x) :
    toSp K sp (.ref x :: vs) (upd (upd H dx (.own x)) x (.ins C dx [])) (fun v H2 => v = .non ∧ Q' (.ref x) H2) XN := by
  obtain ⟨g, re2⟩ := made_re re C hx hd ne
  have rx : Fi.r (φ ++ [one x] ++ [one dx]) s.length = some x := r_app _ (re.top x)
  refine lift_fnC re2 (.cons (x := .l s.length) ⟨x, rx, rfl⟩ (r.mono g)) h fun H' B' φ' s' v y g' re' ry ⟨e, q⟩ => ?_
  subst e
  exact ⟨non_of ry, f _ _ _ _ _ _ (g.trans g') re' (show Rs K B' φ' (.ref x) (.l s.length) from ⟨x, g'.get rx, rfl⟩) q⟩
theorem ae_mk (Ci : CalI X.prog X.w X.K X.mg X.base k C x ps sp) (hr : RoomG (k + 1) X.A) (ha : AA X M (e :: es) ta)
    (hg : Gl X x := by rfl) (hdb : (x == ("__debug__" : Str)) = false := by decide) (he : starEach (e :: es) X.env = (false, eval e X.env) :: starEach es X.env := by rfl) (hpl : (backTo pos (starEach es X.env)).any (·.1) = false := by rfl) :
    AE X M (.Call (.Name x p) (e :: es) [] pos) (aMk C sp ta) := by
  obtain ⟨f, fd, F, h1, h3⟩ := Ci.ex
  exact .of (pe_makeX (E := fun _ => XN) h1 F hr hg Ci.m (.all h3) (fun _ => pass_no) ha.pa hdb he hpl) fun H B φ σ δ s Q re sl q Q' f => uA_lift (t := ta) H B φ σ δ s _ re sl q _ fun H1 B1 φ1 s1 vs xs g1 re1 r1 hv x dx hx hd ne => lift_mk re1 r1 hv (f.grow g1) hx hd ne
end
end Lv

/-! Ls1: len(set(a list or a tuple of texts)). -/
namespace Lv
open PySem L2 PySem.Spec PyProof.Rows
/-- how many unlike ones there are -/
def unl : List Str → Nat
  | [] => 0
  | x :: r => unl r + if x ∈ r then 0 else 1
theorem unl_le : ∀ l : List Str, unl l ≤ l.length
  | [] => Nat.le_refl _
  | x :: r => by
    have := unl_le r
    unfold unl
    rw [List.length_cons]
    split <;> omega
theorem unl_nd : ∀ l : List Str, unl l = l.length ↔ l.Nodup
  | [] => by simp [unl]
  | x :: r => by
    have h1 := unl_le r
    have h2 := unl_nd r
    unfold unl
    rw [List.length_cons, List.nodup_cons, ← h2]
    by_cases h : x ∈ r
    · rw [if_pos h]; simp [h]; omega
    · rw [if_neg h]; simp [h]
/-- the last ones first -/
def rv (l : List Str) (i : Nat) : List Str := (l.take i).reverse
theorem rv_succ {l : List Str} {i : Nat} {x : Str} (h : l[i]? = some x) : rv l (i + 1) = x :: rv l i := by
  unfold rv
  rw [List.take_succ, h]
  simp
section
variable {P : Program} {w : World} {A : Around} {E : Value → Shared → Prop} {s : Shared}
abbrev SetN (P : Program) (w : World) (h : Heap) (a : Addr) (l : List Str) : Prop := h.SetOf (PySem.strKind P w) a (fun z => decide (z ∈ l)) (unl l)
theorem setN_at {h h' : Heap} {a : Addr} {l : List Str} (R : SetN P w h a l) (k : ∀ o, h.get? a = some o → h'.get? a = some o) : SetN P w h' a l := by
  obtain ⟨o, es, ep, t, ho, rest⟩ := R
  exact ⟨o, es, ep, t, k o ho, rest⟩
theorem loop_strs {I : Addr} {fp wr : List Addr} {G : Array GenState → Array GenState → Prop} {n : Nat} {Pv : Nat → Value → Prop} {St : Nat → Shared → Prop} {R : Result → Shared → Prop}
    (W : WalksS P w A.in1 I fp wr G n Pv St) (S : Addr) (out : S ∉ fp) (xs : List Str) (ln : n = xs.length) (few : xs.length + 1 < scanBound) (val : ∀ i v, Pv i v → ∃ k t, xs[i]? = some k ∧ v = .str k t) :
    ∀ (k i : Nat) (s : Shared), n - i = k → i ≤ n → St i s → SetN P w s.heap S (rv xs i) →
      (∀ s', Moved (S :: wr) G s s' → SetN P w s'.heap S (rv xs xs.length) → R (.ok (.ret .none)) s') →
      codeAny (model P w) A (.builtin "set.update.loop" ⟨[.ref S, .ref I], []⟩) R s := by
  have out2 : S ∉ wr := fun m => out (W.sub _ m)
  have wider : ∀ b ∈ wr, b ∈ S :: wr := fun b m => List.mem_cons_of_mem _ m
  intro k
  induction k with
  | zero =>
    intro i s ek li st hS q
    have ei : i = n := by omega
    subst ei
    refine codeAny_builtin F.entry_set_update_loop ?_
    rw [Around.under_plainId F.plain_set_update_loop _]
    show wpAny _ A.in1 (pyNext (.ref I) >>= _) _ _ s
    refine wpAny_bind (W.done s _ _ st fun s' mv => ?_)
    show wpAny _ A.in1 (ret Value.none) _ _ s'
    rw [ln] at hS
    exact wpAny_pure (q s' (mv.mono wider) (setN_at hS fun o e => mv.heap S o out2 e))
  | succ k ih =>
    intro i s ek li st hS q
    have lt : i < n := by omega
    refine codeAny_builtin F.entry_set_update_loop ?_
    rw [Around.under_plainId F.plain_set_update_loop _]
    show wpAny _ A.in1 (pyNext (.ref I) >>= _) _ _ s
    refine wpAny_bind (W.item i s _ _ lt st fun v s' pv st2 mv => ?_)
    obtain ⟨z, t, hz, rfl⟩ := val i v pv
    have hS1 : SetN P w s'.heap S (rv xs i) := setN_at hS fun o e => mv.heap S o out2 e
    have lu : unl (rv xs i) ≤ i := by
      have := unl_le (rv xs i)
      unfold rv at this
      rw [List.length_reverse, List.length_take] at this
      unfold rv; omega
    show wpAny _ A.in1 (holding [Value.str z t] (setAdd S (.str z t)) >>= _) _ _ s'
    refine wpAny_bind (wpAny_holding ?_)
    unfold setAdd
    refine wpAny_holding ?_
    refine wpAny_bind ((PySem.strKind P w).pyHash (k := z) (strKind_is _ _ _ _) ?_)
    refine wpAny_setAddHashed_of (knd := PySem.strKind P w) (s := { s' with toks := s'.toks + 1 }) (strKind_is _ _ _ _) rfl hS1 (by omega) fun h2 same hS2 => ?_
    have hS3 : SetN P w h2 S (rv xs (i + 1)) := by
      rw [rv_succ hz]
      refine SetOf_congr hS2 (fun y => ?_) ?_
      · show (decide (y ∈ rv xs i) || decide (y = z)) = decide (y ∈ z :: rv xs i)
        by_cases m1 : y = z <;> by_cases m2 : y ∈ rv xs i <;> simp [m1, m2]
      · show (if decide (z ∈ rv xs i) = true then _ else _) = unl (rv xs i) + if z ∈ rv xs i then 0 else 1
        by_cases m : z ∈ rv xs i
        · rw [if_pos (by simpa using m), if_pos m]; omega
        · rw [if_neg (by simpa using m), if_neg m]
    refine wpAny_pure ⟨plainId_quiet F.plain_set_update_loop _, ih (i + 1) _ (by omega) lt (W.frame _ s' _ _ st2 (Nat.le_succ _) fun b hb o e => ?_) hS3 fun s3 mv3 hS4 => ?_⟩
    · rw [same.2 b fun h : b = S => out (h ▸ hb)]; exact e
    · refine q s3 (Moved.trans W.gtrans ((mv.mono wider).then_heap (Nat.le_succ _) fun b o hb e => ?_) mv3) hS4
      rw [same.2 b fun h : b = S => hb (h ▸ List.mem_cons_self)]; exact e
theorem rv_all (xs : List Str) : rv xs xs.length = xs.reverse := by unfold rv; rw [List.take_length]
theorem unl_rev (xs : List Str) : unl xs.reverse = xs.length ↔ xs.Nodup := by
  have := unl_nd xs.reverse
  rw [List.length_reverse] at this
  rw [this]
  exact (List.reverse_perm xs).nodup_iff
set_option maxHeartbeats 6400000 in
theorem set_listN {l : Addr} {items : Array Value} (xs : List Str) {Q : Value → Shared → Prop} (calm : A.handled = none) (il : s.heap.IsList l items) (ia : StrsAre items.toList xs) (few : xs.length + 1 < scanBound)
    (q : ∀ (h' : Heap) (tk : Nat), SetN P w h' s.heap.objs.size xs.reverse → (∀ b o, s.heap.get? b = some o → h'.get? b = some o) → Q (.ref s.heap.objs.size) { s with heap := h', toks := tk }) :
    wpAny (model P w) A (call (.type "set") [.ref l]) Q E s := by
  have isz : items.size = xs.length := by rw [← Array.length_toList]; exact StrsAre.len_eq ia
  have ⟨c0, tl0, x1⟩ := F.called_set.mro
  have x2 := F.called_set.made
  have x3 := F.called_set.sub
  have x4 := F.called_set.notType
  have x5 := F.called_set.canCreate
  have x6 := F.typeCall_set_1 (.ref l)
  refine wpAny_call (codeAny_of_tree ?_)
  show wpAny _ _ (callAny (.type "set") _) _ _ _
  refine wpAny_pure ⟨Code.quiet_builtin _ (by decide +kernel), codeAny_builtin F.entry_type_call ?_⟩
  rw [Around.under_plain (weight_type_call_type "set" [.ref l] []) rfl]
  repeat (any_goals (first | assumption | wp_step))
  refine codeAny_mono (code_set_led1 (.ref l) (E := E) (Q₁ := fun obj s1 => obj = .ref s.heap.objs.size ∧ s1 = { s with heap := s.heap.push (mtSet w) }) ⟨rfl, rfl⟩) fun r s1 hr => ?_
  match r, hr with
  | .error _, hr => exact hr
  | .ok (.ret _), ⟨e1, e2⟩ =>
    subst e1; subst e2
    have gS : (s.heap.push (mtSet w)).get? s.heap.objs.size = some (mtSet w) := Heap.get?_push_size _ rfl
    have tS : Shared.TypeIs { s with heap := s.heap.push (mtSet w) } (.ref s.heap.objs.size) "set" := ⟨_, gS, rfl⟩
    have x7 := F.called_set.init.lookup
    have x8 := F.called_set.init.bind (.ref s.heap.objs.size)
    repeat (any_goals (first | assumption | wp_step))
    refine codeAny_mono (codeAny_call_builtin (R := wants (fun r2 s2 => r2 = .none ∧ ∃ h' tk, s2 = { s with heap := h', toks := tk } ∧ SetN P w h' s.heap.objs.size xs.reverse ∧
        (∀ b o, s.heap.get? b = some o → h'.get? b = some o)) E) F.called_set.init.plain F.entry_set_init (check_set_init_1 tS ?_)) fun r2 s2 hr2 => ?_
    · obtain ⟨ol, hol, hcl, nl, hdl⟩ := il
      obtain ⟨oc, od, ob, osl⟩ := ol
      simp only at hcl hdl
      subst hcl; subst hdl
      have gl : (s.heap.push (mtSet w)).get? l = some { cls := .type "list", dict := od, data := .seq items nl, slots := osl } := Heap.get?_push_of_some _ hol
      have y1 := F.sub_list_set
      have y2 := F.sub_list_frozenset
      have y3 : (Value.type "list" == Value.type "dict") = false := by decide
      have il2 : (s.heap.push (mtSet w)).IsList l items := ⟨_, gl, rfl, nl, rfl⟩
      unfold Builtin.«set.__init__» noKeywords Builtin.Frozenset.updateFrom
      generalize hw : pyIter = walk
      wp_walk
      subst hw
      refine wpAny_pyIter_list il2 (wpAny_bind (wpAny_runValue ?_))
      have ls : l < s.heap.objs.size := Heap.lt_size hol
      have sz : (s.heap.push (mtSet w)).objs.size = s.heap.objs.size + 1 := Heap.size_push ..
      have calm3 : A.in1.in1.in1.handled = none := by simp [calm]
      have apart : l ≠ (s.heap.push (mtSet w)).objs.size := by rw [sz]; exact Nat.ne_of_lt (Nat.lt_succ_of_lt ls)
      have notIn : s.heap.objs.size ∉ [(s.heap.push (mtSet w)).objs.size, l] := by
        intro m
        rcases List.mem_cons.mp m with m | m
        · rw [sz] at m; exact absurd m (Nat.ne_of_lt (Nat.lt_succ_self _))
        · exact absurd (List.mem_singleton.mp m) (Nat.ne_of_gt ls)
      have val : ∀ (i : Nat) (v : Value), items[i]? = some v → ∃ k t, xs[i]? = some k ∧ v = .str k t := fun i v hv => by
        have hi : i < xs.length := by rw [← isz]; exact (Array.getElem?_eq_some_iff.mp hv).1
        obtain ⟨t, e⟩ := SS.strs_at ia i v (by rw [Array.getElem?_toList]; exact hv)
        have e3 : xs.getD i Str.empty = xs[i] := by rw [List.getD_eq_getElem?_getD, List.getElem?_eq_getElem hi]; rfl
        exact ⟨xs[i], t, List.getElem?_eq_getElem hi, by rw [e, e3]⟩
      refine loop_strs ((Walks.list calm3 _ l apart items).toS) s.heap.objs.size notIn xs isz few val (items.size - 0) 0 _ (by omega) (Nat.zero_le _) ⟨⟨_, Heap.get?_push_size _ rfl, rfl, rfl⟩, (il2.push _)⟩ ?_ ?_
      · refine SetOf_congr ((setObjOf_fresh (knd := PySem.strKind P w) (!w.params.followText "set-order")).setOf (Heap.get?_push_of_some _ gS) (by unfold scanBound; omega)) (fun _ => rfl) rfl
      · intro s3 mv R3
        obtain ⟨h3, g3, d3, tk3, os3⟩ := s3
        have eg : g3 = s.gens := mv.gens
        have ed : d3 = s.drawn := mv.drawn
        have eo : os3 = s.os := mv.os
        subst eg; subst ed; subst eo
        rw [rv_all] at R3
        show wpAny _ _ _ _ _ _
        refine wpAny_pure ?_
        show wpAny _ _ (ret Value.none) _ _ _
        refine wpAny_pure ⟨rfl, h3, tk3, rfl, R3, fun b o e => ?_⟩
        have lb : b < s.heap.objs.size := Heap.lt_size e
        refine mv.heap b o (fun m => ?_) (Heap.get?_push_of_some _ (Heap.get?_push_of_some _ e))
        rcases List.mem_cons.mp m with m | m
        · exact absurd m (Nat.ne_of_lt lb)
        · have e9 := List.mem_singleton.mp m
          rw [sz] at e9
          exact absurd e9 (Nat.ne_of_lt (Nat.lt_succ_of_lt lb))
    · match r2, hr2 with
      | .error _, hr2 => exact hr2
      | .ok (.ret _), ⟨e1, h3, tk3, e3, R3, k3⟩ =>
        subst e1; subst e3
        repeat (any_goals (first | assumption | wp_step))
        exact q _ _ R3 k3
set_option maxHeartbeats 6400000 in
theorem set_tupN {l : Addr} {items : Array Value} (xs : List Str) {Q : Value → Shared → Prop} (calm : A.handled = none) (il : s.heap.IsTuple l items) (ia : StrsAre items.toList xs) (few : xs.length + 1 < scanBound)
    (q : ∀ (h' : Heap) (tk : Nat), SetN P w h' s.heap.objs.size xs.reverse → (∀ b o, s.heap.get? b = some o → h'.get? b = some o) → Q (.ref s.heap.objs.size) { s with heap := h', toks := tk }) :
    wpAny (model P w) A (call (.type "set") [.ref l]) Q E s := by
  have isz : items.size = xs.length := by rw [← Array.length_toList]; exact StrsAre.len_eq ia
  have ⟨c0, tl0, x1⟩ := F.called_set.mro
  have x2 := F.called_set.made
  have x3 := F.called_set.sub
  have x4 := F.called_set.notType
  have x5 := F.called_set.canCreate
  have x6 := F.typeCall_set_1 (.ref l)
  refine wpAny_call (codeAny_of_tree ?_)
  show wpAny _ _ (callAny (.type "set") _) _ _ _
  refine wpAny_pure ⟨Code.quiet_builtin _ (by decide +kernel), codeAny_builtin F.entry_type_call ?_⟩
  rw [Around.under_plain (weight_type_call_type "set" [.ref l] []) rfl]
  repeat (any_goals (first | assumption | wp_step))
  refine codeAny_mono (code_set_led1 (.ref l) (E := E) (Q₁ := fun obj s1 => obj = .ref s.heap.objs.size ∧ s1 = { s with heap := s.heap.push (mtSet w) }) ⟨rfl, rfl⟩) fun r s1 hr => ?_
  match r, hr with
  | .error _, hr => exact hr
  | .ok (.ret _), ⟨e1, e2⟩ =>
    subst e1; subst e2
    have gS : (s.heap.push (mtSet w)).get? s.heap.objs.size = some (mtSet w) := Heap.get?_push_size _ rfl
    have tS : Shared.TypeIs { s with heap := s.heap.push (mtSet w) } (.ref s.heap.objs.size) "set" := ⟨_, gS, rfl⟩
    have x7 := F.called_set.init.lookup
    have x8 := F.called_set.init.bind (.ref s.heap.objs.size)
    repeat (any_goals (first | assumption | wp_step))
    refine codeAny_mono (codeAny_call_builtin (R := wants (fun r2 s2 => r2 = .none ∧ ∃ h' tk, s2 = { s with heap := h', toks := tk } ∧ SetN P w h' s.heap.objs.size xs.reverse ∧
        (∀ b o, s.heap.get? b = some o → h'.get? b = some o)) E) F.called_set.init.plain F.entry_set_init (check_set_init_1 tS ?_)) fun r2 s2 hr2 => ?_
    · obtain ⟨ol, hol, hcl, nl, hdl⟩ := il
      obtain ⟨oc, od, ob, osl⟩ := ol
      simp only at hcl hdl
      subst hcl; subst hdl
      have gl : (s.heap.push (mtSet w)).get? l = some { cls := .type "tuple", dict := od, data := .seq items nl, slots := osl } := Heap.get?_push_of_some _ hol
      have y1 := F.sub_tuple_set
      have y2 := F.sub_tuple_frozenset
      have y3 : (Value.type "tuple" == Value.type "dict") = false := by decide
      have il2 : (s.heap.push (mtSet w)).IsTuple l items := ⟨_, gl, rfl, nl, rfl⟩
      unfold Builtin.«set.__init__» noKeywords Builtin.Frozenset.updateFrom
      generalize hw : pyIter = walk
      wp_walk
      subst hw
      refine wpAny_pyIter_tuple il2 (wpAny_bind (wpAny_runValue ?_))
      have ls : l < s.heap.objs.size := Heap.lt_size hol
      have sz : (s.heap.push (mtSet w)).objs.size = s.heap.objs.size + 1 := Heap.size_push ..
      have calm3 : A.in1.in1.in1.handled = none := by simp [calm]
      have apart : l ≠ (s.heap.push (mtSet w)).objs.size := by rw [sz]; exact Nat.ne_of_lt (Nat.lt_succ_of_lt ls)
      have notIn : s.heap.objs.size ∉ [(s.heap.push (mtSet w)).objs.size, l] := by
        intro m
        rcases List.mem_cons.mp m with m | m
        · rw [sz] at m; exact absurd m (Nat.ne_of_lt (Nat.lt_succ_self _))
        · exact absurd (List.mem_singleton.mp m) (Nat.ne_of_gt ls)
      have val : ∀ (i : Nat) (v : Value), items[i]? = some v → ∃ k t, xs[i]? = some k ∧ v = .str k t := fun i v hv => by
        have hi : i < xs.length := by rw [← isz]; exact (Array.getElem?_eq_some_iff.mp hv).1
        obtain ⟨t, e⟩ := SS.strs_at ia i v (by rw [Array.getElem?_toList]; exact hv)
        have e3 : xs.getD i Str.empty = xs[i] := by rw [List.getD_eq_getElem?_getD, List.getElem?_eq_getElem hi]; rfl
        exact ⟨xs[i], t, List.getElem?_eq_getElem hi, by rw [e, e3]⟩
      refine loop_strs ((Walks.tuple calm3 _ l apart items).toS) s.heap.objs.size notIn xs isz few val (items.size - 0) 0 _ (by omega) (Nat.zero_le _) ⟨⟨_, Heap.get?_push_size _ rfl, rfl, rfl⟩, (il2.push _)⟩ ?_ ?_
      · refine SetOf_congr ((setObjOf_fresh (knd := PySem.strKind P w) (!w.params.followText "set-order")).setOf (Heap.get?_push_of_some _ gS) (by unfold scanBound; omega)) (fun _ => rfl) rfl
      · intro s3 mv R3
        obtain ⟨h3, g3, d3, tk3, os3⟩ := s3
        have eg : g3 = s.gens := mv.gens
        have ed : d3 = s.drawn := mv.drawn
        have eo : os3 = s.os := mv.os
        subst eg; subst ed; subst eo
        rw [rv_all] at R3
        show wpAny _ _ _ _ _ _
        refine wpAny_pure ?_
        show wpAny _ _ (ret Value.none) _ _ _
        refine wpAny_pure ⟨rfl, h3, tk3, rfl, R3, fun b o e => ?_⟩
        have lb : b < s.heap.objs.size := Heap.lt_size e
        refine mv.heap b o (fun m => ?_) (Heap.get?_push_of_some _ (Heap.get?_push_of_some _ e))
        rcases List.mem_cons.mp m with m | m
        · exact absurd m (Nat.ne_of_lt lb)
        · have e9 := List.mem_singleton.mp m
          rw [sz] at e9
          exact absurd e9 (Nat.ne_of_lt (Nat.lt_succ_of_lt lb))
    · match r2, hr2 with
      | .error _, hr2 => exact hr2
      | .ok (.ret _), ⟨e1, h3, tk3, e3, R3, k3⟩ =>
        subst e1; subst e3
        repeat (any_goals (first | assumption | wp_step))
        exact q _ _ R3 k3
end
section
variable {X : Cx} {M : MP} {a : Expr} {pos : Pos} {va : ATE}
def tLenN (K : Fr) (ta : TE) : TE := fun σ H Q => ta σ H fun x H1 => ∃ l, ∃ xs : List Str, x = .ref l ∧ (SqL K H1 l (xs.map V.str) ∨ SqT K H1 l (xs.map V.str)) ∧ xs.length ≤ 1000 ∧ Q (.int (unl xs.reverse)) H1
theorem pe_lenN {ta : TE} {p p2 q : Pos} (hc : X.calm = true) (hm : X.mg "len" = none) (hm2 : X.mg "set" = none) (ha : PE X a ta) (hg : Gl X "len" := by rfl) (hg2 : Gl X "set" := by rfl)
    (na : starEach [a] X.env = (false, eval a X.env) :: starEach [] X.env := by rfl) : PE X (.Call (.Name "len" p) [.Call (.Name "set" p2) [a] [] q] [] pos) (tLenN X.K ta) := by
  constructor
  intro pins s σ H Q I h
  refine Call_ (ld_blt I hg hm boot_len (callWith_builtin1 (args_cons ?_ rfl) rfl rfl))
  refine Call_ (ld_blt I hg2 hm2 boot_set (callWith_type1 (args_cons (thn (ha.run pins s σ H _ I h) fun v s1 ⟨x, H1, I1, r1, q1⟩ => args_nil ?_) na) na rfl))
  obtain ⟨l, xs, rfl, hq, few, q1⟩ := q1
  cases r1
  have b : 1001 < scanBound := by decide
  have fin : ∀ (h' : Heap) (tk : Nat), SetN X.prog X.w h' s1.heap.objs.size xs.reverse → (∀ b o, s1.heap.get? b = some o → h'.get? b = some o) →
      wpAny (model X.prog X.w) X.A (spliced (backTo pos (starEach [] X.env))) (fun vs s2 => wpAny (model X.prog X.w) X.A (call (.builtin "len") (Value.ref s1.heap.objs.size :: vs)) (EP X pins σ Q) X.xe s2) X.xe { s1 with heap := h', toks := tk } := fun h' tk hS hk => by
    refine args_nil ?_
    have lu := unl_le xs.reverse
    rw [List.length_reverse] at lu
    obtain ⟨o, es, ep, t, ho, hex, hd, _, _, _, hf, hn⟩ := hS
    have I2 : L2.Inv X pins σ H1 { s1 with heap := h', toks := tk } := I1.kept fun b o e => hk b o e
    exact call_len_set ho hex hd hf (by rw [hn] <;> omega) ⟨.int (unl xs.reverse), H1, I2.tok _, ⟨_, by rw [hn]⟩, q1⟩
  rcases hq with hq | hq
  · obtain ⟨its, r, pl, hz⟩ := I1.list hq
    exact set_listN xs (I1.ok.hd hc) pl.isList (by simpa using strsAre_of r) (by omega) fun h' tk hS hk => fin h' tk hS hk
  · obtain ⟨its, r, pl, hz⟩ := I1.tuple hq
    exact set_tupN xs (I1.ok.hd hc) pl (by simpa using strsAre_of r) (by omega) fun h' tk hS hk => fin h' tk hS hk
def aLenSet (t : ATE) : ATE := fun δ s Q => t δ s fun x s1 => ∃ xs : List Str, sqV s1 x = some (xs.map T.str) ∧ xs.length ≤ 1000 ∧ Q (.d (.int (unl xs.reverse))) s1
theorem ae_lenSet {p p2 q : Pos} (hm : X.mg "len" = none) (hm2 : X.mg "set" = none) (ha : AE X M a va) (hc : X.calm = true := by rfl) (hg : Gl X "len" := by rfl) (hg2 : Gl X "set" := by rfl)
    (na : starEach [a] X.env = (false, eval a X.env) :: starEach [] X.env := by rfl) : AE X M (.Call (.Name "len" p) [.Call (.Name "set" p2) [a] [] q] [] pos) (aLenSet va) :=
  .of (pe_lenN hc hm hm2 ha.pe hg hg2 na) fun H B φ σ δ s Q re sl q Q' f => uE_lift (t := va) H B φ σ δ s _ re sl q _ fun H1 B1 φ1 s1 v x g1 re1 r1 ⟨xs, h1, h2, q1⟩ => by
    obtain ⟨p, vs, rfl, e1, f1⟩ := sq_of re1 r1 h1
    cases FzAll.of_strs f1
    exact ⟨p, xs, rfl, e1, h2, (f.grow g1).int re1 q1⟩
end
end Lv

/-! Lb5: defs of classes by their bodies; lists of places; divmod. -/
namespace Lv
open PySem L2 LvI
/-- a method as written -/
structure DfM (K : Fr) (C : Addr) (m qual : Str) (st : Stmt) (ps : List Str) : Prop where
  ex : ∃ f fd, Fun K m qual st f fd ∧ Meth K C m f ∧ BindA fd ps
  c : Cls K C
/-- a class's __init__ as written -/
structure DfI (K : Fr) (mg : Str → Option Value) (C : Addr) (x qual : Str) (st : Stmt) (ps : List Str) : Prop where
  ex : ∃ f fd, Fun K "__init__" qual st f fd ∧ Mk K C f ∧ BindA fd ps
  m : mg x = some (.ref C)
section
variable {P : Program} {w : World} {K : Fr} {mg : Str → Option Value} {base : Heap} {C : Addr}
theorem DfM.cal {m qual : Str} {st : Stmt} {ps : List Str} {k : Nat} {sp : ASp} (D : DfM K C m qual st ps) {N : List Str} (S : FnScope N ps (defScope st)) (len : ∀ vs s Q, sp vs s Q → vs.length = ps.length)
    (hbody : ∀ (f : Addr) (cdv : Value) (A : Around) (outer : List Env) (s : Shared) (H : Hp) (E : XK), RoomG k (A.deeper (PyProof.Rows.envOfC qual (defScope st) s.heap.objs.size f cdv)) →
      ∃ t, APs (cxOf (L2.CX P w) P w K mg base N qual (defScope st) f cdv A outer s H E).nox M0 (defBody st) t ∧ ∀ (svs : List SV) (s0 : ST) (Q : SV → ST → Prop), sp svs s0 Q → pBody t { nx := fun _ s' => Q (.d .non) s', rt := Q } (slots N svs) s0) : CalM P w K mg base (k + 1) C m ps sp := by
  obtain ⟨f, fd, F, h1, h3⟩ := D.ex
  exact ⟨⟨f, fd, fn_body F S len hbody, h1, h3⟩, D.c⟩
theorem DfM.calK {m qual : Str} {st : Stmt} {ps : List Str} {k : Nat} {sp : ASp} (D : DfM K C m qual st ps) {N : List Str} (S : FnScope N ps (defScope st)) (len : ∀ vs s Q, sp vs s Q → vs.length = ps.length)
    (hbody : ∀ (f : Addr) (cdv : Value) (A : Around) (outer : List Env) (s : Shared) (H : Hp) (E : XK), RoomG k (A.deeper (PyProof.Rows.envOfC qual (defScope st) s.heap.objs.size f cdv)) →
      ∃ t, APs (cxOf (L2.CX P w) P w K mg base N qual (defScope st) f cdv A outer s H E).nox M0 (defBody st) t ∧ ∀ (svs : List SV) (s0 : ST) (Q : SV → ST → Prop), sp svs s0 Q → pBodyK t { nx := fun _ s' => Q (.d .non) s', rt := Q } (slots N svs) s0) : CalM P w K mg base (k + 1) C m ps sp := by
  obtain ⟨f, fd, F, h1, h3⟩ := D.ex
  exact ⟨⟨f, fd, fn_lv F S len fun cdv A outer s H E hr svs s0 Q h => (by
    obtain ⟨t, p, q⟩ := hbody f cdv A outer s H E hr
    exact ⟨_, ap_bodyK p, q svs s0 Q h⟩), h1, h3⟩, D.c⟩
theorem DfI.calK {x qual : Str} {st : Stmt} {ps : List Str} {k : Nat} {sp : ASp} (D : DfI K mg C x qual st ps) {N : List Str} (S : FnScope N ps (defScope st)) (len : ∀ vs s Q, sp vs s Q → vs.length = ps.length)
    (hbody : ∀ (f : Addr) (cdv : Value) (A : Around) (outer : List Env) (s : Shared) (H : Hp) (E : XK), RoomG k (A.deeper (PyProof.Rows.envOfC qual (defScope st) s.heap.objs.size f cdv)) →
      ∃ t, APs (cxOf (L2.CX P w) P w K mg base N qual (defScope st) f cdv A outer s H E).nox M0 (defBody st) t ∧ ∀ (svs : List SV) (s0 : ST) (Q : SV → ST → Prop), sp svs s0 Q → pBodyK t { nx := fun _ s' => Q (.d .non) s', rt := Q } (slots N svs) s0) : CalI P w K mg base (k + 1) C x ps sp := by
  obtain ⟨f, fd, F, h1, h3⟩ := D.ex
  exact ⟨⟨f, fd, fn_lv F S len fun cdv A outer s H E hr svs s0 Q h => (by
    obtain ⟨t, p, q⟩ := hbody f cdv A outer s H E hr
    exact ⟨_, ap_bodyK p, q svs s0 Q h⟩), h1, h3⟩, D.m⟩
end
/-! what the top has written of classes -/
structure WrM (K : Fr) (C : Addr) (m qual : Str) (st : Stmt) : Prop where
  ex : ∃ (f : Addr) (od an : Option Addr) (oc kV dc pm cd ct : Value) (sl : Array (Option Value)), PySem.W.findIn K (.ref C) m = some (some (.ref f)) ∧ PySem.W.isFn K (.ref f) = true ∧ PySem.W.keepIn K (.ref f) = true ∧
    K.lookup f = some ⟨oc, od, .func (PySem.W.fnOf m qual (defArgs st) (defBody st) (defScope st) .none kV dc pm an cd ct), sl⟩ ∧ PySem.W.codeIn K cd qual = true
theorem WrM.of {K : Fr} {C : Addr} {m qual : Str} {st : Stmt} {f : Addr} {od an : Option Addr} {oc kV dc pm cd ct : Value} {sl : Array (Option Value)} (h1 : PySem.W.findIn K (.ref C) m = some (some (.ref f))) (h2 : PySem.W.isFn K (.ref f) = true) (h3 : PySem.W.keepIn K (.ref f) = true)
    (h4 : K.lookup f = some ⟨oc, od, .func (PySem.W.fnOf m qual (defArgs st) (defBody st) (defScope st) .none kV dc pm an cd ct), sl⟩) (h5 : PySem.W.codeIn K cd qual = true) : WrM K C m qual st := ⟨f, od, an, oc, kV, dc, pm, cd, ct, sl, h1, h2, h3, h4, h5⟩
theorem WrM.dfi {K : Fr} {mg : Str → Option Value} {C : Addr} {x qual : Str} {st : Stmt} {ps : List Str} (W : WrM K C "__init__" qual st) (hm : mg x = some (.ref C)) (mk : PySem.W.makesIn K C = true) (kp : PySem.W.keepIn K (.ref C) = true)
    (hb : ∀ (kV doc pm : Value) (an : Option Addr) (cdv ct : Value) (us : List Value), us.length = ps.length → bindArgs (PySem.W.fnOf "__init__" qual (defArgs st) (defBody st) (defScope st) .none kV doc pm an cdv ct) ⟨us, []⟩ = pure (ps.zip us)) : DfI K mg C x qual st ps := by
  obtain ⟨f, od, an, oc, kV, dc, pm, cd, ct, sl, h1, h2, h3, h4, h5⟩ := W.ex
  exact ⟨⟨f, _, fun_mk (st := st) h4 h5 h3, ⟨mk, h1, h2, kp⟩, fun us hl => hb _ _ _ _ _ _ us hl⟩, hm⟩
theorem Cls.of {K : Fr} {C : Addr} (h1 : PySem.W.plainGet K C Str.empty = true) (h2 : PySem.W.hasDictIn K C = true) (h3 : PySem.W.plainOver K C = true) (h4 : PySem.W.findIn K (.ref C) "__setattr__" = some (some (.builtin "object.__setattr__"))) : Cls K C := ⟨h1, h2, h3, h4⟩
/-! lists of places -/
section
variable {X : Cx} {M : MP} {e : Expr} {es : List Expr} {pos p : Pos} {va : ATE}
def aLstS (t : ATA) : ATE := fun δ s Q => t δ s fun xs s1 => xs.length ≤ sizeLine ∧ Q (.l s1.length) (s1 ++ [.ll xs])
theorem ae_lstS {t : ATA} (h : AA X M es t) : AE X M (.List es pos) (aLstS t) := .of (pe_lst h.pa) fun H B φ σ δ s Q re sl q Q' f => uA_lift (t := t) H B φ σ δ s _ re sl q _ fun H1 B1 φ1 s1 vs xs g1 re1 r1 ⟨q1, q2⟩ => by
  refine ⟨by rw [r1.length]; exact q1, fun p hp => ?_⟩
  obtain ⟨g2, re2⟩ := re1.newL (.lst vs) (.ll xs) hp ⟨vs, r1, rfl⟩
  exact f _ _ _ _ _ _ (g1.trans g2) re2 (.loc (re1.top _)) q2
/-- divmod of whole numbers -/
def dmG : ARC := fun xs s Q => match xs with
  | [.d (.int i), .d (.int j)] => CDiv i j ∧ Q (.d (.tup [.int (i / j), .int (i % j)])) s
  | _ => False
theorem lr_dm {K : Fr} : LiftC K M (fun xs H Q => ∃ i j, xs = [.int i, .int j] ∧ CDiv i j ∧ ∀ p, H p = none → Q (.ref p) (upd H p (.tup [.int (i / j), .int (i % j)]))) dmG := by
  intro H B φ s x sx Q re rx h Q' f
  unfold dmG at h
  split at h
  · cases rx with
    | cons r1 r2 =>
      cases r2 with
      | cons r3 r4 =>
        cases r4
        cases int_of r1; cases int_of r3
        exact ⟨_, _, rfl, h.1, f.newT re (.cons (.int _) (.cons (.int _) .nil)) h.2⟩
  · exact h.elim
theorem ae_divmod {e2 : Expr} {t : ATA} (hm : X.mg "divmod" = none) (ha : AA X M (e :: [e2]) t) (hg : Gl X "divmod" := by rfl) (he : starEach (e :: [e2]) X.env = (false, eval e X.env) :: starEach [e2] X.env := by rfl) (hpl : (backTo pos (starEach [e2] X.env)).any (·.1) = false := by rfl) :
    AE X M (.Call (.Name "divmod" p) (e :: [e2]) [] pos) (aCall dmG t) := ae_callB call_divmod lr_dm hg hm (by decide +kernel) ha (he := he) (hpl := hpl)
end
end Lv

/-! Lb6: isinstance of own classes. -/
namespace Lv
open PySem L2 LvI
/-- x is an instance of the class at C -/
def isA (C : Addr) (x : SV) (s : ST) : Prop := match x with
  | .d (.obj D ns ts) => D = C
  | .l n => (match s[n]? with
    | some (.ins D _ fs) => D = C
    | some (.box (.ins D _ fs :: _)) => D = C
    | _ => False)
  | _ => False
section
variable {K : Fr} {M : MP} {H B : Hp} {φ : Fi} {s : ST}
end
/-- what isinstance asks of an own class -/
structure IsC (K : Fr) (mg : Str → Option Value) (x : Str) (C : Addr) : Prop where
  m : mg x = some (.ref C)
  c : C8.InsC K C
theorem kit_me {K : Fr} {C : Addr} : PySem.W.kitOne K (.ref C) (.ref C) = some true := by
  unfold PySem.W.kitOne
  rw [if_pos (beq_self_eq_true _)]
theorem IsC.of {K : Fr} {mg : Str → Option Value} {x : Str} {C : Addr} (m : mg x = some (.ref C)) (c : Cls K C) (h1 : PySem.W.findIn K (.ref C) "__class__" = some (some (.builtin "object.__class__")))
    (h2 : PySem.W.specialIn K (.builtin "object.__class__") "__get__" = some (some (.builtin "getset_descriptor.__get__"))) (h3 : PySem.W.takesIn K (.builtin "object.__class__") = some true) (h4 : PySem.W.mroIn K C (.type "object") = some true) : IsC K mg x C := ⟨m, c, h1, h2, h3, h4, kit_me⟩
def isCG (C : Addr) : ARC := fun xs s Q => match xs with
  | [y, .d (.ref D)] => D = C ∧ isA C y s ∧ Q (.d (.bl true)) s
  | _ => False
section
variable {X : Cx} {M : MP} {e e2 : Expr} {pos p : Pos} {x : Str} {C : Addr}
end
end Lv

/-! Lu2: split by one sign. -/
namespace Lv
open PySem L2 LvI
end Lv

/-! Lb7: loops over one's own lists and tuples that hold places. -/
namespace Lv
open PySem L2 LvI
section
variable {K : Fr} {M : MP} {H B : Hp} {φ : Fi} {s : ST}
end
def pForS (te : ATE) (g : ATG) (tb : ATS) : ATS := fun A δ s => te δ s fun x s1 => ∃ n xs o, x = .l n ∧ s1[n]? = some o ∧ (o = .ll xs ∨ o = .tp xs) ∧ ∃ Pv : Nat → AS → ST → Prop, Pv 0 δ s1 ∧ (∀ i δ' s', Pv i δ' s' → s'[n]? = some o) ∧
  (∀ i y δ' s', xs[i]? = some y → Pv i δ' s' → g y δ' s' fun δ2 s2 => tb { A with nx := Pv (i + 1), ct := Pv (i + 1), bk := A.nx } δ2 s2) ∧ (∀ δ' s', Pv xs.length δ' s' → A.nx δ' s')
section
variable {X : Cx} {M : MP} {tg iter : Expr} {body : List Stmt} {pos : Pos} {te : ATE} {g : ATG} {t : ATS} {vs : List Nat}
end
def forSK (te : ATE) (g : ATG) (tb : ATS) (A : AEnds) (_ : Lk (te, g, tb, A)) (δ : AS) (s : ST) : Prop := pForS te g tb A δ s
theorem pForS_eq (te : ATE) (g : ATG) (tb : ATS) (A : AEnds) (δ : AS) (s : ST) : pForS te g tb A δ s = forSK te g tb A .mk δ s := rfl
end Lv

/-! Le1: errors: what leaves a def, raise, classes of errors. -/
namespace Lv
open PySem PySem.Spec PyProof.Rows L2 LvI
/-- an error that leaves a def: its class, what it tells, the store then; in the air of a def: the slots too -/
abbrev EF := Addr → T → ST → Prop
abbrev EA := Addr → T → AS → ST → Prop
theorem Re.m0 {K : Fr} {M : MP} {H B : Hp} {φ : Fi} {s : ST} (re : Re K M H B φ s) : Re K M0 H B φ s := ⟨re.ex, re.nd, re.len, re.al, re.fr, re.ob, fun _ _ _ _ => trivial⟩
/-! ### defs that may let an error out -/
abbrev XSp := List SV → ST → (SV → ST → Prop) → EF → Prop
def toSpX (K : Fr) (sp : XSp) : Sp := fun vs H Q E => ∃ (B : Hp) (φ : Fi) (s : ST) (svs : List SV) (Qa : SV → ST → Prop) (Ea : EF), Re K M0 H B φ s ∧ RsAll K B φ vs svs ∧ sp svs s Qa Ea ∧
  (∀ H' B' φ' s' v x, Gr H B φ H' B' φ' → Re K M0 H' B' φ' s' → Rs K B' φ' v x → Qa x s' → Q v H') ∧
  (∀ H' B' φ' s' C dd v t, Gr H B φ H' B' φ' → Re K M0 H' B' φ' s' → B' dd = some (.xd [("what", v)]) → Fz K B' v t → Ea C t s' → E (.ref C) (some dd) H')
/-- nothing is let out -/
abbrev XSp.no (sp : XSp) : ASp := fun vs s Q => sp vs s Q fun _ _ _ => False
theorem toSpX_no {K : Fr} {sp : XSp} : ∀ vs H Q E, toSp K sp.no vs H Q E → toSpX K sp vs H Q E := fun vs H Q E ⟨B, φ, s, svs, Qa, re, r, h, f⟩ => ⟨B, φ, s, svs, Qa, _, re, r, h, f, fun _ _ _ _ _ _ _ _ _ _ _ _ z => z.elim⟩
/-- what an error leaves behind: all that is new is dropped -/
def eaF (k : Nat) (ER : EF) : EA := fun C t _ s => (s.take k).all (clO k) = true ∧ ER C t (s.take k)
section
variable {P : Program} {w : World} {K : Fr} {mg : Str → Option Value} {base : Heap}
structure CalX (P : Program) (w : World) (K : Fr) (mg : Str → Option Value) (base : Heap) (k : Nat) (x : Str) (ps : List Str) (sp : XSp) : Prop where
  ex : ∃ f fd, FnG P w K mg base k f fd ps (toSpX K sp) ∧ mg x = some (.ref f) ∧ PySem.W.keepIn K (.ref f) = true ∧ BindA fd ps
structure CalMX (P : Program) (w : World) (K : Fr) (mg : Str → Option Value) (base : Heap) (k : Nat) (C : Addr) (m : Str) (ps : List Str) (sp : XSp) : Prop where
  ex : ∃ f fd, FnG P w K mg base k f fd ps (toSpX K sp) ∧ Meth K C m f ∧ BindA fd ps
  c : Cls K C
structure CalIX (P : Program) (w : World) (K : Fr) (mg : Str → Option Value) (base : Heap) (k : Nat) (C : Addr) (x : Str) (ps : List Str) (sp : XSp) : Prop where
  ex : ∃ f fd, FnG P w K mg base k f fd ps (toSpX K sp) ∧ Mk K C f ∧ BindA fd ps
  m : mg x = some (.ref C)
variable {k : Nat} {x m : Str} {ps : List Str} {sp : XSp} {C : Addr}
theorem CalX.no (h : CalX P w K mg base k x ps sp) : Cal P w K mg base k x ps sp.no := by
  obtain ⟨f, fd, F, h1, h2, h3⟩ := h.ex
  exact ⟨⟨f, fd, F.imp toSpX_no, h1, h2, h3⟩⟩
theorem CalMX.no (h : CalMX P w K mg base k C m ps sp) : CalM P w K mg base k C m ps sp.no := by
  obtain ⟨f, fd, F, h1, h2⟩ := h.ex
  exact ⟨⟨f, fd, F.imp toSpX_no, h1, h2⟩, h.c⟩
theorem CalIX.no (h : CalIX P w K mg base k C x ps sp) : CalI P w K mg base k C x ps sp.no := by
  obtain ⟨f, fd, F, h1, h2⟩ := h.ex
  exact ⟨⟨f, fd, F.imp toSpX_no, h1, h2⟩, h.m⟩
end
section
variable {P : Program} {w : World} {K : Fr} {mg : Str → Option Value} {base : Heap} {k : Nat} {x m qual : Str} {N ps : List Str} {sp : XSp} {C : Addr} {st : Stmt}
end
/-! ### classes of errors -/
/-- what the written part says of a class of errors -/
structure ErrB (K : Fr) (mg : Str → Option Value) (x : Str) (D : Addr) : Prop where
  m : mg x = some (.ref D)
  cl : ∃ cd, PySem.W.clsIn K D = some cd ∧ cd.name = x ∧ cd.hasDict = true
  ty : PySem.W.typeIn K (.ref D) = some (.type "type")
  sb : PySem.W.subIn K (.ref D) (.type "BaseException") = some true
/-- its instances may be raised, caught, looked at: it stands straight under the one at N -/
structure ErrC (K : Fr) (N C : Addr) : Prop where
  xc : ExcC K C
  mro : ∃ cd, PySem.W.clsIn K C = some cd ∧ cd.mro = .ref C :: .ref N :: PySem.HandSPX.veTail
  wh : PySem.W.findIn K (.ref C) "what" = some none
section
variable {X : Cx} {x : Str} {N C : Addr} {e : Expr} {es : List Expr} {ta : TA} {p p1 p2 pos : Pos}
end
section
variable {P : Program} {w : World} {K : Fr} {mg : Str → Option Value} {base : Heap} {k : Nat} {x qual m : Str} {C N : Addr} {st : Stmt}
end
section
variable {X : Cx} {M : MP} {ER : EA} {x : Str} {N C : Addr} {e : Expr} {es : List Expr} {ta : TA} {p pos pos' : Pos} {k : Nat} {va : ATE}
/-- raise C(e): what is told must be data -/
def pRaise (C : Addr) (ER : EA) (t : ATE) : ATS := fun _ δ s => t δ s fun y s1 => ∃ u, y = .d u ∧ ER C u δ s1
end
end Lv

/-! Le2: calls that may let an error out; errors as data: made, caught, looked at. -/
namespace Lv
open PySem PySem.Spec PyProof.Rows L2 LvI
/-! ### calls -/
def FinX (K : Fr) (M : MP) (H B : Hp) (φ : Fi) (R : EF) (E : XK) : Prop := ∀ H' B' φ' s' C dd v t, Gr H B φ H' B' φ' → Re K M H' B' φ' s' → B' dd = some (.xd [("what", v)]) → Fz K B' v t → R C t s' → E (.ref C) (some dd) H'
theorem FinX.grow {K : Fr} {M : MP} {H B H' B' : Hp} {φ φ' : Fi} {R : EF} {E : XK} (f : FinX K M H B φ R E) (g : Gr H B φ H' B' φ') : FinX K M H' B' φ' R E := fun _ _ _ _ _ _ _ _ g2 re hd fz r => f _ _ _ _ _ _ _ _ (g.trans g2) re hd fz r
/-- a call to which a chosen part of the store is handed -/
def callCX (sp : XSp) (Q : SV → ST → Prop) (R : EF) (_ : Lk (Q, R)) (xs : List SV) (s : ST) : Prop := ∃ ns : List Nat, clsd ns xs s = true ∧
  sp (xs.map (mvS 0 ns)) (ns.map fun n => mvO 0 ns (kpO s n)) (fun r s2 => Q (ren ns s.length r) (putAll s ns (s2.map (renO ns s.length)) ++ (s2.drop ns.length).map (renO ns s.length)))
    (fun C t s2 => R C t (putAll s ns (s2.map (renO ns s.length)) ++ (s2.drop ns.length).map (renO ns s.length)))
def aMetX (C : Addr) (m : Str) (cl : (SV → ST → Prop) → EF → List SV → ST → Prop) (ER : EA) (to : ATE) (ta : ATA) : ATE := fun δ s Q => to δ s fun x s1 => isIn C m x s1 ∧ ta δ s1 fun xs s2 => cl Q (fun C t s3 => ER C t δ s3) (x :: xs) s2
def aClX (cl : (SV → ST → Prop) → EF → List SV → ST → Prop) (ER : EA) (ta : ATA) : ATE := fun δ s Q => ta δ s fun xs s2 => cl Q (fun C t s3 => ER C t δ s3) xs s2
section
variable {X : Cx} {M : MP} {ER : EA} {e o : Expr} {es : List Expr} {p pos apos : Pos} {x m : Str} {k : Nat} {ps : List Str} {sp : XSp} {C : Addr} {cl : (SV → ST → Prop) → EF → List SV → ST → Prop} {to : ATE} {ta : ATA}
/-- C(..): its __init__ may let an error out -/
def aMkX (C : Addr) (sp : XSp) (ER : EA) (ta : ATA) : ATE := fun δ s Q => ta δ s fun xs s1 => callCX sp (fun r s2 => r = .d .non ∧ Q (.l s1.length) s2) (fun C t s3 => ER C t δ s3) .mk (.l s1.length :: xs) (s1 ++ [.ins C (s1.length + 1) [], .own s1.length])
end
/-! ### errors as data -/
section
variable {X : Cx} {pins : List (Addr × Obj)} {σ : L2.St} {H : Hp} {sI s' : Shared} {B : Heap}
end
section
variable {X : Cx} {M : MP} {x : Str} {N C : Addr} {e : Expr} {p pos : Pos} {k : Nat} {va : ATE} {ta : TA}
def aMkE (C : Addr) (t : ATE) : ATE := fun δ s Q => t δ s fun y s1 => ∃ u, y = .d u ∧ Q (.d (.exc C u)) s1
end
/-- x.what of an error -/
def whatG (K : Fr) (N : Addr) : AR1 := fun x s Q => match x with
  | .d (.exc C t) => ErrC K N C ∧ Q (.d t) s
  | _ => False
section
variable {X : Cx} {M : MP} {e : Expr} {te : TE} {N : Addr} {pos : Pos} {va : ATE}
end
/-! ### isinstance of errors -/
/-- the class's name, of no other one -/
def nmE (K : Fr) (C : Addr) : Str := (PySem.W.clsIn K C).elim Str.empty ClassData.name
/-- the error's class, looked at for the class at D; the builtin ValueError -/
def isE (K : Fr) (N C : Addr) : T → Option Bool
  | .ref D => some (decide (D = C ∨ D = N))
  | .ty n => if n = "ValueError" then some true else none
  | _ => none
/-- what the asked classes must be -/
def ClsE (K : Fr) : T → Prop
  | .ref D => (PySem.W.clsIn K D).isSome = true ∧ PySem.W.typeIn K (.ref D) = some (.type "type")
  | .ty _ => True
  | _ => False
theorem ErrB.clsE {K : Fr} {mg : Str → Option Value} {x : Str} {D : Addr} (h : ErrB K mg x D) : ClsE K (.ref D) := by
  obtain ⟨cd, h1, _⟩ := h.cl
  exact ⟨by rw [h1]; rfl, h.ty⟩
def anyE (K : Fr) (N C : Addr) : List T → Option Bool
  | [] => some false
  | c :: r => match isE K N C c, anyE K N C r with
    | some a, some b => some (a || b)
    | _, _ => none
def isXG (K : Fr) (N : Addr) : ARC := fun xs s Q => match xs with
  | [.d (.exc C _), .d (.tup cs)] => ErrC K N C ∧ (∀ c ∈ cs, ClsE K c) ∧ ∃ b, anyE K N C cs = some b ∧ Q (.d (.bl b)) s
  | [.d (.exc C _), .d c] => ErrC K N C ∧ ClsE K c ∧ ∃ b, isE K N C c = some b ∧ Q (.d (.bl b)) s
  | _ => False
section
variable {X : Cx} {M : MP} {e e2 : Expr} {pos p : Pos} {x : Str} {N D : Addr}
end
end Lv

/-! Le3: try .. except X as e: suite, the error kept as data. -/
namespace Lv
open PySem PySem.Spec PyProof.Rows L2 LvI
section
variable {X : Cx} {pins : List (Addr × Obj)} {σ : L2.St} {H : Hp} {s : Shared}
end
section
variable {X : Cx} {x n : Str} {c : Value} {i : Nat} {body suite : List Stmt} {b₀ : Stmt} {np pos pos' : Pos} {tb : WX → TS} {ts : Addr → TS} {Wout : WX}
end
/-! ### over places and store -/
def endA (i : Nat) (A : AEnds) : AEnds := { nx := fun δ' s' => A.nx (δ'.set i none) s', rt := A.rt, bk := fun δ' s' => A.bk (δ'.set i none) s', ct := fun δ' s' => A.ct (δ'.set i none) s' }
/-- what the clause makes of an error in the body -/
def erT (K : Fr) (N D : Addr) (i k : Nat) (u : ATS) (ERo : EA) (A : AEnds) (_ : Lk (u, ERo, A)) : EA := fun C t δ s => (s.take k).all (clO k) = true ∧ ErrC K N C ∧
  ((D = C ∨ D = N) → u (endA i A) ((δ.map (lowS k)).set i (some (.d (.exc C t)))) (s.take k)) ∧ (¬(D = C ∨ D = N) → ERo C t (δ.map (lowS k)) (s.take k))
def pTry (K : Fr) (N D : Addr) (i : Nat) (b : EA → ATS) (u : ATS) (ERo : EA) : ATS := fun A δ s => b (erT K N D i s.length u ERo A .mk) A δ s
section
variable {X : Cx} {M : MP} {x n : Str} {N D : Addr} {i : Nat} {body suite : List Stmt} {b₀ : Stmt} {np pos pos' : Pos} {b : EA → ATS} {u : ATS} {ERo : EA}
end
theorem erT_eq {K : Fr} {N D : Addr} {i k : Nat} {u : ATS} {ERo : EA} {A : AEnds} {l : Lk (u, ERo, A)} {C : Addr} {t : T} {δ : AS} {s : ST} : erT K N D i k u ERo A l C t δ s = ((s.take k).all (clO k) = true ∧ ErrC K N C ∧
  ((D = C ∨ D = N) → u (endA i A) ((δ.map (lowS k)).set i (some (.d (.exc C t)))) (s.take k)) ∧ (¬(D = C ∨ D = N) → ERo C t (δ.map (lowS k)) (s.take k))) := rfl
/-! what the written part has of classes of errors -/
structure ErrW (K : Fr) (x qual : Str) (N C : Addr) (st : Stmt) : Prop where
  ns : PySem.W.nsIn K mainGlobals x = some (some (.ref C))
  ob : ∃ q Ns bs sn sub ab col dd k0 k1 k2 k3 k5, K.lookup C = some (excClassObj x q C Ns bs (.ref N :: PySem.HandSPX.veTail) true sn sub ab col dd k0 k1 k2 k3 k5 "ValueError.__new__")
  sa : PySem.W.findIn K (.ref C) "__setattr__" = some (some (.builtin "object.__setattr__"))
  sb : PySem.W.subIn K (.ref C) (.type "BaseException") = some true
  ty : PySem.W.typeIn K (.ref C) = some (.type "type")
  kp : PySem.W.keepIn K (.ref C) = true
  ga : PySem.W.findIn K (.ref C) "__getattribute__" = some (some (.builtin "BaseException.__getattribute__"))
  gg : PySem.W.findIn K (.ref C) "__getattr__" = some none
  ca : PySem.W.findIn K (.ref C) "__class__" = some (some (.builtin "object.__class__"))
  cn : PySem.W.specialIn K (.builtin "object.__class__") "__get__" = some (some (.builtin "getset_descriptor.__get__"))
  ct : PySem.W.takesIn K (.builtin "object.__class__") = some true
  mo : PySem.W.mroIn K C (.type "object") = some true
  wh : PySem.W.findIn K (.ref C) "what" = some none
  fn : ∃ (f : Addr) (od an : Option Addr) (oc kV dc pm cd ct : Value) (sl : Array (Option Value)), PySem.W.findIn K (.ref C) "__init__" = some (some (.ref f)) ∧ PySem.W.typeIn K (.ref f) = some (.type "function") ∧
    K.lookup f = some ⟨oc, od, .func (PySem.W.fnOf "__init__" qual (defArgs st) (defBody st) (defScope st) .none kV dc pm an cd ct), sl⟩ ∧ PySem.W.codeIn K cd qual = true
theorem ErrW.of {K : Fr} {x qual : Str} {N C : Addr} {st : Stmt} {q : Str} {Ns : Addr} {bs : List Value} {sn : List Str} {sub : List Value} {ab : Bool} {col : Option Bool} {dd : Option Addr} {k0 k1 k2 k3 k5 : Option Value}
    {f : Addr} {od an : Option Addr} {oc kV dc pm cd ct : Value} {sl : Array (Option Value)} (a1 : PySem.W.nsIn K mainGlobals x = some (some (.ref C)))
    (a2 : K.lookup C = some (excClassObj x q C Ns bs (.ref N :: PySem.HandSPX.veTail) true sn sub ab col dd k0 k1 k2 k3 k5 "ValueError.__new__")) (a3 : PySem.W.findIn K (.ref C) "__setattr__" = some (some (.builtin "object.__setattr__"))) (a4 : PySem.W.subIn K (.ref C) (.type "BaseException") = some true)
    (a5 : PySem.W.typeIn K (.ref C) = some (.type "type")) (a6 : PySem.W.keepIn K (.ref C) = true) (a7 : PySem.W.findIn K (.ref C) "__getattribute__" = some (some (.builtin "BaseException.__getattribute__"))) (a8 : PySem.W.findIn K (.ref C) "__getattr__" = some none)
    (a9 : PySem.W.findIn K (.ref C) "__class__" = some (some (.builtin "object.__class__"))) (b1 : PySem.W.specialIn K (.builtin "object.__class__") "__get__" = some (some (.builtin "getset_descriptor.__get__"))) (b2 : PySem.W.takesIn K (.builtin "object.__class__") = some true)
    (b3 : PySem.W.mroIn K C (.type "object") = some true) (b4 : PySem.W.findIn K (.ref C) "what" = some none) (b5 : PySem.W.findIn K (.ref C) "__init__" = some (some (.ref f))) (b6 : PySem.W.typeIn K (.ref f) = some (.type "function"))
    (b7 : K.lookup f = some ⟨oc, od, .func (PySem.W.fnOf "__init__" qual (defArgs st) (defBody st) (defScope st) .none kV dc pm an cd ct), sl⟩) (b8 : PySem.W.codeIn K cd qual = true) : ErrW K x qual N C st :=
  ⟨a1, ⟨_, _, _, _, _, _, _, _, _, _, _, _, _, a2⟩, a3, a4, a5, a6, a7, a8, a9, b1, b2, b3, b4, ⟨_, _, _, _, _, _, _, _, _, _, b5, b6, b7, b8⟩⟩
section
variable {P : Program} {w : World} {K : Fr} {mg : Str → Option Value} {base h : Heap} {x qual m : Str} {N C : Addr} {st : Stmt}
theorem ErrW.cls (W : ErrW K x qual N C st) : ∃ cd, PySem.W.clsIn K C = some cd ∧ cd.name = x ∧ cd.hasDict = true ∧ cd.mro = .ref C :: .ref N :: PySem.HandSPX.veTail := by
  obtain ⟨q, Ns, bs, sn, sub, ab, col, dd, k0, k1, k2, k3, k5, e⟩ := W.ob
  refine ⟨{ name := x, bases := bs, mro := .ref C :: .ref N :: PySem.HandSPX.veTail, ns := Ns, qualname := q, hasDict := true, slotNames := sn, subclasses := sub, abstract := ab, collection := col, hasDel := false }, ?_, rfl, rfl, rfl⟩
  unfold PySem.W.clsIn
  rw [e] <;> rfl
theorem ErrW.errB (W : ErrW K x qual N C st) (X : K.In h) (G : h.Ns mainGlobals mg) : ErrB K mg x C := by
  obtain ⟨cd, h1, h2, h3, _⟩ := W.cls
  exact ⟨PySem.W.mg_of X G W.ns, ⟨cd, h1, h2, h3⟩, W.ty, W.sb⟩
theorem ErrW.errC (W : ErrW K x qual N C st) : ErrC K N C := by
  obtain ⟨cd, h1, h2, h3, h4⟩ := W.cls
  exact ⟨⟨W.ga, W.gg, W.sb, by unfold PySem.W.hasDictIn; rw [h1]; exact h3, W.ca, W.cn, W.ct, W.mo⟩, ⟨cd, h1, h4⟩, W.wh⟩
theorem ErrW.nm (W : ErrW K x qual N C st) : nmE K C = x := by
  obtain ⟨cd, h1, h2, _⟩ := W.cls
  unfold nmE
  rw [h1]; exact h2
end
/-- the class over them -/
structure ErrN (K : Fr) (x : Str) (N : Addr) : Prop where
  ns : PySem.W.nsIn K mainGlobals x = some (some (.ref N))
  cl : ∃ cd, PySem.W.clsIn K N = some cd ∧ cd.name = x ∧ cd.hasDict = true
  ty : PySem.W.typeIn K (.ref N) = some (.type "type")
  sb : PySem.W.subIn K (.ref N) (.type "BaseException") = some true
  ga : PySem.W.specialIn K (.ref N) "__getattribute__" = some (some (.builtin "type.__getattribute__"))
  rd : PySem.W.readsIn K N (.type "type") = true
  at_ : PySem.W.findCls K (.ref N) (.type "type") "__init__" = some (.val (.builtin "ValueError.__init__"))
theorem ErrN.of {K : Fr} {x : Str} {N : Addr} {bs mro : List Value} {ns : Addr} {qn : Str} {sn : List Str} {sb : List Value} {ab : Bool} {col : Option Bool} {dl : Bool} (a1 : PySem.W.nsIn K mainGlobals x = some (some (.ref N))) (a2 : PySem.W.clsIn K N = some ⟨x, bs, mro, ns, qn, true, sn, sb, ab, col, dl⟩)
    (a3 : PySem.W.typeIn K (.ref N) = some (.type "type")) (a4 : PySem.W.subIn K (.ref N) (.type "BaseException") = some true) (a5 : PySem.W.specialIn K (.ref N) "__getattribute__" = some (some (.builtin "type.__getattribute__"))) (a6 : PySem.W.readsIn K N (.type "type") = true)
    (a7 : PySem.W.findCls K (.ref N) (.type "type") "__init__" = some (.val (.builtin "ValueError.__init__"))) : ErrN K x N := ⟨a1, ⟨_, a2, rfl, rfl⟩, a3, a4, a5, a6, a7⟩
section
variable {K : Fr} {mg : Str → Option Value} {h : Heap} {x : Str} {N : Addr}
theorem ErrN.errB (W : ErrN K x N) (X : K.In h) (G : h.Ns mainGlobals mg) : ErrB K mg x N := ⟨PySem.W.mg_of X G W.ns, W.cl, W.ty, W.sb⟩
theorem ErrN.nm (W : ErrN K x N) : nmE K N = x := by
  obtain ⟨cd, h1, h2, _⟩ := W.cl
  unfold nmE
  rw [h1]; exact h2
end
theorem clsE_ty {K : Fr} {n : String} : ClsE K (.ty n) = True := rfl
/-- unlike names, unlike classes -/
theorem nmE_ne {K : Fr} {C D : Addr} {x y : Str} (h1 : nmE K C = x) (h2 : nmE K D = y) (h : x ≠ y) : (C = D) = False := eq_false fun e => h (by rw [← h1, ← h2, e])
end Lv

/-! Le4: a name's list or dict is data from here on. -/
namespace Lv
open PySem PySem.Spec PyProof.Rows L2 LvI
/-- a thing that may become data as it is -/
def frzT : LO → Option T
  | .lst ts => some (.lst ts)
  | _ => none
theorem Re.frzO {K : Fr} {M : MP} {H B : Hp} {φ : Fi} {s : ST} (e : Re K M H B φ s) {n : Nat} {o : LO} {t : T} (h : s[n]? = some o) (ht : frzT o = some t) : ∃ p B', φ[n]? = some (one p) ∧ Fz K B' (.ref p) t ∧ Ex B B' ∧ Gr H B φ H B' φ ∧ Re K M H B' φ (s.set n .gone) := by
  have sm : o.smp = true := by cases o <;> first | rfl | cases ht
  have hn : n < s.length := (List.getElem?_eq_some_iff.mp h).1
  obtain ⟨c, hc⟩ : ∃ c, φ[n]? = some c := ⟨_, List.getElem?_eq_getElem (by rw [e.len]; exact hn)⟩
  obtain ⟨e1, ho⟩ := (e.ob n c o hc h).simp_ sm
  have hp : φ[n]? = some (one c.p) := by rw [← e1]; exact hc
  have hB : B c.p = none := e.fr1 hp h (by cases o <;> first | rfl | cases ht)
  obtain ⟨u, hu, fz⟩ : ∃ u, H c.p = some u ∧ ∀ B', Ex B B' → B' c.p = some u → Fz K B' (.ref c.p) t := by
    cases o with
    | lst ts => cases ht; obtain ⟨vs, h1, h2⟩ := ho; exact ⟨_, h2, fun B' eb h => .lst h (h1.mono eb)⟩
    | _ => cases ht
  have eb : Ex B (upd B c.p u) := fun a w q => by rw [upd_ne (ne_of_none q hB)]; exact q
  have g : Gr H B φ H (upd B c.p u) φ := ⟨eb, ⟨[], by simp⟩, fun a w q _ => q, fun a h1 h2 h3 => by rw [upd_ne (fun z => h3 (by rw [z]; exact adr_p hc))]; exact .inl h1, fun a z => .inl z⟩
  refine ⟨c.p, upd B c.p u, hp, fz _ eb upd_same, eb, g, ⟨fun a w q => ?_, e.nd, by rw [List.length_set]; exact e.len, e.al, fun m q o h1 h2 h3 a ha => ?_, fun m q o h1 h2 => ?_, fun H3 B3 φ3 g3 => e.pm _ _ _ (g.trans g3)⟩⟩
  · by_cases hne : a = c.p
    · subst hne; rw [upd_same] at q; rw [hu]; exact q
    · rw [upd_ne hne] at q; exact e.ex a w q
  · by_cases hm : n = m
    · subst hm
      rw [List.getElem?_set_self hn] at h2
      cases h2
      cases h3
    · rw [List.getElem?_set_ne hm] at h2
      have : a ≠ c.p := fun z => hm (adr_nd e.nd hp h1 (Ce.mem _) (z ▸ ha))
      rw [upd_ne this]
      exact e.fr m q o h1 h2 h3 a ha
  · by_cases hm : n = m
    · subst hm
      rw [List.getElem?_set_self hn] at h2
      cases h2
      exact .gone
    · rw [List.getElem?_set_ne hm] at h2
      exact (e.ob m q o h1 h2).mo ⟨eb, fun _ _ h => h⟩ fun _ _ => rfl
def frzD (n : Nat) (t : T) : Option SV → Option SV
  | some (.l m) => if m = n then some (.d t) else some (.l m)
  | x => x
/-- the name at i: its thing becomes data -/
def frzA (i : Nat) (Q : AS → ST → Prop) : AS → ST → Prop := fun δ s => match δ[i]? with
  | some (some (.l n)) => (match s[n]? with
    | some o => (match frzT o with
      | some t => Q (δ.map (frzD n t)) (s.set n .gone)
      | none => False)
    | none => False)
  | _ => False
theorem fin_frzA {K : Fr} {M : MP} {H B : Hp} {φ : Fi} {i : Nat} {Q : AS → ST → Prop} {Q' : L2.St → Hp → Prop} (f : FinG K M H B φ Q Q') : FinG K M H B φ (frzA i Q) Q' := fun H1 B1 φ1 s1 σ δ g1 re1 sl q => by
  unfold frzA at q
  split at q
  · rename_i n hn
    split at q
    · rename_i o ho
      split at q
      · rename_i t ht
        obtain ⟨p, B', hp, fz, eb, g, re2⟩ := re1.frzO ho ht
        refine f _ _ _ _ _ _ (g1.trans g) re2 ⟨by rw [List.length_map]; exact sl.len, fun j x e => ?_⟩ q
        rw [List.getElem?_map] at e
        cases hd : δ[j]? with
        | none => rw [hd] at e; cases e
        | some y =>
          rw [hd] at e
          have e : frzD n t y = some x := Option.some.inj e
          cases y with
          | none => cases e
          | some y =>
            obtain ⟨v, hv, r⟩ := sl.at_ j y hd
            cases y with
            | d u => cases e; exact ⟨v, hv, Fz.mono eb r⟩
            | l m =>
              have e : (if m = n then some (SV.d t) else some (.l m)) = some x := e
              by_cases hm : m = n
              · rw [if_pos hm] at e
                cases e
                subst hm
                obtain ⟨a, ha, rfl⟩ := r
                rw [Fi.r_of hp] at ha
                cases ha
                exact ⟨_, hv, fz⟩
              · rw [if_neg hm] at e
                cases e
                obtain ⟨a, ha, rfl⟩ := r
                exact ⟨_, hv, a, ha, rfl⟩
      · exact q.elim
    · exact q.elim
  · exact q.elim
section
variable {X : Cx} {M : MP} {st : Stmt} {t : ATS}
def pFrzV (i : Nat) (t : ATS) : ATS := fun A δ s => t { A with nx := frzA i A.nx } δ s
theorem ap_frzV (i : Nat) (h : AP X M st t) : AP X M st (pFrzV i t) := ⟨_, h.ps, fun H B φ σ δ s A re sl q D f => uS_lift (t := t) H B φ σ δ s _ re sl q _ ⟨fin_frzA f.nx, f.rt, f.bk, f.ct⟩⟩
end
end Lv

/-! Le5: joins: behind a statement what stands is told anew. -/
namespace Lv
open PySem PySem.Spec PyProof.Rows L2 LvI
section
variable {X : Cx} {M : MP} {st : Stmt} {t : ATS}
def cutK (t : ATS) (A : AEnds) (_ : Lk (t, A)) (δ : AS) (s : ST) : Prop := ∃ I : AS → ST → Prop, t { nx := I, rt := A.rt, bk := A.bk, ct := A.ct } δ s ∧ ∀ δ' s', I δ' s' → A.nx δ' s'
def pCutS (t : ATS) : ATS := fun A δ s => cutK t A .mk δ s
theorem ap_cutS (h : AP X M st t) : AP X M st (pCutS t) := ⟨_, h.ps, fun H B φ σ δ s A re sl ⟨I, q1, q2⟩ D f => uS_lift (t := t) H B φ σ δ s _ re sl q1 _ ⟨fun H' B' φ' s' σ' δ' g re' sl' q => f.nx _ _ _ _ _ _ g re' sl' (q2 _ _ q), f.rt, f.bk, f.ct⟩⟩
theorem cutS_of {A : AEnds} {l : Lk (t, A)} {δ : AS} {s : ST} {Z : Type} (inv : Z → Prop) (dl : Z → AS) (so : Z → ST)
    (h1 : ∀ C : AS → ST → Prop, (∀ z, inv z → C (dl z) (so z)) → ∀ R : SV → ST → Prop, (∀ x s, A.rt x s → R x s) → ∀ B : AS → ST → Prop, (∀ δ s, A.bk δ s → B δ s) → ∀ K : AS → ST → Prop, (∀ δ s, A.ct δ s → K δ s) → t { nx := C, rt := R, bk := B, ct := K } δ s)
    (h2 : ∀ z, inv z → A.nx (dl z) (so z)) : cutK t A l δ s :=
  ⟨fun δ' s' => ∃ z, inv z ∧ δ' = dl z ∧ s' = so z, h1 _ (fun z h => ⟨z, h, rfl, rfl⟩) _ (fun _ _ h => h) _ (fun _ _ h => h) _ (fun _ _ h => h), fun δ' s' ⟨z, h, e1, e2⟩ => by subst e1 e2; exact h2 z h⟩
end
end Lv

/-! Lp1: dicts of the store read; things in pools: fields added to, lists grown; comprehensions of things. -/
namespace Lv
open PySem PySem.Spec PyProof.Rows L2 LvI
/-- values that are data -/
def dvs {κ : Type} (kvs : List (κ × T)) : List (κ × SV) := kvs.map fun p => (p.1, SV.d p.2)
theorem dvs_1 {κ : Type} (kvs : List (κ × T)) : (dvs kvs).map (·.1) = kvs.map (·.1) := by unfold dvs; rw [List.map_map]; rfl
theorem dvs_2 {κ : Type} (kvs : List (κ × T)) : (dvs kvs).map (·.2) = (kvs.map (·.2)).map SV.d := by unfold dvs; rw [List.map_map, List.map_map]; rfl
/-! ### dicts by whole numbers and texts -/
def dkS (s : ST) : SV → Option (List (Key × SV))
  | .l n => (match s[n]? with | some (.mK kvs) => some kvs | some (.fK _ _ kvs) => some kvs | some (.dK kvs) => some (dvs kvs) | some (.lK _ _ kvs) => some (dvs kvs) | some (.pool (.dK kvs) _) => some (dvs kvs) | some (.pool (.lK _ _ kvs) _) => some (dvs kvs) | _ => none)
  | .d (.dk ks xs) => some (ks.zip (xs.map SV.d))
  | _ => none
section
variable {K : Fr} {M : MP} {H B : Hp} {φ : Fi} {s : ST}
def dgetK (s : ST) (x y : SV) (P : Option SV → Prop) : Prop := match y with
  | .d t => ∃ kvs k, dkS s x = some kvs ∧ keyT t = some k ∧ P (valS kvs k)
  | _ => False
end
section
variable {X : Cx} {M : MP} {e o i k f value : Expr} {es : List Expr} {pos pos' apos tpos : Pos} {va vo vi vk tv : ATE}
def aDGet (to ti : ATE) : ATE := fun δ s Q => to δ s fun x s1 => ti δ s1 fun y s2 => dgetK s2 x y fun o => ∃ z, o = some z ∧ Q z s2
def aDIn (n : Bool) (ti to : ATE) : ATE := fun δ s Q => ti δ s fun y s1 => to δ s1 fun x s2 => dgetK s2 x y fun o => Q (.d (.bl (n != o.isSome))) s2
def dputK (x y z : SV) (s : ST) (C : ST → Prop) : Prop := match x, y with
  | .l n, .d t => ∃ kvs k, s[n]? = some (.mK kvs) ∧ keyT t = some k ∧ kvs.length < sizeLine ∧ C (s.set n (.mK (putS kvs k z)))
  | _, _ => False
def pDPut (to ti tv : ATE) : ATS := fun A δ s => tv δ s fun z s1 => to δ s1 fun x s2 => ti δ s2 fun y s3 => dputK x y z s3 fun s4 => A.nx δ s4
/-- {k: v} -/
def aDisp1 (tk tv : ATE) : ATE := fun δ s Q => tk δ s fun y s1 => tv δ s1 fun z s2 => match y with
  | .d t => ∃ k, keyT t = some k ∧ Q (.l s2.length) (s2 ++ [.mK [(k, z)]])
  | _ => False
/-- sorted(a dict by whole numbers) -/
def sortDG : ARC := fun xs s Q => match xs with
  | [x] => ∃ (kvs : List (Key × SV)) (ks : List Int), dkS s x = some kvs ∧ kvs.map (·.1) = ks.map Sum.inl ∧ ks.length < 64 ∧ ∀ ys : List Int, ys.Perm ks → ys.Pairwise (· ≤ ·) → Q (.l s.length) (s ++ [.lst (ys.map T.int)])
  | _ => False
/-! ### x.f += whole number, x in a pool -/
def rdR (K : Fr) (f : Str) (a : Addr) (s : ST) (n j : Nat) (D : Addr) (i : Int) : Prop := match s[n]? with
  | some (.pool _ rs) => (match rs[j]? with
    | some (b, .ins _ C fs) => b = a ∧ C = D ∧ AtF K C f ∧ lk f fs = some (.int i)
    | _ => False)
  | _ => False
def wrR (f : Str) (a : Addr) (s : ST) (n j : Nat) (D : Addr) (z : T) (C : ST → Prop) : Prop := match s[n]? with
  | some (.pool o rs) => (match rs[j]? with
    | some (b, .ins dx E fs) => b = a ∧ E = D ∧ fs.length < 1000 ∧ C (s.set n (.pool o (rs.set j (b, .ins dx E (putA f z fs)))))
    | _ => False)
  | _ => False
def augRf (K : Fr) (f : Str) (x : SV) (tv : ATE) (A : AEnds) (δ : AS) (s1 : ST) : Prop := match x with
  | .d (.ref a) => ∃ n j D i, rdR K f a s1 n j D i ∧ tv δ s1 fun y s2 => ∃ k, y = .d (.int k) ∧ wrR f a s2 n j D (.int (i + k)) fun s3 => A.nx δ s3
  | _ => False
def pFldAug (K : Fr) (f : Str) (to tv : ATE) : ATS := fun A δ s => to δ s fun x s1 => augRf K f x tv A δ s1
/-! ### a list of a pool grown -/
def isRL (x : SV) (s : ST) : Prop := match x with
  | .d (.ref a) => ∃ (n j : Nat), (match s[n]? with
    | some (.pool _ rs) => (match rs[j]? with | some (b, .lst _) => b = a | _ => False)
    | _ => False)
  | _ => False
def appRG (x : SV) (xs : List SV) (s : ST) (Q : SV → ST → Prop) : Prop := match x, xs with
  | .d (.ref a), [.d t] => ∃ (n j : Nat), (match s[n]? with
    | some (.pool o rs) => (match rs[j]? with
      | some (b, .lst us) => b = a ∧ us.length < sizeLine ∧ Q (.d .non) (s.set n (.pool o (rs.set j (b, .lst (us ++ [t])))))
      | _ => False)
    | _ => False)
  | _, _ => False
def aMeR (to : ATE) (t : ATA) : ATE := fun δ s Q => to δ s fun x s1 => isRL x s1 ∧ t δ s1 fun xs s2 => appRG x xs s2 Q
theorem ae_appendR {t : ATA} (ho : AE X M o vo) (ha : AA X M [e] t) (hb : HB X o "append" := by rfl) (hf : HF X [e] pos := by rfl) (hl : (apos.endLine == pos.line) = true := by rfl) (hs : HS1 X e [] := by rfl) (hp : HP1 X [] pos := by rfl) :
    AE X M (.Call (.Attribute o "append" apos) [e] [] pos) (aMeR vo t) :=
  .of (pe_bm PySem.F.plainAttrs_list PySem.F.slot_list_append PySem.F.type_list_append mt_append ho.pe ha.pa hb hf hl hs hp) fun H B φ σ δ s Q re sl q Q' fn => uE_lift (t := vo) H B φ σ δ s _ re sl q _ fun H1 B1 φ1 s1 v x g1 re1 r1 ⟨q0, q1⟩ => by
    refine ⟨?_, uA_lift (t := t) H1 B1 φ1 σ δ s1 _ re1 (sl.mono g1) q1 _ fun H2 B2 φ2 s2 vs xs g2 re2 r2 q2 => ?_⟩
    · unfold isRL at q0
      split at q0
      · obtain ⟨n, j, q0⟩ := q0
        split at q0
        · rename_i a o rs hs
          split at q0
          · rename_i b us hj
            subst q0
            cases (show Fz X.K B1 v (.ref b) from r1)
            obtain ⟨c, hc, w1, w2, w3, w4, _⟩ := re1.poolAt hs
            obtain ⟨ws, f1, f2⟩ := w4 _ (List.mem_of_getElem? hj)
            exact .inl ⟨rfl, ws, SqL.of f2⟩
          · exact q0.elim
        · exact q0.elim
      · exact q0.elim
    · have q2 : appRG x xs s2 Q := q2
      unfold appRG at q2
      split at q2
      · rename_i a t0 _ _
        obtain ⟨n, j, q2⟩ := q2
        split at q2
        · rename_i o rs hs
          split at q2
          · rename_i b us hj
            obtain ⟨rfl, hz, q3⟩ := q2
            cases (show Fz X.K B1 v (.ref b) from r1)
            obtain ⟨y, rfl, ry⟩ := rsall1 r2
            obtain ⟨c, hc, w1, w2, w3, w4, _⟩ := re2.poolAt hs
            obtain ⟨ws, f1, f2⟩ := w4 _ (List.mem_of_getElem? hj)
            have f3 : FzAll X.K B2 (ws ++ [y]) (us ++ [t0]) := f1.append (.cons ry .nil)
            obtain ⟨g4, re4⟩ := re2.setP (r' := .lst (us ++ [t0])) (.lst (ws ++ [y])) hs hj rfl ⟨_, f3, upd_same⟩
            exact ⟨b, ws, y, rfl, rfl, f2, by rw [f1.length]; exact hz, (fn.grow (g1.trans (g2.trans g4))).non re4 q3⟩
          · exact q2.elim
        · exact q2.elim
      · exact q2.elim
end
end Lv

/-! Lp2: comprehensions that make a thing each turn: what they make is a pool. -/
namespace Lv
open PySem PySem.Spec PyProof.Rows L2 LvI
/-- a record without its addresses -/
inductive PSh where
  | ins (C : Addr) (fs : List (Str × T))
  | lst (ts : List T)
def PRec.sh : PRec → PSh
  | .ins _ C fs => .ins C fs
  | .lst ts => .lst ts
/-- at place k a thing of that shape stands, and nothing below leans on what is above -/
def freshP (k : Nat) (y : SV) (s : ST) (sh : PSh) : Prop := y = .l k ∧ (s.take k).all (clO k) = true ∧ match sh with
  | .lst ts => s[k]? = some (.lst ts)
  | .ins C fs => ∃ j, s[k]? = some (.ins C j (fs.map fun f => (f.1, SV.d f.2))) ∧ s[j]? = some (.own k) ∧ k ≤ j
section
variable {K : Fr} {M : MP} {H B : Hp} {φ : Fi} {s : ST}
theorem RsAll.to_fz : ∀ {vs : List V} {ts : List T}, RsAll K B φ vs (ts.map SV.d) → FzAll K B vs ts
  | _, [], .nil => .nil
  | _, t :: ts, .cons h r => .cons h (RsAll.to_fz r)
theorem adr_take_out {k n : Nat} {c : Ce} {a : Addr} (nd : (adr φ).Nodup) (h : φ[n]? = some c) (ha : a ∈ c.al) (hn : k ≤ n) : a ∉ adr (φ.take k) := fun z => by
  obtain ⟨m, d, h1, h2⟩ := adr_of z
  have hm : m < k := by
    have := (List.getElem?_eq_some_iff.mp h1).1
    rw [List.length_take] at this; omega
  rw [List.getElem?_take_of_lt hm] at h1
  have := adr_nd nd h h1 ha h2
  omega
/-- what freshP tells of the heap -/
theorem fresh_of (re : Re K M H B φ s) {k : Nat} {v : V} {y : SV} {sh : PSh} (r : Rs K B φ v y) (h : freshP k y s sh) :
    ∃ a rec, v = .ref a ∧ PRec.sh rec = sh ∧ Po K B H a rec ∧ (PRec.al a rec).Nodup ∧ ∀ x ∈ PRec.al a rec, x ∈ adr φ ∧ x ∉ adr (φ.take k) ∧ B x = none := by
  obtain ⟨rfl, _, h⟩ := h
  obtain ⟨p, hp, rfl⟩ := r
  cases sh with
  | lst ts =>
    obtain ⟨q, hq, vs, h1, h2⟩ := re.at_ (show s[k]? = some (.lst ts) from h)
    rw [Fi.r_of hq] at hp; cases hp
    refine ⟨q, .lst ts, rfl, rfl, ⟨vs, h1, h2⟩, by simp [PRec.al], fun x hx => ?_⟩
    have hx : x = q := by simpa [PRec.al] using hx
    subst hx
    exact ⟨adr_p hq, adr_take_out re.nd hq (Ce.mem _) (Nat.le_refl _), re.fr1 hq h rfl⟩
  | ins C fs =>
    obtain ⟨j, hs, hj, hkj⟩ := h
    obtain ⟨q, hq, vs, dx, h1, h3, h2⟩ := re.at_ hs
    rw [Fi.r_of hq] at hp; cases hp
    obtain ⟨qj, hqj, x, hx, ho⟩ := re.at_ hj
    have e1 : dx = qj := by rw [Fi.r_of hqj] at h3; exact (Option.some.inj h3).symm
    subst e1
    have e2 : x = q := by rw [Fi.r_of hq] at hx; exact (Option.some.inj hx).symm
    subst e2
    have e3 : (fs.map fun f => (f.1, SV.d f.2)).map (·.2) = (fs.map (·.2)).map SV.d := by rw [List.map_map, List.map_map]; rfl
    have e4 : (fs.map fun f => (f.1, SV.d f.2)).map (·.1) = fs.map (·.1) := by rw [List.map_map]; rfl
    rw [e3] at h1
    rw [e4] at h2
    have hne : x ≠ dx := fun z => by
      have h9 := h2
      rw [z, ho] at h9
      cases h9
    refine ⟨x, .ins dx C fs, rfl, rfl, ⟨vs, h1.to_fz, h2, ho⟩, by simp [PRec.al, hne], fun y hy => ?_⟩
    have hy : y = x ∨ y = dx := by simpa [PRec.al] using hy
    rcases hy with rfl | rfl
    · exact ⟨adr_p hq, adr_take_out re.nd hq (Ce.mem _) (Nat.le_refl _), re.fr1 hq hs rfl⟩
    · exact ⟨adr_p hqj, adr_take_out re.nd hqj (Ce.mem _) hkj, re.fr1 hqj hj rfl⟩
end
theorem Po.al_nt {K : Fr} {B H : Hp} {a : Addr} {r : PRec} (h : Po K B H a r) : ∀ x ∈ r.al a, ∃ u, H x = some u ∧ ∀ xs : List V, u ≠ HO.tup xs := by
  intro x hx
  cases r with
  | ins dx C fs =>
    obtain ⟨vs, _, h2, h3⟩ := h
    have hx : x ∈ [a, dx] := hx
    simp only [List.mem_cons, List.not_mem_nil, or_false] at hx
    rcases hx with rfl | rfl
    · exact ⟨_, h2, fun _ e => by cases e⟩
    · exact ⟨_, h3, fun _ e => by cases e⟩
  | lst ts =>
    obtain ⟨vs, _, h2⟩ := h
    have hx : x ∈ [a] := hx
    rw [List.mem_singleton.mp hx]
    exact ⟨_, h2, fun _ e => by cases e⟩
theorem Po.al_ne {K : Fr} {B H : Hp} {a : Addr} {r : PRec} (h : Po K B H a r) : ∀ x ∈ r.al a, H x ≠ none := by
  intro x hx
  cases r with
  | ins dx C fs =>
    obtain ⟨vs, h1, h2, h3⟩ := h
    have hx : x = a ∨ x = dx := by simpa [PRec.al] using hx
    rcases hx with rfl | rfl
    · rw [h2]; exact nofun
    · rw [h3]; exact nofun
  | lst ts =>
    obtain ⟨vs, h1, h2⟩ := h
    have hx : x = a := by simpa [PRec.al] using hx
    rw [hx, h2]; exact nofun
def aLcP (ti : ATI) (g : ATG) (tt : ATT) (te : ATE) (vs : List Nat) : ATE := fun δ s Q => ti δ s fun items grd s1 => ∃ Pv : Nat → List PSh → ST → Prop, Pv 0 [] s1 ∧ (∀ i acc s', Pv i acc s' → grd s') ∧
  (∀ i x acc s', items[i]? = some x → Pv i acc s' → g (.d x) (wipeA δ vs) s' fun δ2 s2 => tt δ2 s2 fun b s3 => (b = true → te δ2 s3 fun y s4 => ∃ sh, freshP s3.length y s4 sh ∧ acc.length < sizeLine ∧ Pv (i + 1) (acc ++ [sh]) (s4.take s3.length)) ∧ (b = false → Pv (i + 1) acc s3)) ∧
  (∀ acc s' rs, Pv items.length acc s' → rs.map (fun r : Addr × PRec => r.2.sh) = acc → (poolA rs).Nodup → Q (.l s'.length) (s' ++ [.pool (.lst (rs.map fun r => T.ref r.1)) rs]))
structure Bes (K : Fr) (M : MP) (H1 B1 : Hp) (φ1 : Fi) (H B : Hp) (φ : Fi) (Dl : Addr) (rs : List (Addr × PRec)) : Prop where
  po : ∀ r ∈ rs, Po K B H r.1 r.2
  nd : (Dl :: poolA rs).Nodup
  out : ∀ a ∈ poolA rs, a ∉ adr φ ∧ B a = none ∧ (a ∈ adr φ1 ∨ H1 a = none)
theorem Bes.grow {K : Fr} {M : MP} {H1 B1 H B H' B' : Hp} {φ1 φ φ' : Fi} {Dl : Addr} {rs : List (Addr × PRec)} (b : Bes K M H1 B1 φ1 H B φ Dl rs) (g : Gr H B φ H' B' φ') : Bes K M H1 B1 φ1 H' B' φ' Dl rs := by
  have live : ∀ a ∈ poolA rs, H a ≠ none := fun a ha => by
    obtain ⟨r, hr, hx⟩ := List.mem_flatMap.mp ha
    exact (b.po r hr).al_ne a hx
  refine ⟨fun r hr => (b.po r hr).mo g.eb fun x hx => ?_, b.nd, fun a ha => ?_⟩
  · have hxp := poolA_mem hr hx
    cases q : H x with
    | none => exact absurd q (live x hxp)
    | some o => exact g.kp x o q (b.out x hxp).1
  · obtain ⟨o1, o2, o3⟩ := b.out a ha
    obtain ⟨r, hr, hx⟩ := List.mem_flatMap.mp ha
    obtain ⟨u, hu, hn⟩ := (b.po r hr).al_nt a hx
    exact ⟨fun z => (g.nf a z).elim o1 (live a ha), g.nbN o2 hu hn o1, o3⟩
theorem poolA_app (rs : List (Addr × PRec)) (r : Addr × PRec) : poolA (rs ++ [r]) = poolA rs ++ r.2.al r.1 := by
  unfold poolA
  rw [List.flatMap_append]
  simp
section
variable {X : Cx} {M : MP} {pos : Pos}
end
end Lv

/-! Lp3: name = [a thing for ..]; two pools made one. -/
namespace Lv
open PySem PySem.Spec PyProof.Rows L2 LvI
section
variable {X : Cx} {M : MP} {st : Stmt} {t : ATS}
end
section
variable {K : Fr} {M : MP} {H B : Hp} {φ : Fi} {s : ST}
/-- the things of pool m go over to pool n, ahead of its own; of m its list stays -/
def mergeS (s : ST) (n m : Nat) : Option ST := match s[n]?, s[m]? with
  | some (.pool o1 r1), some (.pool o2 r2) => if n = m then none else some ((s.set n (.pool o1 (r2 ++ r1))).set m o2)
  | _, _ => none
theorem shl_smp {o : LO} (h : o.shl = true) : o.smp = true := by cases o <;> first | rfl | cases h
end
section
variable {X : Cx} {M : MP} {st : Stmt} {t : ATS}
/-- behind a statement two pools are made one -/
def pMrg (t : ATS) : ATS := fun A δ s => t { A with nx := fun δ' s' => ∃ n m s2, mergeS s' n m = some s2 ∧ A.nx δ' s2 } δ s
end
end Lv

/-! Lp4: stepping through comprehensions of things; things in pools by their place. -/
namespace Lv
open PySem L2
def lcPK (ti : ATI) (g : ATG) (tt : ATT) (te : ATE) (Q : SV → ST → Prop) (_ : Lk (ti, g, tt, te, Q)) (vs : List Nat) (δ : AS) (s : ST) : Prop := aLcP ti g tt te vs δ s Q
theorem aLcP_eq (ti : ATI) (g : ATG) (tt : ATT) (te : ATE) (Q : SV → ST → Prop) (vs : List Nat) (δ : AS) (s : ST) : aLcP ti g tt te vs δ s Q = lcPK ti g tt te Q .mk vs δ s := rfl
/-- a comprehension over an indexed list that changes nothing -/
theorem lcI_idx {α : Type} {ti : ATI} {g : ATG} {tt : ATT} {te : ATE} {vs : List Nat} {δ : AS} {s : ST} {Q : List T → ST → Prop} {l : Lk (ti, g, tt, te, Q)} (items : List α) (gT : α → T) (fB : α → Bool) (fE : α → T) (hsz : items.length < sizeLine)
    (h1 : ∀ Q' : List T → (ST → Prop) → ST → Prop, (∀ grd : ST → Prop, grd s → Q' (items.map gT) grd s) → ti δ s Q')
    (hs : ∀ (i : Nat) x, items[i]? = some x → ∀ (acc : List T) (C : List T → ST → Prop), acc.length < sizeLine → (fB x = true → C (acc ++ [fE x]) s) → (fB x = false → C acc s) → g (.d (gT x)) (wipeA δ vs) s fun δ2 s2 => tt δ2 s2 fun b s3 => (b = true → te δ2 s3 fun y s4 => ∃ t, y = .d t ∧ acc.length < sizeLine ∧ C (acc ++ [t]) s4) ∧ (b = false → C acc s3))
    (hd : Q ((items.filter fB).map fE) s) : lcK ti g tt te Q l vs δ s := by
  have hlen : ∀ i, i ≤ items.length → (((items.take i).filter fB).map fE).length < sizeLine := fun i hi => by
    rw [List.length_map]
    refine Nat.lt_of_le_of_lt (List.length_filter_le _ _) ?_
    rw [List.length_take]; omega
  refine lcI_of (items.map gT) (fun i acc (_ : Unit) => acc = ((items.take i).filter fB).map fE) (fun _ => s) (fun Q' h => h1 Q' fun grd hg => h grd fun _ _ _ _ => hg) ⟨(), by simp, rfl⟩ ?_ ?_
  · rintro i x acc ⟨⟩ hx rfl C hC
    rw [List.getElem?_map] at hx
    cases ha : items[i]? with
    | none => rw [ha] at hx; cases hx
    | some a =>
      rw [ha] at hx
      cases hx
      have hi := (List.getElem?_eq_some_iff.mp ha).1
      have e : ((items.take (i + 1)).filter fB).map fE = ((items.take i).filter fB).map fE ++ (if fB a then [fE a] else []) := by
        rw [List.take_succ, ha, List.filter_append, List.map_append]
        cases hb : fB a <;> simp [hb]
      refine hs i a ha _ C (hlen i (by omega)) (fun hb => hC _ () ?_) (fun hb => hC _ () ?_)
      · rw [e, hb]; rfl
      · rw [e, hb]; simp
  · rintro acc ⟨⟩ rfl
    rw [List.length_map, List.take_length]; exact hd
theorem isRL_of {a : Addr} {s : ST} {n j : Nat} {o : LO} {rs : List (Addr × PRec)} {us : List T} (h : s[n]? = some (.pool o rs)) (hj : rs[j]? = some (a, .lst us)) : isRL (.d (.ref a)) s :=
  ⟨n, j, by rw [h]; dsimp only; rw [hj]⟩
theorem appRG_of {a : Addr} {s : ST} {n j : Nat} {o : LO} {rs : List (Addr × PRec)} {us : List T} {t : T} {Q : SV → ST → Prop} (h : s[n]? = some (.pool o rs)) (hj : rs[j]? = some (a, .lst us)) (hz : us.length < sizeLine) (q : Q (.d .non) (s.set n (.pool o (rs.set j (a, .lst (us ++ [t])))))) : appRG (.d (.ref a)) [.d t] s Q :=
  ⟨n, j, by rw [h]; dsimp only; rw [hj]; exact ⟨rfl, hz, q⟩⟩
end Lv

/-! Lp5: how often a text stands in a list of texts. -/
namespace Lv
open PySem PySem.Spec PyProof.Rows L2 LvI
/-- xs.count(a text) -/
def cntLG : ARM := fun x xs s Q => match xs with
  | [.d (.str k)] => ∃ ys : List Str, lsV s x = some (ys.map T.str) ∧ Q (.d (.int (ys.count k : Nat))) s
  | _ => False
end Lv

/-! Lp6: {k: v, ..} of several entries. -/
namespace Lv
open PySem PySem.Spec PyProof.Rows L2 LvI
section
variable {κ : Type} [DecidableEq κ]
theorem valS_nil (k : κ) : valS [] k = none := rfl
theorem valS_cons (q : κ) (y : SV) (r : List (κ × SV)) (k : κ) : valS ((q, y) :: r) k = if q = k then some y else valS r k := by
  unfold valS
  by_cases h : q = k
  · rw [if_pos h, List.find?_cons_of_pos (by simpa using h)]; rfl
  · rw [if_neg h, List.find?_cons_of_neg (by simpa using h)]
theorem putS_nil (k : κ) (x : SV) : putS [] k x = [(k, x)] := rfl
theorem putS_cons (q : κ) (y : SV) (r : List (κ × SV)) (k : κ) (x : SV) : putS ((q, y) :: r) k x = if q = k then (q, x) :: r.map (fun kv => if kv.1 = k then (kv.1, x) else kv) else (q, y) :: putS r k x := by
  unfold putS
  by_cases h : q = k
  · rw [if_pos h, if_pos (by simp [h])]; simp [h]
  · rw [if_neg h]
    by_cases g : (r.any fun kv => decide (kv.1 = k)) = true
    · rw [if_pos g, if_pos (by rw [List.any_cons, g]; simp)]; simp [h]
    · rw [if_neg g, if_neg (by rw [List.any_cons]; simpa [h] using g)]; rfl
end
section
variable {X : Cx} {M : MP} {k value : Expr} {pos : Pos} {ks : List (Option Expr)} {vs : List Expr} {vk tv : ATE}
/-- what is laid into a new dict, entry by entry -/
def dispG (s : ST) (Q : SV → ST → Prop) : List (Key × SV) → List SV → Prop
  | acc, [] => Q (.l s.length) (s ++ [.mK acc])
  | acc, .d t :: z :: r => ∃ k, keyT t = some k ∧ dispG s Q (putS acc k z) r
  | _, _ => False
def aDisp (t : ATA) : ATE := fun δ s Q => t δ s fun xs s1 => dispG s1 Q [] xs
end
end Lv

/-! Lp7: dicts whose keys are tuples of whole numbers and texts (a number among them). -/
namespace Lv
open PySem PySem.Spec PyProof.Rows L2 LvI
def tksT : List T → Option (List Key)
  | [] => some []
  | t :: r => (keyT t).bind fun k => (tksT r).map (k :: ·)
def anyI (k : List Key) : Bool := k.any fun x => match x with | .inl _ => true | .inr _ => false
def dtS (s : ST) : SV → Option (List (List Key × SV))
  | .l n => (match s[n]? with | some (.mT kvs) => some kvs | some (.fT _ _ kvs) => some kvs | some (.dT kvs) => some (dvs kvs) | some (.lT _ _ kvs) => some (dvs kvs) | _ => none)
  | .d (.dt ks xs) => some (ks.zip (xs.map SV.d))
  | _ => none
section
variable {K : Fr} {M : MP} {H B : Hp} {φ : Fi} {s : ST}
def dgetT (s : ST) (x y : SV) (P : Option SV → Prop) : Prop := match y with
  | .d (.tup ts) => ∃ kvs k, dtS s x = some kvs ∧ tksT ts = some k ∧ anyI k = true ∧ P (valS kvs k)
  | _ => False
end
section
variable {X : Cx} {M : MP} {e o i k f value : Expr} {es : List Expr} {pos pos' apos tpos : Pos} {va vo vi vk tv : ATE}
def aDic0T : ATE := fun _ s Q => Q (.l s.length) (s ++ [.mT []])
def aDGetT (to ti : ATE) : ATE := fun δ s Q => to δ s fun x s1 => ti δ s1 fun y s2 => dgetT s2 x y fun o => ∃ z, o = some z ∧ Q z s2
def aDInT (n : Bool) (ti to : ATE) : ATE := fun δ s Q => ti δ s fun y s1 => to δ s1 fun x s2 => dgetT s2 x y fun o => Q (.d (.bl (n != o.isSome))) s2
def dputT (x y z : SV) (s : ST) (C : ST → Prop) : Prop := match x, y with
  | .l n, .d (.tup ts) => ∃ kvs k, s[n]? = some (.mT kvs) ∧ tksT ts = some k ∧ anyI k = true ∧ kvs.length < sizeLine ∧ C (s.set n (.mT (putS kvs k z)))
  | _, _ => False
def pDPutT (to ti tv : ATE) : ATS := fun A δ s => tv δ s fun z s1 => to δ s1 fun x s2 => ti δ s2 fun y s3 => dputT x y z s3 fun s4 => A.nx δ s4
end
end Lv

/-! Lq1: loops over dicts: a dict is locked (read, never written) while a loop walks it; a dict compared with {}. -/
namespace Lv
open PySem PySem.Spec PyProof.Rows L2 LvI
/-! ### the lock -/
/-- ends within a lock: what was locked is opened again -/
def lkE (n : Nat) (o1 o2 : LO) (A : AEnds) : AEnds where
  nx δ' s' := s'[n]? = some o1 ∧ A.nx δ' (s'.set n o2)
  rt x s' := s'[n]? = some o1 ∧ A.rt x (s'.set n o2)
  bk δ' s' := s'[n]? = some o1 ∧ A.bk δ' (s'.set n o2)
  ct δ' s' := s'[n]? = some o1 ∧ A.ct δ' (s'.set n o2)
theorem lkE_nx {n : Nat} {o1 o2 : LO} {A : AEnds} {δ' : AS} {s' : ST} : (lkE n o1 o2 A).nx δ' s' = (s'[n]? = some o1 ∧ A.nx δ' (s'.set n o2)) := rfl
theorem lkE_rt {n : Nat} {o1 o2 : LO} {A : AEnds} {x : SV} {s' : ST} : (lkE n o1 o2 A).rt x s' = (s'[n]? = some o1 ∧ A.rt x (s'.set n o2)) := rfl
/-- shut to simp -/
def lockK (t : ATS) (A : AEnds) (_ : Lk (t, A)) (δ : AS) (s : ST) : Prop := ∃ n,
  (∃ kvs, s[n]? = some (.mK kvs) ∧ ∀ od vs, t (lkE n (.fK od vs kvs) (.mK kvs) A) δ (s.set n (.fK od vs kvs))) ∨
  (∃ kvs, s[n]? = some (.mT kvs) ∧ ∀ od vs, t (lkE n (.fT od vs kvs) (.mT kvs) A) δ (s.set n (.fT od vs kvs)))
def pLock (t : ATS) : ATS := fun A δ s => lockK t A .mk δ s
section
variable {X : Cx} {M : MP} {st : Stmt} {t : ATS}
section
variable {K : Fr} {H B H' B' : Hp} {φ φ' : Fi} {s s' : ST}
end
end
/-! ### what is walked -/
def kyT : Key → T
  | .inl i => .int i
  | .inr z => .str z
section
variable {X : Cx} {M : MP} {tg e : Expr} {cpos : Pos} {apos : Pos} {va : ATE} {elts : List Expr} {kk : Nat} {tpos : Pos}
def aDKeys (t : ATE) : ATI := fun δ s Q => t δ s fun x s1 => match x with
  | .l n => (match s1[n]? with
    | some (.fK od vs kvs) => Q (kvs.map fun kv => kyT kv.1) (fun s => s[n]? = some (.fK od vs kvs)) s1
    | _ => False)
  | _ => False
/-- d.items(), the values data -/
def aDItems (t : ATE) : ATI := fun δ s Q => t δ s fun x s1 => match x with
  | .l n => (match s1[n]? with
    | some (.fK od vs kvs) => ∃ ts, dats (kvs.map (·.2)) = some ts ∧ Q (List.zipWith (fun kv t => T.tup [kyT kv.1, t]) kvs ts) (fun s => s[n]? = some (.fK od vs kvs)) s1
    | _ => False)
  | _ => False
end
/-! ### d != {}, d == {} -/
section
variable {X : Cx} {M : MP} {a b e : Expr} {pos dpos : Pos} {va : ATE}
/-- two dicts of the store, the second one empty -/
def mtG (n : Bool) : AR2 := fun x y s Q => match x, y with
  | .l i, .l j => (match s[i]?, s[j]? with
    | some (.mK kvs), some (.mK []) => Q (.d (.bl (n != kvs.isEmpty))) s
    | _, _ => False)
  | _, _ => False
end
/-! ### min, max of two: shut to simp until both are known -/
def minGK (Q : SV → ST → Prop) (_ : Lk Q) (xs : List SV) (s : ST) : Prop := minG xs s Q
def maxGK (Q : SV → ST → Prop) (_ : Lk Q) (xs : List SV) (s : ST) : Prop := maxG xs s Q
theorem minGK_2 {Q : SV → ST → Prop} {l : Lk Q} {i j : Int} {s : ST} : minGK Q l [.d (.int i), .d (.int j)] s = Q (.d (.int (if j < i then j else i))) s := rfl
theorem maxGK_2 {Q : SV → ST → Prop} {l : Lk Q} {i j : Int} {s : ST} : maxGK Q l [.d (.int i), .d (.int j)] s = Q (.d (.int (if j > i then j else i))) s := rfl
def aMinL (t : ATA) : ATE := fun δ s Q => t δ s fun xs s1 => minGK Q .mk xs s1
def aMaxL (t : ATA) : ATE := fun δ s Q => t δ s fun xs s1 => maxGK Q .mk xs s1
end Lv

/-! Ln1: comprehensions over one's own lists and tuples that hold places. -/
namespace Lv
open PySem L2 LvI
def aLcS (ti : ATE) (g : ATG) (tt : ATT) (te : ATE) (vs : List Nat) : ATE := fun δ s Q => ti δ s fun x s1 => ∃ n xs o, x = .l n ∧ s1[n]? = some o ∧ (o = .ll xs ∨ o = .tp xs) ∧ ∃ Pv : Nat → List T → ST → Prop, Pv 0 [] s1 ∧ (∀ i acc s', Pv i acc s' → s'[n]? = some o) ∧
  (∀ i y acc s', xs[i]? = some y → Pv i acc s' → g y (wipeA δ vs) s' fun δ2 s2 => tt δ2 s2 fun b s3 => (b = true → te δ2 s3 fun y s4 => ∃ t, y = .d t ∧ acc.length < sizeLine ∧ Pv (i + 1) (acc ++ [t]) s4) ∧ (b = false → Pv (i + 1) acc s3)) ∧
  (∀ acc s', Pv xs.length acc s' → Q (.l s'.length) (s' ++ [.lst acc]))
section
variable {X : Cx} {M : MP} {pos : Pos}
end
def lcSK (ti : ATE) (g : ATG) (tt : ATT) (te : ATE) (vs : List Nat) (δ : AS) (s : ST) (Q : SV → ST → Prop) (_ : Lk (ti, g, tt, te, Q)) : Prop := aLcS ti g tt te vs δ s Q
theorem aLcS_eq (ti : ATE) (g : ATG) (tt : ATT) (te : ATE) (vs : List Nat) (δ : AS) (s : ST) (Q : SV → ST → Prop) : aLcS ti g tt te vs δ s Q = lcSK ti g tt te vs δ s Q .mk := rfl
end Lv

/-! Ln2: a call to which lists are handed as data; what comes back has no list of data within. -/
namespace Lv
open PySem L2 LvI
mutual
/-- data without lists: numbers, texts, truths, tuples of such -/
def T.nol : T → Bool
  | .non => true
  | .bl _ => true
  | .int _ => true
  | .str _ => true
  | .tup ts => T.nols ts
  | _ => false
def T.nols : List T → Bool
  | [] => true
  | t :: r => T.nol t && T.nols r
end
def flatSD : SV → Bool
  | .d t => t.nol
  | .l _ => true
def flatOD : LO → Bool
  | .lst ts => ts.all T.nol
  | .tp xs => xs.all flatSD
  | .ll xs => xs.all flatSD
  | _ => false
section
variable {K : Fr} {M : MP} {H B B' Bc : Hp} {φ φ' : Fi} {s : ST}
end
/-- a call, some lists handed as data; what comes back has no list of data within -/
def viewDK (ms : List Bool) (sp : ASp) (Q : SV → ST → Prop) (_ : Lk Q) (xs : List SV) (s : ST) : Prop := ∃ ys, viewM s ms xs = some ys ∧ ((argL ys).all fun n => !(viewP ms xs).contains n) = true ∧
  ((argL ys).all fun n => match s[n]? with | some o => simO o | none => false) = true ∧
    sp (ys.map (toC (argL ys))) ((argL ys).map fun n => (s[n]?).getD .gone) fun r s2 => s2.all flatOD = true ∧ flatSD r = true ∧ Q (ren (argL ys) s.length r) (putAll s (argL ys) (s2.map (renO (argL ys) s.length)) ++ (s2.drop (argL ys).length).map (renO (argL ys) s.length))
def aFnVD (ms : List Bool) (sp : ASp) (t : ATA) : ATE := fun δ s Q => t δ s fun xs s1 => viewDK ms sp Q .mk xs s1
section
variable {X : Cx} {M : MP} {e : Expr} {es : List Expr} {pos p : Pos}
end
end Lv

/-! Ln3: how often some data stands in a list of data. -/
namespace Lv
open PySem PySem.Spec PyProof.Rows L2 LvI
def cntDG : ARM := fun x xs s Q => match xs with
  | [.d y] => ∃ ts, lsV s x = some ts ∧ SeqAt.shaped (T.lst ts).py = true ∧ SeqAt.shaped y.py = true ∧ Q (.d (.int ((T.pys ts).countP (fun z => PyData.eqv z y.py) : Nat))) s
  | _ => False
end Lv

/-! Ln4: a loop over two written things. -/
namespace Lv
open PySem PySem.Spec PyProof.Rows L2 LvI
end Lv

/-! Ld0: d.items() of a dict by tuples, which is locked. -/
namespace Lv
open PySem PySem.Spec PyProof.Rows L2 LvI
section
variable {X : Cx} {pins : List (Addr × Obj)} {σ : L2.St} {H : Hp} {s : Shared} {d : Addr} {o : Obj}
end
section
variable {P : Program} {w : World} {K : PySem.W.Frag} {d : Addr} {o : Obj} {es : Array DictEntry} {ep : Nat}
end
section
variable {X : Cx} {e : Expr} {td : TE} {apos cpos : Pos}
end
end Lv

/-! Ld1: None among the parts of a key that is looked up; keys and items of dicts that are data; get. -/
namespace Lv
open PySem PySem.Spec PyProof.Rows L2 LvI
/-! ### None within a key -/
abbrev KeyN := Option Key
section
variable {P : Program} {w : World} {H : Hp} {h : Heap} {a : Addr}
end
/-- all of them are there -/
def allS : List KeyN → Option (List Key)
  | [] => some []
  | none :: _ => none
  | some k :: r => (allS r).map (k :: ·)
section
variable {X : Cx} {pins : List (Addr × Obj)} {σ : L2.St} {H : Hp} {s : Shared} {a : Addr} {y : V} {u : Value} {A : Around} {E : Value → Shared → Prop}
end
section
variable {X : Cx} {M : MP} {i o : Expr} {ty td : TE} {pos : Pos} {vi vo : ATE}
/-- the parts of a key, None among them -/
def tksN : List T → Option (List KeyN)
  | [] => some []
  | .non :: r => (tksN r).map (none :: ·)
  | t :: r => (keyT t).bind fun k => (tksN r).map (some k :: ·)
def anyN (k : List KeyN) : Bool := k.any fun x => match x with | some (.inl _) => true | _ => false
/-- whether a key is there -/
def hasN (kvs : List (List Key × SV)) (ks : List KeyN) : Bool := match allS ks with
  | some k => (valS kvs k).isSome
  | none => false
def dinN (s : ST) (x y : SV) (P : Bool → Prop) : Prop := match y with
  | .d (.tup ts) => ∃ kvs k, dtS s x = some kvs ∧ tksN ts = some k ∧ anyN k = true ∧ P (hasN kvs k)
  | _ => False
def aDInN (n : Bool) (ti to : ATE) : ATE := fun δ s Q => ti δ s fun y s1 => to δ s1 fun x s2 => dinN s2 x y fun o => Q (.d (.bl (n != o))) s2
end
/-! ### get -/
/-- a dict of either kind -/
def isDS (s : ST) (x : SV) : Bool := (dkS s x).isSome || (dtS s x).isSome
/-- read by a key of either kind -/
def dgetA (tk : Bool) (s : ST) (x y : SV) (P : Option SV → Prop) : Prop := if tk then dgetT s x y P else dgetK s x y P
def aGet1 (tk : Bool) (to ti : ATE) : ATE := fun δ s Q => to δ s fun x s1 => isDS s1 x = true ∧ ti δ s1 fun y s2 => dgetA tk s2 x y fun o => Q (o.getD (.d .non)) s2
def aGet2 (tk : Bool) (to ti tz : ATE) : ATE := fun δ s Q => to δ s fun x s1 => isDS s1 x = true ∧ ti δ s1 fun y s2 => tz δ s2 fun z s3 => dgetA tk s3 x y fun o => Q (o.getD z) s3
section
variable {X : Cx} {M : MP} {o e f : Expr} {apos cpos : Pos} {vo ve vf : ATE}
end
/-! ### what is walked -/
/-- a dict that is locked: data, or the store's -/
def lkK (s : ST) : SV → Option (List (Key × T) × Option (Nat × LO))
  | .d (.dk ks ts) => some (ks.zip ts, none)
  | .l n => (match s[n]? with | some (.lK od vs kvs) => some (kvs, some (n, .lK od vs kvs)) | some (.pool (.lK od vs kvs) rs) => some (kvs, some (n, .pool (.lK od vs kvs) rs)) | _ => none)
  | _ => none
def lkT (s : ST) : SV → Option (List (List Key × T) × Option (Nat × LO))
  | .d (.dt ks ts) => some (ks.zip ts, none)
  | .l n => (match s[n]? with | some (.lT od vs kvs) => some (kvs, some (n, .lT od vs kvs)) | _ => none)
  | _ => none
def grL : Option (Nat × LO) → ST → Prop
  | none, _ => True
  | some (n, o), s => s[n]? = some o
section
variable {K : Fr} {M : MP} {H B : Hp} {φ : Lv.Fi} {s : ST}
end
/-- the keys -/
def aKeysD (t : ATE) : ATI := fun δ s Q => t δ s fun x s1 => (∃ kvs g, lkK s1 x = some (kvs, g) ∧ Q (kvs.map fun kv => kyT kv.1) (grL g) s1) ∨ ∃ kvs g, lkT s1 x = some (kvs, g) ∧ Q (kvs.map fun kv => T.tup (kv.1.map kyT)) (grL g) s1
/-- the pairs -/
def aItemsD (t : ATE) : ATI := fun δ s Q => t δ s fun x s1 => (∃ kvs g, lkK s1 x = some (kvs, g) ∧ Q (kvs.map fun kv => T.tup [kyT kv.1, kv.2]) (grL g) s1) ∨ ∃ kvs g, lkT s1 x = some (kvs, g) ∧ Q (kvs.map fun kv => T.tup [.tup (kv.1.map kyT), kv.2]) (grL g) s1
section
variable {X : Cx} {M : MP} {tg e : Expr} {cpos : Pos} {apos : Pos} {va : ATE} {elts : List Expr} {kk : Nat} {tpos : Pos}
end
end Lv

/-! Ld2: locks around expressions and statements; dicts of data written; instances put into a pool's dict. -/
namespace Lv
open PySem PySem.Spec PyProof.Rows L2 LvI
/-! ### locks -/
def lkd : LO → Obj → List V → Option LO
  | .mK kvs, od, vs => some (.fK od vs kvs)
  | .mT kvs, od, vs => some (.fT od vs kvs)
  | .dK kvs, od, vs => some (.lK od vs kvs)
  | .dT kvs, od, vs => some (.lT od vs kvs)
  | .pool (.dK kvs) rs, od, vs => some (.pool (.lK od vs kvs) rs)
  | _, _, _ => none
def lkb : LO → Bool
  | .mK _ => true
  | .mT _ => true
  | .dK _ => true
  | .dT _ => true
  | .pool (.dK _) _ => true
  | _ => false
section
variable {K : Fr} {M : MP} {H B : Hp} {φ : Lv.Fi} {s : ST}
end
/-- one place locked -/
def lk1 (n : Nat) (t : ATE) : ATE := fun δ s Q => match s[n]? with
  | some o => lkb o = true ∧ ∀ od vs, (match lkd o od vs with
    | some o1 => t δ (s.set n o1) fun x s1 => s1[n]? = some o1 ∧ Q x (s1.set n o)
    | none => True)
  | none => False
def lkN : List Nat → ATE → ATE
  | [], t => t
  | n :: r, t => lk1 n (lkN r t)
/-- shut to simp -/
def lksK (t : ATE) (Q : SV → ST → Prop) (_ : Lk (t, Q)) (δ : AS) (s : ST) : Prop := ∃ ns, lkN ns t δ s Q
def aLocks (t : ATE) : ATE := fun δ s Q => lksK t Q .mk δ s
/-! statements -/
def sk1 (n : Nat) (t : ATS) : ATS := fun A δ s => match s[n]? with
  | some o => lkb o = true ∧ ∀ od vs, (match lkd o od vs with
    | some o1 => t (lkE n o1 o A) δ (s.set n o1)
    | none => True)
  | none => False
def skN : List Nat → ATS → ATS
  | [], t => t
  | n :: r, t => sk1 n (skN r t)
def sksK (t : ATS) (A : AEnds) (_ : Lk (t, A)) (δ : AS) (s : ST) : Prop := ∃ ns, skN ns t A δ s
def pLocks (t : ATS) : ATS := fun A δ s => sksK t A .mk δ s
/-! ### dicts of data written -/
section
variable {κ : Type} [DecidableEq κ]
def valD (kvs : List (κ × T)) (k : κ) : Option T := (kvs.find? fun kv => decide (kv.1 = k)).map (·.2)
def putD (kvs : List (κ × T)) (k : κ) (x : T) : List (κ × T) :=
  if (kvs.any fun kv => decide (kv.1 = k)) = true then kvs.map (fun kv => if kv.1 = k then (kv.1, x) else kv) else kvs ++ [(k, x)]
theorem valS_dvs (kvs : List (κ × T)) (k : κ) : valS (dvs kvs) k = (valD kvs k).map SV.d := by
  unfold valS valD dvs
  rw [List.find?_map, Option.map_map, Option.map_map]; rfl
theorem zip_dvs (kvs : List (κ × T)) : (kvs.map (·.1)).zip ((kvs.map (·.2)).map SV.d) = dvs kvs := by
  rw [← dvs_1, ← dvs_2, zip_pairs]
theorem zip_dvs3 (kvs : List (κ × T)) : (kvs.map fun x => x.1).zip (kvs.map (SV.d ∘ fun x => x.2)) = dvs kvs := by
  rw [← List.map_map]; exact zip_dvs kvs
theorem zip_dvs2 {ks : List κ} {ts : List T} : ks.zip (ts.map SV.d) = dvs (ks.zip ts) := by
  unfold dvs
  rw [List.zip_map_right]
  rfl
end
def dputD1 (n : Nat) (u : T) (y : SV) (s : ST) (C : ST → Prop) : Prop := match y with
  | .d (.tup ts) => ∃ kvs k, s[n]? = some (.dT kvs) ∧ tksT ts = some k ∧ anyI k = true ∧ kvs.length < sizeLine ∧ C (s.set n (.dT (putD kvs k u)))
  | _ => False
def dputD0 (n : Nat) (u : T) (y : SV) (s : ST) (C : ST → Prop) : Prop := match y with
  | .d t => ∃ kvs k, s[n]? = some (.dK kvs) ∧ keyT t = some k ∧ kvs.length < sizeLine ∧ C (s.set n (.dK (putD kvs k u)))
  | _ => False
def dputD (tk : Bool) (x y z : SV) (s : ST) (C : ST → Prop) : Prop := match x, z with
  | .l n, .d u => if tk then dputD1 n u y s C else dputD0 n u y s C
  | _, _ => False
def pDPutD (tk : Bool) (to ti tv : ATE) : ATS := fun A δ s => tv δ s fun z s1 => to δ s1 fun x s2 => ti δ s2 fun y s3 => dputD tk x y z s3 fun s4 => A.nx δ s4
section
variable {X : Cx} {M : MP} {e o i k f value : Expr} {es : List Expr} {pos pos' apos tpos : Pos} {va vo vi vk tv : ATE}
/-- {}: of data by whole numbers and texts; by tuples; of things -/
def aDicD (o : LO) : ATE := fun _ s Q => Q (.l s.length) (s ++ [o])
end
end Lv

/-! Ld3: a dict of instances (a pool): begun, an instance put in. -/
namespace Lv
open PySem PySem.Spec PyProof.Rows L2 LvI
section
variable {K : Fr} {M : MP} {H B H0 B0 : Hp} {φ φ0 : Lv.Fi} {s s0 : ST}
/-- a place is a pool without things -/
theorem Re.toPool (e : Re K M H B φ s) {n : Nat} {o : LO} (hs : s[n]? = some o) (w : o.shl = true) : Gr H B φ H B φ ∧ Re K M H B φ (s.set n (.pool o [])) := by
  refine ⟨.refl, ⟨e.ex, e.nd, by rw [List.length_set]; exact e.len, e.al, fun m c o' h1 h2 h3 a ha => ?_, fun m c o' h1 h2 => ?_, e.pm⟩⟩
  · by_cases hm : n = m
    · subst hm
      exact e.fr n c o h1 hs (smp_is (shl_smp w)) a ha
    · rw [List.getElem?_set_ne hm] at h2
      exact e.fr m c o' h1 h2 h3 a ha
  · by_cases hm : n = m
    · subst hm
      have hl : n < s.length := (List.getElem?_eq_some_iff.mp hs).1
      rw [List.getElem?_set_self hl] at h2
      cases h2
      obtain ⟨h4, h5⟩ := (e.ob n c o h1 hs).simp_ (shl_smp w)
      exact .pool w (by rw [h4]; rfl) h5 fun r hr => (by cases hr)
    · rw [List.getElem?_set_ne hm] at h2
      exact e.ob m c o' h1 h2
/-- a record comes to a pool, its shell is changed -/
theorem Re.growP (re : Re K M H B φ s) (g : Gr H0 B0 φ0 H B φ) (e0 : Re K M H0 B0 φ0 s0) {n : Nat} {o o2 : LO} {rs : List (Addr × PRec)} {a : Addr} {rec : PRec} {c : Ce} {u : HO} (hs : s[n]? = some (.pool o rs)) (hc : φ[n]? = some c) (w : o2.shl = true) (ho : Ro K B φ o2 (some u))
    (hp : Po K B H a rec) (nd : (rec.al a).Nodup) (out : ∀ x ∈ rec.al a, x ∉ adr φ ∧ B x = none ∧ (x ∈ adr φ0 ∨ H0 x = none)) :
    ∃ φ2, Gr H0 B0 φ0 (upd H c.p u) B φ2 ∧ Re K M (upd H c.p u) B φ2 (s.set n (.pool o2 (rs ++ [(a, rec)]))) ∧ (∀ (m : Nat) q, φ.r m = some q → φ2.r m = some q) := by
  obtain ⟨c', hc', w1, w2, w3, w4, ndc, hB⟩ := re.poolAt hs
  rw [hc] at hc'
  cases hc'
  have hBc : B c.p = none := hB c.p List.mem_cons_self
  have hln : n < φ.length := (List.getElem?_eq_some_iff.mp hc).1
  have hsn : n < s.length := by rw [← re.len]; exact hln
  have app : poolA (rs ++ [(a, rec)]) = poolA rs ++ rec.al a := poolA_app rs (a, rec)
  have cal : c.al = c.p :: poolA rs := by unfold Ce.al; rw [w2]
  obtain ⟨c2, hc2⟩ : ∃ c2 : Ce, c2 = ⟨c.p, poolA (rs ++ [(a, rec)])⟩ := ⟨_, rfl⟩
  have c2p : c2.p = c.p := by rw [hc2]
  have c2al : c2.al = c.al ++ rec.al a := by rw [hc2, cal]; unfold Ce.al; rw [app]; rfl
  have at' : ∀ i e, (φ.set n c2)[i]? = some e → (i = n ∧ e = c2) ∨ (i ≠ n ∧ φ[i]? = some e) := fun i e he => by
    by_cases hin : n = i
    · subst hin
      rw [List.getElem?_set_self hln] at he
      cases he; exact .inl ⟨rfl, rfl⟩
    · rw [List.getElem?_set_ne hin] at he
      exact .inr ⟨fun z => hin z.symm, he⟩
  have was : ∀ i e x, (φ.set n c2)[i]? = some e → x ∈ e.al → (∃ d, φ[i]? = some d ∧ x ∈ d.al) ∨ (i = n ∧ x ∈ rec.al a) := fun i e x he hx => by
    rcases at' i e he with ⟨rfl, rfl⟩ | ⟨_, h⟩
    · rw [c2al] at hx
      rcases List.mem_append.mp hx with hx | hx
      · exact .inl ⟨c, hc, hx⟩
      · exact .inr ⟨rfl, hx⟩
    · exact .inl ⟨e, h, hx⟩
  have adrM : ∀ x ∈ adr (φ.set n c2), x ∈ adr φ ∨ x ∈ rec.al a := fun x hx => by
    obtain ⟨i, e, h1, h2⟩ := adr_of hx
    rcases was i e x h1 h2 with ⟨d, h3, h4⟩ | ⟨_, h3⟩
    · exact .inl (adr_mem h3 h4)
    · exact .inr h3
  have cpφ : c.p ∈ adr φ := adr_p hc
  have ne : ∀ x ∈ rec.al a, x ≠ c.p := fun x hx z => (out x hx).1 (by rw [z]; exact cpφ)
  have pmap : (φ.set n c2).map Ce.p = φ.map Ce.p := by
    refine List.ext_getElem? fun i => ?_
    rw [List.getElem?_map, List.getElem?_map]
    by_cases hin : n = i
    · subst hin
      rw [List.getElem?_set_self hln, hc]
      show some c2.p = some c.p
      rw [c2p]
    · rw [List.getElem?_set_ne hin]
  have rt : ∀ (m : Nat), Fi.r (φ.set n c2) m = φ.r m := fun m => by rw [r_map, r_map, pmap]
  have g2 : Gr H0 B0 φ0 (upd H c.p u) B (φ.set n c2) := by
    refine ⟨g.eb, ?_, fun x o' hx hn => ?_, g.nb, fun x hx => ?_⟩
    · obtain ⟨r, er⟩ := g.pf
      exact ⟨r, by rw [pmap]; exact er⟩
    · have : x ≠ c.p := fun z => by
        rcases g.nf c.p cpφ with h | h
        · exact hn (by rw [z]; exact h)
        · rw [z, h] at hx; cases hx
      rw [upd_ne this]; exact g.kp x o' hx hn
    · rcases adrM x hx with h | h
      · exact g.nf x h
      · exact (out x h).2.2
  have mo : Mo B φ B (φ.set n c2) := ⟨Ex.refl B, fun m q h => by rw [rt]; exact h⟩
  refine ⟨φ.set n c2, g2, ⟨fun b w q => by rw [upd_ne (ne_of_none q hBc)]; exact re.ex b w q, ?_, by rw [List.length_set, List.length_set]; exact re.len, fun x hx z => ?_, fun m c' o' h1 h2 h3 x hx => ?_, fun m c' o' h1 h2 => ?_, fun H' B' φ' g' => e0.pm _ _ _ (g2.trans g')⟩, fun m q h => by rw [rt]; exact h⟩
  · refine adr_nd_of (fun i e he => ?_) fun i j e f x he hf hx hy => ?_
    · rcases at' i e he with ⟨rfl, rfl⟩ | ⟨_, h⟩
      · rw [c2al]
        exact List.nodup_append.mpr ⟨ce_nd re.nd hc, nd, fun x hx y hy z => (out y hy).1 (by rw [← z]; exact adr_mem hc hx)⟩
      · exact ce_nd re.nd h
    · rcases was i e x he hx with ⟨d, h1, h2⟩ | ⟨h1, h2⟩ <;> rcases was j f x hf hy with ⟨d', h3, h4⟩ | ⟨h3, h4⟩
      · exact adr_nd re.nd h1 h3 h2 h4
      · exact absurd (adr_mem h1 h2) (out x h4).1
      · exact absurd (adr_mem h3 h4) (out x h2).1
      · omega
  · by_cases hq : x = c.p
    · subst hq; rw [upd_same] at z; cases z
    · rw [upd_ne hq] at z
      rcases adrM x hx with h | h
      · exact re.al x h z
      · exact hp.al_ne x h z
  · rcases was m c' x h1 hx with ⟨d, h5, h4⟩ | ⟨_, h4⟩
    · by_cases hm : n = m
      · subst hm
        rw [hc] at h5; cases h5
        exact .inl (hB x (by rw [← cal]; exact h4))
      · rw [List.getElem?_set_ne hm] at h2
        exact (re.fr m d o' h5 h2 h3 x h4).imp id fun z => kT_ne z fun y => hm (adr_nd re.nd hc h5 (a := c.p) c.mem (by rw [← y]; exact h4))
    · exact .inl (out x h4).2.1
  · by_cases hm : n = m
    · subst hm
      rw [List.getElem?_set_self hln] at h1
      rw [List.getElem?_set_self hsn] at h2
      cases h1; cases h2
      refine .pool w (by rw [hc2]) (by rw [c2p, upd_same]; exact ho.mo mo) fun r hr => ?_
      rcases List.mem_append.mp hr with hr | hr
      · refine (w4 r hr).mo (Ex.refl B) fun x hx => upd_ne fun z => ?_
        have hpm := poolA_mem hr hx
        rw [z] at hpm
        exact (List.nodup_cons.mp ndc).1 hpm
      · rw [List.mem_singleton.mp hr]
        exact hp.mo (Ex.refl B) fun x hx => upd_ne (ne x hx)
    · rw [List.getElem?_set_ne hm] at h1 h2
      exact (re.ob m c' o' h1 h2).mo mo fun b hb => upd_ne fun z => hm (adr_nd re.nd hc h1 (a := c.p) c.mem (by rw [← z]; exact hb))
end
/-- {}: of instances -/
def aDicP : ATE := fun _ s Q => Q (.l s.length) (s ++ [.pool (.dK []) []])
section
variable {X : Cx} {M : MP} {e o i k f value : Expr} {es : List Expr} {pos pos' apos tpos : Pos} {va vo vi vk tv : ATE}
/-- a fresh instance of data is put into a pool's dict under a new key -/
def dputP (k : Nat) (x y z : SV) (s : ST) (C : ST → Prop) : Prop := match x, y with
  | .l n, .d t => ∃ kvs rs key D fs, n < k ∧ s[n]? = some (.pool (.dK kvs) rs) ∧ keyT t = some key ∧ (kvs.any fun kv => decide (kv.1 = key)) = false ∧ kvs.length < sizeLine ∧ freshP k z s (.ins D fs) ∧
    ∀ a dx, C ((s.take k).set n (.pool (.dK (kvs ++ [(key, .ref a)])) (rs ++ [(a, .ins dx D fs)])))
  | _, _ => False
def pDPutP (to ti tv : ATE) : ATS := fun A δ s => tv δ s fun z s1 => to δ s1 fun x s2 => ti δ s2 fun y s3 => dputP s.length x y z s3 fun s4 => A.nx δ s4
end
end Lv

/-! Ld4: tests a < b < c < d. -/
namespace Lv
open PySem PySem.Spec PyProof.Rows L2 LvI
section
variable {X : Cx} {M : MP} {a b c d : Expr} {pos : Pos} {ta tb tc td : TE}
def blK (Q : Bool → ST → Prop) : SV → ST → Prop := fun z s => match z with
  | .d (.bl k) => Q k s
  | _ => False
def aChain3 (g g' g2 : AR2) (ta tb tc td : ATE) : ATT := fun δ s Q => ta δ s fun x s1 => tb δ s1 fun y s2 => g x y s2 (blK fun k s3 =>
  (k = true → tc δ s3 fun w s4 => g' y w s4 (blK fun k2 s5 => (k2 = true → td δ s5 fun u s6 => g2 w u s6 (blK Q)) ∧ (k2 = false → Q false s5))) ∧ (k = false → Q false s3))
end
end Lv

/-! Ld5: a call to which things that stand in the store, own lists among them, are handed as data; what comes back has no list of data within. -/
namespace Lv
open PySem PySem.Spec PyProof.Rows L2 LvI
def LO.pvl : LO → Bool
  | .lst _ => true
  | .pool o _ => o.shl
  | o => o.pv
theorem pvl_cases {o : LO} (h : o.pvl = true) : o.pv = true ∨ (∃ ts, o = .lst ts) ∨ ∃ o' rs, o = .pool o' rs ∧ o'.shl = true := by
  cases o with
  | lst ts => exact .inr (.inl ⟨ts, rfl⟩)
  | pool o' rs => exact .inr (.inr ⟨o', rs, rfl, h⟩)
  | _ => exact .inl h
end Lv

/-! Ld6: list(d) of a dict by ints and texts. -/
namespace Lv
open PySem PySem.Spec PyProof.Rows L2 LvI
def listKG : ARC := fun xs s Q => match xs with
  | [x] => ∃ kvs : List (Key × SV), dkS s x = some kvs ∧ Q (.l s.length) (s ++ [.lst (kvs.map fun kv => kyT kv.1)])
  | _ => False
section
variable {X : Cx} {M : MP} {e : Expr} {pos : Pos}
end
end Lv

/-! Ld7: xs[a::-1] of a list. -/
namespace Lv
open PySem PySem.Spec PyProof.Rows L2 LvI
/-- what xs[lo::-1] is -/
def pkR {α : Type} (xs : List α) (lo : Option Int) : List α := (sliceRange (sliceBounds lo none (some (-1)) xs.length).1 (sliceBounds lo none (some (-1)) xs.length).2.1 (sliceBounds lo none (some (-1)) xs.length).2.2).filterMap fun x => xs[x]?
section
variable {X : Cx} {M : MP} {e : Expr} {va : ATE} {lo : Option Expr} {tl : ATO}
def aSlR (t : ATE) (tl : ATO) : ATE := fun δ s Q => t δ s fun x s1 => tl δ s1 fun l s2 => ∃ ts, lsV s2 x = some ts ∧ (pkR ts l).length ≤ sizeLine ∧ Q (.l s2.length) (s2 ++ [.lst (pkR ts l)])
end
end Lv

/-! Ld8: d.pop(k), d.pop(k, x) of data dicts. -/
namespace Lv
open PySem PySem.Spec PyProof.Rows L2 LvI
theorem vals1 {x : V} {us : List Value} (h : Vals [x] us) : ∃ u, us = [u] ∧ L2.RelV x u := by
  cases h with
  | cons r h => cases h; exact ⟨_, rfl, r⟩
theorem KT.mo {H H' : Hp} {kvs : List (List L2.Key × V)} {xs : List (List L2.Key × Addr × Value)} (h : KT H kvs xs) (e : ∀ c l, H c = some (.tup l) → H' c = some (.tup l)) : KT H' kvs xs := by
  induction h with
  | nil => exact .nil
  | cons r _ ih => exact .cons ⟨r.1, e _ _ r.2.1, r.2.2⟩ ih
/-! ### readings -/
section
variable {κ : Type} [DecidableEq κ]
def delD (kvs : List (κ × T)) (k : κ) : List (κ × T) := kvs.filter fun kv => decide (kv.1 ≠ k)
end
/-- d.pop(k), k there -/
def dpop1T (x : SV) (xs : List SV) (s : ST) (Q : SV → ST → Prop) : Prop := match x, xs with
  | .l n, [.d (.tup ts)] => ∃ kvs k t, s[n]? = some (.dT kvs) ∧ tksT ts = some k ∧ anyI k = true ∧ valD kvs k = some t ∧ Q (.d t) (s.set n (.dT (delD kvs k)))
  | _, _ => False
/-- d.pop(k, x) -/
def dpop2T (x : SV) (xs : List SV) (s : ST) (Q : SV → ST → Prop) : Prop := match x, xs with
  | .l n, [.d (.tup ts), z] => ∃ kvs k, s[n]? = some (.dT kvs) ∧ tksT ts = some k ∧ anyI k = true ∧ (∀ t, valD kvs k = some t → Q (.d t) (s.set n (.dT (delD kvs k)))) ∧ (valD kvs k = none → Q z s)
  | _, _ => False
section
variable {X : Cx} {M : MP} {o e e2 : Expr} {apos pos cpos : Pos} {vo ve vf : ATE} {t : ATA}
/-- d.pop(k) by a whole number or a text, k there -/
def dpop1K (x y : SV) (s : ST) (Q : SV → ST → Prop) : Prop := match x, y with
  | .l n, .d t => ∃ kvs k u, s[n]? = some (.dK kvs) ∧ keyT t = some k ∧ valD kvs k = some u ∧ Q (.d u) (s.set n (.dK (delD kvs k)))
  | _, _ => False
def aDPop1 (vo ve : ATE) : ATE := fun δ s Q => vo δ s fun x s1 => isDS s1 x = true ∧ ve δ s1 fun y s2 => dpop1K x y s2 Q
end
end Lv

/-! Ld9: <, <=, >, >= of alike data; len(set(a list of ints)). -/
namespace Lv
open PySem PySem.Spec PyProof.Rows L2 LvI
/-- which of the four: swapped, turned about -/
def ltD (sw no : Bool) (a b : PyData) : Bool := no != (if sw then PySem.W.dataLt b a else PySem.W.dataLt a b)
def ltDG (sw no : Bool) : AR2 := fun x y s Q => ∃ a b, pyV s x = some a ∧ pyV s y = some b ∧ SeqAt.shaped a = true ∧ SeqAt.shaped b = true ∧ PySem.W.alike a b = true ∧ a ≠ .none ∧ Q (.d (.bl (ltD sw no a b))) s
/-! len(set(ints)) -/
section
variable {X : Cx} {M : MP} {a : Expr} {pos : Pos} {va : ATE}
def aLenSetI (t : ATE) : ATE := fun δ s Q => t δ s fun x s1 => ∃ ns : List Int, lsV s1 x = some (ns.map T.int) ∧ ns.length ≤ 2000 ∧ ∀ n : Nat, n ≤ ns.length → (n = ns.length ↔ ns.Nodup) → Q (.d (.int (n : Nat))) s1
end
end Lv

/-! Lda: sums and differences of ints and truths. -/
namespace Lv
open PySem PySem.Spec PyProof.Rows L2 LvI
def b2i (b : Bool) : Int := if b = true then 1 else 0
def addBG : AR2 := fun x y s Q => match x, y with
  | .d (.int i), .d (.int j) => Q (.d (.int (i + j))) s
  | .d (.bl b), .d (.int j) => Q (.d (.int (b2i b + j))) s
  | _, _ => False
def subBG : AR2 := fun x y s Q => match x, y with
  | .d (.int i), .d (.int j) => Q (.d (.int (i - j))) s
  | .d (.bl b), .d (.int j) => Q (.d (.int (b2i b - j))) s
  | .d (.int i), .d (.bl b) => Q (.d (.int (i - b2i b))) s
  | _, _ => False
section
variable {K : Fr} {M : MP}
end
section
variable {X : Cx} {M : MP} {e a b : Expr} {pos : Pos} {va vb : ATE}
end
end Lv

/-! Ldb: t[::-1] of a tuple. -/
namespace Lv
open PySem PySem.Spec PyProof.Rows L2 LvI HT
section
variable {prog : Program} {w : World} {A : Around} {E : Value → Shared → Prop} {s : Shared}
end
section
variable {X : Cx} {M : MP} {e : Expr} {va : ATE}
def aRevT (t : ATE) : ATE := fun δ s Q => t δ s fun x s1 => match x with
  | .d (.tup ts) => Q (.d (.tup ts.reverse)) s1
  | _ => False
end
end Lv

/-! Ldc: zip of two lists under one name: the tuple that was given out last may be there still, or gone. -/
namespace Lv
open PySem PySem.Spec PyProof.Rows L2 LvI HT
section
variable {prog : Program} {w : World} {A : Around} {E : Value → Shared → Prop} {s : Shared}
end
variable {K : Fr} {M : MP} {X : Cx} {H B : Hp} {φ : Fi} {s : ST}
def lsZ (s : ST) : SV → Option (List T × Option Nat)
  | .l n => match s[n]? with | some (.lst ts) => some (ts, some n) | _ => none
  | .d (.lst ts) => some (ts, none)
  | _ => none
def aZipN (t u : ATE) : ATI := fun δ s Q => t δ s fun x s1 => u δ s1 fun y s2 => ∃ ts g us g', lsZ s2 x = some (ts, g) ∧ lsZ s2 y = some (us, g') ∧ Q (zpT ts us) (fun s => grd ts g s ∧ grd us g' s) s2
end Lv

/-! Lde: boxes: what stands within one place is opened for an expression and shut behind it; what an expression makes becomes a box. -/
namespace Lv
open PySem L2 PySem.Spec PyProof.Rows LvI
/-- the things within a box, put into the store -/
def opnS (s : ST) (n : Nat) (st : List LO) : ST := putAll s [n] (st.map (renO [n] s.length)) ++ (st.drop 1).map (renO [n] s.length)
def grpOk (n : Nat) (ns : List Nat) (s : ST) : Bool := (n :: ns).all fun m => decide (m < s.length) && ((kpO s m).is && inO 0 (n :: ns) (kpO s m))
def grpO (n : Nat) (ns : List Nat) (s : ST) : LO := .box ((n :: ns).map fun m => mvO 0 (n :: ns) (kpO s m))
def shOk (L n : Nat) (ns : List Nat) (s : ST) : Bool := ((decide (n < L) && ns.all fun m => decide (L ≤ m)) && decide (n :: ns).Nodup) && (grpOk n ns s && (List.range L).all fun i => decide (i = n) || clO L (kpO s i))
def bxOk (L n : Nat) (ns : List Nat) (s : ST) : Bool := ((n :: ns).all (fun m => decide (L ≤ m)) && decide (n :: ns).Nodup) && (grpOk n ns s && (s.take L).all (clO L))
section
variable {K : Fr} {M : MP} {H B H0 B0 : Hp} {φ φ0 : Fi} {s s0 : ST}
/-- some places as one -/
theorem grp_ce (re : Re K M H B φ s) {n : Nat} {ns : List Nat} (nd : (n :: ns).Nodup) (h : grpOk n ns s = true) : ∃ c c' : Ce, φ[n]? = some c ∧ c'.p = c.p ∧ c'.al.Nodup ∧ (∀ a ∈ c'.al, ∃ m d, m ∈ n :: ns ∧ φ[m]? = some d ∧ a ∈ d.al) ∧ (∀ a ∈ c'.al, B a = none ∨ kT H a) ∧ ∀ φ2 : Fi, Rc K B H φ2 c' (grpO n ns s) := by
  have hL : φ.length = s.length := re.len
  have hh : ∀ m ∈ n :: ns, m < s.length ∧ (kpO s m).is = true ∧ inO 0 (n :: ns) (kpO s m) = true := fun m hm => by
    have := List.all_eq_true.mp h m hm
    simp only [Bool.and_eq_true, decide_eq_true_eq] at this
    exact this
  have hlt : ∀ m ∈ n :: ns, m < φ.length := fun m hm => by rw [hL]; exact (hh m hm).1
  obtain ⟨c, hc⟩ : ∃ c, φ[n]? = some c := ⟨_, List.getElem?_eq_getElem (hlt n List.mem_cons_self)⟩
  have es : selF φ (n :: ns) = c :: selF φ ns := by show (φ[n]?).getD (one 0) :: selF φ ns = _; rw [hc]; rfl
  have ea : (⟨c.p, c.io ++ adr (selF φ ns)⟩ : Ce).al = adr (selF φ (n :: ns)) := by rw [es, adr_cons]; rfl
  have src : ∀ a ∈ adr (selF φ (n :: ns)), ∃ m d, m ∈ n :: ns ∧ φ[m]? = some d ∧ a ∈ d.al := fun a ha => by
    obtain ⟨i, d, hi, hd⟩ := adr_of ha
    obtain ⟨m, h1, h2⟩ := selF_inv hlt hi
    exact ⟨m, d, List.mem_of_getElem? h1, h2, hd⟩
  have kp : ∀ m, m < s.length → s[m]? = some (kpO s m) := fun m hm => by unfold kpO; rw [List.getElem?_eq_getElem hm]; rfl
  refine ⟨c, ⟨c.p, c.io ++ adr (selF φ ns)⟩, hc, rfl, by rw [ea]; exact selF_nd hlt nd re.nd, fun a ha => src a (by rw [← ea]; exact ha), fun a ha => ?_, fun φ2 => ?_⟩
  · obtain ⟨m, d, hm, hd, had⟩ := src a (by rw [← ea]; exact ha)
    exact re.fr m d _ hd (kp m (hh m hm).1) (hh m hm).2.1 a had
  · have at_ : ∀ (k : Nat) d o, (selF φ (n :: ns))[k]? = some d → ((n :: ns).map fun m => mvO 0 (n :: ns) (kpO s m))[k]? = some o → ∃ m, m ∈ n :: ns ∧ φ[m]? = some d ∧ o = mvO 0 (n :: ns) (kpO s m) := fun k d o q1 q2 => by
      obtain ⟨m, h1, h2⟩ := selF_inv hlt q1
      rw [List.getElem?_map, h1] at q2
      exact ⟨m, List.mem_of_getElem? h1, h2, (Option.some.inj q2).symm⟩
    refine .box (selF φ (n :: ns)) ea (by rw [selF_len, List.length_map]) (fun k d o q1 q2 => ?_) fun k d o q1 q2 => ?_
    · obtain ⟨m, hm, _, rfl⟩ := at_ k d o q1 q2
      rw [mvO_is]; exact (hh m hm).2.1
    · obtain ⟨m, hm, hd, rfl⟩ := at_ k d o q1 q2
      exact (re.ob m d _ hd (kp m (hh m hm).1)).sub hlt (hh m hm).2.2
def shS (L n : Nat) (ns : List Nat) (s : ST) : ST := (s.take L).set n (grpO n ns s)
theorem Re.shut (re : Re K M H B φ s) (g : Gr H0 B0 φ0 H B φ) (e0 : Re K M H0 B0 φ0 s0) {L n : Nat} {ns : List Nat} (hk : φ0.length ≤ L) (hl : L ≤ s.length) (h : shOk L n ns s = true) :
    ∃ φ', Gr H0 B0 φ0 H B φ' ∧ Re K M H B φ' (shS L n ns s) ∧ ∀ v x, Rs K B φ v x → loV L x = true → Rs K B φ' v x := by
  unfold shOk at h
  simp only [Bool.and_eq_true, decide_eq_true_eq] at h
  obtain ⟨⟨⟨h1, h2⟩, nd⟩, hg, h4⟩ := h
  have h2 : ∀ m ∈ ns, L ≤ m := fun m hm => of_decide_eq_true (List.all_eq_true.mp h2 m hm)
  have h4 : ∀ i, i < L → i ≠ n → clO L (kpO s i) = true := fun i hi hn => by
    have := List.all_eq_true.mp h4 i (List.mem_range.mpr hi)
    rw [decide_eq_false hn, Bool.false_or] at this
    exact this
  have hL : φ.length = s.length := re.len
  obtain ⟨c, c', hc, hp, n1, n2, n3, n4⟩ := grp_ce re nd hg
  have kp : ∀ m, m < s.length → s[m]? = some (kpO s m) := fun m hm => by unfold kpO; rw [List.getElem?_eq_getElem hm]; rfl
  have ltk : (φ.take L).length = L := by rw [List.length_take]; omega
  have sltk : (s.take L).length = L := by rw [List.length_take]; omega
  have at1 : ∀ i d, ((φ.take L).set n c')[i]? = some d → (i = n ∧ d = c') ∨ (i ≠ n ∧ i < L ∧ φ[i]? = some d) := fun i d hi => by
    by_cases e : n = i
    · subst e
      rw [List.getElem?_set_self (by omega)] at hi
      exact .inl ⟨rfl, (Option.some.inj hi).symm⟩
    · rw [List.getElem?_set_ne e] at hi
      have hil := (List.getElem?_eq_some_iff.mp hi).1
      rw [List.getElem?_take_of_lt (by omega)] at hi
      exact .inr ⟨fun z => e z.symm, by omega, hi⟩
  have at2 : ∀ i p, i < L → φ.r i = some p → Fi.r ((φ.take L).set n c') i = some p := fun i p hi hr => by
    obtain ⟨d, h5, rfl⟩ := Fi.r_inv hr
    by_cases e : n = i
    · subst e
      rw [hc] at h5
      cases h5
      rw [← hp]
      exact Fi.r_of (List.getElem?_set_self (by omega))
    · exact Fi.r_of (by rw [List.getElem?_set_ne e, List.getElem?_take_of_lt hi]; exact h5)
  have mem : ∀ a ∈ adr ((φ.take L).set n c'), ∃ (m : Nat) (d : Ce), φ[m]? = some d ∧ a ∈ d.al := fun a ha => by
    obtain ⟨i, d, hi, hd⟩ := adr_of ha
    rcases at1 i d hi with ⟨_, rfl⟩ | ⟨_, _, h5⟩
    · obtain ⟨m, d2, _, h6, h7⟩ := n2 a hd
      exact ⟨m, d2, h6, h7⟩
    · exact ⟨i, d, h5, hd⟩
  have g2 : Gr H0 B0 φ0 H B ((φ.take L).set n c') := by
    refine ⟨g.eb, ?_, g.kp, g.nb, fun a ha => ?_⟩
    · obtain ⟨r, er⟩ := g.pf
      refine ⟨r.take (L - φ0.length), ?_⟩
      have e1 : ((φ.take L).set n c').map Ce.p = (φ.take L).map Ce.p := by
        refine List.ext_getElem? fun i => ?_
        rw [List.getElem?_map, List.getElem?_map]
        by_cases e : n = i
        · subst e
          rw [List.getElem?_set_self (by omega), List.getElem?_take_of_lt h1, hc]
          exact congrArg some hp
        · rw [List.getElem?_set_ne e]
      rw [e1, List.map_take, er, List.take_append, List.length_map]
      rw [List.take_of_length_le (by rw [List.length_map]; exact hk)]
    · obtain ⟨m, d, h5, h6⟩ := mem a ha
      exact g.nf a (adr_mem h5 h6)
  have low : ∀ o u, clO L o = true → Ro K B φ o u → Ro K B ((φ.take L).set n c') o u := fun o u ho hr => (hr.low ho).mo ⟨Ex.refl B, fun m p hm => by
    obtain ⟨d, h5, rfl⟩ := Fi.r_inv hm
    have hil := (List.getElem?_eq_some_iff.mp h5).1
    rw [List.getElem?_take_of_lt (by omega)] at h5
    exact at2 m d.p (by omega) (Fi.r_of h5)⟩
  have sat : ∀ i o, (shS L n ns s)[i]? = some o → (i = n ∧ o = grpO n ns s) ∨ (i ≠ n ∧ i < L ∧ s[i]? = some o) := fun i o hi => by
    unfold shS at hi
    by_cases e : n = i
    · subst e
      rw [List.getElem?_set_self (by omega)] at hi
      exact .inl ⟨rfl, (Option.some.inj hi).symm⟩
    · rw [List.getElem?_set_ne e] at hi
      have hil := (List.getElem?_eq_some_iff.mp hi).1
      rw [List.getElem?_take_of_lt (by omega)] at hi
      exact .inr ⟨fun z => e z.symm, by omega, hi⟩
  refine ⟨_, g2, ⟨re.ex, ?_, ?_, fun a ha => ?_, fun i d o e1 e2 e3 a ha => ?_, fun i d o e1 e2 => ?_, fun H3 B3 φ3 g3 => e0.pm _ _ _ (g2.trans g3)⟩, fun v x hx hl2 => ?_⟩
  · refine adr_nd_of (fun i d hd => ?_) fun i j d e a q1 q2 q3 q4 => ?_
    · rcases at1 i d hd with ⟨_, rfl⟩ | ⟨_, _, h5⟩
      · exact n1
      · exact ce_nd re.nd h5
    · rcases at1 i d q1 with ⟨rfl, rfl⟩ | ⟨i1, i2, i3⟩ <;> rcases at1 j e q2 with ⟨rfl, rfl⟩ | ⟨j1, j2, j3⟩
      · rfl
      · obtain ⟨m, d2, hm, h6, h7⟩ := n2 a q3
        have := adr_nd re.nd h6 j3 h7 q4
        subst this
        rcases List.mem_cons.mp hm with rfl | hm
        · exact absurd rfl j1
        · have := h2 _ hm; omega
      · obtain ⟨m, d2, hm, h6, h7⟩ := n2 a q4
        have := adr_nd re.nd h6 i3 h7 q3
        subst this
        rcases List.mem_cons.mp hm with rfl | hm
        · exact absurd rfl i1
        · have := h2 _ hm; omega
      · exact adr_nd re.nd i3 j3 q3 q4
  · unfold shS
    rw [List.length_set, List.length_set, ltk, sltk]
  · obtain ⟨m, d, h5, h6⟩ := mem a ha
    exact re.al a (adr_mem h5 h6)
  · rcases at1 i d e1 with ⟨rfl, rfl⟩ | ⟨i1, i2, i3⟩
    · exact n3 a ha
    · rcases sat i o e2 with ⟨j1, _⟩ | ⟨_, _, j3⟩
      · exact absurd j1 i1
      · exact re.fr i d o i3 j3 e3 a ha
  · rcases at1 i d e1 with ⟨rfl, rfl⟩ | ⟨i1, i2, i3⟩
    · rcases sat i o e2 with ⟨_, rfl⟩ | ⟨j1, _, _⟩
      · exact n4 _
      · exact absurd rfl j1
    · rcases sat i o e2 with ⟨j1, _⟩ | ⟨_, _, j3⟩
      · exact absurd j1 i1
      · have ho : o = kpO s i := by have := kp i (by omega); rw [j3] at this; exact Option.some.inj this
        exact (re.ob i d o i3 j3).re fun u hr => low o u (by rw [ho]; exact h4 i i2 i1) hr
  · cases x with
    | d t => exact hx
    | l m =>
      obtain ⟨p, h5, h6⟩ := hx
      exact ⟨p, at2 m p (of_decide_eq_true hl2) h5, h6⟩
def bxS (L n : Nat) (ns : List Nat) (s : ST) : ST := s.take L ++ [grpO n ns s]
theorem Re.bx (re : Re K M H B φ s) (g : Gr H0 B0 φ0 H B φ) (e0 : Re K M H0 B0 φ0 s0) {L n : Nat} {ns : List Nat} (hk : φ0.length ≤ L) (hl : L ≤ s.length) (h : bxOk L n ns s = true) :
    ∃ φ', Gr H0 B0 φ0 H B φ' ∧ Re K M H B φ' (bxS L n ns s) ∧ ∀ v, Rs K B φ v (.l n) → Rs K B φ' v (.l L) := by
  unfold bxOk at h
  simp only [Bool.and_eq_true, decide_eq_true_eq] at h
  obtain ⟨⟨h2, nd⟩, hg, h4⟩ := h
  have h2 : ∀ m ∈ n :: ns, L ≤ m := fun m hm => of_decide_eq_true (List.all_eq_true.mp h2 m hm)
  have hL : φ.length = s.length := re.len
  obtain ⟨c, c', hc, hp, n1, n2, n3, n4⟩ := grp_ce re nd hg
  obtain ⟨g1, re1⟩ := re.take g e0 hk (by omega) h4
  have ltk : (φ.take L).length = L := by rw [List.length_take]; omega
  have sltk : (s.take L).length = L := by rw [List.length_take]; omega
  have out : ∀ a ∈ c'.al, a ∉ adr (φ.take L) := fun a ha z => by
    obtain ⟨m, d, hm, h6, h7⟩ := n2 a ha
    exact adr_take_out re.nd h6 h7 (h2 m hm) z
  have nf : ∀ a ∈ c'.al, a ∈ adr φ0 ∨ H0 a = none := fun a ha => by
    obtain ⟨m, d, hm, h6, h7⟩ := n2 a ha
    exact g.nf a (adr_mem h6 h7)
  have al : ∀ a ∈ c'.al, H a ≠ none := fun a ha => by
    obtain ⟨m, d, hm, h6, h7⟩ := n2 a ha
    exact re.al a (adr_mem h6 h7)
  have g2 : Gr H0 B0 φ0 H B (φ.take L ++ [c']) := by
    refine ⟨g1.eb, ?_, g1.kp, g1.nb, fun a ha => ?_⟩
    · obtain ⟨r, er⟩ := g1.pf
      exact ⟨r ++ [c'.p], by rw [List.map_append, er, List.append_assoc]; rfl⟩
    · rw [adr_app] at ha
      rcases List.mem_append.mp ha with ha | ha
      · exact g1.nf a ha
      · exact nf a (by rw [adr_cons] at ha; have : a ∈ c'.al ++ [] := ha; rwa [List.append_nil] at this)
  have ec : adr [c'] = c'.al := by rw [adr_cons]; show c'.al ++ [] = _; rw [List.append_nil]
  have mo : Mo B (φ.take L) B (φ.take L ++ [c']) := ⟨Ex.refl B, fun m p hm => r_app [c'] hm⟩
  refine ⟨_, g2, ⟨re.ex, ?_, ?_, fun a ha => ?_, fun i d o e1 e2 e3 a ha => ?_, fun i d o e1 e2 => ?_, fun H3 B3 φ3 g3 => e0.pm _ _ _ (g2.trans g3)⟩, fun v hv => ?_⟩
  · rw [adr_app, ec]
    exact List.nodup_append.mpr ⟨re1.nd, n1, fun a ha b hb e => out b hb (by rw [← e]; exact ha)⟩
  · unfold bxS
    rw [List.length_append, List.length_append, ltk, sltk]; rfl
  · rw [adr_app, ec] at ha
    rcases List.mem_append.mp ha with ha | ha
    · exact re1.al a ha
    · exact al a ha
  · by_cases hi : i < L
    · unfold bxS at e2
      rw [List.getElem?_append_left (by omega)] at e1 e2
      exact re1.fr i d o e1 e2 e3 a ha
    · have hil := (List.getElem?_eq_some_iff.mp e1).1
      rw [List.length_append, ltk, List.length_singleton] at hil
      have hiL : i = L := by omega
      subst hiL
      rw [List.getElem?_append_right (by omega), ltk, Nat.sub_self] at e1
      have e1 : some c' = some d := e1
      cases e1
      exact n3 a ha
  · by_cases hi : i < L
    · unfold bxS at e2
      rw [List.getElem?_append_left (by omega)] at e1 e2
      exact (re1.ob i d o e1 e2).re fun u hr => hr.mo mo
    · have hil := (List.getElem?_eq_some_iff.mp e1).1
      rw [List.length_append, ltk, List.length_singleton] at hil
      have hiL : i = L := by omega
      subst hiL
      unfold bxS at e2
      rw [List.getElem?_append_right (by omega), ltk, Nat.sub_self] at e1
      rw [List.getElem?_append_right (by omega), sltk, Nat.sub_self] at e2
      have e1 : some c' = some d := e1
      have e2 : some (grpO n ns s) = some o := e2
      cases e1
      cases e2
      exact n4 _
  · obtain ⟨p, h5, h6⟩ := hv
    obtain ⟨d, h7, rfl⟩ := Fi.r_inv h5
    rw [hc] at h7
    cases h7
    refine ⟨c.p, ?_, h6⟩
    rw [← hp]
    exact Fi.r_of (by rw [List.getElem?_append_right (by omega), ltk, Nat.sub_self]; rfl)
end
/-- behind an expression: the box is shut again; what else was made is forgotten -/
def shutC (L n : Nat) (Q : SV → ST → Prop) : SV → ST → Prop := fun x s2 => ∃ ns : List Nat, L ≤ s2.length ∧ shOk L n ns s2 = true ∧ loV L x = true ∧ Q x (shS L n ns s2)
def aOpn (va : ATE) : ATE := fun δ s Q => ∃ n o0 r, s[n]? = some (.box (o0 :: r)) ∧ va δ (opnS s n (o0 :: r)) (shutC s.length n Q)
/-- what an expression makes becomes a box -/
def boxC (L : Nat) (Q : SV → ST → Prop) : SV → ST → Prop := fun x s2 => ∃ (n : Nat) (ns : List Nat), x = .l n ∧ L ≤ s2.length ∧ bxOk L n ns s2 = true ∧ Q (.l L) (bxS L n ns s2)
def aBx (va : ATE) : ATE := fun δ s Q => va δ s (boxC s.length Q)
section
variable {X : Cx} {M : MP} {e : Expr} {va : ATE}
end
end Lv

/-! Ldf: dicts by tuples from pairs: d.update(pairs), dict(pairs); dict(pairs) by texts. -/
namespace Lv
open PySem PySem.Spec PyProof.Rows L2 LvI
section
variable {X : Cx} {pins : List (Addr × Obj)} {σ : L2.St} {H : Hp} {s : Shared}
theorem KT.len {H : Hp} {kvs : List (List Key × V)} {xs : List (List Key × Addr × Value)} (r : KT H kvs xs) : kvs.length = xs.length := Paired.length r
theorem KT.keys {P : Program} {w : World} {H : Hp} {h : Heap} (ok : HOk P w H h) : ∀ {kvs : List (List Key × V)} {xs : List (List Key × Addr × Value)}, KT H kvs xs → ∀ x ∈ xs, H x.2.1 = some (.tup (x.1.map kV))
  | _, _, .nil, x, hx => by cases hx
  | _, _, .cons hp r, x, hx => by
    rcases List.mem_cons.mp hx with rfl | hx
    · rw [← hp.1]; exact hp.2.1
    · exact KT.keys ok r x hx
end
/-! ### over data -/
def putsD {κ : Type} [DecidableEq κ] (kvs ps : List (κ × T)) : List (κ × T) := ps.foldl (fun acc kv => putD acc kv.1 kv.2) kvs
/-- pairs as data: keys that are tuples -/
def prT : List T → Option (List (List Key × T))
  | [] => some []
  | .tup [.tup us, t] :: r => (tksT us).bind fun k => if anyI k = true then (prT r).map ((k, t) :: ·) else none
  | _ => none
/-- keys that are numbers or texts -/
def prK : List T → Option (List (Key × T))
  | [] => some []
  | .tup [u, t] :: r => (keyT u).bind fun k => (prK r).map ((k, t) :: ·)
  | _ => none
section
variable {K : Fr} {M : MP} {H B : Hp} {φ : Fi} {s : ST}
end
/-- d.update(pairs) -/
def updTG (x : SV) (xs : List SV) (s : ST) (Q : SV → ST → Prop) : Prop := match x, xs with
  | .l n, [y] => ∃ kvs ts ps, s[n]? = some (.dT kvs) ∧ lsV s y = some ts ∧ prT ts = some ps ∧ kvs.length + ps.length ≤ sizeLine ∧ Q (.d .non) (s.set n (.dT (putsD kvs ps)))
  | _, _ => False
/-- dict(pairs) -/
def dctTG : ARC := fun xs s Q => match xs with
  | [x] => ∃ ts ps, lsV s x = some ts ∧ prT ts = some ps ∧ Q (.l s.length) (s ++ [.dT (putsD [] ps)])
  | _ => False
def dctKG : ARC := fun xs s Q => match xs with
  | [x] => ∃ ts ps, lsV s x = some ts ∧ prK ts = some ps ∧ Q (.l s.length) (s ++ [.dK (putsD [] ps)])
  | _ => False
section
variable {X : Cx} {M : MP} {e o : Expr} {p apos pos : Pos} {t : ATA} {vo : ATE}
end
end Lv

/-! Ldg: d.update(d2) of dicts with places; text.index(text). -/
namespace Lv
open PySem PySem.Spec PyProof.Rows L2 LvI
def putsS {κ : Type} [DecidableEq κ] (kvs ps : List (κ × SV)) : List (κ × SV) := ps.foldl (fun acc kv => putS acc kv.1 kv.2) kvs
theorem putsS_nil {κ : Type} [DecidableEq κ] (kvs : List (κ × SV)) : putsS kvs [] = kvs := rfl
theorem putsS_cons {κ : Type} [DecidableEq κ] (kvs : List (κ × SV)) (p : κ × SV) (r : List (κ × SV)) : putsS kvs (p :: r) = putsS (putS kvs p.1 p.2) r := rfl
def updKG (x : SV) (xs : List SV) (s : ST) (Q : SV → ST → Prop) : Prop := match x, xs with
  | .l n, [.l m] => ∃ kvs more, n ≠ m ∧ s[n]? = some (.mK kvs) ∧ s[m]? = some (.mK more) ∧ kvs.length + more.length ≤ sizeLine ∧ Q (.d .non) (s.set n (.mK (putsS kvs more)))
  | _, _ => False
/-- a text's first place in a text -/
def sidxG : ARM := fun x xs s Q => match x, xs with
  | .d (.str a), [.d (.str b)] => ∃ i rest, Builtin.Str.occurrences a b 0 a.length 1 = i :: rest ∧ Q (.d (.int (i : Nat))) s
  | _, _ => False
section
variable {X : Cx} {M : MP} {e o : Expr} {p apos pos : Pos} {t : ATA} {vo : ATE}
end
end Lv

/-! Ldh: an expression as a statement, what was made on the way stays. -/
namespace Lv
open PySem PySem.Spec PyProof.Rows L2 LvI
section
variable {X : Cx} {M : MP} {e : Expr} {pos : Pos} {va : ATE}
def pDropA (t : ATE) : ATS := fun A δ s => t δ s fun _ s1 => A.nx δ s1
end
end Lv

/-! Ldi: sorted(a dict by texts). -/
namespace Lv
open PySem L2 PySem.Spec PyProof.Rows LvI
section
variable {K : Fr} {M : MP} {X : Cx} {e : Expr} {pos : Pos}
def sortSG : ARC := fun xs s Q => match xs with
  | [x] => ∃ (kvs : List (Key × SV)) (ks : List Str), dkS s x = some kvs ∧ kvs.map (·.1) = ks.map Sum.inr ∧ ks.length < 64 ∧ ∀ ys : List Str, ys.Perm ks → sortedS ys = true → Q (.l s.length) (s ++ [.lst (ys.map T.str)])
  | _ => False
end
end Lv

/-! Ldj: a dict of lists (a pool): a list put in, a list of it read, an item of it written. -/
namespace Lv
open PySem PySem.Spec PyProof.Rows L2 LvI
section
variable {X : Cx} {M : MP} {e o i k f value a b : Expr} {es : List Expr} {pos pos' apos tpos : Pos} {va vb vo vi vk tv : ATE}
/-- a fresh list of data is put into a pool's dict under a new key -/
def dputL (k : Nat) (x y z : SV) (s : ST) (C : ST → Prop) : Prop := match x, y with
  | .l n, .d t => ∃ kvs rs key us, n < k ∧ s[n]? = some (.pool (.dK kvs) rs) ∧ keyT t = some key ∧ (kvs.any fun kv => decide (kv.1 = key)) = false ∧ kvs.length < sizeLine ∧ freshP k z s (.lst us) ∧
    ∀ a, C ((s.take k).set n (.pool (.dK (kvs ++ [(key, .ref a)])) (rs ++ [(a, .lst us)])))
  | _, _ => False
def pDPutL (to ti tv : ATE) : ATS := fun A δ s => tv δ s fun z s1 => to δ s1 fun x s2 => ti δ s2 fun y s3 => dputL s.length x y z s3 fun s4 => A.nx δ s4
/-- x[i] = data, x a list of a pool -/
def setRG (o i x : SV) (s : ST) (Q : ST → Prop) : Prop := match o, i, x with
  | .d (.ref a), .d (.int k), .d t => ∃ (n j : Nat), (match s[n]? with
    | some (.pool o rs) => (match rs[j]? with
      | some (b, .lst us) => b = a ∧ ∃ m, ixN us.length k = some m ∧ Q (s.set n (.pool o (rs.set j (b, .lst (us.set m t)))))
      | _ => False)
    | _ => False)
  | _, _, _ => False
def aSetR (vo vi : ATE) : ATG := fun x δ s Q => vo δ s fun o s1 => vi δ s1 fun i s2 => setRG o i x s2 fun s3 => Q δ s3
end
end Lv

/-! Ldk: sorted(a dict by tuples). -/
namespace Lv
open PySem L2 PySem.Spec PyProof.Rows LvI
def kD (k : List Key) : PyData := .tuple (k.map fun x => match x with | .inl i => .int i | .inr z => .str z)
section
variable {K : Fr} {M : MP} {H B : Hp} {φ : Fi} {s : ST}
/-- sorted(d), d by tuples -/
def sortTG : ARC := fun xs s Q => match xs with
  | [x] => ∃ kvs : List (List Key × SV), dtS s x = some kvs ∧ PySem.W.AllAlike (kvs.map fun kv => kD kv.1) ∧ PySem.W.Sortable (kvs.map fun kv => kD kv.1) ∧ (∀ kv ∈ kvs, (kD kv.1).depth ≤ 60) ∧
    ∀ ks : List (List Key), ks.Perm (kvs.map (·.1)) → Q (.l s.length) (s ++ [.lst (ks.map fun k => T.tup (k.map kyT))])
  | _ => False
end
section
variable {X : Cx} {M : MP} {e : Expr} {pos : Pos}
end
end Lv

/-! Ldl: a slice of a tuple of one's own; a box opened, what is made kept. -/
namespace Lv
open PySem L2 PySem.Spec PyProof.Rows LvI
/-- a slice, not the whole, of a tuple of one's own, of data -/
def slTG : SV → Option Int → Option Int → ST → (SV → ST → Prop) → Prop := fun x lo hi s Q => match x with
  | .d (.tup ts) => Q (.d (.tup (cut ts lo hi))) s
  | .l n => ∃ (xs : List SV) (ts : List T), s[n]? = some (.tp xs) ∧ cut xs lo hi = ts.map SV.d ∧ HT.sIx xs.length xs.length hi < xs.length ∧ Q (.d (.tup ts)) s
  | _ => False
section
variable {X : Cx} {M : MP} {e : Expr} {pos : Pos} {va : ATE} {lo hi : Option Expr} {p2 : Pos} {tl th : ATO}
def aSlT (t : ATE) (tl th : ATO) : ATE := fun δ s Q => t δ s fun x s1 => tl δ s1 fun l s2 => th δ s2 fun u s3 => slTG x l u s3 Q
end
/-- a box opened for an expression; what the expression makes may be kept, in front of the box's things, and the box is shut -/
def aOpnK (va : ATE) : ATE := fun δ s Q => ∃ n o0 r, s[n]? = some (.box (o0 :: r)) ∧ va δ (opnS s n (o0 :: r)) (keepC s.length fun x s2 => ∃ L, s.length ≤ L ∧ shutC L n Q x s2)
section
variable {X : Cx} {M : MP} {e : Expr} {va : ATE}
end
end Lv

/-! Lw4: sorted(set(a list of tuples of whole numbers)), the list of any length, few unlike ones. -/
namespace Lv
open PySem L2 PySem.Spec PyProof.Rows
section
variable {P : Program} {w : World} {A : Around} {E : Value → Shared → Prop} {s : Shared}
end
section
variable {X : Cx} {M : MP} {e : Expr} {pos : Pos} {va : ATE}
end
end Lv

/-! Ldm: sorted(set(a list of texts)), the list of any length, few unlike ones. -/
namespace Lv
open PySem L2 PySem.Spec PyProof.Rows LvI
def txtK : Int × Value → Str
  | (_, .str k _) => k
  | _ => ""
/-- an entry of a set of texts -/
def TxtE (w : World) (e : Int × Value) : Prop := ∃ k tk, e = (hashStr w k, Value.str k tk)
theorem TxtE.key {w : World} {k : Str} {tk : Tok} : txtK (hashStr w k, Value.str k tk) = k := rfl
/-- a set of texts: what it has, in which order it is laid, as far as its walk wants it -/
def SetS (w : World) (h : Heap) (a : Addr) (S : List Str) : Prop :=
  ∃ o es ep t, h.get? a = some o ∧ o.ExactSet ∧ o.data = .set es ep t ∧ (∀ e ∈ es.toList, TxtE w e) ∧ (es.toList.map txtK).Nodup ∧ (∀ k, k ∈ S ↔ k ∈ es.toList.map txtK) ∧
    es.size < scanBound ∧ t.fits es.size = true ∧ Ris t.place.toList ∧ (w.params.followText "set-order" = true ∨ t.led = true)
theorem SetS.at {w : World} {h h' : Heap} {a : Addr} {S : List Str} (R : SetS w h a S) (k : ∀ o, h.get? a = some o → h'.get? a = some o) : SetS w h' a S := by
  obtain ⟨o, es, ep, t, ho, r⟩ := R
  exact ⟨o, es, ep, t, k o ho, r⟩
theorem SetS.congr {w : World} {h : Heap} {a : Addr} {S S' : List Str} (R : SetS w h a S) (e : ∀ k, k ∈ S' ↔ k ∈ S) : SetS w h a S' := by
  obtain ⟨o, es, ep, t, h1, h2, h3, h4, h5, h6, r⟩ := R
  exact ⟨o, es, ep, t, h1, h2, h3, h4, h5, fun k => (e k).trans (h6 k), r⟩
section
variable {P : Program} {w : World} {A : Around} {E : Value → Shared → Prop} {s : Shared} {a : Addr}

end
section
variable {X : Cx} {M : MP} {e : Expr} {pos : Pos} {va : ATE}
def aSortSetS (t : ATE) : ATE := fun δ s Q => t δ s fun x s1 => ∃ xs D : List Str, lsV s1 x = some (xs.map T.str) ∧ (∀ z ∈ xs, z ∈ D) ∧ D.length < 64 ∧ ∀ ys : List Str, sortedS ys = true → ys.Nodup → (∀ k, k ∈ ys ↔ k ∈ xs) → ys.length < 64 → Q (.l s1.length) (s1 ++ [.lst (ys.map T.str)])
end
end Lv

/-! Ldn: of a dict by tuples: its values walked (locked), a list of its keys. -/
namespace Lv
open PySem PySem.Spec PyProof.Rows L2 LvI
section
variable {P : Program} {w : World} {K : PySem.W.Frag} {d : Addr} {o : Obj} {es : Array DictEntry} {ep : Nat} {tg : Expr}
end
section
variable {X : Cx} {e tg : Expr} {td : TE} {apos cpos : Pos}
end
/-- the values of a locked dict by tuples, data -/
def aValsD (t : ATE) : ATI := fun δ s Q => t δ s fun x s1 => ∃ kvs g, lkT s1 x = some (kvs, g) ∧ Q (kvs.map (·.2)) (grL g) s1
section
variable {X : Cx} {M : MP} {tg e : Expr} {cpos : Pos} {apos : Pos} {va : ATE}
end
/-- list(d), d by tuples -/
def listTG : ARC := fun xs s Q => match xs with
  | [x] => ∃ kvs : List (List Key × SV), dtS s x = some kvs ∧ Q (.l s.length) (s ++ [.lst (kvs.map fun kv => T.tup (kv.1.map kyT))])
  | _ => False
section
variable {K : Fr} {M : MP} {X : Cx} {e : Expr} {pos : Pos}
end
end Lv

/-! Ldo: lists of pools: a fresh list goes into a pool; a pool's list lent for an expression or a statement; data appended to a pool's own list. -/
namespace Lv
open PySem PySem.Spec PyProof.Rows L2 LvI
section
variable {K : Fr} {M : MP} {H B H0 B0 : Hp} {φ φ0 : Lv.Fi} {s s0 : ST}
end
/-! ### lent for an expression -/
def lndQ (m j k : Nat) (a : Addr) (Q : SV → ST → Prop) (_ : Lk Q) : SV → ST → Prop := fun x s2 => ∃ t o rs ts, x = .d t ∧ s2[m]? = some (.pool o rs) ∧ s2[k]? = some (.lst ts) ∧ m < k ∧ (s2.take k).all (clO k) = true ∧ (a ∉ poolA rs → Q (.d t) ((s2.take k).set m (.pool o (rs.take j ++ (a, .lst ts) :: rs.drop j))))
def lndK (i : Nat) (va : ATE) (Q : SV → ST → Prop) (_ : Lk (va, Q)) (δ : AS) (s : ST) : Prop := ∃ (m j : Nat) (a : Addr) (o : LO) (rs : List (Addr × PRec)) (ts : List T), δ[i]? = some (some (.d (.ref a))) ∧ s[m]? = some (.pool o rs) ∧ rs[j]? = some (a, .lst ts) ∧ va (δ.set i (some (.l s.length))) (s.set m (.pool o (rs.eraseIdx j)) ++ [.lst ts]) (lndQ m j s.length a Q .mk)
def aLnd (i : Nat) (va : ATE) : ATE := fun δ s Q => lndK i va Q .mk δ s
section
variable {X : Cx} {M : MP} {e : Expr} {va : ATE} {st : Stmt} {t : ATS}
/-! ### lent for a statement -/
def bkD (k : Nat) (a : Addr) : Option SV → Option SV
  | some (.l n) => if n = k then some (.d (.ref a)) else some (.l n)
  | x => x
def lowD (k : Nat) : Option SV → Bool
  | some (.l n) => decide (n < k)
  | _ => true
def lndN (m j k : Nat) (a : Addr) (Q : AS → ST → Prop) (_ : Lk Q) : AS → ST → Prop := fun δ s2 => ∃ o rs ts, s2[m]? = some (.pool o rs) ∧ s2[k]? = some (.lst ts) ∧ m < k ∧ (s2.take k).all (clO k) = true ∧ (δ.map (bkD k a)).all (lowD k) = true ∧ (a ∉ poolA rs → Q (δ.map (bkD k a)) ((s2.take k).set m (.pool o (rs.take j ++ (a, .lst ts) :: rs.drop j))))
def lndP (i : Nat) (t : ATS) (A : AEnds) (_ : Lk (t, A)) (δ : AS) (s : ST) : Prop := ∃ (m j : Nat) (a : Addr) (o : LO) (rs : List (Addr × PRec)) (ts : List T), δ[i]? = some (some (.d (.ref a))) ∧ s[m]? = some (.pool o rs) ∧ rs[j]? = some (a, .lst ts) ∧
  t { nx := lndN m j s.length a A.nx .mk, rt := lndQ m j s.length a A.rt .mk, bk := lndN m j s.length a A.bk .mk, ct := lndN m j s.length a A.ct .mk } (δ.set i (some (.l s.length))) (s.set m (.pool o (rs.eraseIdx j)) ++ [.lst ts])
def pLnd (i : Nat) (t : ATS) : ATS := fun A δ s => lndP i t A .mk δ s
/-! ### a fresh list goes into a pool -/
def inpQ (k : Nat) (Q : SV → ST → Prop) (_ : Lk Q) : SV → ST → Prop := fun x s1 => ∃ n o rs us, n < k ∧ s1[n]? = some (.pool o rs) ∧ freshP k x s1 (.lst us) ∧ ∀ a, a ∉ poolA rs → Q (.d (.ref a)) ((s1.take k).set n (.pool o (rs ++ [(a, .lst us)])))
theorem inpQ_of {k : Nat} {Q : SV → ST → Prop} {l : Lk Q} {s1 : ST} (n : Nat) {o : LO} {rs : List (Addr × PRec)} {us : List T} (h1 : n < k) (h2 : s1[n]? = some (.pool o rs)) (h3 : s1[k]? = some (.lst us)) (h4 : (s1.take k).all (clO k) = true) (q : ∀ a, a ∉ poolA rs → Q (.d (.ref a)) ((s1.take k).set n (.pool o (rs ++ [(a, .lst us)])))) : inpQ k Q l (.l k) s1 :=
  ⟨n, o, rs, us, h1, h2, ⟨rfl, h4, h3⟩, q⟩
def aInp (va : ATE) : ATE := fun δ s Q => va δ s (inpQ s.length Q .mk)
theorem ae_inp (ha : AE X M e va) : AE X M e (aInp va) := .of ha.pe fun H B φ σ δ s Q re sl q Q' f => uE_lift (t := va) H B φ σ δ s _ re sl q _ fun H1 B1 φ1 s1 v x g1 re1 r1 ⟨n, o, rs, us, hn, hs, hf, q1⟩ => by
  obtain ⟨a, rec, rfl, esh, po, nd, out⟩ := fresh_of re1 r1 hf
  have hlen : s.length ≤ s1.length := by rw [← re.len, ← re1.len]; exact g1.le
  obtain ⟨gt, ret⟩ := re1.take (k := s.length) g1 re (Nat.le_of_eq re.len) (by rw [re1.len]; exact hlen) hf.2.1
  have hst : (s1.take s.length)[n]? = some (.pool o rs) := by rw [List.getElem?_take_of_lt hn]; exact hs
  obtain ⟨c, hc, w1, w2, w3, w4, ndc, hB⟩ := ret.poolAt hst
  obtain ⟨u, hu⟩ := w3.some (smp_is (shl_smp w1))
  have dxe : rec = .lst us := by
    cases rec with
    | ins dx D' fs' => cases esh
    | lst ts => cases esh; rfl
  subst dxe
  obtain ⟨φ4, g4, re4, rt⟩ := ret.growP gt re (o2 := o) (u := u) hst hc w1 (by rw [← hu]; exact w3) po nd fun x hx => ⟨(out x hx).2.1, (out x hx).2.2, (g1.nf x (out x hx).1)⟩
  have eH : upd H1 c.p u = H1 := by
    funext x
    by_cases hx : x = c.p
    · rw [hx, upd_same, hu]
    · rw [upd_ne hx]
  rw [eH] at g4 re4
  refine f _ _ _ _ _ _ g4 re4 (.dat (Fz.ref a)) (q1 a fun z => ?_)
  exact (out a (by simp [PRec.al])).2.1 (adr_mem hc (List.mem_cons_of_mem _ (by rw [w2]; exact z)))
/-- a fresh list of data is a pool from now on -/
def aToP (va : ATE) : ATE := fun δ s Q => va δ s fun x s1 => ∃ n ts, x = .l n ∧ s1[n]? = some (.lst ts) ∧ Q (.l n) (s1.set n (.pool (.lst ts) []))
/-! ### data appended to a pool's own list -/
def appPG : ARM := fun x xs s Q => match x, xs with
  | .l n, [.d t] => ∃ ts rs, s[n]? = some (.pool (.lst ts) rs) ∧ ts.length < sizeLine ∧ Q (.d .non) (s.set n (.pool (.lst (ts ++ [t])) rs))
  | _, _ => False
def isPL (x : SV) (s : ST) : Prop := match x with
  | .l n => (match s[n]? with | some (.pool (.lst _) _) => True | _ => False)
  | _ => False
def aMeP (to : ATE) (t : ATA) : ATE := fun δ s Q => to δ s fun x s1 => isPL x s1 ∧ t δ s1 fun xs s2 => appPG x xs s2 Q
end
end Lv

/-! Ldp: a call to which things that stand in the store, tuples of one's own with places among them too, are handed as data; what comes back is flat, or tuples of such. -/
namespace Lv
open PySem PySem.Spec PyProof.Rows L2 LvI
/-- flat, or a tuple of such -/
def T.fl1 : T → Bool
  | .tup ts => ts.all T.flat
  | t => t.flat
def flatSE : SV → Bool
  | .d t => t.fl1
  | .l _ => true
def flatOE : LO → Bool
  | .lst ts => ts.all T.fl1
  | .tp xs => xs.all flatSE
  | .ll xs => xs.all flatSE
  | _ => false
def SV.isl : SV → Bool
  | .l _ => true
  | _ => false
/-- what may be seen: a tuple only where a place is in it -/
def LO.pvt : LO → Bool
  | .tp xs => xs.any SV.isl
  | o => o.pvl
/-- no address among these -/
def noR (us : List V) : Prop := ∀ p, V.ref p ∉ us
section
variable {K : Fr} {M : MP} {H B B' : Hp} {φ : Lv.Fi} {s : ST}
theorem flat_nr : ∀ {vs : List V} {ts : List T}, FzAll K B vs ts → ts.all T.flat = true → noR vs
  | _, _, .nil, _, p, hp => by cases hp
  | _, _, .cons (v := v) r q, f, p, hp => by
    rw [List.all_cons, Bool.and_eq_true] at f
    rcases List.mem_cons.mp hp with e | hp
    · subst e
      have f1 := f.1
      cases r <;> simp [T.flat] at f1
    · exact flat_nr q f.2 p hp
theorem Fz.fl1B (hb : ∀ (a : Addr) us, noR us → B a = some (.tup us) → B' a = some (.tup us)) {v : V} {t : T} (h : Fz K B v t) (f : t.fl1 = true) : Fz K B' v t := by
  cases t with
  | tup ts =>
    cases h with
    | tup g r => exact .tup (g.elim (fun g => .inl (hb _ _ (flat_nr r f) g)) .inr) (r.flatB f)
  | _ => exact Fz.flatB h f
theorem FzAll.fl1B (hb : ∀ (a : Addr) us, noR us → B a = some (.tup us) → B' a = some (.tup us)) : ∀ {vs : List V} {ts : List T}, FzAll K B vs ts → ts.all T.fl1 = true → FzAll K B' vs ts
  | _, _, .nil, _ => .nil
  | _, _, .cons h r, f => by
    rw [List.all_cons, Bool.and_eq_true] at f
    exact .cons (h.fl1B hb f.1) (r.fl1B hb f.2)
theorem Rs.fl1B (hb : ∀ (a : Addr) us, noR us → B a = some (.tup us) → B' a = some (.tup us)) {v : V} {x : SV} (h : Rs K B φ v x) (f : flatSE x = true) : Rs K B' φ v x := by
  cases x with
  | d t => exact Fz.fl1B hb h f
  | l n => exact h
theorem RsAll.fl1B (hb : ∀ (a : Addr) us, noR us → B a = some (.tup us) → B' a = some (.tup us)) : ∀ {vs : List V} {xs : List SV}, RsAll K B φ vs xs → xs.all flatSE = true → RsAll K B' φ vs xs
  | _, _, .nil, _ => .nil
  | _, _, .cons h r, f => by
    rw [List.all_cons, Bool.and_eq_true] at f
    exact .cons (h.fl1B hb f.1) (r.fl1B hb f.2)
theorem ro_fl1B (hb : ∀ (a : Addr) (us : List V), noR us → B a = some (.tup us) → B' a = some (.tup us)) {o : LO} {u : Option HO} (h : Ro K B φ o u) (f : flatOE o = true) : Ro K B' φ o u := by
  cases o with
  | lst ts => obtain ⟨vs, h1, h2⟩ := h; exact ⟨vs, h1.fl1B hb f, h2⟩
  | tp xs => obtain ⟨vs, h1, h2⟩ := h; exact ⟨vs, h1.fl1B hb f, h2⟩
  | ll xs => obtain ⟨vs, h1, h2⟩ := h; exact ⟨vs, h1.fl1B hb f, h2⟩
  | _ => cases f
theorem RsAll.hasR : ∀ {vs : List V} {xs : List SV}, RsAll K B φ vs xs → xs.any SV.isl = true → ∃ p, V.ref p ∈ vs
  | _, _, .nil, h => by cases h
  | _, x :: xs, .cons (v := v) r q, h => by
    cases x with
    | l n => obtain ⟨p, _, rfl⟩ := r; exact ⟨p, List.mem_cons_self⟩
    | d t =>
      obtain ⟨p, hp⟩ := q.hasR (show xs.any SV.isl = true by rw [List.any_cons] at h; exact h)
      exact ⟨p, List.mem_cons_of_mem _ hp⟩
end
def callVF (sp : ASp) (Q : SV → ST → Prop) (_ : Lk Q) (xs : List SV) (s : ST) : Prop := ∃ (vw : List Nat) (ys : List SV), (vw.all fun n => decide (n < s.length)) = true ∧ viewX vw s xs = some ys ∧ ((argL ys).all fun n => !vw.contains n) = true ∧
  ((argL ys).all fun n => match s[n]? with | some o => simO o | none => false) = true ∧ (vw.all fun n => (kpO s n).pvt) = true ∧
    sp (ys.map (toC (argL ys))) ((argL ys).map fun n => (s[n]?).getD .gone) fun r s2 => (s2.all flatOE = true ∧ flatSE r = true) ∧ Q (ren (argL ys) s.length r) (putAll s (argL ys) (s2.map (renO (argL ys) s.length)) ++ (s2.drop (argL ys).length).map (renO (argL ys) s.length))
theorem callVF_of {sp : ASp} {Q : SV → ST → Prop} {l : Lk Q} {xs : List SV} {s : ST} (vw : List Nat) (ys : List SV) (ns : List Nat) (h1 : (vw.all fun n => decide (n < s.length)) = true) (h2 : viewX vw s xs = some ys) (e : argL ys = ns) (h3 : (ns.all fun n => !vw.contains n) = true)
    (h4 : (ns.all fun n => match s[n]? with | some o => simO o | none => false) = true) (h5 : (vw.all fun n => (kpO s n).pvt) = true)
    (h6 : sp (ys.map (toC ns)) (ns.map fun n => (s[n]?).getD .gone) fun r s2 => (s2.all flatOE = true ∧ flatSE r = true) ∧ Q (ren ns s.length r) (putAll s ns (s2.map (renO ns s.length)) ++ (s2.drop ns.length).map (renO ns s.length))) : callVF sp Q l xs s := by
  subst e; exact ⟨vw, ys, h1, h2, h3, h4, h5, h6⟩
theorem lift_fnXF {K : Fr} {M : MP} {H B : Hp} {φ : Fi} {s : ST} {vs : List V} {xs : List SV} {Q : SV → ST → Prop} {Q' : VK} {E : XK} {sp : ASp} {l : Lk Q} (re : Re K M H B φ s) (r : RsAll K B φ vs xs) (h : callVF sp Q l xs s) (f : FinE K M H B φ Q Q') : toSp K sp vs H Q' E := by
  obtain ⟨vw, ys, hvw, hv, hdis, h1, hpv, h2⟩ := h
  have hL := re.len
  have hvl : ∀ n ∈ vw, n < s.length := fun n hn => of_decide_eq_true (List.all_eq_true.mp hvw n hn)
  have hvφ : ∀ n ∈ vw, n < φ.length := fun n hn => by rw [hL]; exact hvl n hn
  have atW : ∀ {n : Nat} {c : Ce}, n ∈ vw → φ[n]? = some c → ∀ a ∈ c.al, a ∈ adr (selF φ vw) := fun hn hc a ha => by
    obtain ⟨k, hk⟩ := List.getElem?_of_mem hn
    exact adr_mem (n := k) (by rw [selF_at hvφ hk]; exact hc) ha
  have rys : RsAll K (thaw (adr (selF φ vw)) H B) φ vs ys := by
    clear h2 hdis h1
    have deep : ∀ {v x t}, Rs K B φ v x → deepF (fun m => vw.contains m) 9 s x = some t → Fz K (thaw (adr (selF φ vw)) H B) v t := fun rx e => deep_fz 9 (thaw_ex re.ex) (fun m c o hm q1 q2 => ⟨re.ob m c o q1 q2, fun a ha => thaw_in (atW (List.contains_iff_mem.mp hm) q1 a ha)⟩) hL rx e
    induction r generalizing ys with
    | nil => cases hv; exact .nil
    | @cons v vs x xs r1 r2 ih =>
      have plain : ∀ (hm : (viewX vw s xs).map (x :: ·) = some ys), RsAll K (thaw (adr (selF φ vw)) H B) φ (v :: vs) ys := fun hm => by
        obtain ⟨zs, e, rfl⟩ := Option.map_eq_some_iff.mp hm
        exact .cons (r1.mo ⟨thaw_ex re.ex, fun _ _ h => h⟩) (ih zs e)
      cases x with
      | d t => exact plain hv
      | l n =>
        have hv : (if vw.contains n then (match deepF (fun m => vw.contains m) 9 s (.l n) with
          | some t => (viewX vw s xs).map (SV.d t :: ·)
          | none => none) else (viewX vw s xs).map (SV.l n :: ·)) = some ys := hv
        by_cases hn : vw.contains n = true
        · rw [if_pos hn] at hv
          cases hd : deepF (fun m => vw.contains m) 9 s (.l n) with
          | none => rw [hd] at hv; cases hv
          | some t =>
            rw [hd] at hv
            obtain ⟨zs, e, rfl⟩ := Option.map_eq_some_iff.mp (show (viewX vw s xs).map (SV.d t :: ·) = some ys from hv)
            exact .cons (show Fz K _ v t from deep r1 hd) (ih zs e)
        · rw [if_neg hn] at hv
          exact plain hv
  refine lift_view (vw := vw) (good := fun r s2 => s2.all flatOE = true ∧ flatSE r = true) re rfl hvl (fun n hn z => ?_) h1 rys h2 (fun H' B' φ' s' v x e1 e2 gd => ?_) f
  · have := List.all_eq_true.mp hdis n hn
    simp [z] at this
  · have nW : ∀ a ∈ adr (selF φ vw), ∀ xs, noR xs → B' a ≠ some (.tup xs) := fun a ha xs hnr => by
      obtain ⟨k, c, k1, k2⟩ := adr_of ha
      obtain ⟨n, n1, n2⟩ := selF_inv hvφ k1
      have hm := List.mem_of_getElem? n1
      have es : s[n]? = some (kpO s n) := by unfold kpO; rw [List.getElem?_eq_getElem (hvl n hm)]; rfl
      have hal := re.al a (adr_mem n2 k2)
      have hpt := List.all_eq_true.mp hpv n hm
      have hH : H a ≠ some (.tup xs) := by
        by_cases ht : ∃ ys, kpO s n = .tp ys
        · obtain ⟨ys, ht⟩ := ht
          rw [ht] at es hpt
          obtain ⟨p, hp2, us, f1, e⟩ := re.at_ es
          rw [n2] at hp2
          cases hp2
          have : a = p := by simpa [Ce.al] using k2
          rw [this, e]
          intro z
          cases z
          obtain ⟨q, hq⟩ := f1.hasR hpt
          exact hnr q hq
        · have hpt : (kpO s n).pvl = true := by
            cases ho : kpO s n with
            | tp ys => exact absurd ⟨ys, ho⟩ ht
            | _ => rw [ho] at hpt; exact hpt
          rcases pvl_cases hpt with hp | ⟨ts, hp⟩ | ⟨o', rs, hp, hdc⟩
          · exact ((re.ob n c _ n2 es).pv hp a k2 xs).2
          · rw [hp] at es
            obtain ⟨p, hp2, us, _, e⟩ := re.at_ es
            rw [n2] at hp2
            cases hp2
            have : a = p := by simpa [Ce.al] using k2
            rw [this, e]; nofun
          · rw [hp] at es
            cases re.ob n c _ n2 es with
            | sim w => cases w
            | pool w1 w2 w3 w4 =>
              unfold Ce.al at k2
              rw [w2] at k2
              rcases List.mem_cons.mp k2 with rfl | ha
              · cases o' with
                | lst _ => obtain ⟨x, _, e⟩ := w3; rw [e]; nofun
                | dK _ => obtain ⟨x, _, e⟩ := w3; rw [e]; nofun
                | dT _ => obtain ⟨x, _, e⟩ := w3; rw [e]; nofun
                | lK _ _ _ => obtain ⟨_, e⟩ := w3; rw [e]; nofun
                | lT _ _ _ => obtain ⟨_, e⟩ := w3; rw [e]; nofun
                | _ => exact absurd hdc (by simp [LO.shl])
              · obtain ⟨r, hr, hx⟩ := List.mem_flatMap.mp ha
                obtain ⟨u, e, hu⟩ := (w4 r hr).al_nt a hx
                rw [e]
                exact fun z => hu xs (Option.some.inj z)
      cases hHa : H a with
      | none => exact absurd hHa hal
      | some o =>
        rw [e1 a o (by rw [thaw_in ha]; exact hHa), ← hHa]
        exact hH
    have hb : ∀ (a : Addr) us, noR us → B' a = some (.tup us) → thaw (adr (selF φ vw)) B B' a = some (.tup us) := fun a us hn h => by
      by_cases w : a ∈ adr (selF φ vw)
      · exact absurd h (nW a w us hn)
      · rw [thaw_out w]; exact h
    refine ⟨fun rx => rx.fl1B hb gd.2, fun k c o ho hc => ?_⟩
    have hf := List.all_eq_true.mp gd.1 o (List.mem_of_getElem? ho)
    cases hc with
    | gone => cases hf
    | sim h1 h2 h3 => exact .sim h1 h2 (ro_fl1B hb h3 hf)
    | box => cases hf
    | pool => cases hf
theorem li_VF {K : Fr} {M : MP} {sp : ASp} : LiC K M sp fun Q xs s => callVF sp Q .mk xs s := fun _ _ _ _ _ _ _ _ re r h f => lift_fnXF re r h f
section
variable {K : Fr} {M : MP} {H B H0 B0 : Hp} {φ φ0 : Lv.Fi} {s s0 : ST}
end
def inpN (i k : Nat) (Q : AS → ST → Prop) (_ : Lk Q) : AS → ST → Prop := fun δ s1 => ∃ m n o rs us, δ[i]? = some (some (.l n)) ∧ k ≤ n ∧ s1[n]? = some (.lst us) ∧ m < k ∧ s1[m]? = some (.pool o rs) ∧ (s1.take k).all (clO k) = true ∧
  ∀ a, (δ.map (bkD n a)).all (lowD k) = true ∧ (a ∉ poolA rs → Q (δ.map (bkD n a)) ((s1.take k).set m (.pool o (rs ++ [(a, .lst us)]))))
def pInpS (i : Nat) (t : ATS) : ATS := fun A δ s => t { A with nx := inpN i s.length A.nx .mk } δ s
section
variable {X : Cx} {M : MP} {st : Stmt} {t : ATS}
end
section
variable {X : Cx} {M : MP} {tg e : Expr} {va : ATE}
/-- over a pool's own list of data -/
def aSeqP (t : ATE) : ATI := fun δ s Q => t δ s fun x s1 => ∃ n ts, x = .l n ∧ (∃ rs, s1[n]? = some (.pool (.lst ts) rs)) ∧ Q ts (fun s => ∃ rs, s[n]? = some (.pool (.lst ts) rs)) s1
end
end Lv

/-! Ldq: an expression walked while lists of the store (and pools of lists) are seen as data; what it makes has no list of data within. -/
namespace Lv
open PySem PySem.Spec PyProof.Rows L2 LvI
mutual
/-- data without lists: numbers, texts, truths, tuples and instances of such -/
def T.nolo : T → Bool
  | .non => true
  | .bl _ => true
  | .int _ => true
  | .str _ => true
  | .tup ts => T.nolos ts
  | .obj _ _ ts => T.nolos ts
  | _ => false
def T.nolos : List T → Bool
  | [] => true
  | t :: r => T.nolo t && T.nolos r
end
theorem nolos_all : ∀ ts : List T, T.nolos ts = ts.all T.nolo
  | [] => by unfold T.nolos; rfl
  | t :: r => by unfold T.nolos; rw [nolos_all r, List.all_cons]
theorem nolo_tup (ts : List T) : T.nolo (.tup ts) = ts.all T.nolo := by rw [T.nolo.eq_5, nolos_all]
theorem nolo_obj (C : Addr) (ns : List Str) (ts : List T) : T.nolo (.obj C ns ts) = ts.all T.nolo := by rw [T.nolo.eq_6, nolos_all]
def flatSO : SV → Bool
  | .d t => t.nolo
  | .l _ => true
def flatOO : LO → Bool
  | .lst ts => ts.all T.nolo
  | .tp xs => xs.all flatSO
  | .ll xs => xs.all flatSO
  | _ => false
/-- a list, a pool of lists -/
def LO.pvo : LO → Bool
  | .lst _ => true
  | .ll _ => true
  | .pool (.lst _) rs => rs.all fun r => match r.2 with | .lst _ => true | _ => false
  | _ => false
def rsvS (rs : List (Addr × PRec)) : SV → SV
  | .d t => .d (rsvT rs t)
  | x => x
section
variable {K : Fr} {M : MP} {H B B' : Hp} {φ : Lv.Fi} {s : ST}
mutual
theorem Fz.noloB (hb : ∀ (a : Addr) o, (∀ us, o ≠ HO.lst us) → B a = some o → B' a = some o) : ∀ {v : V} {t : T}, Fz K B v t → t.nolo = true → Fz K B' v t
  | _, _, .non, _ => .non
  | _, _, .bl b, _ => .bl b
  | _, _, .int i, _ => .int i
  | _, _, .str x, _ => .str x
  | _, _, .tup h r, f => .tup (h.elim (fun h => .inl (hb _ _ (fun _ e => by cases e) h)) .inr) (FzAll.noloB hb r (by rw [T.nolo.eq_5] at f; exact f))
  | _, _, .obj h g r l, f => .obj (hb _ _ (fun _ e => by cases e) h) (hb _ _ (fun _ e => by cases e) g) (FzAll.noloB hb r (by rw [T.nolo.eq_6] at f; exact f)) l
  | _, _, .ref a, f => by simp [T.nolo] at f
  | _, _, .lst _ _, f => by simp [T.nolo] at f
  | _, _, .scr _ _, f => by simp [T.nolo] at f
  | _, _, .ty _, f => by simp [T.nolo] at f
  | _, _, .dk _ _ _, f => by simp [T.nolo] at f
  | _, _, .dt _ _ _, f => by simp [T.nolo] at f
  | _, _, .exc _ _ _, f => by simp [T.nolo] at f
theorem FzAll.noloB (hb : ∀ (a : Addr) o, (∀ us, o ≠ HO.lst us) → B a = some o → B' a = some o) : ∀ {vs : List V} {ts : List T}, FzAll K B vs ts → T.nolos ts = true → FzAll K B' vs ts
  | _, _, .nil, _ => .nil
  | _, _, .cons h r, f => by
    unfold T.nolos at f
    rw [Bool.and_eq_true] at f
    exact .cons (Fz.noloB hb h f.1) (FzAll.noloB hb r f.2)
end
theorem Rs.noloB (hb : ∀ (a : Addr) o, (∀ us, o ≠ HO.lst us) → B a = some o → B' a = some o) {v : V} {x : SV} (h : Rs K B φ v x) (f : flatSO x = true) : Rs K B' φ v x := by
  cases x with
  | d t => exact Fz.noloB hb h f
  | l n => exact h
theorem RsAll.noloB (hb : ∀ (a : Addr) o, (∀ us, o ≠ HO.lst us) → B a = some o → B' a = some o) : ∀ {vs : List V} {xs : List SV}, RsAll K B φ vs xs → xs.all flatSO = true → RsAll K B' φ vs xs
  | _, _, .nil, _ => .nil
  | _, _, .cons h r, f => by
    rw [List.all_cons, Bool.and_eq_true] at f
    exact .cons (h.noloB hb f.1) (RsAll.noloB hb r f.2)
theorem ro_noloB (hb : ∀ (a : Addr) o, (∀ us, o ≠ HO.lst us) → B a = some o → B' a = some o) {o : LO} {u : Option HO} (h : Ro K B φ o u) (f : flatOO o = true) : Ro K B' φ o u := by
  cases o with
  | lst ts => obtain ⟨vs, h1, h2⟩ := h; exact ⟨vs, FzAll.noloB hb h1 (by rw [nolos_all]; exact f), h2⟩
  | tp xs => obtain ⟨vs, h1, h2⟩ := h; exact ⟨vs, RsAll.noloB hb h1 f, h2⟩
  | ll xs => obtain ⟨vs, h1, h2⟩ := h; exact ⟨vs, RsAll.noloB hb h1 f, h2⟩
  | _ => cases f
theorem pvo_lst (re : Re K M H B φ s) {n : Nat} {c : Ce} {o : LO} (hc : φ[n]? = some c) (hs : s[n]? = some o) (h : o.pvo = true) : ∀ a ∈ c.al, ∃ us, H a = some (.lst us) := fun a ha => by
  cases o with
  | lst ts =>
    obtain ⟨p, hp, us, _, e⟩ := re.at_ hs
    rw [hc] at hp; cases hp
    have : a = p := by simpa [Ce.al] using ha
    exact ⟨us, by rw [this]; exact e⟩
  | ll xs =>
    obtain ⟨p, hp, us, _, e⟩ := re.at_ hs
    rw [hc] at hp; cases hp
    have : a = p := by simpa [Ce.al] using ha
    exact ⟨us, by rw [this]; exact e⟩
  | pool o rs =>
    obtain ⟨d, hd, w1, w2, w3, w4, _⟩ := re.poolAt hs
    rw [hc] at hd; cases hd
    unfold Ce.al at ha
    rw [w2] at ha
    cases o with
    | lst ts =>
      rcases List.mem_cons.mp ha with rfl | ha
      · obtain ⟨vs, _, e⟩ := w3; exact ⟨vs, e⟩
      · obtain ⟨r, hr, hx⟩ := List.mem_flatMap.mp ha
        have hl := List.all_eq_true.mp (show (rs.all fun r => match r.2 with | .lst _ => true | _ => false) = true from h) r hr
        have hp := w4 r hr
        obtain ⟨b, rc⟩ := r
        cases rc with
        | ins _ _ _ => cases hl
        | lst us =>
          obtain ⟨vs, _, e⟩ := hp
          have : a = b := by simpa [PRec.al] using hx
          exact ⟨vs, by rw [this]; exact e⟩
    | _ => cases h
  | _ => cases h
end
def callVO (sp : ASp) (Q : SV → ST → Prop) (_ : Lk Q) (xs : List SV) (s : ST) : Prop := ∃ (vw : List Nat) (rs : List (Addr × PRec)) (ys zs : List SV), (vw.all fun n => decide (n < s.length)) = true ∧ viewX vw s xs = some ys ∧ ys.map (fun y => rsvS rs (rsvS rs y)) = zs ∧ (rs = [] ∨ ∃ m o, vw.contains m = true ∧ s[m]? = some (.pool o rs)) ∧ ((argL zs).all fun n => !vw.contains n) = true ∧
  ((argL zs).all fun n => match s[n]? with | some o => simO o | none => false) = true ∧ (vw.all fun n => (kpO s n).pvo) = true ∧
    sp (zs.map (toC (argL zs))) ((argL zs).map fun n => (s[n]?).getD .gone) fun r s2 => (s2.all flatOO = true ∧ flatSO r = true) ∧ Q (ren (argL zs) s.length r) (putAll s (argL zs) (s2.map (renO (argL zs) s.length)) ++ (s2.drop (argL zs).length).map (renO (argL zs) s.length))
theorem callVO_of {sp : ASp} {Q : SV → ST → Prop} {l : Lk Q} {xs : List SV} {s : ST} (vw : List Nat) (rs : List (Addr × PRec)) (ns : List Nat) {ys zs : List SV} (h1 : (vw.all fun n => decide (n < s.length)) = true) (h2 : viewX vw s xs = some ys) (hz : ys.map (fun y => rsvS rs (rsvS rs y)) = zs) (hr : rs = [] ∨ ∃ m o, vw.contains m = true ∧ s[m]? = some (.pool o rs)) (e : argL zs = ns) (h3 : (ns.all fun n => !vw.contains n) = true)
    (h4 : (ns.all fun n => match s[n]? with | some o => simO o | none => false) = true) (h5 : (vw.all fun n => (kpO s n).pvo) = true)
    (h6 : sp (zs.map (toC ns)) (ns.map fun n => (s[n]?).getD .gone) fun r s2 => (s2.all flatOO = true ∧ flatSO r = true) ∧ Q (ren ns s.length r) (putAll s ns (s2.map (renO ns s.length)) ++ (s2.drop ns.length).map (renO ns s.length))) : callVO sp Q l xs s := by
  subst e; exact ⟨vw, rs, ys, zs, h1, h2, hz, hr, h3, h4, h5, h6⟩
theorem lift_fnXO {K : Fr} {M : MP} {H B : Hp} {φ : Fi} {s : ST} {vs : List V} {xs : List SV} {Q : SV → ST → Prop} {Q' : VK} {E : XK} {sp : ASp} {l : Lk Q} (re : Re K M H B φ s) (r : RsAll K B φ vs xs) (h : callVO sp Q l xs s) (f : FinE K M H B φ Q Q') : toSp K sp vs H Q' E := by
  obtain ⟨vw, rs, ys, zs, hvw, hv, hz, hrs, hdis, h1, hpv, h2⟩ := h
  have hL := re.len
  have hvl : ∀ n ∈ vw, n < s.length := fun n hn => of_decide_eq_true (List.all_eq_true.mp hvw n hn)
  have hvφ : ∀ n ∈ vw, n < φ.length := fun n hn => by rw [hL]; exact hvl n hn
  have atW : ∀ {n : Nat} {c : Ce}, n ∈ vw → φ[n]? = some c → ∀ a ∈ c.al, a ∈ adr (selF φ vw) := fun hn hc a ha => by
    obtain ⟨k, hk⟩ := List.getElem?_of_mem hn
    exact adr_mem (n := k) (by rw [selF_at hvφ hk]; exact hc) ha
  have rys : RsAll K (thaw (adr (selF φ vw)) H B) φ vs ys := by
    clear h2 hdis h1 hz
    have deep : ∀ {v x t}, Rs K B φ v x → deepF (fun m => vw.contains m) 9 s x = some t → Fz K (thaw (adr (selF φ vw)) H B) v t := fun rx e => deep_fz 9 (thaw_ex re.ex) (fun m c o hm q1 q2 => ⟨re.ob m c o q1 q2, fun a ha => thaw_in (atW (List.contains_iff_mem.mp hm) q1 a ha)⟩) hL rx e
    induction r generalizing ys with
    | nil => cases hv; exact .nil
    | @cons v vs x xs r1 r2 ih =>
      have plain : ∀ (hm : (viewX vw s xs).map (x :: ·) = some ys), RsAll K (thaw (adr (selF φ vw)) H B) φ (v :: vs) ys := fun hm => by
        obtain ⟨zs, e, rfl⟩ := Option.map_eq_some_iff.mp hm
        exact .cons (r1.mo ⟨thaw_ex re.ex, fun _ _ h => h⟩) (ih zs e)
      cases x with
      | d t => exact plain hv
      | l n =>
        have hv : (if vw.contains n then (match deepF (fun m => vw.contains m) 9 s (.l n) with
          | some t => (viewX vw s xs).map (SV.d t :: ·)
          | none => none) else (viewX vw s xs).map (SV.l n :: ·)) = some ys := hv
        by_cases hn : vw.contains n = true
        · rw [if_pos hn] at hv
          cases hd : deepF (fun m => vw.contains m) 9 s (.l n) with
          | none => rw [hd] at hv; cases hv
          | some t =>
            rw [hd] at hv
            obtain ⟨zs, e, rfl⟩ := Option.map_eq_some_iff.mp (show (viewX vw s xs).map (SV.d t :: ·) = some ys from hv)
            exact .cons (show Fz K _ v t from deep r1 hd) (ih zs e)
        · rw [if_neg hn] at hv
          exact plain hv
  have rzs : RsAll K (thaw (adr (selF φ vw)) H B) φ vs zs := by
    rw [← hz]
    have hpo : (∀ r ∈ rs, Po K (thaw (adr (selF φ vw)) H B) H r.1 r.2) ∧ ∀ a ∈ poolA rs, thaw (adr (selF φ vw)) H B a = H a := by
      rcases hrs with rfl | ⟨m, o, hm, hs⟩
      · exact ⟨fun r hr => (by cases hr), fun a ha => (by unfold poolA at ha; simp at ha)⟩
      · obtain ⟨c, hc, w1, w2, w3, w4, _⟩ := re.poolAt hs
        exact ⟨fun r hr => (w4 r hr).mo (thaw_ex re.ex) fun _ _ => rfl, fun a ha => thaw_in (atW (List.contains_iff_mem.mp hm) hc a (List.mem_cons_of_mem _ (by rw [w2]; exact ha)))⟩
    exact rys.map_to fun v x _ rx => by
      cases x with
      | d t => exact rsv_fz (Ex.refl _) hpo.1 hpo.2 (rsv_fz (Ex.refl _) hpo.1 hpo.2 rx)
      | l n => exact rx
  have hal : ∀ a ∈ adr (selF φ vw), ∃ us, H a = some (.lst us) := fun a ha => by
    obtain ⟨k, c, k1, k2⟩ := adr_of ha
    obtain ⟨n, n1, n2⟩ := selF_inv hvφ k1
    have hm := List.mem_of_getElem? n1
    have es : s[n]? = some (kpO s n) := by unfold kpO; rw [List.getElem?_eq_getElem (hvl n hm)]; rfl
    exact pvo_lst re n2 es (List.all_eq_true.mp hpv n hm) a k2
  refine lift_view (vw := vw) (good := fun r s2 => s2.all flatOO = true ∧ flatSO r = true) re rfl hvl (fun n hn z => ?_) h1 rzs h2 (fun H' B' φ' s' v x e1 e2 gd => ?_) f
  · have := List.all_eq_true.mp hdis n hn
    simp [z] at this
  · have hb : ∀ (a : Addr) o, (∀ us, o ≠ HO.lst us) → B' a = some o → thaw (adr (selF φ vw)) B B' a = some o := fun a o ho h => by
      by_cases w : a ∈ adr (selF φ vw)
      · obtain ⟨us, hu⟩ := hal a w
        rw [e1 a _ (by rw [thaw_in w]; exact hu)] at h
        exact absurd (Option.some.inj h).symm (ho us)
      · rw [thaw_out w]; exact h
    refine ⟨fun rx => rx.noloB hb gd.2, fun k c o ho hc => ?_⟩
    have hf := List.all_eq_true.mp gd.1 o (List.mem_of_getElem? ho)
    cases hc with
    | gone => cases hf
    | sim h1 h2 h3 => exact .sim h1 h2 (ro_noloB hb h3 hf)
    | box => cases hf
    | pool => cases hf
/-! ### an expression -/
def unm (n : Nat) : List Nat → List SV → AS
  | k :: ks, x :: xs => (unm n ks xs).set k (some x)
  | _, _ => List.replicate n none
def eSp (ks : List Nat) (n : Nat) (va : ATE) : ASp := fun vs s Q => va (unm n ks vs) s Q
def atS (δ : AS) : List Nat → Option (List SV)
  | [] => some []
  | k :: ks => (match δ[k]? with
    | some (some x) => (atS δ ks).map (x :: ·)
    | _ => none)
def vwK (ks : List Nat) (va : ATE) (Q : SV → ST → Prop) (_ : Lk (va, Q)) (δ : AS) (s : ST) : Prop := ∃ xs, atS δ ks = some xs ∧ callVO (eSp ks δ.length va) Q .mk xs s
theorem vwK_of {ks : List Nat} {va : ATE} {Q : SV → ST → Prop} {l : Lk (va, Q)} {δ : AS} {s : ST} (vw : List Nat) (rs : List (Addr × PRec)) (ns : List Nat) {xs ys zs : List SV} (h0 : atS δ ks = some xs) (h1 : (vw.all fun n => decide (n < s.length)) = true) (h2 : viewX vw s xs = some ys) (hz : ys.map (fun y => rsvS rs (rsvS rs y)) = zs) (hr : rs = [] ∨ ∃ m o, vw.contains m = true ∧ s[m]? = some (.pool o rs)) (e : argL zs = ns) (h3 : (ns.all fun n => !vw.contains n) = true)
    (h4 : (ns.all fun n => match s[n]? with | some o => simO o | none => false) = true) (h5 : (vw.all fun n => (kpO s n).pvo) = true)
    (h6 : va (unm δ.length ks (zs.map (toC ns))) (ns.map fun n => (s[n]?).getD .gone) fun r s2 => (s2.all flatOO = true ∧ flatSO r = true) ∧ Q (ren ns s.length r) (putAll s ns (s2.map (renO ns s.length)) ++ (s2.drop ns.length).map (renO ns s.length))) : vwK ks va Q l δ s := ⟨xs, h0, callVO_of vw rs ns h1 h2 hz hr e h3 h4 h5 h6⟩
def aVw (ks : List Nat) (va : ATE) : ATE := fun δ s Q => vwK ks va Q .mk δ s
section
variable {K : Fr} {B : Hp} {φ : Fi} {σ : L2.St} {δ : AS}
theorem unm_len (n : Nat) : ∀ (ks : List Nat) (xs : List SV), (unm n ks xs).length = n
  | [], _ => by unfold unm; exact List.length_replicate
  | _ :: _, [] => by unfold unm; exact List.length_replicate
  | k :: ks, x :: xs => by unfold unm; rw [List.length_set, unm_len n ks xs]
/-- the values at ks -/
inductive AtV (σ : L2.St) : List Nat → List V → Prop
  | nil : AtV σ [] []
  | cons {k : Nat} {ks : List Nat} {v : V} {vs : List V} : σ[k]? = some (some v) → AtV σ ks vs → AtV σ (k :: ks) (v :: vs)
theorem atS_ok (sl : Rsl K B φ σ δ) : ∀ {ks : List Nat} {xs : List SV}, atS δ ks = some xs → ∃ vs, RsAll K B φ vs xs ∧ AtV σ ks vs
  | [], xs, h => by cases h; exact ⟨[], .nil, .nil⟩
  | k :: ks, xs, h => by
    unfold atS at h
    split at h
    · rename_i x hx
      obtain ⟨zs, e, rfl⟩ := Option.map_eq_some_iff.mp h
      obtain ⟨vs, r, a⟩ := atS_ok sl e
      obtain ⟨v, hv, rx⟩ := sl.at_ k x hx
      exact ⟨v :: vs, .cons rx r, .cons hv a⟩
    · cases h
theorem unm_sl {n : Nat} (hn : σ.length = n) : ∀ {ks : List Nat} {vs : List V} {xs : List SV}, AtV σ ks vs → RsAll K B φ vs xs → Rsl K B φ σ (unm n ks xs)
  | [], _, _, .nil, _ => ⟨by rw [unm_len]; exact hn, fun i x e => by
    unfold unm at e
    rw [List.getElem?_replicate] at e
    split at e <;> cases e⟩
  | k :: ks, _ :: _, x0 :: xs, .cons hv a, .cons rx r => by
    have ih := unm_sl hn a r
    refine ⟨by rw [unm_len]; exact hn, fun i x e => ?_⟩
    unfold unm at e
    by_cases hik : k = i
    · subst hik
      have hl : k < (unm n ks xs).length := by
        have := (List.getElem?_eq_some_iff.mp e).1
        rwa [List.length_set] at this
      rw [List.getElem?_set_self hl] at e
      cases e
      exact ⟨_, hv, rx⟩
    · rw [List.getElem?_set_ne hik] at e
      exact ih.at_ i x e
end
section
variable {X : Cx} {e : Expr} {va : ATE}
theorem ae_vw (ks : List Nat) (ha : AE X M0 e va) : AE X M0 e (aVw ks va) := .of ha.pe fun H B φ σ δ s Q re sl q Q' f => by
  obtain ⟨xs, hx, hv⟩ := q
  obtain ⟨vs, rv, av⟩ := atS_ok sl hx
  obtain ⟨B1, φ1, s1, svs, Qa, re1, r1, h1, f1⟩ := lift_fnXO (E := fun _ _ _ => True) re rv hv f
  exact uE_lift (t := va) H B1 φ1 σ (unm δ.length ks svs) s1 Qa re1 (unm_sl sl.len av r1) h1 Q' fun H' B' φ' s' v x g re' r' q' => f1 H' B' φ' s' v x g re' r' q'
end
/-! ### a list of the store is a pool from behind a statement on -/
def pToP (t : ATS) : ATS := fun A δ s => t { A with nx := fun δ' s' => ∃ n ts, s'[n]? = some (.lst ts) ∧ A.nx δ' (s'.set n (.pool (.lst ts) [])) } δ s
section
variable {X : Cx} {M : MP} {st : Stmt} {t : ATS}
theorem ap_toP (h : AP X M st t) : AP X M st (pToP t) := ⟨_, h.ps, fun H B φ σ δ s A re sl q D f => uS_lift (t := t) H B φ σ δ s _ re sl q _ ⟨fun H' B' φ' s' σ' δ' g re' sl' ⟨n, ts, hs, q'⟩ => by
  obtain ⟨g2, re2⟩ := re'.toPool hs rfl
  exact f.nx _ _ _ _ _ _ (g.trans g2) re2 (sl'.mono g2) q', f.rt, f.bk, f.ct⟩⟩
end
end Lv

/-! Ldr: lists of pools by their addresses: tuple(x), isinstance(x, list), loops over x. -/
namespace Lv
open PySem PySem.Spec PyProof.Rows L2 LvI
/-- the list at a is record j of the pool n -/
def recAt (s : ST) (n j : Nat) (a : Addr) (ts : List T) : Prop := ∃ o rs, s[n]? = some (.pool o rs) ∧ rs[j]? = some (a, .lst ts)
theorem recAt_of {s : ST} {n j : Nat} {a : Addr} {ts : List T} {o : LO} {rs : List (Addr × PRec)} (h : s[n]? = some (.pool o rs)) (h2 : rs[j]? = some (a, .lst ts)) : recAt s n j a ts := ⟨o, rs, h, h2⟩
section
variable {K : Fr} {M : MP} {H B : Hp} {φ : Lv.Fi} {s : ST}
theorem rec_ok (re : Re K M H B φ s) {n j : Nat} {a : Addr} {ts : List T} (h : recAt s n j a ts) : ∃ vs, FzAll K B vs ts ∧ H a = some (.lst vs) := by
  obtain ⟨o, rs, h1, h2⟩ := h
  obtain ⟨c, hc, w1, w2, w3, w4, _⟩ := re.poolAt h1
  exact w4 _ (List.mem_of_getElem? h2)
/-- tuple(x), x a list of a pool -/
def tupRG : ARC := fun xs s Q => match xs with
  | [.d (.ref a)] => ∃ n j ts, recAt s n j a ts ∧ Q (.d (.tup ts)) s
  | _ => False
theorem lr_tupR {K : Fr} : LiftC K M (fun xs H Q => ∃ p ys, xs = [.ref p] ∧ ((SqL K H p ys ∧ ∀ l, H l = none → Q (.ref l) (upd H l (.tup ys))) ∨ (SqT K H p ys ∧ Q (.ref p) H))) tupRG := by
  intro H B φ s x sx Q re rx h Q' f
  unfold tupRG at h
  split at h
  · obtain ⟨v, rfl, r⟩ := rsall1 rx
    obtain ⟨n, j, ts, h1, q⟩ := h
    cases (show Fz K B v (.ref _) from r)
    obtain ⟨vs, f1, e1⟩ := rec_ok re h1
    exact ⟨_, vs, rfl, .inl ⟨SqL.of e1, f.newT re f1 q⟩⟩
  · exact h.elim
/-- isinstance(x, ..), x maybe a list of a pool -/
def isiRG : ARC := fun xs s Q => match xs with
  | [.d (.ref a), .d (.ty b)] => ∃ n j ts r, recAt s n j a ts ∧ kitB "list" b = some r ∧ Q (.d (.bl r)) s
  | xs => isiG xs s Q
theorem lr_isiR {K : Fr} : LiftC K M (rIsiA K) isiRG := by
  intro H B φ s x sx Q re rx h Q' f
  unfold isiRG at h
  split at h
  · obtain ⟨v, w, rfl, r1, r2⟩ := rsall2 rx
    obtain ⟨n, j, ts, r, h1, h2, q⟩ := h
    cases (show Fz K B v (.ref _) from r1)
    obtain ⟨vs, f1, e1⟩ := rec_ok re h1
    cases (show Fz K B w (.ty _) from r2) with
    | ty => exact .inl ⟨_, _, _, _, r, rfl, .ty _, .base (.lst e1), kit_ty h2, f.bl re q⟩
  · exact lr_isi H B φ s x sx Q re rx h Q' f
end
section
variable {X : Cx} {M : MP} {tg e e2 : Expr} {va : ATE} {pos p : Pos} {t : ATA}
theorem ae_tupleR (hm : X.mg "tuple" = none) (ha : AA X M [e] t) (hg : Gl X "tuple" := by rfl) (he : starEach [e] X.env = (false, eval e X.env) :: starEach [] X.env := by rfl) : AE X M (.Call (.Name "tuple" p) [e] [] pos) (aCall tupRG t) := ae_callT call_tuple_of lr_tupR hg hm (by decide +kernel) ha (he := he)
theorem ae_isiR (hm : X.mg "isinstance" = none) (ha : AA X M [e, e2] t) (hg : Gl X "isinstance" := by rfl) (he : starEach [e, e2] X.env = (false, eval e X.env) :: starEach [e2] X.env := by rfl) (hpl : (backTo pos (starEach [e2] X.env)).any (·.1) = false := by rfl) :
    AE X M (.Call (.Name "isinstance" p) [e, e2] [] pos) (aCall isiRG t) := ae_callB cr_isi lr_isiR hg hm (by decide +kernel) ha (he := he) (hpl := hpl)
/-- over what may be a list of a pool -/
def seqRK (Q : List T → (ST → Prop) → ST → Prop) : SV → ST → Prop := fun x s1 => match x with
  | .d (.ref a) => ∃ n j ts, recAt s1 n j a ts ∧ Q ts (fun s => recAt s n j a ts) s1
  | x => ∃ ts g, wkV s1 x = some (ts, g) ∧ Q ts (grd ts g) s1
def aSeqR (t : ATE) : ATI := fun δ s Q => t δ s (seqRK Q)
theorem ai_seqR (h : AE X M e va) : AI X M tg e (aSeqR va) := by
  refine ⟨_, pi_seq h.pe, fun H B φ σ δ s Q re sl q R f => uE_lift (t := va) H B φ σ δ s _ re sl q _ fun H1 B1 φ1 s1 v x g1 re1 r1 q => ?_⟩
  unfold seqRK at q
  split at q
  · obtain ⟨n, j, ts, gd, q1⟩ := q
    rename_i a
    cases (show Fz X.K B1 v (.ref a) from r1)
    have hk : ∀ H2 B2 φ2 s2, Gr H1 B1 φ1 H2 B2 φ2 → Re X.K M H2 B2 φ2 s2 → recAt s2 n j a ts → ∃ ws, Src.rd X.K (.L a) H2 ws ∧ FzAll X.K B2 ws ts := fun H2 B2 φ2 s2 g2 re2 gd => by
      obtain ⟨vs, f1, e1⟩ := rec_ok re2 gd
      exact ⟨vs, SqL.of e1, f1⟩
    obtain ⟨ws, hr, fw⟩ := hk _ _ _ _ .refl re1 gd
    refine ⟨.L a, ws, rfl, hr, f _ _ _ _ _ _ _ g1 re1 ⟨fun H => ∃ ws, (Src.L a).rd X.K H ws ∧ ws.length = ts.length, ((Src.L a).itr X.K).yld, ?_, fun H2 B2 φ2 s2 g2 re2 gd2 => ?_, fun i H2 x H3 B2 φ2 s2 g2 re2 gd2 hi y => ?_⟩ q1⟩
    · exact ⟨fun i H hi ⟨ws, h1, h2⟩ => ⟨ws, ws[i]'(by omega), h1, by simp [h2, hi]⟩, fun H ⟨ws, h1, h2⟩ => ⟨ws, h1, by omega⟩, fun i H x H' _ _ y => y⟩
    · obtain ⟨ws, hr, fw⟩ := hk _ _ _ _ g2 re2 gd2
      exact ⟨ws, hr, fw.length⟩
    · obtain ⟨ws, hr, fw⟩ := hk _ _ _ _ g2 re2 gd2
      obtain ⟨rfl, hx⟩ := y
      obtain ⟨t, ht, r⟩ := fw.get (hx ws hr)
      exact ⟨B2, t, ht, .refl, re2, r⟩
  · obtain ⟨ts, g, hw, q1⟩ := q
    obtain ⟨k, rfl, gd, hk⟩ := src_of re1 r1 hw
    obtain ⟨ws, hr, fw⟩ := hk _ _ _ _ .refl re1 gd
    refine ⟨k, ws, rfl, hr, f _ _ _ _ _ _ _ g1 re1 ⟨fun H => ∃ ws, k.rd X.K H ws ∧ ws.length = ts.length, (k.itr X.K).yld, ?_, fun H2 B2 φ2 s2 g2 re2 gd2 => ?_, fun i H2 x H3 B2 φ2 s2 g2 re2 gd2 hi y => ?_⟩ q1⟩
    · cases k with
      | L a => exact ⟨fun i H hi ⟨ws, h1, h2⟩ => ⟨ws, ws[i]'(by omega), h1, by simp [h2, hi]⟩, fun H ⟨ws, h1, h2⟩ => ⟨ws, h1, by omega⟩, fun i H x H' _ _ y => y⟩
      | U a => exact ⟨fun i H hi ⟨ws, h1, h2⟩ => ⟨ws, ws[i]'(by omega), h1, by simp [h2, hi]⟩, fun H ⟨ws, h1, h2⟩ => ⟨ws, h1, by omega⟩, fun i H x H' _ _ y => y⟩
      | S z =>
        have e : ∀ ws, Src.rd X.K (.S z) H ws → ws.length = z.cps.size := fun ws h => by rw [show ws = z.cps.toList.map (fun c => V.str ⟨#[c]⟩) from h, List.length_map, Array.length_toList]
        exact ⟨fun i H hi ⟨ws, h1, h2⟩ => by rw [← h2, e ws h1] at hi; exact hi, fun H ⟨ws, h1, h2⟩ => by rw [← h2, e ws h1]; exact Nat.le_refl _, fun i H x H' _ _ y => y⟩
    · obtain ⟨ws, hr, fw⟩ := hk _ _ _ _ g2 re2 gd2
      exact ⟨ws, hr, fw.length⟩
    · obtain ⟨ws, hr, fw⟩ := hk _ _ _ _ g2 re2 gd2
      cases k with
      | L a =>
        obtain ⟨rfl, hx⟩ := y
        obtain ⟨t, ht, r⟩ := fw.get (hx ws hr)
        exact ⟨B2, t, ht, .refl, re2, r⟩
      | U a =>
        obtain ⟨rfl, hx⟩ := y
        obtain ⟨t, ht, r⟩ := fw.get (hx ws hr)
        exact ⟨B2, t, ht, .refl, re2, r⟩
      | S z =>
        obtain ⟨rfl, c, hc, rfl⟩ := y
        have hx : ws[i]? = some (.str ⟨#[c]⟩) := by
          rw [show ws = z.cps.toList.map (fun c => V.str ⟨#[c]⟩) from hr, List.getElem?_map, Array.getElem?_toList, hc]; rfl
        obtain ⟨t, ht, r⟩ := fw.get hx
        exact ⟨B2, t, ht, .refl, re2, r⟩
end
/-- the name at i: its list becomes data, if it is none yet -/
def frzAO (i : Nat) (Q : AS → ST → Prop) : AS → ST → Prop := fun δ s => match δ[i]? with
  | some (some (.d _)) => Q δ s
  | _ => frzA i Q δ s
theorem fin_frzAO {K : Fr} {M : MP} {H B : Hp} {φ : Fi} {i : Nat} {Q : AS → ST → Prop} {Q' : L2.St → Hp → Prop} (f : FinG K M H B φ Q Q') : FinG K M H B φ (frzAO i Q) Q' := fun H1 B1 φ1 s1 σ δ g1 re1 sl q => by
  unfold frzAO at q
  split at q
  · exact f _ _ _ _ _ _ g1 re1 sl q
  · exact fin_frzA f _ _ _ _ _ _ g1 re1 sl q
section
variable {X : Cx} {M : MP} {st : Stmt} {t : ATS}
def pFrzO (i : Nat) (t : ATS) : ATS := fun A δ s => t { A with nx := frzAO i A.nx } δ s
theorem ap_frzO (i : Nat) (h : AP X M st t) : AP X M st (pFrzO i t) := ⟨_, h.ps, fun H B φ σ δ s A re sl q D f => uS_lift (t := t) H B φ σ δ s _ re sl q _ ⟨fin_frzAO f.nx, f.rt, f.bk, f.ct⟩⟩
end
/-- a, b, c = a list of places -/
def aTupLG (n : Nat) (u : ATGs) : ATG := fun x δ s Q => ∃ k xs, x = .l k ∧ s[k]? = some (.ll xs) ∧ xs.length = n ∧ u xs δ s Q
section
variable {X : Cx} {M : MP} {es : List Expr} {vs : List Nat} {pos : Pos}
theorem ag_tupL {k n : Nat} {u : ATGs} (hc : X.calm = true) (h : AGs X M vs es u) (hn : (assignEach es X.env).length = n := by rfl) (hst : (assignEach es X.env).findIdx? (·.1) = none := by rfl) : AG X M vs (.Tuple es k pos) (aTupLG n u) := by
  obtain ⟨g, h3, h4⟩ := h.ex
  refine ⟨_, PG.or (pg_tup hc h3 hn hst) (pg_lst hc h3 hn hst), fun H B φ σ δ s v x Q re sl r q Q' f => ?_⟩
  obtain ⟨j, xs, rfl, hs, hl, q⟩ := (show aTupLG n u x δ s Q from q)
  obtain ⟨p, rfl, hp, ho⟩ := at_loc re r hs
  obtain ⟨vs, f1, e1⟩ := ho
  exact .inr ⟨p, vs, rfl, SqL.of e1, by rw [f1.length]; exact hl, h4 H B φ σ δ s vs _ Q re sl f1 q Q' f⟩
end
end Lv

/-! Ku: what rooms are, in plain lists of signs: 108, 117 (berths), 47 (a stroke). -/
namespace Ku
def bth (c : Nat) : Bool := c == 108 || c == 117
def isU : List Nat → Bool
  | [a] => bth a
  | [a, s, c] => bth a && s == 47 && bth c
  | _ => false
/-- the unit that the program reads first of what is left -/
def firstU (r : List Nat) : List Nat := if (r.drop 1).head? = some 47 then r.take 3 else r.take 1
def good : List Nat → Bool
  | [] => true
  | [a] => bth a
  | [a, b] => bth a && bth b
  | a :: b :: c :: r => if b = 47 then bth a && bth c && good r else bth a && good (b :: c :: r)
theorem good_step {r : List Nat} (h : r ≠ []) : good r = (isU (firstU r) && good (r.drop (firstU r).length)) := by
  match r, h with
  | [a], _ => simp [good, firstU, isU]
  | [a, b], _ =>
    by_cases hb : b = 47
    · subst hb; simp [good, firstU, isU, bth]
    · simp [good, firstU, isU, hb]
  | a :: b :: c :: r, _ =>
    by_cases hb : b = 47
    · subst hb; simp [good, firstU, isU, bth]
    · simp [good, firstU, isU, hb]
def nB (l : List Nat) : Nat := l.count 108 + l.count 117
/-- what is_room tells of a text -/
def room (l : List Nat) : Bool := good l && decide (1 ≤ nB l ∧ nB l ≤ 8)
end Ku

namespace K03
open PySem L2 LvI Lv Kq Kr Kl Ku
section
set_option hygiene false in
local macro_rules | `(tactic| fail "S") => `(tactic| simp -dsimp [↓fldG, ↓setG, ↓pFld, ↓aMet, ↓aMk, ↓aFrz, ↓aCl, ↓isIn, ↓aLstS, ↓dmG, ↓aLenSet, ↓isCG, ↓pBody, ↓ownC, ↓endC, ↓endW, ↓pSeq, ↓pIf, ↓pSet, ↓pAsg, ↓pRet, ↓pRetN, ↓pNext, ↓pDrop, ↓pBlk, ↓pWip, ↓pBrk, ↓pCnt, ↓pPar, ↓pAug, ↓pAugL, ↓ipAddG, ↓aFr, ↓aFrT, ↓aTest, ↓aNot, ↓aOp, ↓aUn, ↓aVar, ↓aC, ↓aSetL, ↓aName, ↓agNil, ↓agCons_c, ↓aTupG_2, ↓aTupG_2l, ↓aTupG_3, ↓aTupG_3l, ↓aTupG_4, ↓aTupG_l, ↓aIfE, ↓aAndV, ↓aOrV, ↓aNotV, ↓aAnd, ↓aOr, ↓aDat, ↓aNil, ↓aCons, ↓aTup, ↓aLst, ↓aSl, ↓aRev, ↓aCall, ↓aMe, ↓aMe0, ↓aLc, ↓aLstRg, ↓ixG, ↓cmpG, ↓isG, ↓modG, ↓fdivG, ↓addG, ↓subG, ↓mulG, ↓negG, ↓absG, ↓lenG, ↓appG, ↓powG, ↓eqG, ↓isiG_eq, ↓isiH, ↓maxG, ↓minG, ↓sumG, ↓allG, ↓anyG, ↓listG, ↓tupleG, ↓intG, ↓slG, ↓idxG, ↓aSeq_eq, ↓aRng1, ↓aRng2, ↓aEnm_eq, ↓aZip_eq, ↓wkH, ↓sortG, ↓aRem, ↓popAtG, ↓revG, ↓clrG, ↓popG, ↓extG, ↓insG, ↓jnG, ↓cntG, ↓splG, ↓aYes, ↓aFn_eq, ↓pFor_eq, ↓pForS_eq, ↓pWhile_eq, ↓aLcI_eq, ↓aChain, ↓aCutT, ↓aCut, ↓aKn, ↓aNo, ↓aPart, ↓aFnV, ↓aTru, ↓shlG, ↓shrG, ↓oddG, ↓reprG, ↓strG, ↓pPar3, ↓aSortSet, ↓pBodyK, ↓pBlkK, ↓aKp, ↓aSetd, ↓setdG, ↓aDic0, ↓aKd_eq, ↓aDIx_eq, ↓mulSG, ↓pCutS, ↓aDisp, ↓dispG, ↓aDic0T, ↓aDGetT, ↓aDInT, ↓pDPutT, ↓dgetT, ↓dputT, ↓pLock, ↓aDKeys, ↓aDItems, ↓mtG, ↓aMinL, ↓aMaxL, ↓listKG, ↓aSlR, ↓aLenSetI, ↓ltDG, ↓aRevT, ↓aZipN, ↓aOpn, ↓opnS, ↓aBx, ↓bxS, ↓shS, ↓grpO, ↓updTG, ↓dctTG, ↓dctKG, ↓updKG, ↓sidxG, ↓pDropA, ↓sortSG, ↓pDPutL, ↓aSetR, ↓sortTG, ↓aSlT, ↓slTG, ↓aOpnK, ↓aSortSetS, ↓aValsD, ↓listTG, ↓aVw, ↓pToP, ↓tupRG, ↓isiRG, ↓aSeqR, ↓seqRK, ↓aTupLG, ↓pFrzO, ↓frzAO, ↓pInpS, ↓aSeqP, ↓aLnd, ↓pLnd, ↓aInp, ↓aToP, ↓aMeP, ↓appPG, ↓isPL, ↓addBG, ↓subBG, ↓dpop1T, ↓dpop2T, ↓dpop1K, ↓aDPop1, ↓aDInN, ↓dinN, ↓aGet1, ↓aGet2, ↓dgetA, ↓aKeysD, ↓aItemsD, ↓pDPutD, ↓dputD, ↓dputD1, ↓dputD0, ↓aDicD, ↓aDicP, ↓pDPutP, ↓aLocks, ↓pLocks, ↓lk1, ↓sk1, ↓aChain3, ↓blK, ↓aLcS_eq, ↓aFnVD, ↓cntDG, ↓cntLG, ↓aDGet, ↓aDIn, ↓pDPut, ↓dputK, ↓aDisp1, ↓sortDG, ↓pFldAug, ↓augRf, ↓aMeR, ↓aLcP_eq, ↓pMrg, ↓dgetK, ↓pFrzV, ↓frzA, ↓pRaise, ↓pTry, ↓endA, ↓aMetX, ↓aClX, ↓aMkX, ↓aMkE, ↓whatG, ↓isXG, ↓erT_eq, ↓eaF, lk, isA, putA, ofS_inj, slots, atI_0, atI_1, atI_2, atI_3, ixN_tab, lsV, sqV, dats, clO_lst, clO_gone, clO_dK, clO_dT, lowS, simO, isTy, wipeA, wkV, grd, tyN, toC, argL, ren, renN, renO, putAll, M0, tysB, kitsB, kit_tab, sz_tab, rgT_len, pyV_d, pyV_l, flatO, flatS, T.flat, truG, datV_d, datV_l, optT, datF, selS, mvS, mvN, mvO, kpO, inS, inN, mvA, isMK, keyT, putS_nil, putS_cons, valS_nil, valS_cons, dtS, tksT, anyI, minGK_2, maxGK_2, lkE_nx, lkE_rt, kyT, lsZ, putsS_nil, putsS_cons, bkD, lowD, List.eraseIdx_cons_zero, List.eraseIdx_cons_succ, tksN, hasN, allS, anyN, lkK, lkT, grL, isDS, valS_dvs, zip_dvs, zip_dvs3, zip_dvs2, zip_pairs, lkN, skN, lkd, lkb, lkE_nx, lkE_rt, kyT, dtS, tksT, anyI, flatOD, flatSD, T.nol, T.nols, dkS, freshP, mergeS, frzD, frzT, isE, anyE, clsE_ty, CF.c_BadTrain, CF.e_NightError.clsE, CF.e_BadTrain.clsE, CF.a_Train_stops, CF.a_Train_calm, CF.a_Train_cars])
set_option hygiene false in
local macro_rules | `(tactic| specialize ⟨$[$xs:term],*⟩) => `(tactic| simp -dsimp [↓fldG, ↓setG, ↓pFld, ↓aMet, ↓aMk, ↓aFrz, ↓aCl, ↓isIn, ↓aLstS, ↓dmG, ↓aLenSet, ↓isCG, ↓pBody, ↓ownC, ↓endC, ↓endW, ↓pSeq, ↓pIf, ↓pSet, ↓pAsg, ↓pRet, ↓pRetN, ↓pNext, ↓pDrop, ↓pBlk, ↓pWip, ↓pBrk, ↓pCnt, ↓pPar, ↓pAug, ↓pAugL, ↓ipAddG, ↓aFr, ↓aFrT, ↓aTest, ↓aNot, ↓aOp, ↓aUn, ↓aVar, ↓aC, ↓aSetL, ↓aName, ↓agNil, ↓agCons_c, ↓aTupG_2, ↓aTupG_2l, ↓aTupG_3, ↓aTupG_3l, ↓aTupG_4, ↓aTupG_l, ↓aIfE, ↓aAndV, ↓aOrV, ↓aNotV, ↓aAnd, ↓aOr, ↓aDat, ↓aNil, ↓aCons, ↓aTup, ↓aLst, ↓aSl, ↓aRev, ↓aCall, ↓aMe, ↓aMe0, ↓aLc, ↓aLstRg, ↓ixG, ↓cmpG, ↓isG, ↓modG, ↓fdivG, ↓addG, ↓subG, ↓mulG, ↓negG, ↓absG, ↓lenG, ↓appG, ↓powG, ↓eqG, ↓isiG_eq, ↓isiH, ↓maxG, ↓minG, ↓sumG, ↓allG, ↓anyG, ↓listG, ↓tupleG, ↓intG, ↓slG, ↓idxG, ↓aSeq_eq, ↓aRng1, ↓aRng2, ↓aEnm_eq, ↓aZip_eq, ↓wkH, ↓sortG, ↓aRem, ↓popAtG, ↓revG, ↓clrG, ↓popG, ↓extG, ↓insG, ↓jnG, ↓cntG, ↓splG, ↓aYes, ↓aFn_eq, ↓pFor_eq, ↓pForS_eq, ↓pWhile_eq, ↓aLcI_eq, ↓aChain, ↓aCutT, ↓aCut, ↓aKn, ↓aNo, ↓aPart, ↓aFnV, ↓aTru, ↓shlG, ↓shrG, ↓oddG, ↓reprG, ↓strG, ↓pPar3, ↓aSortSet, ↓pBodyK, ↓pBlkK, ↓aKp, ↓aSetd, ↓setdG, ↓aDic0, ↓aKd_eq, ↓aDIx_eq, ↓mulSG, ↓pCutS, ↓aDisp, ↓dispG, ↓aDic0T, ↓aDGetT, ↓aDInT, ↓pDPutT, ↓dgetT, ↓dputT, ↓pLock, ↓aDKeys, ↓aDItems, ↓mtG, ↓aMinL, ↓aMaxL, ↓listKG, ↓aSlR, ↓aLenSetI, ↓ltDG, ↓aRevT, ↓aZipN, ↓aOpn, ↓opnS, ↓aBx, ↓bxS, ↓shS, ↓grpO, ↓updTG, ↓dctTG, ↓dctKG, ↓updKG, ↓sidxG, ↓pDropA, ↓sortSG, ↓pDPutL, ↓aSetR, ↓sortTG, ↓aSlT, ↓slTG, ↓aOpnK, ↓aSortSetS, ↓aValsD, ↓listTG, ↓aVw, ↓pToP, ↓tupRG, ↓isiRG, ↓aSeqR, ↓seqRK, ↓aTupLG, ↓pFrzO, ↓frzAO, ↓pInpS, ↓aSeqP, ↓aLnd, ↓pLnd, ↓aInp, ↓aToP, ↓aMeP, ↓appPG, ↓isPL, ↓addBG, ↓subBG, ↓dpop1T, ↓dpop2T, ↓dpop1K, ↓aDPop1, ↓aDInN, ↓dinN, ↓aGet1, ↓aGet2, ↓dgetA, ↓aKeysD, ↓aItemsD, ↓pDPutD, ↓dputD, ↓dputD1, ↓dputD0, ↓aDicD, ↓aDicP, ↓pDPutP, ↓aLocks, ↓pLocks, ↓lk1, ↓sk1, ↓aChain3, ↓blK, ↓aLcS_eq, ↓aFnVD, ↓cntDG, ↓cntLG, ↓aDGet, ↓aDIn, ↓pDPut, ↓dputK, ↓aDisp1, ↓sortDG, ↓pFldAug, ↓augRf, ↓aMeR, ↓aLcP_eq, ↓pMrg, ↓dgetK, ↓pFrzV, ↓frzA, ↓pRaise, ↓pTry, ↓endA, ↓aMetX, ↓aClX, ↓aMkX, ↓aMkE, ↓whatG, ↓isXG, ↓erT_eq, ↓eaF, lk, isA, putA, ofS_inj, slots, atI_0, atI_1, atI_2, atI_3, ixN_tab, lsV, sqV, dats, clO_lst, clO_gone, clO_dK, clO_dT, lowS, simO, isTy, wipeA, wkV, grd, tyN, toC, argL, ren, renN, renO, putAll, M0, tysB, kitsB, kit_tab, sz_tab, rgT_len, pyV_d, pyV_l, flatO, flatS, T.flat, truG, datV_d, datV_l, optT, datF, selS, mvS, mvN, mvO, kpO, inS, inN, mvA, isMK, keyT, putS_nil, putS_cons, valS_nil, valS_cons, dtS, tksT, anyI, minGK_2, maxGK_2, lkE_nx, lkE_rt, kyT, lsZ, putsS_nil, putsS_cons, bkD, lowD, List.eraseIdx_cons_zero, List.eraseIdx_cons_succ, tksN, hasN, allS, anyN, lkK, lkT, grL, isDS, valS_dvs, zip_dvs, zip_dvs3, zip_dvs2, zip_pairs, lkN, skN, lkd, lkb, lkE_nx, lkE_rt, kyT, dtS, tksT, anyI, flatOD, flatSD, T.nol, T.nols, dkS, freshP, mergeS, frzD, frzT, isE, anyE, clsE_ty, CF.c_BadTrain, CF.e_NightError.clsE, CF.e_BadTrain.clsE, CF.a_Train_stops, CF.a_Train_calm, CF.a_Train_cars, $[$xs:term],*])
set_option hygiene false in
local macro_rules | `(tactic| fail "E") => `(tactic| simp -dsimp [↓fldG, ↓setG, ↓pFld, ↓aMet, ↓aMk, ↓aFrz, ↓aCl, ↓isIn, ↓aLstS, ↓dmG, ↓aLenSet, ↓isCG, ↓pBody, ↓ownC, ↓endC, ↓endW, ↓pSeq, ↓pIf, ↓pSet, ↓pAsg, ↓pRet, ↓pRetN, ↓pNext, ↓pDrop, ↓pBlk, ↓pWip, ↓pBrk, ↓pCnt, ↓pPar, ↓pAug, ↓pAugL, ↓ipAddG, ↓aFr, ↓aFrT, ↓aTest, ↓aNot, ↓aOp, ↓aUn, ↓aVar, ↓aC, ↓aSetL, ↓aName, ↓agNil, ↓agCons_c, ↓aTupG_2, ↓aTupG_2l, ↓aTupG_3, ↓aTupG_3l, ↓aTupG_4, ↓aTupG_l, ↓aIfE, ↓aAndV, ↓aOrV, ↓aNotV, ↓aAnd, ↓aOr, ↓aDat, ↓aNil, ↓aCons, ↓aTup, ↓aLst, ↓aSl, ↓aRev, ↓aCall, ↓aMe, ↓aMe0, ↓aLc, ↓aLstRg, ↓ixG, ↓cmpG, ↓isG, ↓modG, ↓fdivG, ↓addG, ↓subG, ↓mulG, ↓negG, ↓absG, ↓lenG, ↓appG, ↓powG, ↓eqG, ↓isiG_eq, ↓isiH, ↓maxG, ↓minG, ↓sumG, ↓allG, ↓anyG, ↓listG, ↓tupleG, ↓intG, ↓slG, ↓idxG, ↓aSeq_eq, ↓aRng1, ↓aRng2, ↓aEnm_eq, ↓aZip_eq, ↓wkH, ↓sortG, ↓aRem, ↓popAtG, ↓revG, ↓clrG, ↓popG, ↓extG, ↓insG, ↓jnG, ↓cntG, ↓splG, ↓aYes, ↓aFn_eq, ↓pFor_eq, ↓pForS_eq, ↓pWhile_eq, ↓aLcI_eq, ↓aChain, ↓aCutT, ↓aCut, ↓aKn, ↓aNo, ↓aPart, ↓aFnV, ↓aTru, ↓shlG, ↓shrG, ↓oddG, ↓reprG, ↓strG, ↓pPar3, ↓aSortSet, ↓pBodyK, ↓pBlkK, ↓aKp, ↓aSetd, ↓setdG, ↓aDic0, ↓aKd_eq, ↓aDIx_eq, ↓mulSG, ↓pCutS, ↓aDisp, ↓dispG, ↓aDic0T, ↓aDGetT, ↓aDInT, ↓pDPutT, ↓dgetT, ↓dputT, ↓pLock, ↓aDKeys, ↓aDItems, ↓mtG, ↓aMinL, ↓aMaxL, ↓listKG, ↓aSlR, ↓aLenSetI, ↓ltDG, ↓aRevT, ↓aZipN, ↓aOpn, ↓opnS, ↓aBx, ↓bxS, ↓shS, ↓grpO, ↓updTG, ↓dctTG, ↓dctKG, ↓updKG, ↓sidxG, ↓pDropA, ↓sortSG, ↓pDPutL, ↓aSetR, ↓sortTG, ↓aSlT, ↓slTG, ↓aOpnK, ↓aSortSetS, ↓aValsD, ↓listTG, ↓aVw, ↓pToP, ↓tupRG, ↓isiRG, ↓aSeqR, ↓seqRK, ↓aTupLG, ↓pFrzO, ↓frzAO, ↓pInpS, ↓aSeqP, ↓aLnd, ↓pLnd, ↓aInp, ↓aToP, ↓aMeP, ↓appPG, ↓isPL, ↓addBG, ↓subBG, ↓dpop1T, ↓dpop2T, ↓dpop1K, ↓aDPop1, ↓aDInN, ↓dinN, ↓aGet1, ↓aGet2, ↓dgetA, ↓aKeysD, ↓aItemsD, ↓pDPutD, ↓dputD, ↓dputD1, ↓dputD0, ↓aDicD, ↓aDicP, ↓pDPutP, ↓aLocks, ↓pLocks, ↓lk1, ↓sk1, ↓aChain3, ↓blK, ↓aLcS_eq, ↓aFnVD, ↓cntDG, ↓cntLG, ↓aDGet, ↓aDIn, ↓pDPut, ↓dputK, ↓aDisp1, ↓sortDG, ↓pFldAug, ↓augRf, ↓aMeR, ↓aLcP_eq, ↓pMrg, ↓dgetK, ↓pFrzV, ↓frzA, ↓pRaise, ↓pTry, ↓endA, ↓aMetX, ↓aClX, ↓aMkX, ↓aMkE, ↓whatG, ↓isXG, ↓erT_eq, ↓eaF, lk, isA, putA, ofS_inj, slots, atI_0, atI_1, atI_2, atI_3, ixN_tab, lsV, sqV, dats, clO_lst, clO_gone, clO_dK, clO_dT, lowS, simO, isTy, wipeA, wkV, grd, tyN, toC, argL, ren, renN, renO, putAll, M0, tysB, kitsB, kit_tab, sz_tab, rgT_len, pyV_d, pyV_l, flatO, flatS, T.flat, truG, datV_d, datV_l, optT, datF, selS, mvS, mvN, mvO, kpO, inS, inN, mvA, isMK, keyT, putS_nil, putS_cons, valS_nil, valS_cons, dtS, tksT, anyI, minGK_2, maxGK_2, lkE_nx, lkE_rt, kyT, lsZ, putsS_nil, putsS_cons, bkD, lowD, List.eraseIdx_cons_zero, List.eraseIdx_cons_succ, tksN, hasN, allS, anyN, lkK, lkT, grL, isDS, valS_dvs, zip_dvs, zip_dvs3, zip_dvs2, zip_pairs, lkN, skN, lkd, lkb, lkE_nx, lkE_rt, kyT, dtS, tksT, anyI, flatOD, flatSD, T.nol, T.nols, dkS, freshP, mergeS, frzD, frzT, isE, anyE, clsE_ty, CF.c_BadTrain, CF.e_NightError.clsE, CF.e_BadTrain.clsE, CF.a_Train_stops, CF.a_Train_calm, CF.a_Train_cars, ne_NightError_BadTrain CF, ne_BadTrain_NightError CF])
set_option hygiene false in
local macro_rules | `(tactic| exact_mod_cast ⟨$[$xs:term],*⟩) => `(tactic| simp -dsimp [↓fldG, ↓setG, ↓pFld, ↓aMet, ↓aMk, ↓aFrz, ↓aCl, ↓isIn, ↓aLstS, ↓dmG, ↓aLenSet, ↓isCG, ↓pBody, ↓ownC, ↓endC, ↓endW, ↓pSeq, ↓pIf, ↓pSet, ↓pAsg, ↓pRet, ↓pRetN, ↓pNext, ↓pDrop, ↓pBlk, ↓pWip, ↓pBrk, ↓pCnt, ↓pPar, ↓pAug, ↓pAugL, ↓ipAddG, ↓aFr, ↓aFrT, ↓aTest, ↓aNot, ↓aOp, ↓aUn, ↓aVar, ↓aC, ↓aSetL, ↓aName, ↓agNil, ↓agCons_c, ↓aTupG_2, ↓aTupG_2l, ↓aTupG_3, ↓aTupG_3l, ↓aTupG_4, ↓aTupG_l, ↓aIfE, ↓aAndV, ↓aOrV, ↓aNotV, ↓aAnd, ↓aOr, ↓aDat, ↓aNil, ↓aCons, ↓aTup, ↓aLst, ↓aSl, ↓aRev, ↓aCall, ↓aMe, ↓aMe0, ↓aLc, ↓aLstRg, ↓ixG, ↓cmpG, ↓isG, ↓modG, ↓fdivG, ↓addG, ↓subG, ↓mulG, ↓negG, ↓absG, ↓lenG, ↓appG, ↓powG, ↓eqG, ↓isiG_eq, ↓isiH, ↓maxG, ↓minG, ↓sumG, ↓allG, ↓anyG, ↓listG, ↓tupleG, ↓intG, ↓slG, ↓idxG, ↓aSeq_eq, ↓aRng1, ↓aRng2, ↓aEnm_eq, ↓aZip_eq, ↓wkH, ↓sortG, ↓aRem, ↓popAtG, ↓revG, ↓clrG, ↓popG, ↓extG, ↓insG, ↓jnG, ↓cntG, ↓splG, ↓aYes, ↓aFn_eq, ↓pFor_eq, ↓pForS_eq, ↓pWhile_eq, ↓aLcI_eq, ↓aChain, ↓aCutT, ↓aCut, ↓aKn, ↓aNo, ↓aPart, ↓aFnV, ↓aTru, ↓shlG, ↓shrG, ↓oddG, ↓reprG, ↓strG, ↓pPar3, ↓aSortSet, ↓pBodyK, ↓pBlkK, ↓aKp, ↓aSetd, ↓setdG, ↓aDic0, ↓aKd_eq, ↓aDIx_eq, ↓mulSG, ↓pCutS, ↓aDisp, ↓dispG, ↓aDic0T, ↓aDGetT, ↓aDInT, ↓pDPutT, ↓dgetT, ↓dputT, ↓pLock, ↓aDKeys, ↓aDItems, ↓mtG, ↓aMinL, ↓aMaxL, ↓listKG, ↓aSlR, ↓aLenSetI, ↓ltDG, ↓aRevT, ↓aZipN, ↓aOpn, ↓opnS, ↓aBx, ↓bxS, ↓shS, ↓grpO, ↓updTG, ↓dctTG, ↓dctKG, ↓updKG, ↓sidxG, ↓pDropA, ↓sortSG, ↓pDPutL, ↓aSetR, ↓sortTG, ↓aSlT, ↓slTG, ↓aOpnK, ↓aSortSetS, ↓aValsD, ↓listTG, ↓aVw, ↓pToP, ↓tupRG, ↓isiRG, ↓aSeqR, ↓seqRK, ↓aTupLG, ↓pFrzO, ↓frzAO, ↓pInpS, ↓aSeqP, ↓aLnd, ↓pLnd, ↓aInp, ↓aToP, ↓aMeP, ↓appPG, ↓isPL, ↓addBG, ↓subBG, ↓dpop1T, ↓dpop2T, ↓dpop1K, ↓aDPop1, ↓aDInN, ↓dinN, ↓aGet1, ↓aGet2, ↓dgetA, ↓aKeysD, ↓aItemsD, ↓pDPutD, ↓dputD, ↓dputD1, ↓dputD0, ↓aDicD, ↓aDicP, ↓pDPutP, ↓aLocks, ↓pLocks, ↓lk1, ↓sk1, ↓aChain3, ↓blK, ↓aLcS_eq, ↓aFnVD, ↓cntDG, ↓cntLG, ↓aDGet, ↓aDIn, ↓pDPut, ↓dputK, ↓aDisp1, ↓sortDG, ↓pFldAug, ↓augRf, ↓aMeR, ↓aLcP_eq, ↓pMrg, ↓dgetK, ↓pFrzV, ↓frzA, ↓pRaise, ↓pTry, ↓endA, ↓aMetX, ↓aClX, ↓aMkX, ↓aMkE, ↓whatG, ↓isXG, ↓erT_eq, ↓eaF, lk, isA, putA, ofS_inj, slots, atI_0, atI_1, atI_2, atI_3, ixN_tab, lsV, sqV, dats, clO_lst, clO_gone, clO_dK, clO_dT, lowS, simO, isTy, wipeA, wkV, grd, tyN, toC, argL, ren, renN, renO, putAll, M0, tysB, kitsB, kit_tab, sz_tab, rgT_len, pyV_d, pyV_l, flatO, flatS, T.flat, truG, datV_d, datV_l, optT, datF, selS, mvS, mvN, mvO, kpO, inS, inN, mvA, isMK, keyT, putS_nil, putS_cons, valS_nil, valS_cons, dtS, tksT, anyI, minGK_2, maxGK_2, lkE_nx, lkE_rt, kyT, lsZ, putsS_nil, putsS_cons, bkD, lowD, List.eraseIdx_cons_zero, List.eraseIdx_cons_succ, tksN, hasN, allS, anyN, lkK, lkT, grL, isDS, valS_dvs, zip_dvs, zip_dvs3, zip_dvs2, zip_pairs, lkN, skN, lkd, lkb, lkE_nx, lkE_rt, kyT, dtS, tksT, anyI, flatOD, flatSD, T.nol, T.nols, dkS, freshP, mergeS, frzD, frzT, isE, anyE, clsE_ty, CF.c_BadTrain, CF.e_NightError.clsE, CF.e_BadTrain.clsE, CF.a_Train_stops, CF.a_Train_calm, CF.a_Train_cars, ne_NightError_BadTrain CF, ne_BadTrain_NightError CF, $[$xs:term],*])
def top (i : Nat) : Stmt := PySem.Challenge.pw_nightberths_k03_trains_made.main.body.getD i (.Pass ⟨0, 0, 0, 0⟩)
abbrev s_p_units_of : Stmt := top 6
abbrev s_p_is_room : Stmt := top 7
abbrev s_p_is_name : Stmt := top 11
abbrev s_p_is_number : Stmt := top 12
abbrev s_p_is_row : Stmt := top 13
abbrev s_p_are_unlike : Stmt := top 14
abbrev s_p_is_rising : Stmt := top 15
abbrev s_p_are_stops : Stmt := top 17
abbrev s_p_are_calm : Stmt := top 18
abbrev s_p_are_rooms : Stmt := top 19
abbrev s_p_is_car : Stmt := top 20
abbrev s_p_are_cars : Stmt := top 21
abbrev s_Train_init : Stmt := inClass (top 22) 0
abbrev s_cell_at : Stmt := top 24
abbrev s_box : Stmt := top 25
abbrev s_take : Stmt := top 26
abbrev s_names : Stmt := top 27
abbrev s_room : Stmt := top 28
abbrev s_train : Stmt := top 29
abbrev s_same : Stmt := top 30
abbrev s_right : Stmt := top 31
abbrev s_law : Stmt := top 32
abbrev N_p_units_of : List Str := ["room", "found", "at", "unit"]
theorem sc_p_units_of : FnScope N_p_units_of ["room"] (defScope s_p_units_of) := ⟨rfl, rfl, rfl, by decide +kernel, rfl, by decide +kernel, by decide +kernel⟩
abbrev N_p_is_room : List Str := ["thing", "units", "unit"]
theorem sc_p_is_room : FnScope N_p_is_room ["thing"] (defScope s_p_is_room) := ⟨rfl, rfl, rfl, by decide +kernel, rfl, by decide +kernel, by decide +kernel⟩
abbrev N_p_is_name : List Str := ["thing", "sign"]
theorem sc_p_is_name : FnScope N_p_is_name ["thing"] (defScope s_p_is_name) := ⟨rfl, rfl, rfl, by decide +kernel, rfl, by decide +kernel, by decide +kernel⟩
abbrev N_p_is_number : List Str := ["thing"]
theorem sc_p_is_number : FnScope N_p_is_number ["thing"] (defScope s_p_is_number) := ⟨rfl, rfl, rfl, by decide +kernel, rfl, by decide +kernel, by decide +kernel⟩
abbrev N_p_is_row : List Str := ["thing"]
theorem sc_p_is_row : FnScope N_p_is_row ["thing"] (defScope s_p_is_row) := ⟨rfl, rfl, rfl, by decide +kernel, rfl, by decide +kernel, by decide +kernel⟩
abbrev N_p_are_unlike : List Str := ["things"]
theorem sc_p_are_unlike : FnScope N_p_are_unlike ["things"] (defScope s_p_are_unlike) := ⟨rfl, rfl, rfl, by decide +kernel, rfl, by decide +kernel, by decide +kernel⟩
abbrev N_p_is_rising : List Str := ["numbers", "one", "other"]
theorem sc_p_is_rising : FnScope N_p_is_rising ["numbers"] (defScope s_p_is_rising) := ⟨rfl, rfl, rfl, by decide +kernel, rfl, by decide +kernel, by decide +kernel⟩
abbrev N_p_are_stops : List Str := ["thing", "name"]
theorem sc_p_are_stops : FnScope N_p_are_stops ["thing"] (defScope s_p_are_stops) := ⟨rfl, rfl, rfl, by decide +kernel, rfl, by decide +kernel, by decide +kernel⟩
abbrev N_p_are_calm : List Str := ["thing", "many", "stop"]
theorem sc_p_are_calm : FnScope N_p_are_calm ["thing", "many"] (defScope s_p_are_calm) := ⟨rfl, rfl, rfl, by decide +kernel, rfl, by decide +kernel, by decide +kernel⟩
abbrev N_p_are_rooms : List Str := ["thing", "room"]
theorem sc_p_are_rooms : FnScope N_p_are_rooms ["thing"] (defScope s_p_are_rooms) := ⟨rfl, rfl, rfl, by decide +kernel, rfl, by decide +kernel, by decide +kernel⟩
abbrev N_p_is_car : List Str := ["thing"]
theorem sc_p_is_car : FnScope N_p_is_car ["thing"] (defScope s_p_is_car) := ⟨rfl, rfl, rfl, by decide +kernel, rfl, by decide +kernel, by decide +kernel⟩
abbrev N_p_are_cars : List Str := ["thing", "car"]
theorem sc_p_are_cars : FnScope N_p_are_cars ["thing"] (defScope s_p_are_cars) := ⟨rfl, rfl, rfl, by decide +kernel, rfl, by decide +kernel, by decide +kernel⟩
abbrev N_Train_init : List Str := ["self", "stops", "calm", "cars", "name", "rooms"]
theorem sc_Train_init : FnScope N_Train_init ["self", "stops", "calm", "cars"] (defScope s_Train_init) := ⟨rfl, rfl, rfl, by decide +kernel, rfl, by decide +kernel, by decide +kernel⟩
abbrev N_cell_at : List Str := ["_law_script", "_law_k"]
theorem sc_cell_at : FnScope N_cell_at ["_law_script", "_law_k"] (defScope s_cell_at) := ⟨rfl, rfl, rfl, by decide +kernel, rfl, by decide +kernel, by decide +kernel⟩
abbrev N_box : List Str := ["_law_script", "_law_k", "_law_cell"]
theorem sc_box : FnScope N_box ["_law_script", "_law_k"] (defScope s_box) := ⟨rfl, rfl, rfl, by decide +kernel, rfl, by decide +kernel, by decide +kernel⟩
abbrev N_take : List Str := ["_law_box_here", "_law_many", "_law_found", "_law_once", "_law_twice"]
theorem sc_take : FnScope N_take ["_law_box_here", "_law_many"] (defScope s_take) := ⟨rfl, rfl, rfl, by decide +kernel, rfl, by decide +kernel, by decide +kernel⟩
abbrev N_names : List Str := ["_law_box_here", "_law_many", "_law_letters", "_law_stem", "_law_first", "_law_step", "_law_tail", "_law_words", "_law_found", "_law_k", "_law_one", "_law_other", "_law_name", "_law_kept"]
theorem sc_names : FnScope N_names ["_law_box_here", "_law_many"] (defScope s_names) := ⟨rfl, rfl, rfl, by decide +kernel, rfl, by decide +kernel, by decide +kernel⟩
abbrev N_room : List Str := ["_law_box_here", "_law_most", "_law_signs", "_law_left", "_law_kind"]
theorem sc_room : FnScope N_room ["_law_box_here", "_law_most"] (defScope s_room) := ⟨rfl, rfl, rfl, by decide +kernel, rfl, by decide +kernel, by decide +kernel⟩
abbrev N_train : List Str := ["_law_box_here", "_law_most", "_law_stops", "_law_calm", "_law_cars", "_law_name", "_law_k"]
theorem sc_train : FnScope N_train ["_law_box_here", "_law_most"] (defScope s_train) := ⟨rfl, rfl, rfl, by decide +kernel, rfl, by decide +kernel, by decide +kernel⟩
abbrev N_same : List Str := ["_law_train_here", "_law_due"]
theorem sc_same : FnScope N_same ["_law_train_here", "_law_due"] (defScope s_same) := ⟨rfl, rfl, rfl, by decide +kernel, rfl, by decide +kernel, by decide +kernel⟩
abbrev N_right : List Str := ["_law_box_here", "_law_stops", "_law_calm", "_law_cars", "_law_due", "_law_ways", "_law_handed", "_law_kept", "_law_train_here", "_law_part", "_law_car", "_law_k", "_law_name", "_law_rooms"]
theorem sc_right : FnScope N_right ["_law_box_here"] (defScope s_right) := ⟨rfl, rfl, rfl, by decide +kernel, rfl, by decide +kernel, by decide +kernel⟩
abbrev N_law : List Str := ["_law_script", "_law_k"]
theorem sc_law : FnScope N_law ["_law_script"] (defScope s_law) := ⟨rfl, rfl, rfl, by decide +kernel, rfl, by decide +kernel, by decide +kernel⟩
structure Tx (mg : Str → Option Value) : Prop where
  m_abs : mg "abs" = none
  m_all : mg "all" = none
  m_bool : mg "bool" = none
  m_divmod : mg "divmod" = none
  m_enumerate : mg "enumerate" = none
  m_int : mg "int" = none
  m_isinstance : mg "isinstance" = none
  m_len : mg "len" = none
  m_list : mg "list" = none
  m_min : mg "min" = none
  m_range : mg "range" = none
  m_repr : mg "repr" = none
  m_set : mg "set" = none
  m_str : mg "str" = none
  m_sum : mg "sum" = none
  m_tuple : mg "tuple" = none
  m_zip : mg "zip" = none
structure Ds (K : Fr) (mg : Str → Option Value) : Prop where
  d_p_units_of : Df K mg "units_of" "units_of" s_p_units_of ["room"]
  d_p_is_room : Df K mg "is_room" "is_room" s_p_is_room ["thing"]
  d_p_is_name : Df K mg "is_name" "is_name" s_p_is_name ["thing"]
  d_p_is_number : Df K mg "is_number" "is_number" s_p_is_number ["thing"]
  d_p_is_row : Df K mg "is_row" "is_row" s_p_is_row ["thing"]
  d_p_are_unlike : Df K mg "are_unlike" "are_unlike" s_p_are_unlike ["things"]
  d_p_is_rising : Df K mg "is_rising" "is_rising" s_p_is_rising ["numbers"]
  d_p_are_stops : Df K mg "are_stops" "are_stops" s_p_are_stops ["thing"]
  d_p_are_calm : Df K mg "are_calm" "are_calm" s_p_are_calm ["thing", "many"]
  d_p_are_rooms : Df K mg "are_rooms" "are_rooms" s_p_are_rooms ["thing"]
  d_p_is_car : Df K mg "is_car" "is_car" s_p_is_car ["thing"]
  d_p_are_cars : Df K mg "are_cars" "are_cars" s_p_are_cars ["thing"]
  d_cell_at : Df K mg "_law_cell_at" "_law_cell_at" s_cell_at ["_law_script", "_law_k"]
  d_box : Df K mg "_law_box" "_law_box" s_box ["_law_script", "_law_k"]
  d_take : Df K mg "_law_take" "_law_take" s_take ["_law_box_here", "_law_many"]
  d_names : Df K mg "_law_names" "_law_names" s_names ["_law_box_here", "_law_many"]
  d_room : Df K mg "_law_room" "_law_room" s_room ["_law_box_here", "_law_most"]
  d_train : Df K mg "_law_train" "_law_train" s_train ["_law_box_here", "_law_most"]
  d_same : Df K mg "_law_same" "_law_same" s_same ["_law_train_here", "_law_due"]
  d_right : Df K mg "_law_right" "_law_right" s_right ["_law_box_here"]
  d_law : Df K mg "law" "law" s_law ["_law_script"]
abbrev s_EBadTrain : Stmt := inClass (top 2) 0
structure Cs where
  NightError : Addr
  BadTrain : Addr
  Train : Addr
structure Cf (K : Fr) (mg : Str → Option Value) (cA : Cs) : Prop where
  e_NightError : ErrB K mg "NightError" cA.NightError
  n_NightError : nmE K cA.NightError = "NightError"
  e_BadTrain : ErrB K mg "BadTrain" cA.BadTrain
  n_BadTrain : nmE K cA.BadTrain = "BadTrain"
  c_BadTrain : ErrC K cA.NightError cA.BadTrain
  a_Train_stops : AtF K cA.Train "stops"
  a_Train_calm : AtF K cA.Train "calm"
  a_Train_cars : AtF K cA.Train "cars"
  d_Train_init : DfI K mg cA.Train "Train" "Train.__init__" s_Train_init ["self", "stops", "calm", "cars"]
structure Gx (K : Fr) (w : World) (mg : Str → Option Value) : Prop where
  g_UNITS : GT K mg "UNITS" (.tup ((["l", "u", "l/l", "l/u", "u/l", "u/u"] : List Str).map T.str))
  g_MOST_BERTHS : GT K mg "MOST_BERTHS" (.int 8)
  g_LETTERS : GT K mg "LETTERS" (.str "abcdefghijklmnopqrstuvwxyz")
  g_MOST_LETTERS : GT K mg "MOST_LETTERS" (.int 8)
theorem ne_NightError_BadTrain {K : Fr} {mg : Str → Option Value} {cA : Cs} (CF : Cf K mg cA) : (cA.NightError = cA.BadTrain) = False := nmE_ne CF.n_NightError CF.n_BadTrain (by decide)
theorem ne_BadTrain_NightError {K : Fr} {mg : Str → Option Value} {cA : Cs} (CF : Cf K mg cA) : (cA.BadTrain = cA.NightError) = False := nmE_ne CF.n_BadTrain CF.n_NightError (by decide)
variable {P : Program} {w : World} {K : Fr} {mg : Str → Option Value} {base : Heap} {cA : Cs}
def sp_take : ASp := fun vs s Q => ∃ (o : LO) (β n : Int), vs = [.l 0, .d (.int n)] ∧ s = [o] ∧ Bx β o ∧ β < 2 ^ 40 ∧ 0 < n ∧ n < 2 ^ 30 ∧ ∀ (r : Nat) ts, (r : Int) < n → Bx (β + 1) (.lst ts) → Q (.d (.int r)) [.lst ts]
theorem len_take : ∀ vs s Q, sp_take vs s Q → vs.length = 2 := fun vs s Q ⟨o, β, n, h, _⟩ => by rw [h]; rfl
theorem ok_take (U : Tx mg) (D : Ds K mg) (G_ : Gx K w mg) (CF : Cf K mg cA)  : Cal P w K mg base 1 "_law_take" ["_law_box_here", "_law_many"] sp_take := by
  refine Df.cal D.d_take sc_take (len_take) fun f cdv A outer s H E hr => ?_
  have hu : (A.deeper (PyProof.Rows.envOfC "_law_take" (defScope s_take) s.heap.objs.size f cdv)).units + 64 < cLine := by have := hr.un; omega
  have hu5 : (A.deeper (PyProof.Rows.envOfC "_law_take" (defScope s_take) s.heap.objs.size f cdv)).units + 65 < cLine := by have := hr.un; omega
  refine ⟨_, (ap_cons (ap_if (at_c c_gt (ae_ix (ae_v (pv 0)) ae_int) ae_int) (ap_cons (ap_set (i := 2) sc_take.nd (ae_mod (ae_ix (ae_v (pv 0)) ae_int) (ae_v (pv 1))))
      (ap_cons (ap_asg (ae_fdiv (ae_ix (ae_v (pv 0)) ae_int) (ae_v (pv 1))) (ag_sub (ae_v (pv 0)) ae_int))
      (ap_one (ap_ret (ae_v (pv 2)))))) ap_nil)
      (ap_cons (ap_asg (ae_add (ae_ix (ae_v (pv 0)) ae_int) ae_int) (ag_sub (ae_v (pv 0)) ae_int))
      (ap_cons (ap_set (i := 3) sc_take.nd (ae_mod (ae_mul (ae_add (ae_ix (ae_v (pv 0)) ae_int) (ae_mul ae_int (ae_ix (ae_v (pv 0)) ae_int))) (ae_add ae_int (ae_ix (ae_v (pv 0)) ae_int))) ae_int))
      (ap_cons (ap_set (i := 4) sc_take.nd (ae_mod (ae_mul (ae_add (ae_v (pv 3)) (ae_ix (ae_v (pv 0)) ae_int)) (ae_add (ae_mod (ae_v (pv 3)) ae_int) ae_int)) ae_int))
      (ap_one (ap_ret (ae_mod (ae_fdiv (ae_mod (ae_add (ae_mul (ae_v (pv 4)) ae_int) (ae_v (pv 3))) ae_int) ae_int) (ae_v (pv 1))))))))), ?_⟩
  rintro svs s0 Q ⟨o, β, n, rfl, rfl, ⟨a, m, c, rfl, ha, hm, hm2, hc, hc2⟩, hb, hn, hn2, hQ⟩
  fail "S"
  refine ⟨fun h => ⟨hn, cd_s ⟨hn, by omega⟩, ?_⟩, fun h => ?_⟩
  · obtain ⟨r, hr⟩ := nat_of (Int.emod_nonneg a (show n ≠ 0 by omega))
    rw [hr]
    exact hQ r _ (by rw [← hr]; exact Int.emod_lt_of_pos a hn) ⟨_, _, _, rfl, Int.ediv_nonneg ha (by omega), hm, hm2, hc, by omega⟩
  · generalize (m + 48271 * (c + 1)) * (39373 + (c + 1)) = u
    generalize hv : (u % 2147483647 + (c + 1)) * (u % 2147483647 % 40009 + 7) = v
    refine ⟨cm_l (by omega), cm_l (by omega), cm_l (by omega), cm_l (by omega), cd_s (by omega), hn, ?_⟩
    generalize (v % 2147483629 * 48271 + u % 2147483647) % 2147483587 / 64 = x
    obtain ⟨r, hr⟩ := nat_of (Int.emod_nonneg x (show n ≠ 0 by omega))
    rw [hr]
    exact hQ r _ (by rw [← hr]; exact Int.emod_lt_of_pos x hn) ⟨_, _, _, rfl, ha, hm, hm2, by omega, by omega⟩
def sp_cell_at : ASp := fun vs s Q => ∃ (ns : List Int) (k : Nat), vs = [.d (.scr (ns.map .int)), .d (.int k)] ∧ s = [] ∧ ∀ c, Q (.d (.int c)) s
theorem len_cell_at : ∀ vs s Q, sp_cell_at vs s Q → vs.length = 2 := fun vs s Q ⟨o, n, h, _⟩ => by rw [h]; rfl
theorem ok_cell_at (U : Tx mg) (D : Ds K mg) (G_ : Gx K w mg) (CF : Cf K mg cA)  : Cal P w K mg base 1 "_law_cell_at" ["_law_script", "_law_k"] sp_cell_at := by
  refine Df.cal D.d_cell_at sc_cell_at (len_cell_at) fun f cdv A outer s H E hr => ?_
  have hu : (A.deeper (PyProof.Rows.envOfC "_law_cell_at" (defScope s_cell_at) s.heap.objs.size f cdv)).units + 64 < cLine := by have := hr.un; omega
  have hu5 : (A.deeper (PyProof.Rows.envOfC "_law_cell_at" (defScope s_cell_at) s.heap.objs.size f cdv)).units + 65 < cLine := by have := hr.un; omega
  refine ⟨_, (ap_cons (ap_if (at_c c_lt (ae_v (pv 1)) (ae_len U.m_len (aa_cons (ae_v (pv 0)) aa_nil))) (ap_one (ap_ret (ae_ix (ae_v (pv 0)) (ae_v (pv 1))))) ap_nil)
      (ap_one (ap_ret ae_int))), ?_⟩
  rintro svs s0 Q ⟨ns, k, rfl, rfl, hQ⟩
  fail "S"
  exact ⟨fun h => ⟨_, atI_at (by rw [List.getElem?_map, List.getElem?_eq_getElem h]; rfl), hQ ns[k]⟩, fun h => hQ 0⟩
def sp_box : ASp := fun vs s Q => ∃ (ns : List Int) (k : Nat), vs = [.d (.scr (ns.map .int)), .d (.int k)] ∧ s = [] ∧ k ≤ 1000 ∧ ∀ ts, Bx 0 (.lst ts) → Q (.l 0) [.lst ts]
theorem len_box : ∀ vs s Q, sp_box vs s Q → vs.length = 2 := fun vs s Q ⟨o, n, h, _⟩ => by rw [h]; rfl
theorem ok_box (U : Tx mg) (D : Ds K mg) (G_ : Gx K w mg) (CF : Cf K mg cA) (C_cell_at : Cal P w K mg base 1 "_law_cell_at" ["_law_script", "_law_k"] sp_cell_at) : Cal P w K mg base 2 "_law_box" ["_law_script", "_law_k"] sp_box := by
  refine Df.cal D.d_box sc_box (len_box) fun f cdv A outer s H E hr => ?_
  have hu : (A.deeper (PyProof.Rows.envOfC "_law_box" (defScope s_box) s.heap.objs.size f cdv)).units + 64 < cLine := by have := hr.un; omega
  have hu5 : (A.deeper (PyProof.Rows.envOfC "_law_box" (defScope s_box) s.heap.objs.size f cdv)).units + 65 < cLine := by have := hr.un; omega
  refine ⟨_, (ap_cons (ap_set (i := 2) sc_box.nd (ae_cal C_cell_at (hr.mono (by omega)) (aa_cons (ae_v (pv 0)) (aa_cons (ae_v (pv 1)) aa_nil))))
      (ap_one (ap_ret (ae_lst (aa_cons (ae_mul (ae_abs U.m_abs (aa_cons (ae_v (pv 2)) aa_nil)) (ae_int_ U.m_int (aa_cons (ae_c c_ge (ae_abs U.m_abs (aa_cons (ae_v (pv 2)) aa_nil)) (ae_pow ae_int ae_int)) aa_nil))) (aa_cons (ae_add (ae_add (ae_mod (ae_v (pv 2)) ae_int) (ae_mul ae_int (ae_v (pv 1)))) ae_int) (aa_cons ae_int aa_nil))))))), ?_⟩
  rintro svs s0 Q ⟨ns, k, rfl, rfl, hk, hQ⟩
  fail "S"
  refine callK_of rfl rfl ⟨ns, k, rfl, rfl, fun c => ?_⟩
  fail "S"
  have s1 : (0 : Int) ≤ (if c < 0 then -c else c) := by split <;> omega
  generalize (if c < 0 then -c else c) = u at s1
  have s2 : (0 : Int) ≤ (if 1000000000000000000 ≤ u then 1 else 0) ∧ (if 1000000000000000000 ≤ u then (1 : Int) else 0) ≤ 1 := by split <;> omega
  generalize (if 1000000000000000000 ≤ u then (1 : Int) else 0) = b at s2
  refine ⟨by unfold CPow; decide, cm_r (by omega), cm_l (by omega), hQ _ ⟨_, _, _, rfl, Int.mul_nonneg s1 s2.1, by omega, by omega, by omega, by omega⟩⟩

theorem len_big {n : Nat} (h : n ≤ 60000) : n < sizeLine := Nat.lt_of_le_of_lt h (by decide)
/-- units as data -/
def unT (us : List Lv.U) : List T := us.map fun u => .str (txt (encU u))
theorem unT_len (us : List Lv.U) : (unT us).length = us.length := List.length_map ..
theorem unT_snoc (us : List Lv.U) (u : Lv.U) : unT (us ++ [u]) = unT us ++ [.str (txt (encU u))] := by unfold unT; rw [List.map_append]; rfl
theorem wR_cons (u : Lv.U) (r : List Lv.U) : wR (u :: r) = wU u + wR r := by unfold wR; rw [List.map_cons, List.sum_cons]
abbrev UN : List T := [T.str "l", .str "u", .str "l/l", .str "l/u", .str "u/l", .str "u/u"]
theorem isU_enc {x : List Nat} (h : Ku.isU x = true) : ∃ u : Lv.U, x = encU u := by
  have bth : ∀ c, Ku.bth c = true → ∃ b, c = sgn b := fun c hc => by
    unfold Ku.bth at hc
    rw [Bool.or_eq_true] at hc
    rcases hc with hc | hc
    · exact ⟨false, eq_of_beq hc⟩
    · exact ⟨true, eq_of_beq hc⟩
  match x, h with
  | [a], h =>
    obtain ⟨b, rfl⟩ := bth a h
    exact ⟨(b, none), rfl⟩
  | [a, s, c], h =>
    unfold Ku.isU at h
    rw [Bool.and_eq_true, Bool.and_eq_true] at h
    obtain ⟨b, rfl⟩ := bth a h.1.1
    obtain ⟨d, rfl⟩ := bth c h.2
    have : s = 47 := by simpa using h.1.2
    subst this
    exact ⟨(b, some d), rfl⟩
theorem enc_isU (u : Lv.U) : Ku.isU (encU u) = true := by
  rcases u with ⟨b, _ | c⟩ <;> cases b <;> first | rfl | (cases c <;> rfl)
theorem unit_in (u : Lv.U) : inT (.str (txt (encU u))) UN = true := by
  rcases u with ⟨b, _ | c⟩ <;> cases b <;> first | decide +kernel | (cases c <;> decide +kernel)
theorem unit_out {x : List Nat} (h : Ku.isU x = false) : inT (.str (txt x)) UN = false := by
  cases q : inT (.str (txt x)) UN with
  | false => rfl
  | true =>
    exfalso
    unfold inT inV UN at q
    simp only [List.map_cons, List.map_nil, T.v, List.any_cons, List.any_nil, Bool.or_false, Bool.or_eq_true] at q
    have e : ∀ u : List Nat, Ku.isU u = true → eqV (.str (txt u)) (.str (txt x)) = true → False := fun u hu hz => by
      have hz : txt u = txt x := eq_of_beq hz
      rw [← txt_inj hz, hu] at h
      cases h
    rcases q with q | q | q | q | q | q
    · exact e [108] rfl q
    · exact e [117] rfl q
    · exact e [108, 47, 108] rfl q
    · exact e [108, 47, 117] rfl q
    · exact e [117, 47, 108] rfl q
    · exact e [117, 47, 117] rfl q
def sp_p_units_of : ASp := fun vs s Q => ∃ l : List Nat, vs = [.d (.str (txt l))] ∧ s = [] ∧ l.length ≤ 4500 ∧ (∀ us, l = encR us → Ku.good l = true → Q (.l 0) [.lst (unT us)]) ∧ (Ku.good l = false → Q (.d .non) [])
theorem len_p_units_of : ∀ vs s Q, sp_p_units_of vs s Q → vs.length = 1 := fun vs s Q ⟨us, h, _⟩ => by rw [h]; rfl
theorem ok_p_units_of (U : Tx mg) (D : Ds K mg) (G_ : Gx K w mg) (CF : Cf K mg cA)  : Cal P w K mg base 1 "units_of" ["room"] sp_p_units_of := by
  refine Df.cal D.d_p_units_of sc_p_units_of (len_p_units_of) fun f cdv A outer s H E hr => ?_
  have hu : (A.deeper (PyProof.Rows.envOfC "units_of" (defScope s_p_units_of) s.heap.objs.size f cdv)).units + 64 < cLine := by have := hr.un; omega
  have hu5 : (A.deeper (PyProof.Rows.envOfC "units_of" (defScope s_p_units_of) s.heap.objs.size f cdv)).units + 65 < cLine := by have := hr.un; omega
  refine ⟨_, (ap_cons (ap_set (i := 1) sc_p_units_of.nd (ae_lst aa_nil))
      (ap_cons (ap_set (i := 2) sc_p_units_of.nd ae_int)
      (ap_cons (ap_while PassesOwn.never (at_c c_lt (ae_v (pv 2)) (ae_len U.m_len (aa_cons (ae_v (pv 0)) aa_nil))) (ap_blk [3] (ap_cons (ap_set (i := 3) sc_p_units_of.nd (ae_fr (ae_if (at_c (c_eq hu) (ae_dat (ae_sl (ae_v (pv 0)) (ao_some (ae_add (ae_v (pv 2)) ae_int)) (ao_some (ae_add (ae_v (pv 2)) ae_int)))) ae_str) (ae_sl (ae_v (pv 0)) (ao_some (ae_v (pv 2))) (ao_some (ae_add (ae_v (pv 2)) ae_int))) (ae_sl (ae_v (pv 0)) (ao_some (ae_v (pv 2))) (ao_some (ae_add (ae_v (pv 2)) ae_int))))))
      (ap_cons (ap_if (at_c (c_nin hu5) (ae_v (pv 3)) (ae_glo G_.g_UNITS)) (ap_one (ap_ret ae_non)) ap_nil)
      (ap_cons (ap_expr (ae_append (ae_v (pv 1)) (aa_cons (ae_v (pv 3)) aa_nil)))
      (ap_one (ap_augAdd (i := 2) sc_p_units_of.nd (ae_len U.m_len (aa_cons (ae_v (pv 3)) aa_nil)))))))))
      (ap_one (ap_ret (ae_v (pv 1))))))), ?_⟩
  rintro svs s0 Q ⟨l, rfl, rfl, hl, hQ, hQ2⟩
  have hsz : (txt l).length ≤ sizeLine := by rw [txt_len]; exact Nat.le_of_lt (len_big (by omega))
  fail "S"
  refine pWhile_of (Z := List Lv.U) (fun m us => m = l.length - (encR us).length ∧ (encR us).length ≤ l.length ∧ l = encR us ++ l.drop (encR us).length ∧ Ku.good l = Ku.good (l.drop (encR us).length)) (fun us => [some (.d (.str (txt l))), some (.l 0), some (.d (.int ((encR us).length : Nat))), none]) (fun us => [.lst (unT us)]) ⟨l.length, [], ⟨rfl, Nat.zero_le _, rfl, rfl⟩, rfl, rfl⟩ ?_
  rintro m us ⟨rfl, hle, hpre, hg⟩ C hC B R hB hR
  have hul : us.length ≤ (encR us).length := by
    clear hC hpre hle hg
    induction us with
    | nil => exact Nat.le_refl _
    | cons u r ih => rw [encR_cons, List.length_append, encU_len, List.length_cons]; split <;> omega
  rcases Nat.lt_or_ge (encR us).length l.length with hlt | hge
  · have cA := cut_txt l ((encR us).length + 1) ((encR us).length + 2)
    have cB := cut_txt l (encR us).length ((encR us).length + 3)
    have cC := cut_txt l (encR us).length ((encR us).length + 1)
    have hne : l.drop (encR us).length ≠ [] := fun h => by
      have := congrArg List.length h
      rw [List.length_drop, List.length_nil] at this; omega
    have hst := Ku.good_step hne
    have hd1 : l.drop ((encR us).length + 1) = (l.drop (encR us).length).drop 1 := by rw [List.drop_drop]
    rw [hd1, show ((encR us).length + 2) - ((encR us).length + 1) = 1 by omega] at cA
    rw [show (encR us).length + 3 - (encR us).length = 3 by omega] at cB
    rw [show (encR us).length + 1 - (encR us).length = 1 by omega] at cC
    have hgo : ∀ u : Lv.U, encU u = Ku.firstU (l.drop (encR us).length) → Ku.firstU (l.drop (encR us).length) ++ (l.drop (encR us).length).drop (Ku.firstU (l.drop (encR us).length)).length = l.drop (encR us).length → C [some (.d (.str (txt l))), some (.l 0), some (.d (.int (((encR us).length : Nat) + ((encU u).length : Nat) : Int))), none] [.lst (unT us ++ [.str (txt (encU u))])] := fun u hu hr => by
      have e1 : (encR (us ++ [u])).length = (encR us).length + (encU u).length := by rw [encR_snoc, List.length_append]
      have e2 : l.drop (encR (us ++ [u])).length = (l.drop (encR us).length).drop (encU u).length := by rw [e1, List.drop_drop]
      have hlu : 0 < (encU u).length := by rw [encU_len]; split <;> omega
      have hfit : (encR us).length + (encU u).length ≤ l.length := by
        have := congrArg List.length hr
        rw [List.length_append, List.length_drop, List.length_drop, ← hu] at this
        omega
      have := hC (l.length - (encR (us ++ [u])).length) (us ++ [u]) (by omega) ⟨rfl, by omega, by rw [e2, encR_snoc, List.append_assoc, hu, hr]; exact hpre, by rw [e2, hg, hst, ← hu, enc_isU, Bool.true_and]⟩
      rw [e1, unT_snoc, show (((encR us).length + (encU u).length : Nat) : Int) = ((encR us).length : Nat) + ((encU u).length : Nat) by omega] at this
      exact this
    have hno : Ku.isU (Ku.firstU (l.drop (encR us).length)) = false → R (.d .non) [.lst (unT us)] := fun h => by
      refine hR _ _ ?_
      fail "S"
      exact hQ2 (by rw [hg, hst, h]; rfl)
    have tk : ∀ k : Nat, (l.drop (encR us).length).take k ++ (l.drop (encR us).length).drop ((l.drop (encR us).length).take k).length = l.drop (encR us).length := fun k => by
      rw [List.length_take]
      rcases Nat.le_total k (l.drop (encR us).length).length with h | h
      · rw [Nat.min_eq_left h, List.take_append_drop]
      · rw [Nat.min_eq_right h, List.take_of_length_le h, List.drop_length, List.append_nil]
    have hunl : (unT us).length < sizeLine := by rw [unT_len]; exact len_big (by omega)
    generalize (encR us).length = P at *
    generalize l.drop P = r at *
    rw [show ((P + 1 : Nat) : Int) = (P : Int) + 1 by omega, show ((P + 2 : Nat) : Int) = (P : Int) + 2 by omega] at cA
    rw [show ((P + 3 : Nat) : Int) = (P : Int) + 3 by omega] at cB
    rw [show ((P + 1 : Nat) : Int) = (P : Int) + 1 by omega] at cC
    have fin : ∀ k, Ku.firstU r = r.take k → k ≤ 3 → (inT (.str (txt (r.take k))) UN = true → (unT us).length < sizeLine ∧ (txt (r.take k)).length ≤ sizeLine ∧ C [some (.d (.str (txt l))), some (.l 0), some (.d (.int ((P : Int) + ((txt (r.take k)).length : Nat)))), none] [.lst (unT us ++ [.str (txt (r.take k))])]) ∧ (inT (.str (txt (r.take k))) UN = false → R (.d .non) [.lst (unT us)]) := fun k hk hk3 => by
      constructor
      · intro hin
        cases q : Ku.isU (r.take k) with
        | false => rw [unit_out q] at hin; cases hin
        | true =>
          obtain ⟨u, hu⟩ := isU_enc q
          have := hgo u (by rw [hk, hu]) (by rw [hk]; exact tk k)
          rw [hu, txt_len]
          exact ⟨hunl, by rw [encU_len]; split <;> decide, this⟩
      · intro hin
        cases q : Ku.isU (r.take k) with
        | false => exact hno (by rw [hk]; exact q)
        | true =>
          obtain ⟨u, hu⟩ := isU_enc q
          rw [hu, unit_in] at hin; cases hin
    by_cases h47 : (r.drop 1).head? = some 47
    · have e2 : cutS (txt l) (some ((P : Int) + 1)) (some ((P : Int) + 2)) = Str.ofString "/" := by
        rw [cA]
        cases hq : r.drop 1 with
        | nil => rw [hq] at h47; cases h47
        | cons a t => rw [hq] at h47; cases h47; rfl
      have F := fin 3 (by unfold Ku.firstU; rw [if_pos h47]) (Nat.le_refl _)
      have hle2 : l.length ≤ sizeLine := by rw [txt_len] at hsz; exact hsz
      specialize ⟨txt_len⟩
      refine ⟨hle2, fun _ => ⟨hle2, fun _ => ⟨hle2, ?_⟩, fun h => absurd e2 h⟩, fun h => absurd hlt (by omega)⟩
      rw [cB]
      refine .inl ⟨_, _, rfl, rfl, rfl, rfl, ?_⟩
      cases hin : inT (.str (txt (r.take 3))) UN with
      | true =>
        have F1 := F.1 hin
        rw [txt_len, List.length_take] at F1
        specialize ⟨txt_len⟩
        exact F1
      | false =>
        specialize ⟨txt_len⟩
        exact F.2 hin
    · have e2 : cutS (txt l) (some ((P : Int) + 1)) (some ((P : Int) + 2)) ≠ Str.ofString "/" := by
        rw [cA]
        intro h
        have h : txt ((r.drop 1).take 1) = txt [47] := h
        have h := txt_inj h
        cases hq : r.drop 1 with
        | nil => rw [hq] at h; cases h
        | cons a t =>
          rw [hq] at h
          have : a = 47 := by simpa using h
          rw [hq, this] at h47; exact h47 rfl
      have F := fin 1 (by unfold Ku.firstU; rw [if_neg h47]) (by omega)
      have hle2 : l.length ≤ sizeLine := by rw [txt_len] at hsz; exact hsz
      specialize ⟨txt_len⟩
      refine ⟨hle2, fun _ => ⟨hle2, fun h => absurd h e2, fun _ => ⟨hle2, ?_⟩⟩, fun h => absurd hlt (by omega)⟩
      rw [cC]
      refine .inl ⟨_, _, rfl, rfl, rfl, rfl, ?_⟩
      cases hin : inT (.str (txt (r.take 1))) UN with
      | true =>
        have F1 := F.1 hin
        rw [txt_len, List.length_take] at F1
        specialize ⟨txt_len⟩
        exact F1
      | false =>
        specialize ⟨txt_len⟩
        exact F.2 hin
  · have h0 : l.drop (encR us).length = [] := List.drop_eq_nil_of_le hge
    rw [h0, List.append_nil] at hpre
    specialize ⟨txt_len⟩
    refine ⟨by rw [txt_len] at hsz; exact hsz, fun h => absurd h (by omega), fun _ => hB _ _ ?_⟩
    fail "S"
    exact hQ us hpre (by rw [hg, h0]; rfl)

/-- plain data for isinstance -/
def pln : T → Bool
  | .scr _ => false
  | .ref _ => false
  | .ty _ => false
  | .obj _ _ _ => false
  | .exc _ _ => false
  | .dk _ _ => false
  | .dt _ _ => false
  | _ => true
def sp_p_is_number : ASp := fun vs s Q => ∃ t : T, vs = [.d t] ∧ s = [] ∧ pln t = true ∧ Q (.d (.bl (isNum t))) []
theorem len_p_is_number : ∀ vs s Q, sp_p_is_number vs s Q → vs.length = 1 := fun vs s Q ⟨x, h, _⟩ => by rw [h]; rfl
theorem ok_p_is_number (U : Tx mg) (D : Ds K mg) (G_ : Gx K w mg) (CF : Cf K mg cA)  : Cal P w K mg base 1 "is_number" ["thing"] sp_p_is_number := by
  refine Df.cal D.d_p_is_number sc_p_is_number (len_p_is_number) fun f cdv A outer s H E hr => ?_
  have hu : (A.deeper (PyProof.Rows.envOfC "is_number" (defScope s_p_is_number) s.heap.objs.size f cdv)).units + 64 < cLine := by have := hr.un; omega
  have hu5 : (A.deeper (PyProof.Rows.envOfC "is_number" (defScope s_p_is_number) s.heap.objs.size f cdv)).units + 65 < cLine := by have := hr.un; omega
  refine ⟨_, (ap_one (ap_ret (ae_and (ae_isi U.m_isinstance (aa_cons (ae_v (pv 0)) (aa_cons (ae_ty U.m_int (by rfl)) aa_nil))) (ae_one (ae_not (ae_isi U.m_isinstance (aa_cons (ae_v (pv 0)) (aa_cons (ae_ty U.m_bool (by rfl)) aa_nil)))))))), ?_⟩
  rintro svs s0 Q ⟨t, rfl, rfl, ht, hQ⟩
  cases t <;> first | (cases ht; done) | (fail "S"; exact hQ)

theorem cnt_room (us : List Lv.U) : Ku.nB (encR us) = wR us := by
  unfold Ku.nB
  induction us with
  | nil => rfl
  | cons u r ih =>
    rw [encR_cons, List.count_append, List.count_append, wR_cons]
    have : (encU u).count 108 + (encU u).count 117 = wU u := by
      rcases u with ⟨b, _ | c⟩
      · cases b <;> rfl
      · cases b <;> cases c <;> rfl
    omega
/-- what is_room tells of a thing -/
def roomT : T → Bool
  | .str z => Ku.room z.cps.toList
  | _ => false
def fW : T → T
  | .str z => .int (((z.length : Int) + 1) / 2)
  | _ => .non
theorem fW_u (us : List Lv.U) : (unT us).map fW = (us.map fun u => ((wU u : Nat) : Int)).map T.int := by
  unfold unT
  rw [List.map_map, List.map_map]
  refine List.map_congr_left fun u _ => ?_
  show T.int ((((txt (encU u)).length : Int) + 1) / 2) = T.int _
  rw [txt_len]
  rcases u with ⟨b, _ | c⟩ <;> simp [encU, wU]
theorem sum_wU (us : List Lv.U) : (us.map fun u => ((wU u : Nat) : Int)).sum = (wR us : Nat) := by
  unfold wR
  induction us with
  | nil => rfl
  | cons u r ih => rw [List.map_cons, List.sum_cons, List.map_cons, List.sum_cons, ih]; omega
theorem txt_eta (z : Str) : txt z.cps.toList = z := by
  cases z with
  | mk c => unfold txt; simp
def sp_p_is_room : ASp := fun vs s Q => ∃ t : T, vs = [.d t] ∧ s = [] ∧ pln t = true ∧ t.wt ≤ 4500 ∧ Q (.d (.bl (roomT t))) []
theorem len_p_is_room : ∀ vs s Q, sp_p_is_room vs s Q → vs.length = 1 := fun vs s Q ⟨x, h, _⟩ => by rw [h]; rfl
theorem ok_p_is_room (U : Tx mg) (D : Ds K mg) (G_ : Gx K w mg) (CF : Cf K mg cA) (C_p_units_of : Cal P w K mg base 1 "units_of" ["room"] sp_p_units_of) : Cal P w K mg base 2 "is_room" ["thing"] sp_p_is_room := by
  refine Df.cal D.d_p_is_room sc_p_is_room (len_p_is_room) fun f cdv A outer s H E hr => ?_
  have hu : (A.deeper (PyProof.Rows.envOfC "is_room" (defScope s_p_is_room) s.heap.objs.size f cdv)).units + 64 < cLine := by have := hr.un; omega
  have hu5 : (A.deeper (PyProof.Rows.envOfC "is_room" (defScope s_p_is_room) s.heap.objs.size f cdv)).units + 65 < cLine := by have := hr.un; omega
  refine ⟨_, (ap_cons (ap_set (i := 1) sc_p_is_room.nd (ae_if (at_val (ae_isi U.m_isinstance (aa_cons (ae_v (pv 0)) (aa_cons (ae_ty U.m_str (by rfl)) aa_nil)))) (ae_cal C_p_units_of (hr.mono (by omega)) (aa_cons (ae_v (pv 0)) aa_nil)) ae_non))
      (ap_cons (ap_if (at_c c_is (ae_v (pv 1)) ae_non) (ap_one (ap_ret ae_bl)) ap_nil)
      (ap_one (ap_ret (ae_chain c_le c_le ae_int (ae_sum U.m_sum (aa_cons (ae_dat (ae_lc (own := [("unit", 2)]) sc_p_is_room.nd (ai_seq (ae_v (pv 1))) (blkOk_by (own := [("unit", 2)]) (N := N_p_is_room) (sc := defScope s_p_is_room) (by decide +kernel)) (fun _ _ _ _ _ => (ag_name (i := 2) sc_p_is_room.nd)) (fun _ _ _ _ _ => ats_nil) (fun _ _ _ _ _ => (ae_fdiv (ae_add (ae_len U.m_len (aa_cons (ae_v (pv 2)) aa_nil)) ae_int) ae_int)))) aa_nil)) (ae_glo G_.g_MOST_BERTHS)))))), ?_⟩
  rintro svs s0 Q ⟨t, rfl, rfl, ht, hw, hQ⟩
  cases t with
  | str z =>
    rw [wt_str] at hw
    have hz : z = txt z.cps.toList := (txt_eta z).symm
    have hzl : z.cps.toList.length ≤ 4500 := by rw [← txt_len, txt_eta]; exact hw
    generalize z.cps.toList = l at hz hzl
    subst hz
    have hQ : Q (.d (.bl (Ku.room l))) [] := hQ
    fail "S"
    refine callK_of rfl rfl ⟨l, rfl, rfl, hzl, fun us hus hg => ?_, fun hg => ?_⟩
    · have hul : us.length ≤ 4500 := by
        have : us.length ≤ (encR us).length := by
          clear hus hQ hg
          induction us with
          | nil => exact Nat.le_refl _
          | cons u r ih => rw [encR_cons, List.length_append, encU_len, List.length_cons]; split <;> omega
        rw [← hus] at this; omega
      have hwr : Ku.room l = (decide (1 ≤ wR us) && decide (wR us ≤ 8)) := by
        unfold Ku.room
        rw [hg, Bool.true_and, hus, cnt_room, Bool.decide_and]
      rw [hwr] at hQ
      fail "S"
      refine lcI_pure (unT us) (fun _ => true) fW (by rw [unT_len]; exact len_big (by omega)) ?_ ?_ ?_
      · intro Q' h
        fail "S"
        exact h _ rfl
      · intro i x hx acc C hacc hT hF
        have hT := hT rfl
        have hx2 := hx
        unfold unT at hx2
        rw [List.getElem?_map] at hx2
        obtain ⟨u, hu, rfl⟩ := Option.map_eq_some_iff.mp hx2
        have hT : C (acc ++ [T.int ((((txt (encU u)).length : Int) + 1) / 2)]) _ := hT
        specialize ⟨txt_len⟩
        rw [txt_len] at hT
        exact ⟨by rw [encU_len]; split <;> decide, cd_s (by omega), hacc, hT⟩
      · rw [filt_true, fW_u]
        fail "S"
        refine ⟨us.map fun u => ((wU u : Nat) : Int), by rw [List.map_map], ?_⟩
        rw [sum_wU]
        refine ⟨fun h => ?_, fun h => ?_⟩
        · rw [decide_eq_true (show 1 ≤ wR us by omega), Bool.true_and] at hQ
          rw [show decide (((wR us : Nat) : Int) ≤ 8) = decide (wR us ≤ 8) from decide_eq_decide.mpr (by omega)]
          exact hQ
        · rw [decide_eq_false (show ¬(1 ≤ wR us) by omega), Bool.false_and] at hQ
          exact hQ
    · have hwr : Ku.room l = false := by unfold Ku.room; rw [hg, Bool.false_and]
      rw [hwr] at hQ
      fail "S"
      exact hQ
  | _ => first | (cases ht; done) | (fail "S"; exact hQ)

/-- a list or a tuple of data -/
def seqT : T → Option (List T)
  | .lst ts => some ts
  | .tup ts => some ts
  | _ => none
def nameOk (z : Str) : Bool := decide (1 ≤ z.length) && decide (z.length ≤ 8) && z.cps.toList.all fun c => decide (97 ≤ c ∧ c ≤ 122)
def nameT : T → Bool
  | .str z => nameOk z
  | _ => false
theorem sub1 (l : List Nat) (c k : Nat) (h : k < l.length) : Builtin.Str.subAt (txt l) (txt [c]) k = decide (l[k] = c) := by
  unfold Builtin.Str.subAt
  rw [show (txt [c]).length = 1 from rfl]
  show ((l.toArray.extract k (k + 1)) == [c].toArray) = _
  have : l.toArray.extract k (k + 1) = [l[k]].toArray := by
    rw [List.extract_toArray, List.extract_eq_drop_take, Nat.add_sub_cancel_left, List.drop_eq_getElem_cons h]; rfl
  rw [this]
  by_cases hc : l[k] = c
  · rw [hc]; simp
  · simp [hc]
theorem occ_lim (l : List Nat) (c : Nat) : ∀ (n k : Nat) (st : Array Nat × Nat), k + n = l.length + 1 → st.2 ≤ k → st.1.size ≤ 1 → (forIn (List.range' k n) st (StrLaws.occBody (txt l) (txt [c]) l.length 1)).run.1.isEmpty = (st.1.isEmpty && !(l.drop k).contains c) := by
  intro n
  induction n with
  | zero =>
    intro k st hk _ _
    rw [List.drop_eq_nil_of_le (by omega)]
    show st.1.isEmpty = _
    simp
  | succ n ih =>
    intro k st hk h2 h3
    rw [List.range'_succ, List.forIn_cons]
    have hu : StrLaws.occBody (txt l) (txt [c]) l.length 1 k st = if ((st.fst.size < 1 ∧ st.snd ≤ k) ∧ k + (txt [c]).length ≤ l.length) ∧ Builtin.Str.subAt (txt l) (txt [c]) k = true then pure (ForInStep.yield (st.fst.push k, k + (txt [c]).length)) else pure (ForInStep.yield (st.fst, st.snd)) := rfl
    rw [hu, show (txt [c]).length = 1 from rfl]
    rcases Nat.lt_or_ge k l.length with hlt | hge
    · rw [sub1 l c k hlt, List.drop_eq_getElem_cons hlt, List.contains_cons]
      by_cases hc : l[k] = c
      · by_cases hz : st.1.size < 1
        · rw [if_pos ⟨⟨⟨hz, h2⟩, by omega⟩, decide_eq_true hc⟩]
          have := ih (k + 1) (st.1.push k, k + 1) (by omega) (Nat.le_refl _) (by show (st.1.push k).size ≤ 1; rw [Array.size_push]; omega)
          refine Eq.trans this ?_
          have e : (st.1.push k).isEmpty = false := by simp
          show ((st.1.push k).isEmpty && _) = _
          rw [e, hc]; simp
        · rw [if_neg fun h => hz h.1.1.1]
          have := ih (k + 1) (st.1, st.2) (by omega) (by show st.2 ≤ _; omega) h3
          refine Eq.trans this ?_
          have e : st.1.isEmpty = false := by
            cases q : st.1.isEmpty with
            | false => rfl
            | true => rw [Array.isEmpty_iff_size_eq_zero] at q; omega
          show (st.1.isEmpty && _) = _
          rw [e]; simp
      · rw [if_neg fun h => hc (of_decide_eq_true h.2)]
        have := ih (k + 1) (st.1, st.2) (by omega) (by show st.2 ≤ _; omega) h3
        refine Eq.trans this ?_
        have e : (c == l[k]) = false := by simpa using fun z => hc z.symm
        rw [e, Bool.false_or]
    · rw [if_neg fun h => absurd h.1.2 (by omega)]
      have := ih (k + 1) (st.1, st.2) (by omega) (by show st.2 ≤ _; omega) h3
      refine Eq.trans this ?_
      rw [List.drop_eq_nil_of_le (by omega), List.drop_eq_nil_of_le hge]
theorem has_one (l : List Nat) (c : Nat) : (!(Builtin.Str.occurrences (txt l) (txt [c]) 0 (txt l).length 1).isEmpty) = l.contains c := by
  rw [StrLaws.occ_eq, txt_len]
  have := occ_lim l c (l.length + 1) 0 (#[], 0) (by omega) (Nat.le_refl _) (Nat.zero_le _)
  rw [List.drop_zero] at this
  rw [Nat.sub_zero, Array.isEmpty_toList, this]
  simp
theorem letters_has (c : Nat) : (!(Builtin.Str.occurrences (Str.ofString "abcdefghijklmnopqrstuvwxyz") (⟨#[c]⟩ : Str) 0 (Str.ofString "abcdefghijklmnopqrstuvwxyz").length 1).isEmpty) = decide (97 ≤ c ∧ c ≤ 122) := by
  have e : Str.ofString "abcdefghijklmnopqrstuvwxyz" = txt (List.range' 97 26) := by decide +kernel
  rw [e]
  refine Eq.trans (has_one _ c) ?_
  rw [Bool.eq_iff_iff, List.contains_iff_mem, List.mem_range'_1, decide_eq_true_iff]
  omega
def sp_p_is_name : ASp := fun vs s Q => ∃ t : T, vs = [.d t] ∧ s = [] ∧ pln t = true ∧ t.wt ≤ 4500 ∧ Q (.d (.bl (nameT t))) []
theorem len_p_is_name : ∀ vs s Q, sp_p_is_name vs s Q → vs.length = 1 := fun vs s Q ⟨x, h, _⟩ => by rw [h]; rfl
def fLet : T → T
  | .str z => .bl (z.cps.toList.all fun c => decide (97 ≤ c ∧ c ≤ 122))
  | _ => .non
theorem ok_p_is_name (U : Tx mg) (D : Ds K mg) (G_ : Gx K w mg) (CF : Cf K mg cA)  : Cal P w K mg base 1 "is_name" ["thing"] sp_p_is_name := by
  refine Df.cal D.d_p_is_name sc_p_is_name (len_p_is_name) fun f cdv A outer s H E hr => ?_
  have hu : (A.deeper (PyProof.Rows.envOfC "is_name" (defScope s_p_is_name) s.heap.objs.size f cdv)).units + 64 < cLine := by have := hr.un; omega
  have hu5 : (A.deeper (PyProof.Rows.envOfC "is_name" (defScope s_p_is_name) s.heap.objs.size f cdv)).units + 65 < cLine := by have := hr.un; omega
  refine ⟨_, (ap_cons (ap_if ((aw_or (at_not (at_val (ae_isi U.m_isinstance (aa_cons (ae_v (pv 0)) (aa_cons (ae_ty U.m_str (by rfl)) aa_nil))))) (aw_or1 (at_not (at_chain c_le c_le ae_int (ae_len U.m_len (aa_cons (ae_v (pv 0)) aa_nil)) (ae_glo G_.g_MOST_LETTERS)))))).at_ (ap_one (ap_ret ae_bl)) ap_nil)
      (ap_one (ap_ret (ae_all U.m_all (aa_cons (ae_dat (ae_lc (own := [("sign", 1)]) sc_p_is_name.nd (ai_seq (ae_v (pv 0))) (blkOk_by (own := [("sign", 1)]) (N := N_p_is_name) (sc := defScope s_p_is_name) (by decide +kernel)) (fun _ _ _ _ _ => (ag_name (i := 1) sc_p_is_name.nd)) (fun _ _ _ _ _ => ats_nil) (fun _ _ _ _ _ => (ae_c (c_in hu5) (ae_v (pv 1)) (ae_glo G_.g_LETTERS))))) aa_nil))))), ?_⟩
  rintro svs s0 Q ⟨t, rfl, rfl, ht, hw, hQ⟩
  cases t with
  | str z =>
    rw [wt_str] at hw
    have hzl : z.length ≤ sizeLine := Nat.le_of_lt (len_big (by omega))
    have hQ : Q (.d (.bl (nameOk z))) [] := hQ
    unfold nameOk at hQ
    fail "S"
    refine ⟨hzl, fun h1 => ⟨fun h2 => ?_, fun h2 => ?_⟩, fun h1 => ?_⟩
    · rw [decide_eq_false (show ¬z.length ≤ 8 by omega)] at hQ
      simpa using hQ
    · rw [decide_eq_true (show 1 ≤ z.length by omega), decide_eq_true (show z.length ≤ 8 by omega)] at hQ
      have hlen : (Lv.chT z).length < sizeLine := by
        unfold Lv.chT
        rw [List.length_map, Array.length_toList]
        exact len_big (by have : z.cps.size = z.length := rfl; omega)
      refine lcI_pure (Lv.chT z) (fun _ => true) fLet hlen ?_ ?_ ?_
      · intro Q' h
        fail "S"
        exact h _ (by first | trivial | rfl)
      · intro i x hx acc C2 hacc hT hF
        have hT := hT rfl
        unfold Lv.chT at hx
        rw [List.getElem?_map] at hx
        obtain ⟨c, hc, rfl⟩ := Option.map_eq_some_iff.mp hx
        have e : fLet (.str ⟨#[c]⟩) = .bl (decide (97 ≤ c ∧ c ≤ 122)) := by unfold fLet; simp
        rw [e] at hT
        have lh := letters_has c
        fail "S"
        refine ⟨.bl (false != !(Builtin.Str.occurrences (Str.ofString "abcdefghijklmnopqrstuvwxyz") (⟨#[c]⟩ : Str) 0 (Str.ofString "abcdefghijklmnopqrstuvwxyz").length 1).isEmpty), rfl, hacc, ?_⟩
        rw [lh, bne_f]
        exact hT
      · rw [filt_true]
        fail "S"
        refine ⟨z.cps.toList.map fun c => decide (97 ≤ c ∧ c ≤ 122), ?_, ?_⟩
        · unfold Lv.chT
          rw [List.map_map, List.map_map]
          exact List.map_congr_left fun c _ => by show fLet (.str ⟨#[c]⟩) = _; unfold fLet; simp
        · rw [List.all_map]
          simpa using hQ
    · rw [decide_eq_false (show ¬1 ≤ z.length by omega)] at hQ
      simpa using hQ
  | _ => first | (cases ht; done) | (fail "S"; exact hQ)
def rowT : T → Bool
  | .lst _ => true
  | .tup _ => true
  | _ => false
def sp_p_is_row : ASp := fun vs s Q => ∃ t : T, vs = [.d t] ∧ s = [] ∧ pln t = true ∧ Q (.d (.bl (rowT t))) []
theorem len_p_is_row : ∀ vs s Q, sp_p_is_row vs s Q → vs.length = 1 := fun vs s Q ⟨x, h, _⟩ => by rw [h]; rfl
theorem ok_p_is_row (U : Tx mg) (D : Ds K mg) (G_ : Gx K w mg) (CF : Cf K mg cA)  : Cal P w K mg base 1 "is_row" ["thing"] sp_p_is_row := by
  refine Df.cal D.d_p_is_row sc_p_is_row (len_p_is_row) fun f cdv A outer s H E hr => ?_
  have hu : (A.deeper (PyProof.Rows.envOfC "is_row" (defScope s_p_is_row) s.heap.objs.size f cdv)).units + 64 < cLine := by have := hr.un; omega
  have hu5 : (A.deeper (PyProof.Rows.envOfC "is_row" (defScope s_p_is_row) s.heap.objs.size f cdv)).units + 65 < cLine := by have := hr.un; omega
  refine ⟨_, (ap_one (ap_ret (ae_isi U.m_isinstance (aa_cons (ae_v (pv 0)) (aa_cons (ae_tup (aa_cons (ae_ty U.m_list (by rfl)) (aa_cons (ae_ty U.m_tuple (by rfl)) aa_nil))) aa_nil))))), ?_⟩
  rintro svs s0 Q ⟨t, rfl, rfl, ht, hQ⟩
  cases t <;> first | (cases ht; done) | (fail "S"; exact hQ)
def sp_p_are_unlike : ASp := fun vs s Q => ∃ (x : T) (xs : List Str), vs = [.d x] ∧ s = [] ∧ seqT x = some (xs.map T.str) ∧ xs.length ≤ 1000 ∧ Q (.d (.bl (decide xs.Nodup))) []
theorem len_p_are_unlike : ∀ vs s Q, sp_p_are_unlike vs s Q → vs.length = 1 := fun vs s Q ⟨x, xs, h, _⟩ => by rw [h]; rfl
theorem ok_p_are_unlike (U : Tx mg) (D : Ds K mg) (G_ : Gx K w mg) (CF : Cf K mg cA)  : Cal P w K mg base 1 "are_unlike" ["things"] sp_p_are_unlike := by
  refine Df.cal D.d_p_are_unlike sc_p_are_unlike (len_p_are_unlike) fun f cdv A outer s H E hr => ?_
  have hu : (A.deeper (PyProof.Rows.envOfC "are_unlike" (defScope s_p_are_unlike) s.heap.objs.size f cdv)).units + 64 < cLine := by have := hr.un; omega
  have hu5 : (A.deeper (PyProof.Rows.envOfC "are_unlike" (defScope s_p_are_unlike) s.heap.objs.size f cdv)).units + 65 < cLine := by have := hr.un; omega
  refine ⟨_, (ap_one (ap_ret (ae_c (c_eq hu) (ae_lenSet U.m_len U.m_set (ae_v (pv 0))) (ae_len U.m_len (aa_cons (ae_v (pv 0)) aa_nil))))), ?_⟩
  rintro svs s0 Q ⟨x, xs, rfl, rfl, hx, hl, hQ⟩
  have e : decide (((unl xs.reverse : Nat) : Int) = ((xs.map T.str).length : Nat)) = decide xs.Nodup := decide_eq_decide.mpr (by rw [← unl_rev, List.length_map]; omega)
  cases x with
  | lst ts =>
    cases hx
    fail "S"
    refine ⟨xs, rfl, hl, ?_⟩
    rw [List.length_map] at e
    rw [e]; exact hQ
  | tup ts =>
    cases hx
    fail "S"
    refine ⟨xs, rfl, hl, ?_⟩
    rw [List.length_map] at e
    rw [e]; exact hQ
  | _ => cases hx

def strOf : T → Str
  | .str z => z
  | _ => Str.empty
def sp_p_is_rising : ASp := fun vs s Q => ∃ (x : T) (J : List Nat), vs = [.d x] ∧ s = [] ∧ seqT x = some (natT J) ∧ J.length ≤ 1000 ∧ Q (.d (.bl ((zpT (natT J) (natT J).tail).all ltP))) []
theorem len_p_is_rising : ∀ vs s Q, sp_p_is_rising vs s Q → vs.length = 1 := fun vs s Q ⟨x, xs, h, _⟩ => by rw [h]; rfl
theorem natT_tail (J : List Nat) : (natT J).tail = natT J.tail := by unfold natT; rw [List.map_tail]
def fLt : T → T
  | .tup [.int a, .int b] => .bl (decide (a < b))
  | _ => .non
theorem fLt_zp : ∀ J : List Nat, (zpT (natT J) (natT J.tail)).map fLt = ((zpT (natT J) (natT J.tail)).map ltP).map T.bl
  | [] => rfl
  | [a] => rfl
  | a :: b :: r => by
    have ih := fLt_zp (b :: r)
    show fLt (.tup [.int a, .int b]) :: (zpT (natT (b :: r)) (natT (b :: r).tail)).map fLt = _
    rw [ih]; rfl
theorem ok_p_is_rising (U : Tx mg) (D : Ds K mg) (G_ : Gx K w mg) (CF : Cf K mg cA)  : Cal P w K mg base 1 "is_rising" ["numbers"] sp_p_is_rising := by
  refine Df.cal D.d_p_is_rising sc_p_is_rising (len_p_is_rising) fun f cdv A outer s H E hr => ?_
  have hu : (A.deeper (PyProof.Rows.envOfC "is_rising" (defScope s_p_is_rising) s.heap.objs.size f cdv)).units + 64 < cLine := by have := hr.un; omega
  have hu5 : (A.deeper (PyProof.Rows.envOfC "is_rising" (defScope s_p_is_rising) s.heap.objs.size f cdv)).units + 65 < cLine := by have := hr.un; omega
  refine ⟨_, (ap_one (ap_ret (ae_all U.m_all (aa_cons (ae_dat (ae_lc (own := [("one", 1), ("other", 2)]) sc_p_is_rising.nd (ai_zip U.m_zip (ae_v (pv 0)) (ae_dat (ae_sl (ae_v (pv 0)) (ao_some ae_int) ao_none))) (blkOk_by (own := [("one", 1), ("other", 2)]) (N := N_p_is_rising) (sc := defScope s_p_is_rising) (by decide +kernel)) (fun _ _ _ _ _ => (ag_tup (n := 2) rfl (ags_cons (ag_name (i := 1) sc_p_is_rising.nd) (ags_cons (ag_name (i := 2) sc_p_is_rising.nd) ags_nil)))) (fun _ _ _ _ _ => ats_nil) (fun _ _ _ _ _ => (ae_c c_lt (ae_v (pv 1)) (ae_v (pv 2)))))) aa_nil)))), ?_⟩
  rintro svs s0 Q ⟨x, J, rfl, rfl, hx, hl, hQ⟩
  cases x with
  | lst ts =>
    cases hx
    fail "S"
    refine lcI_pure (zpT (natT J) (natT J.tail)) (fun _ => true) fLt (by rw [zpT_len, natT_len]; exact len_big (by omega)) ?_ ?_ ?_
    · intro Q' h
      specialize ⟨natT_drop1, List.drop_one⟩
      exact h _ (by first | trivial | rfl)
    · intro i x hx acc C2 hacc hT hF
      have hT := hT rfl
      have hi := (List.getElem?_eq_some_iff.mp hx).1
      rw [zpT_len, natT_len, natT_len, List.length_tail] at hi
      rw [zpT_get (natT_get (i := i) (by omega)) (natT_get (i := i) (by rw [List.length_tail]; omega))] at hx
      cases hx
      have e2 : fLt (.tup [.int (J[i]'(by omega) : Nat), .int (J.tail[i]'(by rw [List.length_tail]; omega) : Nat)]) = .bl (decide (J[i]'(by omega) < J[i + 1]'(by omega))) := by
        show T.bl (decide (((J[i]'(by omega) : Nat) : Int) < ((J.tail[i]'(by rw [List.length_tail]; omega) : Nat) : Int))) = _
        rw [List.getElem_tail]
        congr 1
        apply decide_eq_decide.mpr; omega
      rw [e2] at hT
      fail "S"
      exact ⟨hacc, hT⟩
    · rw [filt_true, fLt_zp]
      fail "S"
      refine ⟨(zpT (natT J) (natT J.tail)).map ltP, by rw [List.map_map], ?_⟩
      rw [natT_tail] at hQ
      rw [List.all_map]
      exact hQ
  | tup ts =>
    cases hx
    fail "S"
    refine lcI_pure (zpT (natT J) (natT J.tail)) (fun _ => true) fLt (by rw [zpT_len, natT_len]; exact len_big (by omega)) ?_ ?_ ?_
    · intro Q' h
      specialize ⟨natT_drop1, List.drop_one⟩
      exact h _ (by first | trivial | rfl)
    · intro i x hx acc C2 hacc hT hF
      have hT := hT rfl
      have hi := (List.getElem?_eq_some_iff.mp hx).1
      rw [zpT_len, natT_len, natT_len, List.length_tail] at hi
      rw [zpT_get (natT_get (i := i) (by omega)) (natT_get (i := i) (by rw [List.length_tail]; omega))] at hx
      cases hx
      have e2 : fLt (.tup [.int (J[i]'(by omega) : Nat), .int (J.tail[i]'(by rw [List.length_tail]; omega) : Nat)]) = .bl (decide (J[i]'(by omega) < J[i + 1]'(by omega))) := by
        show T.bl (decide (((J[i]'(by omega) : Nat) : Int) < ((J.tail[i]'(by rw [List.length_tail]; omega) : Nat) : Int))) = _
        rw [List.getElem_tail]
        congr 1
        apply decide_eq_decide.mpr; omega
      rw [e2] at hT
      fail "S"
      exact ⟨hacc, hT⟩
    · rw [filt_true, fLt_zp]
      fail "S"
      refine ⟨(zpT (natT J) (natT J.tail)).map ltP, by rw [List.map_map], ?_⟩
      rw [natT_tail] at hQ
      rw [List.all_map]
      exact hQ
  | _ => cases hx
def cmT (m : Int) : T → Bool
  | .int i => decide (0 < i ∧ i < m - 1)
  | _ => false
def calmT (m : Int) (ts : List T) : Bool := ts.all (cmT m) && (zpT ts ts.tail).all ltP
def fCm (m : Int) (t : T) : T := .bl (cmT m t)
theorem cm_nat {m : Int} {ts : List T} (h : ts.all (cmT m) = true) : ts = natT (ts.map natOf) := by
  induction ts with
  | nil => rfl
  | cons t ts ih =>
    rw [List.all_cons, Bool.and_eq_true] at h
    have e1 := ih h.2
    cases t with
    | int i =>
      have h1 := of_decide_eq_true h.1
      rw [List.map_cons]
      conv => lhs; rw [e1]
      show _ = T.int ((i.toNat : Nat) : Int) :: natT (ts.map natOf)
      rw [show ((i.toNat : Nat) : Int) = i by omega]
    | _ => cases h.1
def sp_p_are_calm : ASp := fun vs s Q => ∃ (x : T) (m : Int) (ts : List T), vs = [.d x, .d (.int m)] ∧ s = [] ∧ seqT x = some ts ∧ ts.length ≤ 1000 ∧ (∀ t ∈ ts, pln t = true) ∧ Q (.d (.bl (calmT m ts))) []
theorem len_p_are_calm : ∀ vs s Q, sp_p_are_calm vs s Q → vs.length = 2 := fun vs s Q ⟨x, m, xs, h, _⟩ => by rw [h]; rfl
theorem ok_p_are_calm (U : Tx mg) (D : Ds K mg) (G_ : Gx K w mg) (CF : Cf K mg cA) (C_p_is_rising : Cal P w K mg base 1 "is_rising" ["numbers"] sp_p_is_rising) (C_p_is_number : Cal P w K mg base 1 "is_number" ["thing"] sp_p_is_number) : Cal P w K mg base 2 "are_calm" ["thing", "many"] sp_p_are_calm := by
  refine Df.cal D.d_p_are_calm sc_p_are_calm (len_p_are_calm) fun f cdv A outer s H E hr => ?_
  have hu : (A.deeper (PyProof.Rows.envOfC "are_calm" (defScope s_p_are_calm) s.heap.objs.size f cdv)).units + 64 < cLine := by have := hr.un; omega
  have hu5 : (A.deeper (PyProof.Rows.envOfC "are_calm" (defScope s_p_are_calm) s.heap.objs.size f cdv)).units + 65 < cLine := by have := hr.un; omega
  refine ⟨_, (ap_cons (ap_if (at_not (at_val (ae_all U.m_all (aa_cons (ae_dat (ae_lc (own := [("stop", 2)]) sc_p_are_calm.nd (ai_seq (ae_v (pv 0))) (blkOk_by (own := [("stop", 2)]) (N := N_p_are_calm) (sc := defScope s_p_are_calm) (by decide +kernel)) (fun _ _ _ _ _ => (ag_name (i := 2) sc_p_are_calm.nd)) (fun _ _ _ _ _ => ats_nil) (fun _ _ _ _ _ => (ae_and (ae_cal C_p_is_number (hr.mono (by omega)) (aa_cons (ae_v (pv 2)) aa_nil)) (ae_one (ae_chain c_lt c_lt ae_int (ae_v (pv 2)) (ae_sub (ae_v (pv 1)) ae_int))))))) aa_nil)))) (ap_one (ap_ret ae_bl)) ap_nil)
      (ap_one (ap_ret (ae_cal C_p_is_rising (hr.mono (by omega)) (aa_cons (ae_v (pv 0)) aa_nil))))), ?_⟩
  rintro svs s0 Q ⟨x, m, ts, rfl, rfl, hx, hl, hpl, hQ⟩
  cases x with
  | lst us =>
    cases hx
    fail "S"
    refine lcI_pure ts (fun _ => true) (fCm m) (len_big (by omega)) ?_ ?_ ?_
    · intro Q' h
      fail "S"
      exact h _ (by first | trivial | rfl)
    · intro i t ht acc C2 hacc hT hF
      have hT := hT rfl
      have hp := hpl t (List.mem_of_getElem? ht)
      fail "S"
      refine callK_of rfl rfl ⟨t, rfl, rfl, hp, ?_⟩
      cases t with
      | int k =>
        have e : fCm m (.int k) = .bl (decide (0 < k) && decide (k < m - 1)) := by show T.bl (decide (0 < k ∧ k < m - 1)) = _; rw [Bool.decide_and]
        rw [e] at hT
        fail "S"
        refine ⟨fun _ => ⟨fun h => ⟨hacc, ?_⟩, fun h => ⟨hacc, ?_⟩⟩, fun h => (by cases h)⟩
        · rw [decide_eq_true h, Bool.true_and] at hT; exact hT
        · rw [decide_eq_false (show ¬0 < k by omega), Bool.false_and] at hT; exact hT
      | _ => first | (cases hp; done) | (fail "S"; first | exact ⟨rfl, hacc, hT⟩ | exact ⟨rfl, fun _ => ⟨hacc, hT⟩⟩)
    · rw [filt_true]
      fail "S"
      refine ⟨ts.map (cmT m), by rw [List.map_map]; rfl, fun hf => ?_, fun hf => ?_⟩
      · have e : ts.all (cmT m) = false := by
          obtain ⟨y, hy, ey⟩ := List.mem_map.mp hf
          exact List.all_eq_false.mpr ⟨y, hy, by rw [ey]; exact Bool.false_ne_true⟩
        unfold calmT at hQ
        rw [e, Bool.false_and] at hQ; exact hQ
      · have h2 : ts.all (cmT m) = true := List.all_eq_true.mpr fun y hy => by
          cases h : cmT m y with
          | true => rfl
          | false => exact absurd (List.mem_map.mpr ⟨y, hy, h⟩) hf
        unfold calmT at hQ
        rw [h2, Bool.true_and] at hQ
        have e1 := cm_nat h2
        have hJ : (ts.map natOf).length ≤ 1000 := by rw [List.length_map]; exact hl
        generalize ts.map natOf = J at e1 hJ
        subst e1
        exact callK_of rfl rfl ⟨_, J, rfl, rfl, rfl, hJ, (by fail "S"; exact hQ)⟩
  | tup us =>
    cases hx
    fail "S"
    refine lcI_pure ts (fun _ => true) (fCm m) (len_big (by omega)) ?_ ?_ ?_
    · intro Q' h
      fail "S"
      exact h _ (by first | trivial | rfl)
    · intro i t ht acc C2 hacc hT hF
      have hT := hT rfl
      have hp := hpl t (List.mem_of_getElem? ht)
      fail "S"
      refine callK_of rfl rfl ⟨t, rfl, rfl, hp, ?_⟩
      cases t with
      | int k =>
        have e : fCm m (.int k) = .bl (decide (0 < k) && decide (k < m - 1)) := by show T.bl (decide (0 < k ∧ k < m - 1)) = _; rw [Bool.decide_and]
        rw [e] at hT
        fail "S"
        refine ⟨fun _ => ⟨fun h => ⟨hacc, ?_⟩, fun h => ⟨hacc, ?_⟩⟩, fun h => (by cases h)⟩
        · rw [decide_eq_true h, Bool.true_and] at hT; exact hT
        · rw [decide_eq_false (show ¬0 < k by omega), Bool.false_and] at hT; exact hT
      | _ => first | (cases hp; done) | (fail "S"; first | exact ⟨rfl, hacc, hT⟩ | exact ⟨rfl, fun _ => ⟨hacc, hT⟩⟩)
    · rw [filt_true]
      fail "S"
      refine ⟨ts.map (cmT m), by rw [List.map_map]; rfl, fun hf => ?_, fun hf => ?_⟩
      · have e : ts.all (cmT m) = false := by
          obtain ⟨y, hy, ey⟩ := List.mem_map.mp hf
          exact List.all_eq_false.mpr ⟨y, hy, by rw [ey]; exact Bool.false_ne_true⟩
        unfold calmT at hQ
        rw [e, Bool.false_and] at hQ; exact hQ
      · have h2 : ts.all (cmT m) = true := List.all_eq_true.mpr fun y hy => by
          cases h : cmT m y with
          | true => rfl
          | false => exact absurd (List.mem_map.mpr ⟨y, hy, h⟩) hf
        unfold calmT at hQ
        rw [h2, Bool.true_and] at hQ
        have e1 := cm_nat h2
        have hJ : (ts.map natOf).length ≤ 1000 := by rw [List.length_map]; exact hl
        generalize ts.map natOf = J at e1 hJ
        subst e1
        exact callK_of rfl rfl ⟨_, J, rfl, rfl, rfl, hJ, (by fail "S"; exact hQ)⟩
  | _ => cases hx
def stopsT (ts : List T) : Bool := decide (1 < ts.length) && ts.all nameT && decide ((ts.map strOf).Nodup)
theorem names_T {ts : List T} (h : ts.all nameT = true) : ts = (ts.map strOf).map T.str := by
  induction ts with
  | nil => rfl
  | cons t ts ih =>
    rw [List.all_cons, Bool.and_eq_true] at h
    cases t with
    | str z => rw [List.map_cons, List.map_cons, ← ih h.2]; rfl
    | _ => cases h.1
/-- things that the program's looks may be asked of -/
def tame (t : T) : Prop := pln t = true ∧ t.wt ≤ 4500
def fName (t : T) : T := .bl (nameT t)
def sp_p_are_stops : ASp := fun vs s Q => ∃ (x : T) (ts : List T), vs = [.d x] ∧ s = [] ∧ seqT x = some ts ∧ ts.length ≤ 1000 ∧ (∀ t ∈ ts, tame t) ∧ Q (.d (.bl (stopsT ts))) []
theorem len_p_are_stops : ∀ vs s Q, sp_p_are_stops vs s Q → vs.length = 1 := fun vs s Q ⟨x, xs, h, _⟩ => by rw [h]; rfl
theorem ok_p_are_stops (U : Tx mg) (D : Ds K mg) (G_ : Gx K w mg) (CF : Cf K mg cA) (C_p_are_unlike : Cal P w K mg base 1 "are_unlike" ["things"] sp_p_are_unlike) (C_p_is_name : Cal P w K mg base 1 "is_name" ["thing"] sp_p_is_name) : Cal P w K mg base 2 "are_stops" ["thing"] sp_p_are_stops := by
  refine Df.cal D.d_p_are_stops sc_p_are_stops (len_p_are_stops) fun f cdv A outer s H E hr => ?_
  have hu : (A.deeper (PyProof.Rows.envOfC "are_stops" (defScope s_p_are_stops) s.heap.objs.size f cdv)).units + 64 < cLine := by have := hr.un; omega
  have hu5 : (A.deeper (PyProof.Rows.envOfC "are_stops" (defScope s_p_are_stops) s.heap.objs.size f cdv)).units + 65 < cLine := by have := hr.un; omega
  refine ⟨_, (ap_one (ap_ret (ae_and (ae_c c_gt (ae_len U.m_len (aa_cons (ae_v (pv 0)) aa_nil)) ae_int) (ae_and (ae_all U.m_all (aa_cons (ae_dat (ae_lc (own := [("name", 1)]) sc_p_are_stops.nd (ai_seq (ae_v (pv 0))) (blkOk_by (own := [("name", 1)]) (N := N_p_are_stops) (sc := defScope s_p_are_stops) (by decide +kernel)) (fun _ _ _ _ _ => (ag_name (i := 1) sc_p_are_stops.nd)) (fun _ _ _ _ _ => ats_nil) (fun _ _ _ _ _ => (ae_cal C_p_is_name (hr.mono (by omega)) (aa_cons (ae_v (pv 1)) aa_nil))))) aa_nil)) (ae_one (ae_cal C_p_are_unlike (hr.mono (by omega)) (aa_cons (ae_v (pv 0)) aa_nil))))))), ?_⟩
  rintro svs s0 Q ⟨x, ts, rfl, rfl, hx, hl, hpl, hQ⟩
  cases x with
  | lst us =>
    cases hx
    fail "S"
    unfold stopsT at hQ
    refine ⟨fun h1 => ?_, fun h1 => ?_⟩
    · rw [decide_eq_true (show 1 < ts.length by omega), Bool.true_and] at hQ
      refine lcI_pure ts (fun _ => true) fName (len_big (by omega)) ?_ ?_ ?_
      · intro Q' h
        fail "S"
        exact h _ (by first | trivial | rfl)
      · intro i t ht acc C2 hacc hT hF
        have hT := hT rfl
        have hp := hpl t (List.mem_of_getElem? ht)
        fail "S"
        refine callK_of rfl rfl ⟨t, rfl, rfl, hp.1, hp.2, ?_⟩
        fail "S"
        exact ⟨hacc, hT⟩
      · rw [filt_true]
        fail "S"
        have falls : false ∈ ts.map nameT → Q (.d (.bl false)) [] := fun hf => by
          have e : ts.all nameT = false := by
            obtain ⟨y, hy, ey⟩ := List.mem_map.mp hf
            exact List.all_eq_false.mpr ⟨y, hy, by rw [ey]; exact Bool.false_ne_true⟩
          rw [e, Bool.false_and] at hQ; exact hQ
        refine ⟨ts.map nameT, by rw [List.map_map]; rfl, fun hf => ?_, falls⟩
        have h2 : ts.all nameT = true := List.all_eq_true.mpr fun y hy => by
          cases h : nameT y with
          | true => rfl
          | false => exact absurd (List.mem_map.mpr ⟨y, hy, h⟩) hf
        rw [h2, Bool.true_and] at hQ
        have e1 := names_T h2
        have hJ : (ts.map strOf).length ≤ 1000 := by rw [List.length_map]; exact hl
        clear falls
        generalize ts.map strOf = J at e1 hJ hQ
        subst e1
        exact callK_of rfl rfl ⟨_, J, rfl, rfl, rfl, hJ, (by fail "S"; exact hQ)⟩
    · rw [decide_eq_false (show ¬1 < ts.length by omega), Bool.false_and, Bool.false_and] at hQ
      exact hQ
  | tup us =>
    cases hx
    fail "S"
    unfold stopsT at hQ
    refine ⟨fun h1 => ?_, fun h1 => ?_⟩
    · rw [decide_eq_true (show 1 < ts.length by omega), Bool.true_and] at hQ
      refine lcI_pure ts (fun _ => true) fName (len_big (by omega)) ?_ ?_ ?_
      · intro Q' h
        fail "S"
        exact h _ (by first | trivial | rfl)
      · intro i t ht acc C2 hacc hT hF
        have hT := hT rfl
        have hp := hpl t (List.mem_of_getElem? ht)
        fail "S"
        refine callK_of rfl rfl ⟨t, rfl, rfl, hp.1, hp.2, ?_⟩
        fail "S"
        exact ⟨hacc, hT⟩
      · rw [filt_true]
        fail "S"
        have falls : false ∈ ts.map nameT → Q (.d (.bl false)) [] := fun hf => by
          have e : ts.all nameT = false := by
            obtain ⟨y, hy, ey⟩ := List.mem_map.mp hf
            exact List.all_eq_false.mpr ⟨y, hy, by rw [ey]; exact Bool.false_ne_true⟩
          rw [e, Bool.false_and] at hQ; exact hQ
        refine ⟨ts.map nameT, by rw [List.map_map]; rfl, fun hf => ?_, falls⟩
        have h2 : ts.all nameT = true := List.all_eq_true.mpr fun y hy => by
          cases h : nameT y with
          | true => rfl
          | false => exact absurd (List.mem_map.mpr ⟨y, hy, h⟩) hf
        rw [h2, Bool.true_and] at hQ
        have e1 := names_T h2
        have hJ : (ts.map strOf).length ≤ 1000 := by rw [List.length_map]; exact hl
        clear falls
        generalize ts.map strOf = J at e1 hJ hQ
        subst e1
        exact callK_of rfl rfl ⟨_, J, rfl, rfl, rfl, hJ, (by fail "S"; exact hQ)⟩
    · rw [decide_eq_false (show ¬1 < ts.length by omega), Bool.false_and, Bool.false_and] at hQ
      exact hQ
  | _ => cases hx
/-- a list or a tuple of one room or more -/
def roomsT (t : T) : Bool := match seqT t with
  | some ts => decide (0 < ts.length) && ts.all roomT
  | none => false
/-- rows of tame things -/
def tameR (t : T) : Prop := pln t = true ∧ (∀ ts, seqT t = some ts → ts.length ≤ 4501 ∧ ∀ u ∈ ts, tame u)
def sp_p_are_rooms : ASp := fun vs s Q => ∃ t : T, vs = [.d t] ∧ s = [] ∧ tameR t ∧ Q (.d (.bl (roomsT t))) []
theorem len_p_are_rooms : ∀ vs s Q, sp_p_are_rooms vs s Q → vs.length = 1 := fun vs s Q ⟨x, h, _⟩ => by rw [h]; rfl
theorem ok_p_are_rooms (U : Tx mg) (D : Ds K mg) (G_ : Gx K w mg) (CF : Cf K mg cA) (C_p_is_row : Cal P w K mg base 1 "is_row" ["thing"] sp_p_is_row) (C_p_is_room : Cal P w K mg base 2 "is_room" ["thing"] sp_p_is_room) : Cal P w K mg base 3 "are_rooms" ["thing"] sp_p_are_rooms := by
  refine Df.cal D.d_p_are_rooms sc_p_are_rooms (len_p_are_rooms) fun f cdv A outer s H E hr => ?_
  have hu : (A.deeper (PyProof.Rows.envOfC "are_rooms" (defScope s_p_are_rooms) s.heap.objs.size f cdv)).units + 64 < cLine := by have := hr.un; omega
  have hu5 : (A.deeper (PyProof.Rows.envOfC "are_rooms" (defScope s_p_are_rooms) s.heap.objs.size f cdv)).units + 65 < cLine := by have := hr.un; omega
  refine ⟨_, (ap_one (ap_ret (ae_and (ae_cal C_p_is_row (hr.mono (by omega)) (aa_cons (ae_v (pv 0)) aa_nil)) (ae_and (ae_c c_gt (ae_len U.m_len (aa_cons (ae_v (pv 0)) aa_nil)) ae_int) (ae_one (ae_all U.m_all (aa_cons (ae_dat (ae_lc (own := [("room", 1)]) sc_p_are_rooms.nd (ai_seq (ae_v (pv 0))) (blkOk_by (own := [("room", 1)]) (N := N_p_are_rooms) (sc := defScope s_p_are_rooms) (by decide +kernel)) (fun _ _ _ _ _ => (ag_name (i := 1) sc_p_are_rooms.nd)) (fun _ _ _ _ _ => ats_nil) (fun _ _ _ _ _ => (ae_cal C_p_is_room (hr.mono (by omega)) (aa_cons (ae_v (pv 1)) aa_nil))))) aa_nil))))))), ?_⟩
  rintro svs s0 Q ⟨t, rfl, rfl, ⟨ht, ht2⟩, hQ⟩
  cases t with
  | lst ts =>
    obtain ⟨hl, hpl⟩ := ht2 ts rfl
    have hQ : Q (.d (.bl (decide (0 < ts.length) && ts.all roomT))) [] := hQ
    fail "S"
    refine callK_of rfl rfl ⟨_, rfl, rfl, ht, ?_⟩
    have e0 : rowT (.lst ts) = true := rfl
    have e1 : rowT (.tup ts) = true := rfl
    specialize ⟨e0, e1⟩
    refine ⟨fun h1 => ?_, fun h1 => ?_⟩
    · rw [decide_eq_true (show 0 < ts.length by omega), Bool.true_and] at hQ
      refine lcI_pure ts (fun _ => true) (fun t => .bl (roomT t)) (len_big (by omega)) ?_ ?_ ?_
      · intro Q' h
        fail "S"
        exact h _ (by first | trivial | rfl)
      · intro i t ht acc C2 hacc hT hF
        have hT := hT rfl
        have hp := hpl t (List.mem_of_getElem? ht)
        fail "S"
        refine callK_of rfl rfl ⟨t, rfl, rfl, hp.1, hp.2, ?_⟩
        fail "S"
        exact ⟨hacc, hT⟩
      · rw [filt_true]
        fail "S"
        refine ⟨ts.map roomT, by rw [List.map_map]; rfl, ?_⟩
        rw [List.all_map]
        exact hQ
    · rw [decide_eq_false (show ¬0 < ts.length by first | omega | (rw [h1]; decide) | simp [h1]), Bool.false_and] at hQ
      exact hQ
  | tup ts =>
    obtain ⟨hl, hpl⟩ := ht2 ts rfl
    have hQ : Q (.d (.bl (decide (0 < ts.length) && ts.all roomT))) [] := hQ
    fail "S"
    refine callK_of rfl rfl ⟨_, rfl, rfl, ht, ?_⟩
    have e0 : rowT (.lst ts) = true := rfl
    have e1 : rowT (.tup ts) = true := rfl
    specialize ⟨e0, e1⟩
    refine ⟨fun h1 => ?_, fun h1 => ?_⟩
    · rw [decide_eq_true (show 0 < ts.length by omega), Bool.true_and] at hQ
      refine lcI_pure ts (fun _ => true) (fun t => .bl (roomT t)) (len_big (by omega)) ?_ ?_ ?_
      · intro Q' h
        fail "S"
        exact h _ (by first | trivial | rfl)
      · intro i t ht acc C2 hacc hT hF
        have hT := hT rfl
        have hp := hpl t (List.mem_of_getElem? ht)
        fail "S"
        refine callK_of rfl rfl ⟨t, rfl, rfl, hp.1, hp.2, ?_⟩
        fail "S"
        exact ⟨hacc, hT⟩
      · rw [filt_true]
        fail "S"
        refine ⟨ts.map roomT, by rw [List.map_map]; rfl, ?_⟩
        rw [List.all_map]
        exact hQ
    · rw [decide_eq_false (show ¬0 < ts.length by first | omega | (rw [h1]; decide) | simp [h1]), Bool.false_and] at hQ
      exact hQ
  | _ => first | (cases ht; done) | (fail "S"; refine callK_of rfl rfl ⟨_, rfl, rfl, rfl, ?_⟩; fail "S"; first | exact ⟨rfl, fun _ => hQ⟩ | exact ⟨fun h => (by cases h), fun _ => hQ⟩)
/-- a pair of a name and rooms -/
def carT : T → Bool
  | .tup [n, r] => nameT n && roomsT r
  | _ => false
def tameC (t : T) : Prop := pln t = true ∧ (∀ us, t = .tup us → us.length ≤ 1000 ∧ ∀ n r, us = [n, r] → tame n ∧ tameR r)
def sp_p_is_car : ASp := fun vs s Q => ∃ t : T, vs = [.d t] ∧ s = [] ∧ tameC t ∧ Q (.d (.bl (carT t))) []
theorem len_p_is_car : ∀ vs s Q, sp_p_is_car vs s Q → vs.length = 1 := fun vs s Q ⟨x, h, _⟩ => by rw [h]; rfl
theorem ok_p_is_car (U : Tx mg) (D : Ds K mg) (G_ : Gx K w mg) (CF : Cf K mg cA) (C_p_is_name : Cal P w K mg base 1 "is_name" ["thing"] sp_p_is_name) (C_p_are_rooms : Cal P w K mg base 3 "are_rooms" ["thing"] sp_p_are_rooms) : Cal P w K mg base 4 "is_car" ["thing"] sp_p_is_car := by
  refine Df.cal D.d_p_is_car sc_p_is_car (len_p_is_car) fun f cdv A outer s H E hr => ?_
  have hu : (A.deeper (PyProof.Rows.envOfC "is_car" (defScope s_p_is_car) s.heap.objs.size f cdv)).units + 64 < cLine := by have := hr.un; omega
  have hu5 : (A.deeper (PyProof.Rows.envOfC "is_car" (defScope s_p_is_car) s.heap.objs.size f cdv)).units + 65 < cLine := by have := hr.un; omega
  refine ⟨_, (ap_cons (ap_if ((aw_or (at_not (at_val (ae_isi U.m_isinstance (aa_cons (ae_v (pv 0)) (aa_cons (ae_ty U.m_tuple (by rfl)) aa_nil))))) (aw_or1 (at_c (c_ne hu) (ae_len U.m_len (aa_cons (ae_v (pv 0)) aa_nil)) ae_int)))).at_ (ap_one (ap_ret ae_bl)) ap_nil)
      (ap_one (ap_ret (ae_and (ae_cal C_p_is_name (hr.mono (by omega)) (aa_cons (ae_ix (ae_v (pv 0)) ae_int) aa_nil)) (ae_one (ae_cal C_p_are_rooms (hr.mono (by omega)) (aa_cons (ae_ix (ae_v (pv 0)) ae_int) aa_nil))))))), ?_⟩
  rintro svs s0 Q ⟨t, rfl, rfl, ⟨ht, ht2⟩, hQ⟩
  cases t with
  | tup us =>
    obtain ⟨hl, h2⟩ := ht2 us rfl
    match us, hl, h2, hQ with
    | [n, r], hl, h2, hQ =>
      obtain ⟨h3, h4⟩ := h2 n r rfl
      have hQ : Q (.d (.bl (nameT n && roomsT r))) [] := hQ
      fail "S"
      refine callK_of rfl rfl ⟨n, rfl, rfl, h3.1, h3.2, ?_⟩
      fail "S"
      refine ⟨fun e => ?_, fun e => ?_⟩
      · rw [e, Bool.true_and] at hQ
        refine callK_of rfl rfl ⟨r, rfl, rfl, h4, ?_⟩
        fail "S"
        exact hQ
      · rw [e, Bool.false_and] at hQ
        exact hQ
    | [], hl, h2, hQ => (fail "S"; exact hQ)
    | [a], hl, h2, hQ => (fail "S"; exact hQ)
    | a :: b :: c :: r, hl, h2, hQ =>
      fail "S"
      exact ⟨fun _ => hQ, fun h => absurd h (by omega)⟩
  | _ => first | (cases ht; done) | (fail "S"; exact hQ)
def nmOf : T → T
  | .tup (n :: _) => n
  | _ => .non
def carsT (ts : List T) : Bool := ts.all carT && decide ((ts.map fun t => strOf (nmOf t)).Nodup)
theorem car_inv {t : T} (h : carT t = true) : ∃ z r, t = .tup [.str z, r] ∧ nameOk z = true ∧ roomsT r = true := by
  cases t with
  | tup us =>
    match us, h with
    | [n, r], h =>
      have h := Bool.and_eq_true_iff.mp (show (nameT n && roomsT r) = true from h)
      cases n with
      | str z => exact ⟨z, r, rfl, h.1, h.2⟩
      | _ => cases h.1
  | _ => cases h
def sp_p_are_cars : ASp := fun vs s Q => ∃ (x : T) (ts : List T), vs = [.d x] ∧ s = [] ∧ seqT x = some ts ∧ ts.length ≤ 1000 ∧ (∀ t ∈ ts, tameC t) ∧ Q (.d (.bl (carsT ts))) []
theorem len_p_are_cars : ∀ vs s Q, sp_p_are_cars vs s Q → vs.length = 1 := fun vs s Q ⟨x, xs, h, _⟩ => by rw [h]; rfl
theorem ok_p_are_cars (U : Tx mg) (D : Ds K mg) (G_ : Gx K w mg) (CF : Cf K mg cA) (C_p_are_unlike : Cal P w K mg base 1 "are_unlike" ["things"] sp_p_are_unlike) (C_p_is_car : Cal P w K mg base 4 "is_car" ["thing"] sp_p_is_car) : Cal P w K mg base 5 "are_cars" ["thing"] sp_p_are_cars := by
  refine Df.cal D.d_p_are_cars sc_p_are_cars (len_p_are_cars) fun f cdv A outer s H E hr => ?_
  have hu : (A.deeper (PyProof.Rows.envOfC "are_cars" (defScope s_p_are_cars) s.heap.objs.size f cdv)).units + 64 < cLine := by have := hr.un; omega
  have hu5 : (A.deeper (PyProof.Rows.envOfC "are_cars" (defScope s_p_are_cars) s.heap.objs.size f cdv)).units + 65 < cLine := by have := hr.un; omega
  refine ⟨_, (ap_one (ap_ret (ae_and (ae_all U.m_all (aa_cons (ae_dat (ae_lc (own := [("car", 1)]) sc_p_are_cars.nd (ai_seq (ae_v (pv 0))) (blkOk_by (own := [("car", 1)]) (N := N_p_are_cars) (sc := defScope s_p_are_cars) (by decide +kernel)) (fun _ _ _ _ _ => (ag_name (i := 1) sc_p_are_cars.nd)) (fun _ _ _ _ _ => ats_nil) (fun _ _ _ _ _ => (ae_cal C_p_is_car (hr.mono (by omega)) (aa_cons (ae_v (pv 1)) aa_nil))))) aa_nil)) (ae_one (ae_cal C_p_are_unlike (hr.mono (by omega)) (aa_cons (ae_dat (ae_lc (own := [("car", 1)]) sc_p_are_cars.nd (ai_seq (ae_v (pv 0))) (blkOk_by (own := [("car", 1)]) (N := N_p_are_cars) (sc := defScope s_p_are_cars) (by decide +kernel)) (fun _ _ _ _ _ => (ag_name (i := 1) sc_p_are_cars.nd)) (fun _ _ _ _ _ => ats_nil) (fun _ _ _ _ _ => (ae_ix (ae_v (pv 1)) ae_int)))) aa_nil)))))), ?_⟩
  rintro svs s0 Q ⟨x, ts, rfl, rfl, hx, hl, hpl, hQ⟩
  cases x with
  | lst us =>
    cases hx
    fail "S"
    unfold carsT at hQ
    refine lcI_pure ts (fun _ => true) (fun t => .bl (carT t)) (len_big (by omega)) ?_ ?_ ?_
    · intro Q' h
      fail "S"
      exact h _ (by first | trivial | rfl)
    · intro i t ht acc C2 hacc hT hF
      have hT := hT rfl
      have hp := hpl t (List.mem_of_getElem? ht)
      fail "S"
      refine callK_of rfl rfl ⟨t, rfl, rfl, hp, ?_⟩
      fail "S"
      exact ⟨hacc, hT⟩
    · rw [filt_true]
      fail "S"
      have falls : false ∈ ts.map carT → Q (.d (.bl false)) [] := fun hf => by
        have e : ts.all carT = false := by
          obtain ⟨y, hy, ey⟩ := List.mem_map.mp hf
          exact List.all_eq_false.mpr ⟨y, hy, by rw [ey]; exact Bool.false_ne_true⟩
        rw [e, Bool.false_and] at hQ; exact hQ
      refine ⟨ts.map carT, by rw [List.map_map]; rfl, fun hf => ?_, falls⟩
      have h2 : ∀ y ∈ ts, carT y = true := fun y hy => by
        cases h : carT y with
        | true => rfl
        | false => exact absurd (List.mem_map.mpr ⟨y, hy, h⟩) hf
      rw [List.all_eq_true.mpr h2, Bool.true_and] at hQ
      refine lcI_pure ts (fun _ => true) nmOf (len_big (by omega)) ?_ ?_ ?_
      · intro Q' h
        fail "S"
        exact h _ (by first | trivial | rfl)
      · intro i t ht acc C2 hacc hT hF
        have hT := hT rfl
        obtain ⟨z, r, rfl, _⟩ := car_inv (h2 t (List.mem_of_getElem? ht))
        fail "S"
        exact ⟨hacc, hT⟩
      · rw [filt_true]
        have e9 : ts.map nmOf = (ts.map fun t => strOf (nmOf t)).map T.str := by
          rw [List.map_map]
          refine List.map_congr_left fun t ht => ?_
          obtain ⟨z, r, rfl, _⟩ := car_inv (h2 t ht)
          rfl
        rw [e9]
        have hJ : (ts.map fun t => strOf (nmOf t)).length ≤ 1000 := by rw [List.length_map]; exact hl
        generalize (ts.map fun t => strOf (nmOf t)) = J at hJ hQ
        fail "S"
        refine callK_of rfl rfl ⟨_, J, rfl, rfl, rfl, hJ, ?_⟩
        fail "S"
        exact hQ
  | tup us =>
    cases hx
    fail "S"
    unfold carsT at hQ
    refine lcI_pure ts (fun _ => true) (fun t => .bl (carT t)) (len_big (by omega)) ?_ ?_ ?_
    · intro Q' h
      fail "S"
      exact h _ (by first | trivial | rfl)
    · intro i t ht acc C2 hacc hT hF
      have hT := hT rfl
      have hp := hpl t (List.mem_of_getElem? ht)
      fail "S"
      refine callK_of rfl rfl ⟨t, rfl, rfl, hp, ?_⟩
      fail "S"
      exact ⟨hacc, hT⟩
    · rw [filt_true]
      fail "S"
      have falls : false ∈ ts.map carT → Q (.d (.bl false)) [] := fun hf => by
        have e : ts.all carT = false := by
          obtain ⟨y, hy, ey⟩ := List.mem_map.mp hf
          exact List.all_eq_false.mpr ⟨y, hy, by rw [ey]; exact Bool.false_ne_true⟩
        rw [e, Bool.false_and] at hQ; exact hQ
      refine ⟨ts.map carT, by rw [List.map_map]; rfl, fun hf => ?_, falls⟩
      have h2 : ∀ y ∈ ts, carT y = true := fun y hy => by
        cases h : carT y with
        | true => rfl
        | false => exact absurd (List.mem_map.mpr ⟨y, hy, h⟩) hf
      rw [List.all_eq_true.mpr h2, Bool.true_and] at hQ
      refine lcI_pure ts (fun _ => true) nmOf (len_big (by omega)) ?_ ?_ ?_
      · intro Q' h
        fail "S"
        exact h _ (by first | trivial | rfl)
      · intro i t ht acc C2 hacc hT hF
        have hT := hT rfl
        obtain ⟨z, r, rfl, _⟩ := car_inv (h2 t (List.mem_of_getElem? ht))
        fail "S"
        exact ⟨hacc, hT⟩
      · rw [filt_true]
        have e9 : ts.map nmOf = (ts.map fun t => strOf (nmOf t)).map T.str := by
          rw [List.map_map]
          refine List.map_congr_left fun t ht => ?_
          obtain ⟨z, r, rfl, _⟩ := car_inv (h2 t ht)
          rfl
        rw [e9]
        have hJ : (ts.map fun t => strOf (nmOf t)).length ≤ 1000 := by rw [List.length_map]; exact hl
        generalize (ts.map fun t => strOf (nmOf t)) = J at hJ hQ
        fail "S"
        refine callK_of rfl rfl ⟨_, J, rfl, rfl, rfl, hJ, ?_⟩
        fail "S"
        exact hQ
  | _ => cases hx

theorem seqT_inv {x : T} {ts : List T} (h : seqT x = some ts) : x = .lst ts ∨ x = .tup ts := by
  cases x with
  | lst _ => cases h; exact .inl rfl
  | tup _ => cases h; exact .inr rfl
  | _ => cases h
/-- a car as a train has it -/
def carTup : T → T
  | .tup [n, r] => .tup [n, .tup ((seqT r).getD [])]
  | t => t
def trainF (a b c : List T) : List (Str × SV) := [("stops", .d (.tup a)), ("calm", .d (.tup b)), ("cars", .d (.tup (c.map carTup)))]
/-- what makes a train -/
structure MkT (a b c : List T) : Prop where
  la : a.length ≤ 1000
  lb : b.length ≤ 1000
  lc : c.length ≤ 1000
  ta : ∀ t ∈ a, tame t
  tb : ∀ t ∈ b, pln t = true
  tc : ∀ t ∈ c, tameC t
  oa : stopsT a = true
  ob : calmT a.length b = true
  oc : carsT c = true
theorem rooms_inv {r : T} (h : roomsT r = true) : ∃ us, seqT r = some us ∧ 0 < us.length ∧ us.all roomT = true := by
  unfold roomsT at h
  cases q : seqT r with
  | none => rw [q] at h; cases h
  | some us =>
    rw [q] at h
    have h := Bool.and_eq_true_iff.mp h
    exact ⟨us, rfl, of_decide_eq_true h.1, h.2⟩
def sp_Train_init (cA : Cs) : ASp := fun vs s Q => ∃ (xa xb xc : T) (a b c : List T), vs = [.l 0, .d xa, .d xb, .d xc] ∧ s = [.ins cA.Train 1 [], .own 0] ∧ seqT xa = some a ∧ seqT xb = some b ∧ seqT xc = some c ∧ MkT a b c ∧
  Q (.d .non) [.ins cA.Train 1 (trainF a b c), .own 0]
theorem len_Train_init (cA : Cs) : ∀ vs s Q, sp_Train_init cA vs s Q → vs.length = 4 := fun vs s Q ⟨x, y, z, a, b, c, h, _⟩ => by rw [h]; rfl
theorem ok_Train_init (U : Tx mg) (D : Ds K mg) (G_ : Gx K w mg) (CF : Cf K mg cA) (C_p_are_stops : Cal P w K mg base 2 "are_stops" ["thing"] sp_p_are_stops) (C_p_are_calm : Cal P w K mg base 2 "are_calm" ["thing", "many"] sp_p_are_calm) (C_p_are_cars : Cal P w K mg base 5 "are_cars" ["thing"] sp_p_are_cars) : CalI P w K mg base 6 cA.Train "Train" ["self", "stops", "calm", "cars"] (sp_Train_init cA) := by
  refine DfI.calK CF.d_Train_init sc_Train_init (len_Train_init cA) fun f cdv A outer s H E hr => ?_
  have hu : (A.deeper (PyProof.Rows.envOfC "Train.__init__" (defScope s_Train_init) s.heap.objs.size f cdv)).units + 64 < cLine := by have := hr.un; omega
  have hu5 : (A.deeper (PyProof.Rows.envOfC "Train.__init__" (defScope s_Train_init) s.heap.objs.size f cdv)).units + 65 < cLine := by have := hr.un; omega
  refine ⟨_, (ap_cons (ap_if (at_not (at_val (ae_cal C_p_are_stops (hr.mono (by omega)) (aa_cons (ae_v (pv 1)) aa_nil)))) (ap_one ap_never) ap_nil)
      (ap_cons (ap_if (at_not (at_val (ae_cal C_p_are_calm (hr.mono (by omega)) (aa_cons (ae_v (pv 2)) (aa_cons (ae_len U.m_len (aa_cons (ae_v (pv 1)) aa_nil)) aa_nil))))) (ap_one ap_never) ap_nil)
      (ap_cons (ap_if (at_not (at_val (ae_cal C_p_are_cars (hr.mono (by omega)) (aa_cons (ae_v (pv 3)) aa_nil)))) (ap_one ap_never) ap_nil)
      (ap_cons (ap_fld (K := K) rfl (ae_v (pv 0)) (ae_tuple U.m_tuple (aa_cons (ae_v (pv 1)) aa_nil)))
      (ap_cons (ap_fld (K := K) rfl (ae_v (pv 0)) (ae_tuple U.m_tuple (aa_cons (ae_v (pv 2)) aa_nil)))
      (ap_one (ap_fld (K := K) rfl (ae_v (pv 0)) (ae_tuple U.m_tuple (aa_cons (ae_dat (ae_lc (own := [("name", 4), ("rooms", 5)]) sc_Train_init.nd (ai_seq (ae_v (pv 3))) (blkOk_by (own := [("name", 4), ("rooms", 5)]) (N := N_Train_init) (sc := defScope s_Train_init) (by decide +kernel)) (fun _ _ _ _ _ => (ag_tup (n := 2) rfl (ags_cons (ag_name (i := 4) sc_Train_init.nd) (ags_cons (ag_name (i := 5) sc_Train_init.nd) ags_nil)))) (fun _ _ _ _ _ => ats_nil) (fun _ _ _ _ _ => (ae_tup (aa_cons (ae_v (pv 4)) (aa_cons (ae_tuple U.m_tuple (aa_cons (ae_v (pv 5)) aa_nil)) aa_nil)))))) aa_nil))))))))), ?_⟩
  rintro svs s0 Q ⟨xa, xb, xc, a, b, c, rfl, rfl, ha, hb, hc, M, hQ⟩
  have hb2 : ∀ s, sqV s (.d xb) = some b := fun s => by rcases seqT_inv hb with rfl | rfl <;> rfl
  have hb3 : ∀ us : List T, ¬xb = T.scr us := by rcases seqT_inv hb with rfl | rfl <;> (intro us h; cases h)
  rcases seqT_inv ha with rfl | rfl
  · rcases seqT_inv hc with rfl | rfl
    · skip
      fail "S"
      refine callK_of rfl rfl ⟨_, a, rfl, rfl, rfl, M.la, M.ta, ?_⟩
      rw [M.oa]
      fail "S"
      refine callK_of rfl rfl ⟨xb, _, b, rfl, rfl, hb, M.lb, M.tb, ?_⟩
      rw [M.ob]
      fail "S"
      refine callK_of rfl rfl ⟨_, c, rfl, rfl, rfl, M.lc, M.tc, ?_⟩
      rw [M.oc]
      fail "S"
      refine ⟨b, hb2 _, hb3, ?_⟩
      have hcar : ∀ t ∈ c, carT t = true := fun t ht => by
        have h := M.oc
        unfold carsT at h
        exact List.all_eq_true.mp (Bool.and_eq_true_iff.mp h).1 t ht
      have hlc := M.lc
      refine lcI_pure c (fun _ => true) carTup (len_big (by omega)) ?_ ?_ ?_
      · intro Q' h
        fail "S"
        exact h _ (by first | trivial | rfl)
      · intro i t ht acc C2 hacc hT hF
        have hT := hT rfl
        obtain ⟨z, r, rfl, _, hr⟩ := car_inv (hcar t (List.mem_of_getElem? ht))
        obtain ⟨us, hus, _⟩ := rooms_inv hr
        rcases seqT_inv hus with rfl | rfl
        · fail "S"
          exact ⟨hacc, hT⟩
        · fail "S"
          exact ⟨hacc, hT⟩
      · rw [filt_true]
        fail "S"
        first | refine ⟨⟨rfl, rfl⟩, [], rfl, ?_⟩ | refine ⟨[], rfl, ?_⟩
        exact hQ
    · skip
      fail "S"
      refine callK_of rfl rfl ⟨_, a, rfl, rfl, rfl, M.la, M.ta, ?_⟩
      rw [M.oa]
      fail "S"
      refine callK_of rfl rfl ⟨xb, _, b, rfl, rfl, hb, M.lb, M.tb, ?_⟩
      rw [M.ob]
      fail "S"
      refine callK_of rfl rfl ⟨_, c, rfl, rfl, rfl, M.lc, M.tc, ?_⟩
      rw [M.oc]
      fail "S"
      refine ⟨b, hb2 _, hb3, ?_⟩
      have hcar : ∀ t ∈ c, carT t = true := fun t ht => by
        have h := M.oc
        unfold carsT at h
        exact List.all_eq_true.mp (Bool.and_eq_true_iff.mp h).1 t ht
      have hlc := M.lc
      refine lcI_pure c (fun _ => true) carTup (len_big (by omega)) ?_ ?_ ?_
      · intro Q' h
        fail "S"
        exact h _ (by first | trivial | rfl)
      · intro i t ht acc C2 hacc hT hF
        have hT := hT rfl
        obtain ⟨z, r, rfl, _, hr⟩ := car_inv (hcar t (List.mem_of_getElem? ht))
        obtain ⟨us, hus, _⟩ := rooms_inv hr
        rcases seqT_inv hus with rfl | rfl
        · fail "S"
          exact ⟨hacc, hT⟩
        · fail "S"
          exact ⟨hacc, hT⟩
      · rw [filt_true]
        fail "S"
        first | refine ⟨⟨rfl, rfl⟩, [], rfl, ?_⟩ | refine ⟨[], rfl, ?_⟩
        exact hQ
  · rcases seqT_inv hc with rfl | rfl
    · skip
      fail "S"
      refine callK_of rfl rfl ⟨_, a, rfl, rfl, rfl, M.la, M.ta, ?_⟩
      rw [M.oa]
      fail "S"
      refine callK_of rfl rfl ⟨xb, _, b, rfl, rfl, hb, M.lb, M.tb, ?_⟩
      rw [M.ob]
      fail "S"
      refine callK_of rfl rfl ⟨_, c, rfl, rfl, rfl, M.lc, M.tc, ?_⟩
      rw [M.oc]
      fail "S"
      refine ⟨b, hb2 _, hb3, ?_⟩
      have hcar : ∀ t ∈ c, carT t = true := fun t ht => by
        have h := M.oc
        unfold carsT at h
        exact List.all_eq_true.mp (Bool.and_eq_true_iff.mp h).1 t ht
      have hlc := M.lc
      refine lcI_pure c (fun _ => true) carTup (len_big (by omega)) ?_ ?_ ?_
      · intro Q' h
        fail "S"
        exact h _ (by first | trivial | rfl)
      · intro i t ht acc C2 hacc hT hF
        have hT := hT rfl
        obtain ⟨z, r, rfl, _, hr⟩ := car_inv (hcar t (List.mem_of_getElem? ht))
        obtain ⟨us, hus, _⟩ := rooms_inv hr
        rcases seqT_inv hus with rfl | rfl
        · fail "S"
          exact ⟨hacc, hT⟩
        · fail "S"
          exact ⟨hacc, hT⟩
      · rw [filt_true]
        fail "S"
        first | refine ⟨⟨rfl, rfl⟩, [], rfl, ?_⟩ | refine ⟨[], rfl, ?_⟩
        exact hQ
    · skip
      fail "S"
      refine callK_of rfl rfl ⟨_, a, rfl, rfl, rfl, M.la, M.ta, ?_⟩
      rw [M.oa]
      fail "S"
      refine callK_of rfl rfl ⟨xb, _, b, rfl, rfl, hb, M.lb, M.tb, ?_⟩
      rw [M.ob]
      fail "S"
      refine callK_of rfl rfl ⟨_, c, rfl, rfl, rfl, M.lc, M.tc, ?_⟩
      rw [M.oc]
      fail "S"
      refine ⟨b, hb2 _, hb3, ?_⟩
      have hcar : ∀ t ∈ c, carT t = true := fun t ht => by
        have h := M.oc
        unfold carsT at h
        exact List.all_eq_true.mp (Bool.and_eq_true_iff.mp h).1 t ht
      have hlc := M.lc
      refine lcI_pure c (fun _ => true) carTup (len_big (by omega)) ?_ ?_ ?_
      · intro Q' h
        fail "S"
        exact h _ (by first | trivial | rfl)
      · intro i t ht acc C2 hacc hT hF
        have hT := hT rfl
        obtain ⟨z, r, rfl, _, hr⟩ := car_inv (hcar t (List.mem_of_getElem? ht))
        obtain ⟨us, hus, _⟩ := rooms_inv hr
        rcases seqT_inv hus with rfl | rfl
        · fail "S"
          exact ⟨hacc, hT⟩
        · fail "S"
          exact ⟨hacc, hT⟩
      · rw [filt_true]
        fail "S"
        first | refine ⟨⟨rfl, rfl⟩, [], rfl, ?_⟩ | refine ⟨[], rfl, ?_⟩
        exact hQ
def trainT (cA : Cs) (a b c : List T) : T := .obj cA.Train ["stops", "calm", "cars"] [.tup a, .tup b, .tup (c.map carTup)]
theorem train_deep (cA : Cs) (a b c : List T) (n : Nat) (s : ST) (h1 : s[n]? = some (.ins cA.Train (n + 1) (trainF a b c))) (h2 : s[n + 1]? = some (.own n)) {k : Nat} (hk : k ≤ n) : deepF (fun m => decide (k ≤ m)) 9 s (.l n) = some (trainT cA a b c) := by
  unfold deepF
  rw [if_pos (decide_eq_true hk), h1]
  dsimp only
  rw [h2]
  dsimp only
  rw [if_pos ⟨rfl, decide_eq_true (by omega)⟩]
  rfl

abbrev Cr := Str × List Str
def carD (c : Cr) : T := .tup [.str c.1, .lst (c.2.map T.str)]
def carP (c : Cr) : T := .tup [.str c.1, .tup (c.2.map T.str)]
structure OkT (stops : List Str) (calm : List Nat) (cars : List Cr) : Prop where
  ls : stops.length ≤ 30
  lz : ∀ z ∈ stops, z.length ≤ 8
  lc : cars.length ≤ 10
  ln : ∀ c ∈ cars, c.1.length ≤ 8
  l1 : ∀ c ∈ cars, 0 < c.2.length
  lr : ∀ c ∈ cars, c.2.length ≤ 12
  lt : ∀ c ∈ cars, ∀ r ∈ c.2, r.length ≤ 30
theorem slen_app (a b : Str) : (a ++ b).length = a.length + b.length := by
  show (Str.append a b).length = _
  unfold Str.append Str.length; simp
theorem app_cps (a b : Str) : (a ++ b).cps.toList = a.cps.toList ++ b.cps.toList := by
  show (Str.append a b).cps.toList = _
  unfold Str.append; simp
def trT (cA : Cs) (stops : List Str) (calm : List Nat) (cars : List Cr) : T := .obj cA.Train ["stops", "calm", "cars"] [.tup (stops.map T.str), .tup (natT calm), .tup (cars.map carP)]
theorem strOf_map (rs : List Str) : (rs.map T.str).map strOf = rs := by rw [List.map_map]; exact List.map_id rs

abbrev Lts : Str := Str.ofString "abcdefghijklmnoprstuvwxyz"
def ltr (r : Nat) : Nat := Lts.cps.toList.getD r 97
theorem ltr_at (r : Nat) (h : (r : Int) < 25) : atI Lts.cps.toList (r : Int) = some (ltr r) := by
  refine atI_at ?_
  have : ∀ k : Fin 25, Lts.cps.toList[k.1]? = some (ltr k.1) := by decide +kernel
  exact this ⟨r, by omega⟩
theorem ltr_low (r : Nat) (h : r < 25) : 97 ≤ ltr r ∧ ltr r ≤ 122 := by
  have : ∀ k : Fin 25, 97 ≤ ltr k.1 ∧ ltr k.1 ≤ 122 := by decide +kernel
  exact this ⟨r, h⟩
theorem ltr_inj (a b : Nat) (ha : a < 25) (hb : b < 25) (h : ltr a = ltr b) : a = b := by
  have : ∀ x y : Fin 25, ltr x.1 = ltr y.1 → x.1 = y.1 := by decide +kernel
  exact this ⟨a, ha⟩ ⟨b, hb⟩ h
def low (z : Str) : Prop := ∀ c ∈ z.cps.toList, 97 ≤ c ∧ c ≤ 122
theorem low_app {a b : Str} (h1 : low a) (h2 : low b) : low (a ++ b) := by
  intro c hc
  rw [app_cps] at hc
  rcases List.mem_append.mp hc with h | h
  · exact h1 c h
  · exact h2 c h
theorem low_one {r : Nat} (h : r < 25) : low ⟨#[ltr r]⟩ := by
  intro c hc
  rw [List.mem_singleton.mp hc]; exact ltr_low r h
theorem nameOk_of {z : Str} (h : low z) (h1 : 1 ≤ z.length) (h8 : z.length ≤ 8) : nameOk z = true := by
  unfold nameOk
  rw [decide_eq_true h1, decide_eq_true h8, Bool.true_and, Bool.true_and]
  exact List.all_eq_true.mpr fun c hc => decide_eq_true (h c hc)
def stemOf (c k : Nat) : Str := Txt.mul ⟨#[c]⟩ (k : Int)
theorem stem_ok (c k : Nat) (h : (k : Int) < 6) : MulOk ⟨#[c]⟩ (k : Int) ∧ (stemOf c k).cps.toList = List.replicate k c := by
  have : k = 0 ∨ k = 1 ∨ k = 2 ∨ k = 3 ∨ k = 4 ∨ k = 5 := by omega
  unfold MulOk
  rw [show (⟨#[c]⟩ : Str).length = 1 from rfl]
  rcases this with rfl | rfl | rfl | rfl | rfl | rfl <;> exact ⟨⟨by decide +kernel, by decide +kernel, by decide +kernel⟩, rfl⟩
theorem stem_low {c k : Nat} (h : (k : Int) < 6) (hc : 97 ≤ c ∧ c ≤ 122) : low (stemOf c k) ∧ (stemOf c k).length = k := by
  have e := (stem_ok c k h).2
  refine ⟨fun d hd => ?_, ?_⟩
  · rw [e] at hd
    rw [(List.mem_replicate.mp hd).2]; exact hc
  · have e2 : (stemOf c k).length = (stemOf c k).cps.toList.length := by rw [Array.length_toList]; rfl
    rw [e2, e, List.length_replicate]
def nmAt (st : Str) (a d j : Nat) : Str := (st ++ ⟨#[ltr ((a + d * j) % 625 / 25)]⟩) ++ ⟨#[ltr ((a + d * j) % 625 % 25)]⟩
theorem one_len (c : Nat) : (⟨#[c]⟩ : Str).length = 1 := rfl
theorem nmAt_low {st : Str} (a d j : Nat) (h : low st) : low (nmAt st a d j) := low_app (low_app h (low_one (by omega))) (low_one (by omega))
theorem nmAt_len (st : Str) (a d j : Nat) : (nmAt st a d j).length = st.length + 2 := by unfold nmAt; rw [slen_app, slen_app]; rfl
def steps : List Nat := [1, 26, 7, 251]
abbrev Wds : Str := Str.ofString "any low up stop calm car ask back short shut open on off undo redo moves" ++ Str.ofString " stays parts waits at free l u"
def wdsL : List Str := Txt.split Wds (Str.ofString " ")
theorem wds_ok : wdsL.all nameOk = true ∧ wdsL.length = 23 := by decide +kernel
theorem name_len {z : Str} (h : nameOk z = true) : z.length ≤ 8 := by
  unfold nameOk at h
  have := Bool.and_eq_true_iff.mp (Bool.and_eq_true_iff.mp h).1
  exact of_decide_eq_true this.2
theorem strOk_nm {z : Str} (h : nameOk z = true) : PyData.strOk z = true := by
  unfold nameOk at h
  have h := List.all_eq_true.mp (Bool.and_eq_true_iff.mp h).2
  unfold PyData.strOk
  rw [Array.all_eq_true']
  intro c hc
  have := of_decide_eq_true (h c (by simpa using hc))
  exact decide_eq_true (by omega)
structure NamesOk (many : Nat) (ns : List Str) : Prop where
  ok : ∀ z ∈ ns, nameOk z = true
  nd : ns.Nodup
  le : ns.length ≤ many
  two : 2 ≤ many → 2 ≤ ns.length
theorem strs_flat (y : List Str) : (y.map T.str).all T.flat = true := List.all_eq_true.mpr fun x hx => by obtain ⟨_, _, rfl⟩ := List.mem_map.mp hx; rfl
theorem inT_str (q : Str) (l : List Str) : inT (.str q) (l.map T.str) = decide (q ∈ l) := by
  unfold inT inV
  rw [List.map_map, List.any_map, Bool.eq_iff_iff, List.any_eq_true, decide_eq_true_iff]
  constructor
  · rintro ⟨x, hx, e⟩
    have : x = q := by first | (have e2 : (x == q) = true := e; exact eq_of_beq e2) | (have e2 : decide (x = q) = true := e; exact of_decide_eq_true e2)
    rw [← this]; exact hx
  · intro h
    exact ⟨q, h, by first | exact (beq_self_eq_true q : (q == q) = true) | (show decide (q = q) = true; exact decide_eq_true rfl)⟩
theorem nmAt_inj (st : Str) (a d i j : Nat) (hi : i ≤ 24) (hj : j ≤ 24) (hd : d ∈ steps) (h : nmAt st a d i = nmAt st a d j) : i = j := by
  have h := congrArg (fun z : Str => z.cps.toList) h
  unfold nmAt at h
  simp only [app_cps, List.append_assoc] at h
  have h := List.append_cancel_left h
  have h2 := List.cons.inj (show [ltr ((a + d * i) % 625 / 25), ltr ((a + d * i) % 625 % 25)] = [ltr ((a + d * j) % 625 / 25), ltr ((a + d * j) % 625 % 25)] from h)
  have h3 := (List.cons.inj h2.2).1
  have e1 := ltr_inj _ _ (by omega) (by omega) h2.1
  have e2 := ltr_inj _ _ (by omega) (by omega) h3
  have e3 : (a + d * i) % 625 = (a + d * j) % 625 := by omega
  clear e1 e2 h3 h2 h
  unfold steps at hd
  simp only [List.mem_cons, List.not_mem_nil, or_false] at hd
  rcases hd with rfl | rfl | rfl | rfl <;> omega
theorem nodup_leG {α : Type} [BEq α] [LawfulBEq α] : ∀ {l m : List α}, l.Nodup → (∀ x ∈ l, x ∈ m) → l.length ≤ m.length
  | [], m, _, _ => Nat.zero_le _
  | x :: r, m, nd, h => by
    have hx := h x List.mem_cons_self
    have nd2 := List.nodup_cons.mp nd
    have := nodup_leG (m := m.erase x) nd2.2 fun y hy => by
      have hne : y ≠ x := fun e => nd2.1 (e ▸ hy)
      exact (List.mem_erase_of_ne hne).mpr (h y (List.mem_cons_of_mem _ hy))
    rw [List.length_erase_of_mem hx] at this
    have h0 := List.length_pos_of_mem hx
    rw [List.length_cons]; omega
def sp_names : ASp := fun vs s Q => ∃ (o : LO) (β : Int) (n : Nat), vs = [.l 0, .d (.int n)] ∧ s = [o] ∧ Bx β o ∧ β < 2 ^ 36 ∧ n ≤ 24 ∧ ∀ (ns : List Str) ts, NamesOk n ns → ns.length = n → Bx (β + 6) (.lst ts) → Q (.l 1) [.lst ts, .lst (ns.map T.str)]
theorem len_names : ∀ vs s Q, sp_names vs s Q → vs.length = 2 := fun vs s Q ⟨o, β, n, h, _⟩ => by rw [h]; rfl
theorem ok_names (U : Tx mg) (D : Ds K mg) (G_ : Gx K w mg) (CF : Cf K mg cA) (C_take : Cal P w K mg base 1 "_law_take" ["_law_box_here", "_law_many"] sp_take) : Cal P w K mg base 2 "_law_names" ["_law_box_here", "_law_many"] sp_names := by
  refine Df.cal D.d_names sc_names (len_names) fun f cdv A outer s H E hr => ?_
  have hu : (A.deeper (PyProof.Rows.envOfC "_law_names" (defScope s_names) s.heap.objs.size f cdv)).units + 64 < cLine := by have := hr.un; omega
  have hu5 : (A.deeper (PyProof.Rows.envOfC "_law_names" (defScope s_names) s.heap.objs.size f cdv)).units + 65 < cLine := by have := hr.un; omega
  refine ⟨_, (ap_cons (ap_par (i := 2) (j := 3) sc_names.nd (aa_cons ae_str (aa_cons (ae_mulS (ae_ix ae_str (ae_cal C_take (hr.mono (by omega)) (aa_cons (ae_v (pv 0)) (aa_cons ae_int aa_nil)))) (ae_cal C_take (hr.mono (by omega)) (aa_cons (ae_v (pv 0)) (aa_cons ae_int aa_nil)))) aa_nil)) (h := fun ha => ps_par rfl sc_names.nd rfl rfl (by decide) rfl rfl ha (by rfl)))
      (ap_cons (ap_par3 (i := 4) (j := 5) (l := 6) (aa_cons (ae_cal C_take (hr.mono (by omega)) (aa_cons (ae_v (pv 0)) (aa_cons ae_int aa_nil))) (aa_cons (ae_ix (ae_dat (ae_lst (aa_cons ae_int (aa_cons ae_int (aa_cons ae_int (aa_cons ae_int aa_nil)))))) (ae_cal C_take (hr.mono (by omega)) (aa_cons (ae_v (pv 0)) (aa_cons ae_int aa_nil)))) (aa_cons (ae_ix (ae_v (pv 2)) (ae_cal C_take (hr.mono (by omega)) (aa_cons (ae_v (pv 0)) (aa_cons ae_int aa_nil)))) aa_nil))) (h := fun ha => ps_par3 rfl sc_names.nd rfl rfl rfl (by decide) (by decide) (by decide) rfl rfl rfl ha (by rfl)))
      (ap_cons (ap_set (i := 7) sc_names.nd ae_str)
      (ap_cons (ap_set (i := 7) sc_names.nd (ae_add (ae_v (pv 7)) ae_str))
      (ap_cons (ap_set (i := 8) sc_names.nd (ae_fr (ae_mul (ae_split (ae_v (pv 7)) (aa_cons ae_str aa_nil)) (ae_int_ U.m_int (aa_cons (ae_c (c_eq hu) (ae_cal C_take (hr.mono (by omega)) (aa_cons (ae_v (pv 0)) (aa_cons ae_int aa_nil))) ae_int) aa_nil)))))
      (ap_cons (ap_for PassesOwn.never (ai_range1 U.m_range (ae_v (pv 1))) (ag_name (i := 9) sc_names.nd) (ap_blk [9, 12, 10, 11] (ap_cons (ap_asg (ae_divmod U.m_divmod (aa_cons (ae_mod (ae_add (ae_v (pv 4)) (ae_mul (ae_v (pv 5)) (ae_v (pv 9)))) ae_int) (aa_cons ae_int aa_nil))) (ag_tup (n := 2) rfl (ags_cons (ag_name (i := 10) sc_names.nd) (ags_cons (ag_name (i := 11) sc_names.nd) ags_nil))))
      (ap_cons (ap_set (i := 12) sc_names.nd (ae_add (ae_add (ae_v (pv 3)) (ae_ix (ae_v (pv 2)) (ae_v (pv 10)))) (ae_ix (ae_v (pv 2)) (ae_v (pv 11)))))
      (ap_cons (ap_expr (ae_append (ae_v (pv 8)) (aa_cons (ae_v (pv 12)) aa_nil)))
      (ap_one (ap_if (at_c (c_eq hu) (ae_mod (ae_v (pv 9)) ae_int) ae_int) (ap_one (ap_expr (ae_append (ae_v (pv 8)) (aa_cons (ae_add (ae_v (pv 12)) (ae_v (pv 6))) aa_nil)))) ap_nil)))))))
      (ap_cons (ap_set (i := 13) sc_names.nd (ae_lst aa_nil))
      (ap_cons (ap_for PassesOwn.never (ai_seq (ae_v (pv 8))) (ag_name (i := 12) sc_names.nd) (ap_blk [12] (ap_one (ap_if (at_c (c_nin hu5) (ae_v (pv 12)) (ae_v (pv 13))) (ap_one (ap_expr (ae_append (ae_v (pv 13)) (aa_cons (ae_v (pv 12)) aa_nil)))) ap_nil))))
      (ap_one (ap_ret (ae_sl (ae_v (pv 13)) ao_none (ao_some (ae_v (pv 1)))))))))))))), ?_⟩
  rintro svs s0 Q ⟨o, β, n, rfl, rfl, hB, hb, hn, hQ⟩
  obtain ⟨ts, rfl⟩ := hB.lst
  fail "S"
  refine callK_of rfl rfl ⟨_, β, 25, rfl, rfl, hB, by omega, by omega, by omega, fun r1 ts1 hr1 hB1 => ?_⟩
  fail "S"
  have Ll : Lts.length ≤ sizeLine := by decide +kernel
  refine ⟨Ll, ltr r1, ltr_at r1 hr1, ?_⟩
  refine callK_of rfl rfl ⟨_, β + 1, 6, rfl, rfl, hB1, by omega, by omega, by omega, fun r2 ts2 hr2 hB2 => ?_⟩
  fail "S"
  refine ⟨(stem_ok _ _ hr2).1, ?_⟩
  obtain ⟨sl, sn⟩ := stem_low hr2 (ltr_low r1 (by omega))
  generalize hst : Txt.mul _ _ = st
  have hst : stemOf (ltr r1) r2 = st := hst
  rw [hst] at sl sn
  refine callK_of rfl rfl ⟨_, β + 2, 625, rfl, rfl, hB2.mono (by omega), by omega, by omega, by omega, fun a ts3 ha hB3 => ?_⟩
  fail "S"
  refine callK_of rfl rfl ⟨_, β + 3, 4, rfl, rfl, by first | exact hB3 | exact hB3.mono (by omega), by omega, by omega, by omega, fun r4 ts4 hr4 hB4 => ?_⟩
  fail "S"
  have h4 : ∃ d, steps[r4]? = some d ∧ atI [T.int 1, T.int 26, T.int 7, T.int 251] (r4 : Int) = some (.int (d : Nat)) := by
    have : r4 = 0 ∨ r4 = 1 ∨ r4 = 2 ∨ r4 = 3 := by omega
    rcases this with rfl | rfl | rfl | rfl <;> exact ⟨_, rfl, rfl⟩
  obtain ⟨d, hd, h4⟩ := h4
  have hdm : d ∈ steps := List.mem_of_getElem? hd
  refine ⟨_, h4, ?_⟩
  refine callK_of rfl rfl ⟨_, β + 4, 25, rfl, rfl, hB4.mono (by omega), by omega, by omega, by omega, fun r5 ts5 hr5 hB5 => ?_⟩
  fail "S"
  refine ⟨Ll, ltr r5, ltr_at r5 hr5, ?_⟩
  refine ⟨by decide +kernel, by decide +kernel, by decide +kernel, ?_⟩
  refine callK_of rfl rfl ⟨_, β + 5, 3, rfl, rfl, hB5.mono (by omega), by omega, by omega, by omega, fun r6 ts6 hr6 hB6 => ?_⟩
  obtain ⟨w1, w2⟩ := wds_ok
  generalize hwd : Txt.split (Str.ofString "any low up stop calm car ask back short shut open on off undo redo moves" ++ Str.ofString " stays parts waits at free l u") (Str.ofString " ") = wl
  have hwd : wdsL = wl := hwd
  rw [hwd] at w1 w2
  have hrep : ∃ (m : Nat), (if r6 = 0 then (1 : Int) else 0) = (m : Int) ∧ m ≤ 1 := by
    by_cases h : r6 = 0
    · exact ⟨1, by rw [if_pos h]; rfl, Nat.le_refl _⟩
    · exact ⟨0, by rw [if_neg h]; rfl, Nat.zero_le _⟩
  obtain ⟨m, hm, hm1⟩ := hrep
  specialize ⟨hm⟩
  have hfl : ∃ zs : List Str, (List.replicate m (wl.map T.str)).flatten = zs.map T.str ∧ zs.length ≤ 23 ∧ ∀ x ∈ zs, nameOk x = true := by
    have : m = 0 ∨ m = 1 := by omega
    rcases this with rfl | rfl
    · exact ⟨[], rfl, Nat.zero_le _, fun x h => absurd h List.not_mem_nil⟩
    · exact ⟨wl, by simp, by omega, fun x h => List.all_eq_true.mp w1 x h⟩
  obtain ⟨zs, hz1, hz2, hz3⟩ := hfl
  have hmul : wl.length * m ≤ 23 * 1 := Nat.mul_le_mul (by omega) hm1
  have hm63 : (m : Int) < 9223372036854775808 := by omega
  rw [hz1]
  refine ⟨hm63, Nat.le_of_lt (len_lt (Nat.le_trans hmul (by decide))), ?_⟩
  have hd2 : d ≤ 251 := by
    unfold steps at hdm
    simp only [List.mem_cons, List.not_mem_nil, or_false] at hdm
    omega
  refine pFor_of (Z := List Str) (rgT 0 (n : Int)) (fun i z => z.length ≤ 23 + 2 * i ∧ (∀ x ∈ z, nameOk x = true) ∧ ∀ j, j < i → nmAt st a d j ∈ z) (fun z => [some (.l 0), some (.d (.int n)), some (.d (.str Lts)), some (.d (.str st)), some (.d (.int a)), some (.d (.int d)), some (.d (.str ⟨#[ltr r5]⟩)), some (.d (.str Wds)), some (.l 1), none, none, none, none, none]) (fun z => [.lst ts6, .lst (z.map T.str)]) ?_ ⟨zs, ⟨by omega, hz3, fun j h => absurd h (Nat.not_lt_zero _)⟩, by first | rfl, rfl⟩ ?_ ?_
  · intro Q' h
    fail "S"
    first | exact ⟨by omega, by omega, h (fun _ => True) fun _ _ _ => trivial⟩ | exact h (fun _ => True) fun _ _ _ => trivial | exact ⟨by omega, h (fun _ => True) fun _ _ _ => trivial⟩
  · rintro i x z hx ⟨hl, hok, hin⟩ C hC B R hB hR
    obtain ⟨hi, rfl⟩ := rgT_lt hx
    have e0 : (0 : Int) + (i : Nat) = (i : Nat) := Int.zero_add _
    rw [e0]
    have hmi : d * i ≤ 251 * 24 := Nat.mul_le_mul hd2 (by omega)
    obtain ⟨v, hv, hvl⟩ : ∃ v : Nat, (a + d * i) % 625 = v ∧ v < 625 := ⟨_, rfl, Nat.mod_lt _ (by decide)⟩
    have hvI : ((a : Int) + (d : Int) * (i : Int)) % 625 = (v : Int) := by rw [← hv]; push_cast; rfl
    have hv1 : ((v : Nat) : Int) / 25 = ((v / 25 : Nat) : Int) := by omega
    have hv2 : ((v : Nat) : Int) % 25 = ((v % 25 : Nat) : Int) := by omega
    have hnm : nmAt st a d i = (st ++ ⟨#[ltr (v / 25)]⟩) ++ ⟨#[ltr (v % 25)]⟩ := by unfold nmAt; rw [hv]
    have hlow : low (nmAt st a d i) := nmAt_low a d i sl
    have hlen := nmAt_len st a d i
    have hle2 : ∀ k : Nat, k ≤ 1000 → k ≤ sizeLine := fun k hk => Nat.le_of_lt (len_lt hk)
    specialize ⟨hvI⟩
    refine ⟨cm_r (by omega), ⟨by decide, by decide⟩, Ll, ltr (v / 25), by rw [hv1]; exact ltr_at _ (by omega), hle2 _ (by rw [one_len]; omega), Ll, ltr (v % 25), by rw [hv2]; exact ltr_at _ (by omega), ?_⟩
    rw [← hnm]
    have step : ∀ z' : List Str, (∀ x ∈ z', nameOk x = true) → z'.length ≤ 23 + 2 * (i + 1) → (∀ x ∈ z, x ∈ z') → nmAt st a d i ∈ z' → C _ _ := fun z' h1 h2 h3 h4 => hC z' ⟨h2, h1, fun j hj => by
      rcases Nat.lt_or_ge j i with h | h
      · exact h3 _ (hin j h)
      · rw [show j = i by omega]; exact h4⟩
    have hok1 : nameOk (nmAt st a d i) = true := nameOk_of hlow (by omega) (by omega)
    have hlow2 : low (nmAt st a d i ++ ⟨#[ltr r5]⟩) := low_app hlow (low_one (by omega))
    have hlen2 : (nmAt st a d i ++ ⟨#[ltr r5]⟩).length = st.length + 3 := by rw [slen_app, hlen]; rfl
    have hok2 : nameOk (nmAt st a d i ++ ⟨#[ltr r5]⟩) = true := nameOk_of hlow2 (by omega) (by omega)
    refine ⟨hle2 _ (by rw [slen_app, one_len, one_len]; omega), len_lt (by omega), fun _ => ⟨hle2 _ (by rw [one_len]; omega), len_lt (by omega), ?_⟩, fun _ => ?_⟩
    · have := step (z ++ [nmAt st a d i] ++ [nmAt st a d i ++ ⟨#[ltr r5]⟩]) (fun x hx => by
        rcases List.mem_append.mp hx with h | h
        · rcases List.mem_append.mp h with h | h
          · exact hok x h
          · rw [List.mem_singleton.mp h]; exact hok1
        · rw [List.mem_singleton.mp h]; exact hok2) (by simp; omega) (fun x hx => by simp [hx]) (by simp)
      simpa using this
    · have := step (z ++ [nmAt st a d i]) (fun x hx => by
        rcases List.mem_append.mp hx with h | h
        · exact hok x h
        · rw [List.mem_singleton.mp h]; exact hok1) (by simp; omega) (fun x hx => by simp [hx]) (by simp)
      simpa using this
  · rintro z ⟨hl, hok, hin⟩
    rw [rgT_len] at hl hin
    fail "S"
    refine pFor_of (Z := List Str) (z.map T.str) (fun i y => y.length ≤ i ∧ y.Nodup ∧ (∀ x ∈ y, nameOk x = true) ∧ ∀ j, j < i → ∀ x, z[j]? = some x → x ∈ y) (fun y => [some (.l 0), some (.d (.int n)), some (.d (.str Lts)), some (.d (.str st)), some (.d (.int a)), some (.d (.int d)), some (.d (.str ⟨#[ltr r5]⟩)), some (.d (.str Wds)), some (.l 1), none, none, none, none, some (.l 2)]) (fun y => [.lst ts6, .lst (z.map T.str), .lst (y.map T.str)]) ?_ ⟨[], ⟨Nat.le_refl _, List.nodup_nil, fun x h => absurd h List.not_mem_nil, fun j h => absurd h (Nat.not_lt_zero _)⟩, by first | rfl, rfl⟩ ?_ ?_
    · intro Q' h
      fail "S"
      exact h _ fun _ _ _ => by fail "S"
    · rintro i x y hx ⟨hyl, hnd, hyo, hyi⟩ C hC B R hB hR
      rw [List.getElem?_map] at hx
      obtain ⟨q, hq, rfl⟩ := Option.map_eq_some_iff.mp hx
      have hqi := (List.getElem?_eq_some_iff.mp hq).1
      fail "S"
      refine .inl ⟨_, _, rfl, rfl, rfl, strs_flat y, ?_⟩
      rw [inT_str]
      by_cases hqy : q ∈ y
      · rw [decide_eq_true hqy]
        fail "S"
        exact hC y ⟨by omega, hnd, hyo, fun j hj x hx => by
          rcases Nat.lt_or_ge j i with h | h
          · exact hyi j h x hx
          · rw [show j = i by omega, hq] at hx
            cases hx; exact hqy⟩
      · rw [decide_eq_false hqy]
        fail "S"
        have := hC (y ++ [q]) ⟨by simp; omega, List.nodup_append.mpr ⟨hnd, by simp, by simp; exact fun a ha e => hqy (e ▸ ha)⟩, fun x hx => by
          rcases List.mem_append.mp hx with h | h
          · exact hyo x h
          · rw [List.mem_singleton.mp h]; exact hok q (List.mem_of_getElem? hq), fun j hj x hx => by
          rcases Nat.lt_or_ge j i with h | h
          · exact List.mem_append.mpr (.inl (hyi j h x hx))
          · rw [show j = i by omega, hq] at hx
            cases hx; simp⟩
        exact ⟨len_lt (by omega), by simpa using this⟩
    · rintro y ⟨hyl, hnd, hyo, hyi⟩
      rw [List.length_map] at hyl hyi
      fail "S"
      have hcut : cut (y.map T.str) none (some (n : Int)) = (y.take n).map T.str := by
        rw [List.map_take]
        exact cut_take _ _
      rw [hcut]
      have hny : n ≤ y.length := by
        have nd : ((List.range n).map (nmAt st a d)).Nodup := by
          refine List.pairwise_map.mpr ((List.nodup_range (n := n)).imp_of_mem fun {i j} hi hj hne h => hne ?_)
          rw [List.mem_range] at hi hj
          exact nmAt_inj st a d i j (by omega) (by omega) hdm h
        have := nodup_leG nd (m := y) fun x hx => by
          obtain ⟨j, hj, rfl⟩ := List.mem_map.mp hx
          rw [List.mem_range] at hj
          obtain ⟨k, hk⟩ := List.getElem?_of_mem (hin j hj)
          exact hyi k (List.getElem?_eq_some_iff.mp hk).1 _ hk
        rwa [List.length_map, List.length_range] at this
      exact hQ (y.take n) ts6 ⟨fun x hx => hyo x (List.mem_of_mem_take hx), hnd.sublist (List.take_sublist _ _), List.length_take_le _ _, fun h2 => by rw [List.length_take]; omega⟩ (by rw [List.length_take]; omega) (hB6.mono (by omega))

theorem lu_at (r : Nat) (h : (r : Int) < 2) : ∃ b : Bool, atI (Str.ofString "lu").cps.toList (r : Int) = some (sgn b) := by
  have : r = 0 ∨ r = 1 := by omega
  rcases this with rfl | rfl
  · exact ⟨false, by decide +kernel⟩
  · exact ⟨true, by decide +kernel⟩
def sp_room : ASp := fun vs s Q => ∃ (o : LO) (β : Int) (n : Nat), vs = [.l 0, .d (.int n)] ∧ s = [o] ∧ Bx β o ∧ β < 2 ^ 36 ∧ 1 ≤ n ∧ n ≤ 12 ∧ ∀ (us : List U) ts, 1 ≤ wR us → wR us ≤ n → Bx (β + 40) (.lst ts) → Q (.d (.str (txt (encR us)))) [.lst ts]
theorem len_room : ∀ vs s Q, sp_room vs s Q → vs.length = 2 := fun vs s Q ⟨o, β, n, h, _⟩ => by rw [h]; rfl
theorem unT_strs (us : List U) : unT us = (us.map fun u => txt (encU u)).map T.str := by unfold unT; rw [List.map_map]; rfl
theorem un_sum (us : List U) : ((us.map fun u => txt (encU u)).map (·.length)).sum = (encR us).length := by
  induction us with
  | nil => rfl
  | cons u r ih => rw [List.map_cons, List.map_cons, List.sum_cons, ih, encR_cons, List.length_append, txt_len]
theorem ok_room (U : Tx mg) (D : Ds K mg) (G_ : Gx K w mg) (CF : Cf K mg cA) (C_take : Cal P w K mg base 1 "_law_take" ["_law_box_here", "_law_many"] sp_take) : Cal P w K mg base 2 "_law_room" ["_law_box_here", "_law_most"] sp_room := by
  refine Df.cal D.d_room sc_room (len_room) fun f cdv A outer s H E hr => ?_
  have hu : (A.deeper (PyProof.Rows.envOfC "_law_room" (defScope s_room) s.heap.objs.size f cdv)).units + 64 < cLine := by have := hr.un; omega
  have hu5 : (A.deeper (PyProof.Rows.envOfC "_law_room" (defScope s_room) s.heap.objs.size f cdv)).units + 65 < cLine := by have := hr.un; omega
  refine ⟨_, (ap_cons (ap_par (i := 2) (j := 3) sc_room.nd (aa_cons (ae_lst aa_nil) (aa_cons (ae_add ae_int (ae_cal C_take (hr.mono (by omega)) (aa_cons (ae_v (pv 0)) (aa_cons (ae_v (pv 1)) aa_nil)))) aa_nil)) (h := fun ha => ps_par rfl sc_room.nd rfl rfl (by decide) rfl rfl ha (by rfl)))
      (ap_cons (ap_while PassesOwn.never (at_c c_gt (ae_v (pv 3)) ae_int) (ap_blk [4] (ap_cons (ap_set (i := 4) sc_room.nd (ae_ix ae_str (ae_cal C_take (hr.mono (by omega)) (aa_cons (ae_v (pv 0)) (aa_cons ae_int aa_nil)))))
      (ap_cons (ap_if ((aw_and (at_c c_gt (ae_v (pv 3)) ae_int) (aw_and1 (at_c (c_eq hu) (ae_cal C_take (hr.mono (by omega)) (aa_cons (ae_v (pv 0)) (aa_cons ae_int aa_nil))) ae_int)))).at_ (ap_one (ap_par (i := 4) (j := 3) sc_room.nd (aa_cons (ae_add (ae_add (ae_v (pv 4)) ae_str) (ae_ix ae_str (ae_cal C_take (hr.mono (by omega)) (aa_cons (ae_v (pv 0)) (aa_cons ae_int aa_nil))))) (aa_cons (ae_sub (ae_v (pv 3)) ae_int) aa_nil)) (h := fun ha => ps_par rfl sc_room.nd rfl rfl (by decide) rfl rfl ha (by rfl)))) ap_nil)
      (ap_cons (ap_expr (ae_append (ae_v (pv 2)) (aa_cons (ae_v (pv 4)) aa_nil)))
      (ap_one (ap_set (i := 3) sc_room.nd (ae_sub (ae_v (pv 3)) ae_int))))))))
      (ap_one (ap_ret (ae_join ae_str (aa_cons (ae_v (pv 2)) aa_nil)))))), ?_⟩
  rintro svs s0 Q ⟨o, β, n, rfl, rfl, hB, hb, hn1, hn, hQ⟩
  obtain ⟨ts, rfl⟩ := hB.lst
  fail "S"
  refine callK_of rfl rfl ⟨_, β, n, rfl, rfl, hB, by omega, by omega, by omega, fun r ts1 hr hB1 => ?_⟩
  fail "S"
  refine pWhile_of (Z := List Lv.U × List T) (fun m z => wR z.1 + m = r + 1 ∧ Bx (β + 1 + 3 * (wR z.1 : Nat)) (.lst z.2)) (fun z => [some (.l 0), some (.d (.int n)), some (.l 1), some (.d (.int ((r : Int) + 1 - (wR z.1 : Nat)))), none]) (fun z => [.lst z.2, .lst (unT z.1)]) ⟨r + 1, ([], ts1), ⟨by show 0 + (r + 1) = r + 1; omega, hB1.mono (by omega)⟩, ?_, rfl⟩ ?_
  · have : (1 : Int) + (r : Nat) = (r : Int) + 1 - ((wR ([] : List Lv.U) : Nat) : Int) := by show _ = (r : Int) + 1 - 0; omega
    first | rfl | simp [this]
  · rintro m ⟨us, z⟩ ⟨hm, hz⟩ C hC B R hB2 hR
    dsimp only at hm hz hC ⊢
    have hle := encR_le us
    have hLu : (2 : Nat) ≤ sizeLine := by decide
    fail "S"
    refine ⟨fun hlt => callK_of rfl rfl ⟨_, _, 2, rfl, rfl, hz, by omega, by omega, by omega, fun r2 ts2 hr2 hB3 => ?_⟩, fun hge => ?_⟩
    · fail "S"
      obtain ⟨b, hb2⟩ := lu_at r2 hr2
      refine ⟨show 2 ≤ sizeLine by decide, sgn b, hb2, ?_⟩
      have one : ∀ z2, Bx (β + 1 + 3 * ((wR us + 1 : Nat) : Int)) (.lst z2) → C [some (.l 0), some (.d (.int n)), some (.l 1), some (.d (.int ((r : Int) + 1 - (wR us : Nat) - 1))), none] [.lst z2, .lst (unT us ++ [.str (txt [sgn b])])] := fun z2 hz2 => by
        have e : wR (us ++ [(b, none)]) = wR us + 1 := by rw [wR_app]; rfl
        have := hC (m - 1) (us ++ [(b, none)], z2) (by omega) ⟨by dsimp only; rw [e]; omega, by dsimp only; rw [e]; exact hz2⟩
        dsimp only at this
        rw [e, unT_snoc, show (r : Int) + 1 - ((wR us + 1 : Nat) : Int) = (r : Int) + 1 - (wR us : Nat) - 1 by omega] at this
        exact this
      have two : ∀ z2 c, Bx (β + 1 + 3 * ((wR us + 2 : Nat) : Int)) (.lst z2) → 2 ≤ m → C [some (.l 0), some (.d (.int n)), some (.l 1), some (.d (.int ((r : Int) + 1 - (wR us : Nat) - 1 - 1))), none] [.lst z2, .lst (unT us ++ [.str (txt [sgn b, 47, sgn c])])] := fun z2 c hz2 h2 => by
        have e : wR (us ++ [(b, some c)]) = wR us + 2 := by rw [wR_app]; rfl
        have := hC (m - 2) (us ++ [(b, some c)], z2) (by omega) ⟨by dsimp only; rw [e]; omega, by dsimp only; rw [e]; exact hz2⟩
        dsimp only at this
        rw [e, unT_snoc, show (r : Int) + 1 - ((wR us + 2 : Nat) : Int) = (r : Int) + 1 - (wR us : Nat) - 1 - 1 by omega] at this
        exact this
      have hul : (unT us).length < sizeLine := by rw [unT_len]; exact len_lt (by omega)
      refine ⟨fun h1 => callK_of rfl rfl ⟨_, _, 3, rfl, rfl, hB3, by omega, by omega, by omega, fun r3 ts3 hr3 hB4 => ?_⟩, fun h1 => ⟨hul, one ts2 (hB3.mono (by omega))⟩⟩
      fail "S"
      refine ⟨fun h3 => ?_, fun h3 => ⟨hul, one ts3 (hB4.mono (by omega))⟩⟩
      refine ⟨show 2 ≤ sizeLine by decide, callK_of rfl rfl ⟨_, _, 2, rfl, rfl, hB4, by omega, by omega, by omega, fun r4 ts4 hr4 hB5 => ?_⟩⟩
      fail "S"
      obtain ⟨c, hc⟩ := lu_at r4 hr4
      refine ⟨show 2 ≤ sizeLine by decide, sgn c, hc, ?_⟩
      have et : ((⟨#[sgn b]⟩ : Str) ++ Str.ofString "/") ++ (⟨#[sgn c]⟩ : Str) = txt [sgn b, 47, sgn c] := rfl
      have tw := two ts4 c (hB5.mono (by omega)) (by omega)
      rw [← et] at tw
      exact ⟨show 3 ≤ sizeLine by decide, hul, tw⟩
    · refine hB2 _ _ ?_
      fail "S"
      refine ⟨us.map fun u => txt (encU u), unT_strs us, ?_, ?_⟩
      · rw [un_sum, show (Str.ofString "").length = 0 from rfl]; omega
      · rw [show Str.ofString "" = txt [] from rfl, glue_txt]
        exact hQ us z (by omega) (by omega) (hz.mono (by omega))

theorem bth_sgn (b : Bool) : Ku.bth (sgn b) = true := by cases b <;> rfl
theorem sgn_ne (b : Bool) : sgn b ≠ 47 := by cases b <;> decide
theorem encR_head (r : List Lv.U) : encR r = [] ∨ ∃ c t, encR r = sgn c :: t := by
  cases r with
  | nil => exact .inl rfl
  | cons u r =>
    rcases u with ⟨b, _ | c⟩
    · exact .inr ⟨b, encR r, rfl⟩
    · exact .inr ⟨b, 47 :: sgn c :: encR r, rfl⟩
theorem good_one (b : Bool) (l : List Nat) (h : l = [] ∨ ∃ c t, l = sgn c :: t) : Ku.good (sgn b :: l) = Ku.good l := by
  rcases h with rfl | ⟨c, t, rfl⟩
  · exact bth_sgn b
  · cases t with
    | nil => show (Ku.bth (sgn b) && Ku.bth (sgn c)) = Ku.bth (sgn c); rw [bth_sgn, Bool.true_and]
    | cons d t =>
      show (if sgn c = 47 then _ else (Ku.bth (sgn b) && Ku.good (sgn c :: d :: t))) = _
      rw [if_neg (sgn_ne c), bth_sgn, Bool.true_and]
theorem good_enc (us : List Lv.U) : Ku.good (encR us) = true := by
  induction us with
  | nil => rfl
  | cons u r ih =>
    rcases u with ⟨b, _ | c⟩
    · exact (good_one b (encR r) (encR_head r)).trans ih
    · show (Ku.bth (sgn b) && Ku.bth (sgn c) && Ku.good (encR r)) = true
      rw [bth_sgn, bth_sgn, ih]; rfl
theorem roomT_enc {us : List Lv.U} (h1 : 1 ≤ wR us) (h8 : wR us ≤ 8) : roomT (.str (txt (encR us))) = true := by
  show Ku.room (encR us) = true
  unfold Ku.room
  rw [good_enc, cnt_room, decide_eq_true ⟨h1, h8⟩]; rfl
theorem strOk_txt (us : List Lv.U) : PyData.strOk (txt (encR us)) = true := by
  have h : ∀ c ∈ encR us, c < 0x110000 := by
    intro c hc
    obtain ⟨u, _, hu⟩ := List.mem_flatMap.mp hc
    rcases u with ⟨b, _ | d⟩
    · cases b <;> (simp [encU, sgn] at hu; omega)
    · cases b <;> cases d <;> (simp [encU, sgn] at hu; omega)
  unfold PyData.strOk txt
  rw [List.all_toArray, List.all_eq_true]
  intro c hc
  exact decide_eq_true (h c hc)
/-- a room's text that the law draws -/
def roomZ (z : Str) : Prop := roomT (.str z) = true ∧ z.length ≤ 24 ∧ PyData.strOk z = true
theorem roomZ_enc {us : List Lv.U} (h1 : 1 ≤ wR us) (h8 : wR us ≤ 8) : roomZ (txt (encR us)) := ⟨roomT_enc h1 h8, by rw [txt_len]; have := (encR_le us).1; omega, strOk_txt us⟩
theorem rise_all : ∀ J : List Nat, J.Pairwise (· < ·) → (zpT (natT J) (natT J).tail).all ltP = true
  | [], _ => rfl
  | [a], _ => rfl
  | a :: b :: r, h => by
    have h2 := List.pairwise_cons.mp h
    have ih := rise_all (b :: r) h2.2
    show (ltP (.tup [.int (a : Nat), .int (b : Nat)]) && (zpT (natT (b :: r)) (natT (b :: r)).tail).all ltP) = true
    rw [ih, Bool.and_true]
    have : a < b := h2.1 b List.mem_cons_self
    show decide ((a : Int) < (b : Int)) = true
    exact decide_eq_true (by omega)
theorem calm_nat {m : Nat} {J : List Nat} (h : J.Pairwise (· < ·)) (hb : ∀ k ∈ J, 0 < k ∧ k + 1 < m) : calmT (m : Int) (natT J) = true := by
  unfold calmT
  rw [rise_all J h, Bool.and_true]
  refine List.all_eq_true.mpr fun t ht => ?_
  obtain ⟨k, hk, rfl⟩ := List.mem_map.mp ht
  have := hb k hk
  show decide (0 < (k : Int) ∧ (k : Int) < (m : Int) - 1) = true
  exact decide_eq_true (by omega)
theorem stops_ok {n : Nat} {ns : List Str} (N : NamesOk n ns) (h : 2 ≤ n) : stopsT (ns.map T.str) = true := by
  unfold stopsT
  rw [List.length_map, decide_eq_true (show 1 < ns.length by have := N.two h; omega), strOf_map, decide_eq_true N.nd]
  have : (ns.map T.str).all nameT = true := List.all_eq_true.mpr fun t ht => by
    obtain ⟨z, hz, rfl⟩ := List.mem_map.mp ht
    exact N.ok z hz
  rw [this]; rfl
structure NamesLe (many : Nat) (ns : List Str) : Prop where
  ok : ∀ z ∈ ns, nameOk z = true
  nd : ns.Nodup
  le : ns.length ≤ many
structure CarsOk (cars : List Cr) : Prop where
  nm : NamesLe 8 (cars.map (·.1))
  r1 : ∀ c ∈ cars, 0 < c.2.length
  r3 : ∀ c ∈ cars, c.2.length ≤ 3
  rz : ∀ c ∈ cars, ∀ r ∈ c.2, roomZ r
theorem cars_ok {cars : List Cr} (O : CarsOk cars) : carsT (cars.map carD) = true := by
  unfold carsT
  have e : ((cars.map carD).map fun t => strOf (nmOf t)) = cars.map (·.1) := by rw [List.map_map]; rfl
  rw [e, decide_eq_true O.nm.nd, Bool.and_true]
  refine List.all_eq_true.mpr fun t ht => ?_
  obtain ⟨c, hc, rfl⟩ := List.mem_map.mp ht
  show (nameOk c.1 && (decide (0 < (c.2.map T.str).length) && (c.2.map T.str).all roomT)) = true
  rw [O.nm.ok c.1 (List.mem_map.mpr ⟨c, hc, rfl⟩), List.length_map, decide_eq_true (O.r1 c hc)]
  have : (c.2.map T.str).all roomT = true := List.all_eq_true.mpr fun t ht => by
    obtain ⟨z, hz, rfl⟩ := List.mem_map.mp ht
    exact (O.rz c hc z hz).1
  rw [this]; rfl
theorem tame_str {z : Str} (h : z.length ≤ 24) : tame (.str z) := ⟨rfl, by rw [wt_str]; omega⟩
theorem nodup_le : ∀ {l m : List Nat}, l.Nodup → (∀ x ∈ l, x ∈ m) → l.length ≤ m.length
  | [], m, _, _ => Nat.zero_le _
  | x :: r, m, nd, h => by
    have hx := h x List.mem_cons_self
    have nd2 := List.nodup_cons.mp nd
    have := nodup_le (m := m.erase x) nd2.2 fun y hy => by
      have hne : y ≠ x := fun e => nd2.1 (e ▸ hy)
      exact (List.mem_erase_of_ne hne).mpr (h y (List.mem_cons_of_mem _ hy))
    rw [List.length_erase_of_mem hx] at this
    have h0 := List.length_pos_of_mem hx
    rw [List.length_cons]; omega
structure TrOk (stops : List Str) (calm : List Nat) (cars : List Cr) : Prop where
  st : NamesOk 25 stops
  s2 : 2 ≤ stops.length
  cp : calm.Pairwise (· < ·)
  cb : ∀ k ∈ calm, 0 < k ∧ k + 1 < stops.length
  cr : CarsOk cars
theorem TrOk.cl {stops : List Str} {calm : List Nat} {cars : List Cr} (O : TrOk stops calm cars) : calm.length ≤ stops.length := by
  have h1 : calm.Nodup := O.cp.imp fun h => Nat.ne_of_lt h
  have h2 : ∀ k ∈ calm, k ∈ List.range stops.length := fun k hk => List.mem_range.mpr (by have := O.cb k hk; omega)
  have := nodup_le h1 h2
  rwa [List.length_range] at this
theorem TrOk.mk' {stops : List Str} {calm : List Nat} {cars : List Cr} (O : TrOk stops calm cars) : MkT (stops.map T.str) (natT calm) (cars.map carD) where
  la := by rw [List.length_map]; have := O.st.le; omega
  lb := by rw [natT_len]; have := O.cl; have := O.st.le; omega
  lc := by rw [List.length_map]; have := O.cr.nm.le; rw [List.length_map] at this; omega
  ta := fun t ht => by
    obtain ⟨z, hz, rfl⟩ := List.mem_map.mp ht
    exact tame_str (by have := name_len (O.st.ok z hz); omega)
  tb := fun t ht => by
    obtain ⟨z, hz, rfl⟩ := List.mem_map.mp ht
    rfl
  tc := fun t ht => by
    obtain ⟨c, hc, rfl⟩ := List.mem_map.mp ht
    refine ⟨rfl, fun us hus => ?_⟩
    cases hus
    refine ⟨show 2 ≤ 1000 by decide, fun n r hnr => ?_⟩
    cases hnr
    refine ⟨tame_str (by have := name_len (O.cr.nm.ok c.1 (List.mem_map.mpr ⟨c, hc, rfl⟩)); omega), rfl, fun ts hts => ?_⟩
    cases hts
    refine ⟨by rw [List.length_map]; have := O.cr.r3 c hc; omega, fun u hu => ?_⟩
    obtain ⟨z, hz, rfl⟩ := List.mem_map.mp hu
    exact tame_str (O.cr.rz c hc z hz).2.1
  oa := by
    refine stops_ok O.st (by decide)
  ob := by rw [List.length_map]; exact calm_nat O.cp O.cb
  oc := cars_ok O.cr
theorem TrOk.tx {stops : List Str} {calm : List Nat} {cars : List Cr} (O : TrOk stops calm cars) : OkT stops calm cars where
  ls := by have := O.st.le; omega
  lz := fun z hz => name_len (O.st.ok z hz)
  lc := by have := O.cr.nm.le; rw [List.length_map] at this; omega
  ln := fun c hc => name_len (O.cr.nm.ok c.1 (List.mem_map.mpr ⟨c, hc, rfl⟩))
  l1 := O.cr.r1
  lr := fun c hc => by have := O.cr.r3 c hc; omega
  lt := fun c hc r hr => by have := (O.cr.rz c hc r hr).2.1; omega

def sp_train : ASp := fun vs s Q => ∃ (o : LO) (β : Int), vs = [.l 0, .d (.int 24)] ∧ s = [o] ∧ Bx β o ∧ β < 2 ^ 30 ∧ ∀ (stops : List Str) (calm : List Nat) (cars : List Cr) ts, TrOk stops calm cars → Bx (β + 3000) (.lst ts) → Q (.l 1) [.lst ts, .ll [.l 2, .l 3, .l 4], .lst (stops.map T.str), .lst (natT calm), .lst (cars.map carD)]
theorem len_train : ∀ vs s Q, sp_train vs s Q → vs.length = 2 := fun vs s Q ⟨o, β, h, _⟩ => by rw [h]; rfl
theorem ok_train (U : Tx mg) (D : Ds K mg) (G_ : Gx K w mg) (CF : Cf K mg cA) (C_names : Cal P w K mg base 2 "_law_names" ["_law_box_here", "_law_many"] sp_names) (C_take : Cal P w K mg base 1 "_law_take" ["_law_box_here", "_law_many"] sp_take) (C_room : Cal P w K mg base 2 "_law_room" ["_law_box_here", "_law_most"] sp_room) : Cal P w K mg base 3 "_law_train" ["_law_box_here", "_law_most"] sp_train := by
  refine Df.calK D.d_train sc_train (len_train) fun f cdv A outer s H E hr => ?_
  have hu : (A.deeper (PyProof.Rows.envOfC "_law_train" (defScope s_train) s.heap.objs.size f cdv)).units + 64 < cLine := by have := hr.un; omega
  have hu5 : (A.deeper (PyProof.Rows.envOfC "_law_train" (defScope s_train) s.heap.objs.size f cdv)).units + 65 < cLine := by have := hr.un; omega
  refine ⟨_, (ap_cons (ap_set (i := 2) sc_train.nd (ae_cal C_names (hr.mono (by omega)) (aa_cons (ae_v (pv 0)) (aa_cons (ae_add ae_int (ae_cal C_take (hr.mono (by omega)) (aa_cons (ae_v (pv 0)) (aa_cons (ae_sub (ae_v (pv 1)) ae_int) aa_nil)))) aa_nil))))
      (ap_cons (ap_setLc (i := 3) (own := [("_law_k", 6)]) sc_train.nd (ai_range2 U.m_range ae_int (ae_sub (ae_len U.m_len (aa_cons (ae_v (pv 2)) aa_nil)) ae_int)) (blkOk_by (own := [("_law_k", 6)]) (N := N_train) (sc := defScope s_train) (by decide +kernel)) (fun _ _ _ _ _ => (ag_name (i := 6) sc_train.nd)) (fun _ _ _ _ _ => (ats_one (at_c (c_eq hu) (ae_cal C_take (hr.mono (by omega)) (aa_cons (ae_v (pv 0)) (aa_cons ae_int aa_nil))) ae_int))) (fun _ _ _ _ _ => (ae_v (pv 6))) lift_fr (sw_true rfl rfl rfl (by decide +kernel)))
      (ap_cons (ap_set (i := 4) sc_train.nd (ae_lst aa_nil))
      (ap_cons (ap_for PassesOwn.never (ai_seq (ae_dat (ae_cal C_names (hr.mono (by omega)) (aa_cons (ae_v (pv 0)) (aa_cons (ae_cal C_take (hr.mono (by omega)) (aa_cons (ae_v (pv 0)) (aa_cons ae_int aa_nil))) aa_nil))))) (ag_name (i := 5) sc_train.nd) (ap_blk [5] (ap_one (ap_expr (ae_append (ae_v (pv 4)) (aa_cons (ae_tup (aa_cons (ae_v (pv 5)) (aa_cons (ae_dat (ae_lc (own := [("_law_k", 6)]) sc_train.nd (ai_range1 U.m_range (ae_add ae_int (ae_cal C_take (hr.mono (by omega)) (aa_cons (ae_v (pv 0)) (aa_cons ae_int aa_nil))))) (blkOk_by (own := [("_law_k", 6)]) (N := N_train) (sc := defScope s_train) (by decide +kernel)) (fun _ _ _ _ _ => (ag_name (i := 6) sc_train.nd)) (fun _ _ _ _ _ => ats_nil) (fun _ _ _ _ _ => (ae_cal C_room (hr.mono (by omega)) (aa_cons (ae_v (pv 0)) (aa_cons ae_int aa_nil)))))) aa_nil))) aa_nil))))))
      (ap_one (ap_ret (ae_lstS (aa_cons (ae_v (pv 2)) (aa_cons (ae_v (pv 3)) (aa_cons (ae_v (pv 4)) aa_nil)))))))))), ?_⟩
  rintro svs s0 Q ⟨o, β, rfl, rfl, hB, hb, hQ⟩
  obtain ⟨ts, rfl⟩ := hB.lst
  fail "S"
  refine callK_of rfl rfl ⟨_, β, 23, rfl, rfl, hB, by omega, by omega, by omega, fun r1 ts1 hr1 hB1 => ?_⟩
  fail "S"
  refine callK_of rfl rfl ⟨_, β + 1, 2 + r1, rfl, rfl, hB1, by omega, by omega, fun stops ts2 N1 _ hB2 => ?_⟩
  fail "S"
  have hs2 : 2 ≤ stops.length := N1.two (by omega)
  have hsl := N1.le
  have hM : ((stops.map T.str).length : Int) - 1 = ((stops.length - 1 : Nat) : Int) := by rw [List.length_map]; omega
  refine lcI_of (Z := List Nat × List T) (rgT 1 ((stops.length - 1 : Nat) : Int)) (fun i acc z => acc = natT z.1 ∧ z.1.Pairwise (· < ·) ∧ (∀ k ∈ z.1, 0 < k ∧ k < 1 + i) ∧ z.1.length ≤ i ∧ Bx (β + 7 + (i : Nat)) (.lst z.2)) (fun z => [.lst z.2, .lst (stops.map T.str)]) ?_ ⟨([], ts2), ⟨rfl, List.Pairwise.nil, fun k h => absurd h List.not_mem_nil, Nat.le_refl _, hB2.mono (by omega)⟩, rfl⟩ ?_ ?_
  · intro Q' h
    fail "S"
    have e : ((stops.length - 1 : Nat) : Int) = (stops.length : Int) - 1 := by omega
    rw [e] at h
    exact ⟨by omega, h _ fun _ _ _ _ => trivial⟩
  · rintro i x acc ⟨J, z⟩ hx ⟨rfl, hp, hb2, hJ, hz⟩ C hC
    dsimp only at hp hb2 hJ hz ⊢
    obtain ⟨hi, rfl⟩ := rgT_lt hx
    fail "S"
    refine callK_of rfl rfl ⟨_, _, 3, rfl, rfl, hz, by omega, by omega, by omega, fun r3 ts3 hr3 hB3 => ?_⟩
    fail "S"
    refine ⟨fun _ => ⟨len_lt (by rw [natT_len]; omega), ?_⟩, fun _ => ?_⟩
    · have := hC (natT (J ++ [1 + i])) (J ++ [1 + i], ts3) ⟨rfl, List.pairwise_append.mpr ⟨hp, List.pairwise_singleton _ _, fun a ha b hb => by rw [List.mem_singleton.mp hb]; have := hb2 a ha; omega⟩, fun k hk => by
        rcases List.mem_append.mp hk with h | h
        · have h9 := hb2 k h; exact ⟨h9.1, by omega⟩
        · have h9 := List.mem_singleton.mp h; exact ⟨by omega, by omega⟩, by show (J ++ [1 + i]).length ≤ i + 1; rw [List.length_append, List.length_singleton]; omega, hB3.mono (by omega)⟩
      rw [← natT_app] at this
      rw [show (1 : Int) + (i : Nat) = ((1 + i : Nat) : Int) by omega]
      exact this
    · exact hC (natT J) (J, ts3) ⟨rfl, hp, fun k hk => by have h9 := hb2 k hk; exact ⟨h9.1, by omega⟩, by show J.length ≤ i + 1; omega, hB3.mono (by omega)⟩
  · rintro acc ⟨calm, z⟩ ⟨rfl, hp, hb2, hJ, hz⟩
    dsimp only at hp hb2 hJ hz ⊢
    rw [rgT_len] at hb2 hJ hz
    fail "S"
    refine forK_in ?_
    fail "S"
    refine callK_of rfl rfl ⟨_, _, 9, rfl, rfl, hz, by omega, by omega, by omega, fun r4 ts4 hr4 hB4 => ?_⟩
    fail "S"
    refine callK_of rfl rfl ⟨_, _, r4, rfl, rfl, hB4, by omega, by omega, fun ns ts5 N2 _ hB5 => ?_⟩
    fail "S"
    have hnl := N2.le
    refine forI_of (Z := List Cr × List T) (fun i z => z.1.map (·.1) = ns.take i ∧ (∀ c ∈ z.1, 0 < c.2.length ∧ c.2.length ≤ 3 ∧ ∀ r ∈ c.2, roomZ r) ∧ Bx (β + 100 + 130 * (i : Nat)) (.lst z.2)) (fun z => [some (.l 0), some (.d (.int 24)), some (.l 1), some (.l 2), some (.l 3), none, none]) (fun z => [.lst z.2, .lst (stops.map T.str), .lst (natT calm), .lst (z.1.map carD)]) (fun _ _ _ => trivial) ⟨([], ts5), ⟨rfl, fun c h => absurd h List.not_mem_nil, hB5.mono (by omega)⟩, rfl, rfl⟩ ?_ ?_
    · rintro i x ⟨cars, us⟩ hx ⟨hnm, hc, hz2⟩ C hC B R hB2 hR
      dsimp only at hnm hc hz2 ⊢
      rw [List.getElem?_map] at hx
      obtain ⟨q, hq, rfl⟩ := Option.map_eq_some_iff.mp hx
      have hqi := (List.getElem?_eq_some_iff.mp hq).1
      have hcl : cars.length ≤ i := by
        have := congrArg List.length hnm
        rw [List.length_map, List.length_take] at this; omega
      fail "S"
      refine lcK_in ?_
      fail "S"
      refine callK_of rfl rfl ⟨_, _, 3, rfl, rfl, hz2, by omega, by omega, by omega, fun r5 us1 hr5 hB6 => ?_⟩
      fail "S"
      have e1 : (1 : Int) + (r5 : Nat) = ((1 + r5 : Nat) : Int) := by omega
      try rw [e1]
      refine ⟨by omega, by omega, lcJ_of (Z := List Str × List T) (fun j acc y => acc = y.1.map T.str ∧ y.1.length = j ∧ j ≤ 3 ∧ (∀ r ∈ y.1, roomZ r) ∧ Bx (β + 101 + 130 * (i : Nat) + 40 * (j : Nat)) (.lst y.2)) (fun y => [.lst y.2, .lst (stops.map T.str), .lst (natT calm), .lst (cars.map carD)]) (fun _ _ _ _ => trivial) ⟨([], us1), ⟨rfl, rfl, Nat.zero_le _, fun _ h => absurd h List.not_mem_nil, hB6.mono (by omega)⟩, rfl⟩ ?_ ?_⟩
      · rintro j x acc ⟨rs, us2⟩ hx2 ⟨rfl, hj, hj3, hrs, hz3⟩ C2 hC2
        dsimp only at hj hrs hz3 ⊢
        obtain ⟨hj2, rfl⟩ := rgT_lt hx2
        fail "S"
        refine callK_of rfl rfl ⟨_, _, 8, rfl, rfl, hz3, by omega, by omega, by omega, fun rm us3 hw1 hw8 hB7 => ?_⟩
        fail "S"
        have := hC2 ((rs ++ [txt (encR rm)]).map T.str) (rs ++ [txt (encR rm)], us3) ⟨rfl, by rw [List.length_append, List.length_singleton]; omega, by omega, fun r hr => by
          rcases List.mem_append.mp hr with h | h
          · exact hrs r h
          · rw [List.mem_singleton.mp h]; exact roomZ_enc hw1 hw8, hB7.mono (by omega)⟩
        rw [List.map_append] at this
        exact ⟨len_lt (by omega), this⟩
      · rintro acc ⟨rs, us2⟩ ⟨rfl, hj, hj3, hrs, hz3⟩
        dsimp only at hj hrs hz3 ⊢
        rw [rgT_len] at hj hz3
        fail "S"
        have := hC (cars ++ [(q, rs)], us2) ⟨by rw [List.map_append, hnm, List.take_succ, hq]; rfl, fun c h => by
          rcases List.mem_append.mp h with h | h
          · exact hc c h
          · rw [List.mem_singleton.mp h]; exact ⟨by dsimp only; omega, by dsimp only; omega, hrs⟩, hz3.mono (by omega)⟩
        rw [List.map_append] at this
        exact ⟨len_lt (by omega), this⟩
    · rintro ⟨cars, us⟩ ⟨hnm, hc, hz2⟩
      dsimp only at hnm hc hz2 ⊢
      rw [List.length_map] at hnm hz2
      rw [List.take_length] at hnm
      fail "S"
      refine keepC_of [4, 1, 2, 3] rfl rfl ?_
      have O : TrOk stops calm cars := ⟨⟨N1.ok, N1.nd, by have := N1.le; omega, fun _ => hs2⟩, hs2, hp, fun k hk => by have := hb2 k hk; omega, ⟨⟨by rw [hnm]; exact N2.ok, by rw [hnm]; exact N2.nd, by rw [hnm]; have := N2.le; omega⟩, fun c h => (hc c h).1, fun c h => (hc c h).2.1, fun c h => (hc c h).2.2⟩⟩
      fail "S"
      exact hQ stops calm cars us O (hz2.mono (by omega))

theorem wts_map {α : Type} (f : α → T) (m : Nat) : ∀ l : List α, (∀ x ∈ l, (f x).wt ≤ m) → wts (l.map f) ≤ (m + 1) * l.length
  | [], _ => by rw [List.map_nil, wts_nil]; exact Nat.zero_le _
  | x :: r, h => by
    have h1 := h x List.mem_cons_self
    have h2 := wts_map f m r fun y hy => h y (List.mem_cons_of_mem _ hy)
    rw [List.map_cons, wts_cons, List.length_cons, Nat.mul_succ]; omega

/-- a train's fields are small data -/
theorem TrOk.sm {stops : List Str} {calm : List Nat} {cars : List Cr} (O : TrOk stops calm cars) : T.sm 60 (.lst [.tup (stops.map T.str), .tup (natT calm), .tup (cars.map carP)]) = true ∧ (T.lst [.tup (stops.map T.str), .tup (natT calm), .tup (cars.map carP)]).wt ≤ 1048576 := by
  have hs := O.st.le
  have hc := O.cl
  have hk := O.cr.nm.le
  rw [List.length_map] at hk
  have hcal : ∀ x ∈ calm, x < 10 ^ 12 := fun x hx => by have := O.cb x hx; omega
  constructor
  · refine sm_mono 4 60 _ (by decide) (sm_lst fun x hx => ?_)
    simp only [List.mem_cons, List.not_mem_nil, or_false] at hx
    rcases hx with rfl | rfl | rfl
    · refine sm_tup fun x hx => ?_
      obtain ⟨z, hz, rfl⟩ := List.mem_map.mp hx
      unfold T.sm; exact strOk_nm (O.st.ok z hz)
    · refine sm_tup fun x hx => ?_
      obtain ⟨z, hz, rfl⟩ := List.mem_map.mp hx
      unfold T.sm; have := hcal z hz; exact decide_eq_true (by omega)
    · refine sm_tup fun x hx => ?_
      obtain ⟨c, hc, rfl⟩ := List.mem_map.mp hx
      refine sm_tup fun y hy => ?_
      simp only [List.mem_cons, List.not_mem_nil, or_false] at hy
      rcases hy with rfl | rfl
      · unfold T.sm; exact strOk_nm (O.cr.nm.ok c.1 (List.mem_map.mpr ⟨c, hc, rfl⟩))
      · refine sm_tup fun y hy => ?_
        obtain ⟨z, hz, rfl⟩ := List.mem_map.mp hy
        unfold T.sm; exact (O.cr.rz c hc z hz).2.2
  · rw [wt_lst, wts_cons, wts_cons, wts_cons, wts_nil, wt_tup, wt_tup, wt_tup]
    have h1 := wts_map T.str 8 stops fun z hz => by rw [wt_str]; exact name_len (O.st.ok z hz)
    have h2 := wts_natT hcal
    have h3 := wts_map carP 200 cars fun c hc => by
      have h4 := wts_map T.str 24 c.2 fun z hz => by rw [wt_str]; exact (O.cr.rz c hc z hz).2.1
      have h5 := O.cr.r3 c hc
      have h6 := name_len (O.cr.nm.ok c.1 (List.mem_map.mpr ⟨c, hc, rfl⟩))
      unfold carP
      rw [wt_tup, wts_cons, wts_cons, wts_nil, wt_str, wt_tup]
      have h7 : (24 + 1) * c.2.length ≤ (24 + 1) * 3 := Nat.mul_le_mul_left _ h5
      omega
    have h8 : (8 + 1) * stops.length ≤ 9 * 25 := Nat.mul_le_mul_left _ hs
    have h9 : (200 + 1) * cars.length ≤ 201 * 8 := Nat.mul_le_mul_left _ hk
    omega

def sp_same (cA : Cs) : ASp := fun vs s Q => ∃ (stops : List Str) (calm : List Nat) (cars : List Cr), vs = [.d (trT cA stops calm cars), .d (.lst [.tup (stops.map T.str), .tup (natT calm), .tup (cars.map carP)])] ∧ s = [] ∧ TrOk stops calm cars ∧ Q (.d (.bl true)) []
theorem len_same (cA : Cs) : ∀ vs s Q, sp_same cA vs s Q → vs.length = 2 := fun vs s Q ⟨a, b, c, h, _⟩ => by rw [h]; rfl
theorem ok_same (U : Tx mg) (D : Ds K mg) (G_ : Gx K w mg) (CF : Cf K mg cA)  : Cal P w K mg base 1 "_law_same" ["_law_train_here", "_law_due"] (sp_same cA) := by
  refine Df.cal D.d_same sc_same (len_same cA) fun f cdv A outer s H E hr => ?_
  have hu : (A.deeper (PyProof.Rows.envOfC "_law_same" (defScope s_same) s.heap.objs.size f cdv)).units + 64 < cLine := by have := hr.un; omega
  have hu5 : (A.deeper (PyProof.Rows.envOfC "_law_same" (defScope s_same) s.heap.objs.size f cdv)).units + 65 < cLine := by have := hr.un; omega
  refine ⟨_, (ap_one (ap_ret (ae_c (c_eq hu) (ae_repr hr.gd hu U.m_repr (aa_cons (ae_dat (ae_lst (aa_cons (ae_fld (K := K) rfl (ae_v (pv 0))) (aa_cons (ae_fld (K := K) rfl (ae_v (pv 0))) (aa_cons (ae_fld (K := K) rfl (ae_v (pv 0))) aa_nil))))) aa_nil)) (ae_repr hr.gd hu U.m_repr (aa_cons (ae_v (pv 1)) aa_nil))))), ?_⟩
  rintro svs s0 Q ⟨stops, calm, cars, rfl, rfl, O, hQ⟩
  obtain ⟨sm1, sm2⟩ := O.sm
  unfold trT
  fail "S"
  exact ⟨sm1, sm2, sm1, sm2, hQ⟩
theorem cars_sm {cars : List Cr} (O : CarsOk cars) : T.sm 6 (.lst (cars.map carD)) = true := sm_mono 3 6 _ (by decide) (sm_lst fun x hx => by
  obtain ⟨c, hc, rfl⟩ := List.mem_map.mp hx
  refine sm_tup fun y hy => ?_
  simp only [List.mem_cons, List.not_mem_nil, or_false] at hy
  rcases hy with rfl | rfl
  · unfold T.sm; exact strOk_nm (O.nm.ok c.1 (List.mem_map.mpr ⟨c, hc, rfl⟩))
  · refine sm_lst fun z hz => ?_
    obtain ⟨r, hr, rfl⟩ := List.mem_map.mp hz
    unfold T.sm; exact (O.rz c hc r hr).2.2)
def fKeep (z : Str) : T → Bool
  | .tup [.int k, .tup (.str n :: _)] => decide (k = 0) || !decide (n = z)
  | _ => false
def fSnd : T → T
  | .tup [_, t] => t
  | t => t
theorem keep_from (z : Str) : ∀ (l : List Cr) (k : Nat), 0 < k → ((((l.map carD).zipIdx k).map fun p => T.tup [.int (p.2 : Nat), p.1]).filter (fKeep z)).map fSnd = (l.filter fun c => !decide (c.1 = z)).map carD
  | [], _, _ => rfl
  | c :: r, k, hk => by
    have ih := keep_from z r (k + 1) (by omega)
    have e : fKeep z (.tup [.int (k : Nat), carD c]) = !decide (c.1 = z) := by
      show (decide ((k : Int) = 0) || !decide (c.1 = z)) = _
      rw [decide_eq_false (by omega), Bool.false_or]
    rw [List.map_cons, List.zipIdx_cons, List.map_cons, List.filter_cons, List.filter_cons]
    dsimp only
    rw [e]
    cases h : (!decide (c.1 = z)) with
    | true => rw [if_pos rfl, if_pos rfl, List.map_cons, List.map_cons, ih]; rfl
    | false => rw [if_neg Bool.false_ne_true, if_neg Bool.false_ne_true, ih]
theorem keep_all (z : Str) (c : Cr) (l : List Cr) : ((enT ((c :: l).map carD)).filter (fKeep z)).map fSnd = (c :: l.filter fun d => !decide (d.1 = z)).map carD := by
  unfold enT
  rw [List.map_cons, List.zipIdx_cons, List.map_cons, List.filter_cons]
  dsimp only
  rw [show fKeep z (.tup [.int ((0 : Nat) : Int), carD c]) = true by show (decide (((0 : Nat) : Int) = 0) || !decide (c.1 = z)) = true; rfl, if_pos rfl, List.map_cons, keep_from z l 1 (by decide)]; rfl
/-- the first car by the first stop's name, the others that are not so called -/
theorem TrOk.alike {z0 : Str} {zs : List Str} {calm : List Nat} {c0 : Cr} {cr : List Cr} (O : TrOk (z0 :: zs) calm (c0 :: cr)) : TrOk (z0 :: zs) calm ((z0, c0.2) :: cr.filter fun d => !decide (d.1 = z0)) := by
  have hsub : ∀ d ∈ cr.filter (fun d => !decide (d.1 = z0)), d ∈ c0 :: cr ∧ d.1 ≠ z0 := fun d hd => by
    obtain ⟨h1, h2⟩ := List.mem_filter.mp hd
    exact ⟨List.mem_cons_of_mem _ h1, fun e => by rw [decide_eq_true e] at h2; cases h2⟩
  refine ⟨O.st, O.s2, O.cp, O.cb, ⟨⟨fun z hz => ?_, ?_, ?_⟩, fun c hc => ?_, fun c hc => ?_, fun c hc => ?_⟩⟩
  · rcases List.mem_cons.mp hz with rfl | hz
    · exact O.st.ok z List.mem_cons_self
    · obtain ⟨d, hd, rfl⟩ := List.mem_map.mp hz
      exact O.cr.nm.ok d.1 (List.mem_map.mpr ⟨d, (hsub d hd).1, rfl⟩)
  · refine List.nodup_cons.mpr ⟨fun h => ?_, ?_⟩
    · obtain ⟨d, hd, e⟩ := List.mem_map.mp h
      exact (hsub d hd).2 e
    · have := O.cr.nm.nd
      rw [List.map_cons, List.nodup_cons] at this
      exact this.2.sublist (List.filter_sublist.map _)
  · have h1 := O.cr.nm.le
    have h2 := List.length_filter_le (fun d : Cr => !decide (d.1 = z0)) cr
    rw [List.length_map, List.length_cons] at h1 ⊢
    omega
  · rcases List.mem_cons.mp hc with rfl | hc
    · exact O.cr.r1 c0 List.mem_cons_self
    · exact O.cr.r1 c (hsub c hc).1
  · rcases List.mem_cons.mp hc with rfl | hc
    · exact O.cr.r3 c0 List.mem_cons_self
    · exact O.cr.r3 c (hsub c hc).1
  · rcases List.mem_cons.mp hc with rfl | hc
    · exact O.cr.rz c0 List.mem_cons_self
    · exact O.cr.rz c (hsub c hc).1
/-- the records are lists, not long -/
def RecsOk (rs : List (Addr × PRec)) : Prop := ∀ r ∈ rs, ∃ us, r.2 = .lst us ∧ us.length ≤ 200
/-- a tuple, or a list known by its address -/
def PickOk (rs : List (Addr × PRec)) (us : List T) (x : T) : Prop := x = .tup us ∨ ∃ a, x = .ref a ∧ lkR rs a = some us
theorem lkR_app {rs q : List (Addr × PRec)} {a : Addr} {us : List T} (h : lkR rs a = some us) : lkR (rs ++ q) a = some us := by
  induction rs with
  | nil => cases h
  | cons r rs ih =>
    obtain ⟨b, r⟩ := r
    cases r with
    | ins dx C fs => exact ih h
    | lst ws =>
      show (if b = a then some ws else lkR (rs ++ q) a) = some us
      have h : (if b = a then some ws else lkR rs a) = some us := h
      by_cases e : b = a
      · rw [if_pos e] at h ⊢; exact h
      · rw [if_neg e] at h ⊢; exact ih h
theorem lkR_new {rs : List (Addr × PRec)} {a : Addr} {us : List T} (h : a ∉ poolA rs) : lkR (rs ++ [(a, .lst us)]) a = some us := by
  induction rs with
  | nil => show (if a = a then some us else none) = some us; rw [if_pos rfl]
  | cons r rs ih =>
    obtain ⟨b, r⟩ := r
    have hb : a ∉ r.al b ∧ a ∉ poolA rs := ⟨fun z => h (List.mem_append_left _ z), fun z => h (List.mem_append_right _ z)⟩
    cases r with
    | ins dx C fs => exact ih hb.2
    | lst ws =>
      show (if b = a then some ws else lkR (rs ++ [(a, .lst us)]) a) = some us
      rw [if_neg (fun e => hb.1 (by rw [e]; simp [PRec.al]))]
      exact ih hb.2
theorem PickOk.app {rs q : List (Addr × PRec)} {us : List T} {x : T} (h : PickOk rs us x) : PickOk (rs ++ q) us x := h.imp id fun ⟨a, e, l⟩ => ⟨a, e, lkR_app l⟩
theorem RecsOk.app {rs : List (Addr × PRec)} {a : Addr} {us : List T} (h : RecsOk rs) (hl : us.length ≤ 200) : RecsOk (rs ++ [(a, .lst us)]) := fun r hr => by
  rcases List.mem_append.mp hr with hr | hr
  · exact h r hr
  · rw [List.mem_singleton.mp hr]; exact ⟨us, rfl, hl⟩
def parts3 (stops : List Str) (calm : List Nat) (cars : List Cr) : List (List T) := [stops.map T.str, natT calm, cars.map carD]
theorem ways_at {ws : List Nat} {k : Nat} (hk : k < ws.length) (h : ∀ w ∈ ws, w < 2) : ∃ w, w < 2 ∧ atI (natT ws) (k : Int) = some (.int (w : Nat)) := ⟨ws[k], h _ (List.getElem_mem hk), atI_at (natT_get hk)⟩
theorem parts3_at {stops : List Str} {calm : List Nat} {cars : List Cr} {i : Nat} {x : T} (h : (enT [.lst (stops.map T.str), .lst (natT calm), .lst (cars.map carD)])[i]? = some x) : ∃ us, (parts3 stops calm cars)[i]? = some us ∧ x = .tup [.int (i : Nat), .lst us] := by
  match i with
  | 0 => exact ⟨_, rfl, (Option.some.inj h).symm⟩
  | 1 => exact ⟨_, rfl, (Option.some.inj h).symm⟩
  | 2 => exact ⟨_, rfl, (Option.some.inj h).symm⟩
  | k + 3 => cases h
theorem parts3_le {stops : List Str} {calm : List Nat} {cars : List Cr} {i : Nat} {us : List T} (h1 : stops.length ≤ 200) (h2 : calm.length ≤ 200) (h3 : cars.length ≤ 200) (h : (parts3 stops calm cars)[i]? = some us) : us.length ≤ 200 := by
  match i with
  | 0 => rw [← Option.some.inj h, List.length_map]; exact h1
  | 1 => rw [← Option.some.inj h, natT_len]; exact h2
  | 2 => rw [← Option.some.inj h, List.length_map]; exact h3
  | k + 3 => cases h
theorem pick_at {rs : List (Addr × PRec)} {ps : List T} {a : Addr} {w : Nat} (ha : a ∉ poolA rs) (hw : w < 2) : ∃ x, atI [.tup ps, .ref a] (w : Int) = some x ∧ PickOk (rs ++ [(a, .lst ps)]) ps x := by
  match w with
  | 0 => exact ⟨.tup ps, rfl, .inl rfl⟩
  | 1 => exact ⟨.ref a, rfl, .inr ⟨a, rfl, lkR_new ha⟩⟩
  | k + 2 => omega
/-- one more pick behind the picks -/
theorem picks_app {β : Type} (pt : β → List T) {rs : List (Addr × PRec)} {g : Nat → Option β} {f : β → T → T → Prop} {acc : List T} {i : Nat} {ps : β} {y : T} {q : List (Addr × PRec)} (hl : acc.length = i) (h : ∀ k us, k < i → g k = some us → ∃ x, acc[k]? = some x ∧ ∃ z, f us x z ∧ PickOk rs (pt us) z) (hg : g i = some ps) (hy : ∃ z, f ps y z ∧ PickOk (rs ++ q) (pt ps) z) : ∀ k us, k < i + 1 → g k = some us → ∃ x, (acc ++ [y])[k]? = some x ∧ ∃ z, f us x z ∧ PickOk (rs ++ q) (pt us) z := fun k us hk hgk => by
  by_cases e : k = i
  · subst e
    rw [hg] at hgk
    refine ⟨y, ?_, ?_⟩
    · rw [List.getElem?_append_right (by omega), hl, Nat.sub_self]; rfl
    · rw [← Option.some.inj hgk]; exact hy
  · obtain ⟨x, hx, z, hf, hp⟩ := h k us (by omega) hgk
    exact ⟨x, by rw [List.getElem?_append_left (by omega)]; exact hx, z, hf, hp.app⟩
theorem map_at {α β : Type} {f : α → β} {l : List α} {i : Nat} {x : β} (h : (l.map f)[i]? = some x) : ∃ c, l[i]? = some c ∧ x = f c := by
  rw [List.getElem?_map] at h
  cases e : l[i]? with
  | none => rw [e] at h; cases h
  | some c => rw [e] at h; exact ⟨c, rfl, (Option.some.inj h).symm⟩
theorem three_of {l : List T} (h : l.length = 3) : ∃ a b c, l = [a, b, c] := by
  match l, h with
  | [a, b, c], _ => exact ⟨a, b, c, rfl⟩
/-- a tuple or a list -/
def tl (b : Bool) (us : List T) : T := if b then .lst us else .tup us
theorem seq_tl (b : Bool) (us : List T) : seqT (tl b us) = some us := by cases b <;> rfl
theorem rsv_tl (rs : List (Addr × PRec)) (b : Bool) (us : List T) : rsvT rs (tl b us) = tl b (us.map (rsvT rs)) := by
  cases b
  · show rsvT rs (.tup us) = .tup _; unfold rsvT; rw [rsvTs_map]
  · show rsvT rs (.lst us) = .lst _; unfold rsvT; rw [rsvTs_map]
theorem rsv_strs (rs : List (Addr × PRec)) (l : List Str) : (l.map T.str).map (rsvT rs) = l.map T.str := by
  rw [List.map_map]; refine List.map_congr_left fun z _ => ?_
  show rsvT rs (.str z) = .str z; unfold rsvT; rfl
theorem rsv_nats (rs : List (Addr × PRec)) (l : List Nat) : (natT l).map (rsvT rs) = natT l := by
  unfold natT
  rw [List.map_map]; refine List.map_congr_left fun z _ => ?_
  show rsvT rs (.int (z : Nat)) = .int (z : Nat); unfold rsvT; rfl
/-- a car whose rooms are a tuple or a list -/
def carB (c : Cr × Bool) : T := .tup [.str c.1.1, tl c.2 (c.1.2.map T.str)]
theorem rsv_str (rs : List (Addr × PRec)) (z : Str) : rsvT rs (.str z) = .str z := by unfold rsvT; rfl
theorem rsv_two (rs : List (Addr × PRec)) (x y : T) : rsvT rs (.tup [x, y]) = .tup [rsvT rs x, rsvT rs y] := by rw [rsvT.eq_2, rsvTs_map]; rfl
theorem rsv_carB (rs : List (Addr × PRec)) (cb : List (Cr × Bool)) : (cb.map carB).map (rsvT rs) = cb.map carB := by
  rw [List.map_map]; refine List.map_congr_left fun c _ => ?_
  show rsvT rs (.tup [.str c.1.1, tl c.2 (c.1.2.map T.str)]) = _
  rw [rsv_two, rsv_str, rsv_tl, rsv_strs]; rfl
theorem PickOk.rsv {rs : List (Addr × PRec)} {us : List T} {x : T} (h : PickOk rs us x) (hu : us.map (rsvT rs) = us) : ∃ b, rsvT rs x = tl b us := by
  rcases h with rfl | ⟨a, rfl, hl⟩
  · refine ⟨false, ?_⟩
    have := rsv_tl rs false us
    rw [hu] at this
    exact this
  · refine ⟨true, ?_⟩
    unfold rsvT; rw [hl]; rfl
/-- resolved twice -/
theorem PickOk.rsv2 {rs : List (Addr × PRec)} {us ws : List T} {x : T} (h : PickOk rs us x) (hu : us.map (rsvT rs) = ws) (hw : ws.map (rsvT rs) = ws) : ∃ b, rsvT rs (rsvT rs x) = tl b ws := by
  rcases h with rfl | ⟨a, rfl, hl⟩
  · refine ⟨false, ?_⟩
    have := rsv_tl rs false us
    rw [hu] at this
    have h2 := rsv_tl rs false ws
    rw [hw] at h2
    rw [show T.tup us = tl false us from rfl, this, h2]
  · refine ⟨true, ?_⟩
    have e : rsvT rs (.ref a) = tl true us := by unfold rsvT; rw [hl]; rfl
    rw [e, rsv_tl, hu]
theorem cb_of {rs : List (Addr × PRec)} : ∀ {cars : List Cr} {acc : List T}, acc.length = cars.length → (∀ k c, k < cars.length → cars[k]? = some c → ∃ x, acc[k]? = some x ∧ ∃ z, x = .tup [.str c.1, z] ∧ PickOk rs (c.2.map T.str) z) → ∃ cb : List (Cr × Bool), cb.map Prod.fst = cars ∧ acc.map (rsvT rs) = cb.map carB
  | [], [], _, _ => ⟨[], rfl, rfl⟩
  | c :: cr, y :: acc, hl, h => by
    obtain ⟨cb, h1, h2⟩ := cb_of (cars := cr) (acc := acc) (by simpa using hl) fun k d hk hd => h (k + 1) d (by rw [List.length_cons]; omega) hd
    obtain ⟨x, hx, z, rfl, hp⟩ := h 0 c (by rw [List.length_cons]; omega) rfl
    obtain ⟨b, hb⟩ := hp.rsv (rsv_strs rs _)
    refine ⟨(c, b) :: cb, by rw [List.map_cons, h1], ?_⟩
    rw [List.map_cons, List.map_cons, h2, show y = _ from Option.some.inj hx, rsv_two, rsv_str, hb]; rfl
theorem car_tupB (cb : List (Cr × Bool)) : (cb.map carB).map carTup = (cb.map Prod.fst).map carP := by
  rw [List.map_map, List.map_map]; refine List.map_congr_left fun c _ => ?_
  show carTup (.tup [.str c.1.1, tl c.2 (c.1.2.map T.str)]) = carP c.1
  unfold carTup; dsimp only; rw [seq_tl]; rfl
theorem train_trB (cA : Cs) (stops : List Str) (calm : List Nat) (cb : List (Cr × Bool)) : trainT cA (stops.map T.str) (natT calm) (cb.map carB) = trT cA stops calm (cb.map Prod.fst) := by unfold trainT trT; rw [car_tupB]
theorem TrOk.mkB {stops : List Str} {calm : List Nat} {cars : List Cr} (O : TrOk stops calm cars) {cb : List (Cr × Bool)} (hcb : cb.map Prod.fst = cars) : MkT (stops.map T.str) (natT calm) (cb.map carB) where
  la := O.mk'.la
  lb := O.mk'.lb
  lc := by have := O.cr.nm.le; rw [List.length_map, ← hcb, List.length_map] at this; rw [List.length_map]; omega
  ta := O.mk'.ta
  tb := O.mk'.tb
  tc := fun t ht => by
    obtain ⟨⟨c, b⟩, hc, rfl⟩ := List.mem_map.mp ht
    have hc : c ∈ cars := by rw [← hcb]; exact List.mem_map.mpr ⟨(c, b), hc, rfl⟩
    refine ⟨rfl, fun us hus => ?_⟩
    cases hus
    refine ⟨show 2 ≤ 1000 by decide, fun n r hnr => ?_⟩
    cases hnr
    refine ⟨tame_str (by have := name_len (O.cr.nm.ok c.1 (List.mem_map.mpr ⟨c, hc, rfl⟩)); show c.1.length ≤ 24; omega), by cases b <;> rfl, fun ts hts => ?_⟩
    rw [seq_tl] at hts
    cases hts
    refine ⟨by rw [List.length_map]; have := O.cr.r3 c hc; show c.2.length ≤ 4501; omega, fun u hu => ?_⟩
    obtain ⟨z, hz, rfl⟩ := List.mem_map.mp hu
    exact tame_str (O.cr.rz c hc z hz).2.1
  oa := O.mk'.oa
  ob := O.mk'.ob
  oc := by
    unfold carsT
    have e : ((cb.map carB).map fun t => strOf (nmOf t)) = cars.map (·.1) := by rw [← hcb, List.map_map, List.map_map]; rfl
    rw [e, decide_eq_true O.cr.nm.nd, Bool.and_true]
    refine List.all_eq_true.mpr fun t ht => ?_
    obtain ⟨⟨c, b⟩, hc, rfl⟩ := List.mem_map.mp ht
    have hc : c ∈ cars := by rw [← hcb]; exact List.mem_map.mpr ⟨(c, b), hc, rfl⟩
    show (nameOk c.1 && roomsT (tl b (c.2.map T.str))) = true
    have : (c.2.map T.str).all roomT = true := List.all_eq_true.mpr fun t ht => by
      obtain ⟨z, hz, rfl⟩ := List.mem_map.mp ht
      exact (O.cr.rz c hc z hz).1
    unfold roomsT
    rw [seq_tl, O.cr.nm.ok c.1 (List.mem_map.mpr ⟨c, hc, rfl⟩)]
    dsimp only
    rw [this, List.length_map, decide_eq_true (O.cr.r1 c hc)]; rfl
theorem sm_tl {n : Nat} {b : Bool} {us : List T} (h : ∀ x ∈ us, T.sm n x = true) : T.sm (n + 1) (tl b us) = true := by
  cases b
  · exact sm_tup h
  · exact sm_lst h
theorem wt_tl (b : Bool) (us : List T) : (tl b us).wt = (T.tup us).wt := by
  cases b
  · rfl
  · show (T.lst us).wt = _; rw [wt_lst, wt_tup]
theorem TrOk.smB {stops : List Str} {calm : List Nat} {cars : List Cr} (O : TrOk stops calm cars) {cb : List (Cr × Bool)} (hcb : cb.map Prod.fst = cars) (b0 b1 b2 : Bool) : T.sm 60 (.lst [tl b0 (stops.map T.str), tl b1 (natT calm), tl b2 (cb.map carB)]) = true ∧ (T.lst [tl b0 (stops.map T.str), tl b1 (natT calm), tl b2 (cb.map carB)]).wt ≤ 1048576 := by
  have hs := O.st.le
  have hc := O.cl
  have hk := O.cr.nm.le
  rw [List.length_map] at hk
  have hcal : ∀ x ∈ calm, x < 10 ^ 12 := fun x hx => by have := O.cb x hx; omega
  have hm : ∀ c ∈ cb, c.1 ∈ cars := fun c h => by rw [← hcb]; exact List.mem_map.mpr ⟨c, h, rfl⟩
  constructor
  · refine sm_mono 4 60 _ (by decide) (sm_lst fun x hx => ?_)
    simp only [List.mem_cons, List.not_mem_nil, or_false] at hx
    rcases hx with rfl | rfl | rfl
    · refine sm_tl fun x hx => ?_
      obtain ⟨z, hz, rfl⟩ := List.mem_map.mp hx
      unfold T.sm; exact strOk_nm (O.st.ok z hz)
    · refine sm_tl fun x hx => ?_
      obtain ⟨z, hz, rfl⟩ := List.mem_map.mp hx
      unfold T.sm; have := hcal z hz; exact decide_eq_true (by omega)
    · refine sm_tl fun x hx => ?_
      obtain ⟨c, hc, rfl⟩ := List.mem_map.mp hx
      refine sm_tup fun y hy => ?_
      simp only [List.mem_cons, List.not_mem_nil, or_false] at hy
      rcases hy with rfl | rfl
      · unfold T.sm; exact strOk_nm (O.cr.nm.ok c.1.1 (List.mem_map.mpr ⟨c.1, hm c hc, rfl⟩))
      · refine sm_tl fun y hy => ?_
        obtain ⟨z, hz, rfl⟩ := List.mem_map.mp hy
        unfold T.sm; exact (O.cr.rz c.1 (hm c hc) z hz).2.2
  · have hkb : cb.length ≤ 8 := by rw [← hcb, List.length_map] at hk; exact hk
    rw [wt_lst, wts_cons, wts_cons, wts_cons, wts_nil, wt_tl, wt_tl, wt_tl, wt_tup, wt_tup, wt_tup]
    have h1 := wts_map T.str 8 stops fun z hz => by rw [wt_str]; exact name_len (O.st.ok z hz)
    have h2 := wts_natT hcal
    have h3 := wts_map carB 200 cb fun c hc => by
      have h4 := wts_map T.str 24 c.1.2 fun z hz => by rw [wt_str]; exact (O.cr.rz c.1 (hm c hc) z hz).2.1
      have h5 := O.cr.r3 c.1 (hm c hc)
      have h6 := name_len (O.cr.nm.ok c.1.1 (List.mem_map.mpr ⟨c.1, hm c hc, rfl⟩))
      unfold carB
      rw [wt_tup, wts_cons, wts_cons, wts_nil, wt_str, wt_tl, wt_tup]
      have h7 : (24 + 1) * c.1.2.length ≤ (24 + 1) * 3 := Nat.mul_le_mul_left _ h5
      omega
    have h8 : (8 + 1) * stops.length ≤ 9 * 25 := Nat.mul_le_mul_left _ hs
    have h9 : (200 + 1) * cb.length ≤ 201 * 8 := Nat.mul_le_mul_left _ hkb
    omega
theorem nolo_strs (l : List Str) : (l.map T.str).all T.nolo = true := List.all_eq_true.mpr fun t ht => by
  obtain ⟨z, _, rfl⟩ := List.mem_map.mp ht
  unfold T.nolo; rfl
theorem nolo_trT (cA : Cs) (stops : List Str) (calm : List Nat) (cars : List Cr) : (trT cA stops calm cars).nolo = true := by
  unfold trT
  rw [nolo_obj]
  refine List.all_eq_true.mpr fun t ht => ?_
  simp only [List.mem_cons, List.not_mem_nil, or_false] at ht
  rcases ht with rfl | rfl | rfl
  · rw [nolo_tup]; exact nolo_strs _
  · rw [nolo_tup]; exact List.all_eq_true.mpr fun t ht => by
      obtain ⟨z, _, rfl⟩ := List.mem_map.mp ht
      unfold T.nolo; rfl
  · rw [nolo_tup]; exact List.all_eq_true.mpr fun t ht => by
      obtain ⟨c, _, rfl⟩ := List.mem_map.mp ht
      unfold carP
      rw [nolo_tup]
      refine List.all_eq_true.mpr fun t ht => ?_
      simp only [List.mem_cons, List.not_mem_nil, or_false] at ht
      rcases ht with rfl | rfl
      · unfold T.nolo; rfl
      · rw [nolo_tup]; exact nolo_strs _

theorem pvo_recs {ts : List T} {rs : List (Addr × PRec)} (h : RecsOk rs) : (LO.pool (.lst ts) rs).pvo = true := by
  show (rs.all _) = true
  refine List.all_eq_true.mpr fun r hr => ?_
  obtain ⟨us, e, _⟩ := h r hr
  rw [e]
theorem nolo_rep (z : Str) : flatSO (.d (.str z)) = true := by unfold flatSO T.nolo; rfl
def qT : T := .str "q"
/-- some q's behind the records' lists -/
def Grown (rs rs' : List (Addr × PRec)) (n : Nat) : Prop := ∀ (j : Nat) (b : Addr) (us : List T), rs[j]? = some (b, .lst us) → ∃ m, m ≤ n ∧ rs'[j]? = some (b, .lst (us ++ List.replicate m qT))
theorem Grown.refl (rs : List (Addr × PRec)) (n : Nat) : Grown rs rs n := fun j b us h => ⟨0, Nat.zero_le _, by rw [List.replicate_zero, List.append_nil]; exact h⟩
theorem Grown.mono {rs rs' : List (Addr × PRec)} {n m : Nat} (h : Grown rs rs' n) (hm : n ≤ m) : Grown rs rs' m := fun j b us e => by
  obtain ⟨k, h1, h2⟩ := h j b us e
  exact ⟨k, by omega, h2⟩
theorem Grown.step {rs rs' : List (Addr × PRec)} {n j m : Nat} {b : Addr} {us : List T} (h : Grown rs rs' n) (h1 : rs[j]? = some (b, .lst us)) (hm : m ≤ n) (h2 : rs'[j]? = some (b, .lst (us ++ List.replicate m qT))) : Grown rs (rs'.set j (b, .lst (us ++ List.replicate m qT ++ [qT]))) (n + 1) := fun k b2 us2 e => by
  by_cases hk : k = j
  · subst hk
    rw [h1] at e
    obtain ⟨rfl, rfl⟩ : b = b2 ∧ us = us2 := by
      have e := Option.some.inj e
      have e2 := (Prod.mk.inj e).2
      exact ⟨(Prod.mk.inj e).1, by cases e2; rfl⟩
    refine ⟨m + 1, by omega, ?_⟩
    rw [List.getElem?_set_self (List.getElem?_eq_some_iff.mp h2).1, List.replicate_succ', List.append_assoc]
  · obtain ⟨i, hi, hg⟩ := h k b2 us2 e
    exact ⟨i, by omega, by rw [List.getElem?_set_ne (fun x => hk x.symm)]; exact hg⟩
theorem lkR_idx {rs : List (Addr × PRec)} {b : Addr} {us : List T} (h : lkR rs b = some us) : ∃ j : Nat, rs[j]? = some (b, .lst us) := by
  induction rs with
  | nil => cases h
  | cons r rs ih =>
    obtain ⟨c, r⟩ := r
    cases r with
    | ins dx C fs =>
      obtain ⟨j, hj⟩ := ih h
      exact ⟨j + 1, hj⟩
    | lst ws =>
      have h : (if c = b then some ws else lkR rs b) = some us := h
      by_cases e : c = b
      · rw [if_pos e] at h
        exact ⟨0, by rw [← e, ← Option.some.inj h]; rfl⟩
      · rw [if_neg e] at h
        obtain ⟨j, hj⟩ := ih h
        exact ⟨j + 1, hj⟩
theorem RecsOk.len {rs : List (Addr × PRec)} {j : Nat} {b : Addr} {us : List T} (h : RecsOk rs) (hj : rs[j]? = some (b, .lst us)) : us.length ≤ 200 := by
  obtain ⟨ws, e, hl⟩ := h _ (List.mem_of_getElem? hj)
  cases e
  exact hl
/-- where a pick is -/
theorem PickOk.cases {rs : List (Addr × PRec)} {us : List T} {x : T} (h : PickOk rs us x) : x = .tup us ∨ ∃ (b : Addr) (j : Nat), x = .ref b ∧ rs[j]? = some (b, .lst us) := by
  rcases h with h | ⟨b, h1, h2⟩
  · exact .inl h
  · obtain ⟨j, hj⟩ := lkR_idx h2
    exact .inr ⟨b, j, h1, hj⟩
def isRef : T → Bool
  | .ref _ => true
  | _ => false
def isTup : T → Bool
  | .tup _ => true
  | _ => false
theorem carP_B (cars : List Cr) : cars.map carP = (cars.map fun c => (c, false)).map carB := by rw [List.map_map]; rfl
theorem fst_B (cars : List Cr) : (cars.map fun c => (c, false)).map Prod.fst = cars := by rw [List.map_map]; exact List.map_id _
theorem rs_last {α : Type} (l : List α) (x : α) : (l ++ [x])[l.length]? = some x := by rw [List.getElem?_append_right (Nat.le_refl _), Nat.sub_self]; rfl
def sp_right : ASp := fun vs s Q => ∃ (o : LO) (β : Int), vs = [.l 0] ∧ s = [o] ∧ Bx β o ∧ β < 2 ^ 30 ∧ ∀ ts, Q (.d (.bl true)) [.lst ts]
theorem len_right : ∀ vs s Q, sp_right vs s Q → vs.length = 1 := fun vs s Q ⟨o, β, h, _⟩ => by rw [h]; rfl
theorem ok_right (U : Tx mg) (D : Ds K mg) (G_ : Gx K w mg) (CF : Cf K mg cA) (C_Train_init : CalI P w K mg base 6 cA.Train "Train" ["self", "stops", "calm", "cars"] (sp_Train_init cA)) (C_train : Cal P w K mg base 3 "_law_train" ["_law_box_here", "_law_most"] sp_train) (C_same : Cal P w K mg base 1 "_law_same" ["_law_train_here", "_law_due"] (sp_same cA)) (C_take : Cal P w K mg base 1 "_law_take" ["_law_box_here", "_law_many"] sp_take) : Cal P w K mg base 8 "_law_right" ["_law_box_here"] sp_right := by
  refine Df.cal D.d_right sc_right (len_right) fun f cdv A outer s H E hr => ?_
  have hu : (A.deeper (PyProof.Rows.envOfC "_law_right" (defScope s_right) s.heap.objs.size f cdv)).units + 64 < cLine := by have := hr.un; omega
  have hu5 : (A.deeper (PyProof.Rows.envOfC "_law_right" (defScope s_right) s.heap.objs.size f cdv)).units + 65 < cLine := by have := hr.un; omega
  refine ⟨_, (ap_cons (ap_asg (ae_cal C_train (hr.mono (by omega)) (aa_cons (ae_v (pv 0)) (aa_cons ae_int aa_nil))) (ag_tupL (n := 3) rfl (ags_cons (ag_name (i := 1) sc_right.nd) (ags_cons (ag_name (i := 2) sc_right.nd) (ags_cons (ag_name (i := 3) sc_right.nd) ags_nil)))))
      (ap_cons (ap_cutS (ap_frzO 3 (ap_frzV 2 (ap_frzV 1 (ap_if ((aw_and (at_c (c_eq hu) (ae_cal C_take (hr.mono (by omega)) (aa_cons (ae_v (pv 0)) (aa_cons ae_int aa_nil))) ae_int) (aw_and1 (at_c (c_ne hu) (ae_v (pv 3)) (ae_dat (ae_lst aa_nil)))))).at_ (ap_cons (ap_frzV 3 (ap_asg (ae_tup (aa_cons (ae_ix (ae_v (pv 1)) ae_int) (aa_cons (ae_ix (ae_ix (ae_v (pv 3)) ae_int) ae_int) aa_nil))) (ag_sub (ae_v (pv 3)) ae_int)))
      (ap_one (ap_setLc (i := 3) (own := [("_law_k", 11), ("_law_car", 10)]) sc_right.nd (ai_enum U.m_enumerate (ae_v (pv 3))) (blkOk_by (own := [("_law_k", 11), ("_law_car", 10)]) (N := N_right) (sc := defScope s_right) (by decide +kernel)) (fun _ _ _ _ _ => (ag_tup (n := 2) rfl (ags_cons (ag_name (i := 11) sc_right.nd) (ags_cons (ag_name (i := 10) sc_right.nd) ags_nil)))) (fun _ _ _ _ _ => (ats_one ((aw_or (at_c (c_eq hu) (ae_v (pv 11)) ae_int) (aw_or1 (at_c (c_ne hu) (ae_ix (ae_v (pv 10)) ae_int) (ae_ix (ae_v (pv 1)) ae_int))))).at_)) (fun _ _ _ _ _ => (ae_v (pv 10))) lift_dat (sw_true rfl rfl rfl (by decide +kernel))))) ap_nil)))))
      (ap_cons (ap_set (i := 4) sc_right.nd (ae_lst (aa_cons (ae_tuple U.m_tuple (aa_cons (ae_v (pv 1)) aa_nil)) (aa_cons (ae_tuple U.m_tuple (aa_cons (ae_v (pv 2)) aa_nil)) (aa_cons (ae_tuple U.m_tuple (aa_cons (ae_dat (ae_lc (own := [("_law_name", 12), ("_law_rooms", 13)]) sc_right.nd (ai_seq (ae_v (pv 3))) (blkOk_by (own := [("_law_name", 12), ("_law_rooms", 13)]) (N := N_right) (sc := defScope s_right) (by decide +kernel)) (fun _ _ _ _ _ => (ag_tup (n := 2) rfl (ags_cons (ag_name (i := 12) sc_right.nd) (ags_cons (ag_name (i := 13) sc_right.nd) ags_nil)))) (fun _ _ _ _ _ => ats_nil) (fun _ _ _ _ _ => (ae_tup (aa_cons (ae_v (pv 12)) (aa_cons (ae_tuple U.m_tuple (aa_cons (ae_v (pv 13)) aa_nil)) aa_nil)))))) aa_nil)) aa_nil)))))
      (ap_cons (ap_toP (ap_set (i := 5) sc_right.nd (ae_fr (ae_lc (own := [("_law_k", 11)]) sc_right.nd (ai_range1 U.m_range ae_int) (blkOk_by (own := [("_law_k", 11)]) (N := N_right) (sc := defScope s_right) (by decide +kernel)) (fun _ _ _ _ _ => (ag_name (i := 11) sc_right.nd)) (fun _ _ _ _ _ => ats_nil) (fun _ _ _ _ _ => (ae_cal C_take (hr.mono (by omega)) (aa_cons (ae_v (pv 0)) (aa_cons ae_int aa_nil))))))))
      (ap_cons (ap_setLc (i := 6) (own := [("_law_k", 11), ("_law_part", 9)]) sc_right.nd (ai_enum U.m_enumerate (ae_tup (aa_cons (ae_v (pv 1)) (aa_cons (ae_v (pv 2)) (aa_cons (ae_v (pv 3)) aa_nil))))) (blkOk_by (own := [("_law_k", 11), ("_law_part", 9)]) (N := N_right) (sc := defScope s_right) (by decide +kernel)) (fun _ _ _ _ _ => (ag_tup (n := 2) rfl (ags_cons (ag_name (i := 11) sc_right.nd) (ags_cons (ag_name (i := 9) sc_right.nd) ags_nil)))) (fun _ _ _ _ _ => ats_nil) (fun _ _ _ _ _ => (ae_ix (ae_dat (ae_lst (aa_cons (ae_tuple U.m_tuple (aa_cons (ae_v (pv 9)) aa_nil)) (aa_cons (ae_inp (ae_list U.m_list (aa_cons (ae_v (pv 9)) aa_nil))) aa_nil)))) (ae_ix (ae_v (pv 5)) (ae_v (pv 11))))) lift_fr (sw_true rfl rfl rfl (by decide +kernel)))
      (ap_cons (ap_asg (ae_inp (ae_lc (own := [("_law_name", 12), ("_law_rooms", 13)]) sc_right.nd (ai_seq (ae_v (pv 3))) (blkOk_by (own := [("_law_name", 12), ("_law_rooms", 13)]) (N := N_right) (sc := defScope s_right) (by decide +kernel)) (fun _ _ _ _ _ => (ag_tup (n := 2) rfl (ags_cons (ag_name (i := 12) sc_right.nd) (ags_cons (ag_name (i := 13) sc_right.nd) ags_nil)))) (fun _ _ _ _ _ => ats_nil) (fun _ _ _ _ _ => (ae_tup (aa_cons (ae_v (pv 12)) (aa_cons (ae_ix (ae_dat (ae_lst (aa_cons (ae_tuple U.m_tuple (aa_cons (ae_v (pv 13)) aa_nil)) (aa_cons (ae_inp (ae_list U.m_list (aa_cons (ae_v (pv 13)) aa_nil))) aa_nil)))) (ae_ix (ae_v (pv 5)) ae_int)) aa_nil)))))) (ag_sub (ae_v (pv 6)) ae_int))
      (ap_cons (ap_asg (ae_ix (ae_dat (ae_lst (aa_cons (ae_tupleR U.m_tuple (aa_cons (ae_ix (ae_v (pv 6)) ae_int) aa_nil)) (aa_cons (ae_ix (ae_v (pv 6)) ae_int) aa_nil)))) (ae_ix (ae_v (pv 5)) ae_int)) (ag_sub (ae_v (pv 6)) ae_int))
      (ap_cons (ap_set (i := 7) sc_right.nd (ae_vw [6] (ae_repr hr.gd hu U.m_repr (aa_cons (ae_v (pv 6)) aa_nil))))
      (ap_cons (ap_set (i := 8) sc_right.nd (ae_vw [6] (ae_frz (ae_mk C_Train_init (hr.mono (by omega)) (aa_cons (ae_ix (ae_v (pv 6)) ae_int) (aa_cons (ae_ix (ae_v (pv 6)) ae_int) (aa_cons (ae_ix (ae_v (pv 6)) ae_int) aa_nil)))))))
      (ap_cons (ap_if ((aw_or (at_not (at_val (ae_clD li_VF C_same (hr.mono (by omega)) (aa_cons (ae_v (pv 8)) (aa_cons (ae_v (pv 4)) aa_nil))))) (aw_or1 (at_c (c_ne hu) (ae_vw [6] (ae_repr hr.gd hu U.m_repr (aa_cons (ae_v (pv 6)) aa_nil))) (ae_v (pv 7)))))).at_ (ap_one (ap_ret ae_bl)) ap_nil)
      (ap_cons (ap_for PassesOwn.never (ai_seq (ae_dat (ae_lc (own := [("_law_part", 9)]) sc_right.nd (ai_seq (ae_v (pv 6))) (blkOk_by (own := [("_law_part", 9)]) (N := N_right) (sc := defScope s_right) (by decide +kernel)) (fun _ _ _ _ _ => (ag_name (i := 9) sc_right.nd)) (fun _ _ _ _ _ => (ats_one (at_val (ae_isiR U.m_isinstance (aa_cons (ae_v (pv 9)) (aa_cons (ae_ty U.m_list (by rfl)) aa_nil)))))) (fun _ _ _ _ _ => (ae_v (pv 9)))))) (ag_name (i := 9) sc_right.nd) (ap_blk [9] (ap_one (ap_expr (ae_appendR (ae_v (pv 9)) (aa_cons ae_str aa_nil))))))
      (ap_cons (ap_for PassesOwn.never (ai_seq (ae_dat (ae_lc (own := [("_law_car", 10)]) sc_right.nd (ai_seqR (ae_ix (ae_v (pv 6)) ae_int)) (blkOk_by (own := [("_law_car", 10)]) (N := N_right) (sc := defScope s_right) (by decide +kernel)) (fun _ _ _ _ _ => (ag_name (i := 10) sc_right.nd)) (fun _ _ _ _ _ => (ats_one (at_val (ae_isi U.m_isinstance (aa_cons (ae_v (pv 10)) (aa_cons (ae_ty U.m_tuple (by rfl)) aa_nil)))))) (fun _ _ _ _ _ => (ae_v (pv 10)))))) (ag_name (i := 10) sc_right.nd) (ap_blk [10] (ap_one (ap_if (at_val (ae_isiR U.m_isinstance (aa_cons (ae_ix (ae_v (pv 10)) ae_int) (aa_cons (ae_ty U.m_list (by rfl)) aa_nil)))) (ap_one (ap_expr (ae_appendR (ae_ix (ae_v (pv 10)) ae_int) (aa_cons ae_str aa_nil)))) ap_nil))))
      (ap_cons (ap_if (at_not (at_val (ae_clD li_VF C_same (hr.mono (by omega)) (aa_cons (ae_v (pv 8)) (aa_cons (ae_v (pv 4)) aa_nil))))) (ap_one (ap_ret ae_bl)) ap_nil)
      (ap_one (ap_ret (ae_clD li_VF C_same (hr.mono (by omega)) (aa_cons (ae_frz (ae_mk C_Train_init (hr.mono (by omega)) (aa_cons (ae_fld (K := K) rfl (ae_v (pv 8))) (aa_cons (ae_fld (K := K) rfl (ae_v (pv 8))) (aa_cons (ae_fld (K := K) rfl (ae_v (pv 8))) aa_nil))))) (aa_cons (ae_v (pv 4)) aa_nil)))))))))))))))))), ?_⟩
  rintro svs s0 Q ⟨o, β, rfl, rfl, hB, hb, hQ⟩
  obtain ⟨ts, rfl⟩ := hB.lst
  fail "S"
  refine callK_of rfl rfl ⟨_, β, rfl, rfl, hB, hb, fun stops calm cars ts1 O hB1' => ?_⟩
  have hs2 := O.s2
  have hcl := O.cr.nm.le
  rw [List.length_map] at hcl
  fail "S"
  refine cutS_of (Z := List T × List Cr) (fun z => Bx (β + 3010) (.lst z.1) ∧ TrOk stops calm z.2) (fun z => [some (.l 0), some (.d (.lst (stops.map T.str))), some (.d (.lst (natT calm))), some (.d (.lst (z.2.map carD))), none, none, none, none, none, none, none, none, none, none]) (fun z => [.lst z.1, .ll [.l 2, .l 3, .l 4], .gone, .gone, .gone]) ?_ ?_
  · intro C1 hC1 R1 hR1 B1 hB1 K1 hK1
    fail "S"
    refine callK_of rfl rfl ⟨_, _, 4, rfl, rfl, hB1', by omega, by omega, by omega, fun r ts2 hr hB2 => ?_⟩
    fail "S"
    refine ⟨fun h0 => ⟨rfl, shaped_ok (sm_okT (cars_sm O.cr)), shaped_ok (n := 2) rfl, fun hne => ?_, fun he => ?_⟩, fun h0 => hC1 (ts2, cars) ⟨hB2.mono (by omega), O⟩⟩
    · obtain ⟨z0, zs, rfl⟩ : ∃ z zs, stops = z :: zs := by
        cases stops with
        | nil => exact absurd hs2 (by decide)
        | cons z zs => exact ⟨z, zs, rfl⟩
      obtain ⟨c0, cr, rfl⟩ : ∃ c cr, cars = c :: cr := by
        cases cars with
        | nil => exact absurd hne (by decide)
        | cons c cr => exact ⟨c, cr, rfl⟩
      have e0 : carD c0 = .tup [.str c0.1, .lst (c0.2.map T.str)] := rfl
      simp only [List.map_cons, e0]
      fail "S"
      refine ⟨0, ixN_nat (k := 0) (by omega), ?_⟩
      rw [List.set_cons_zero]
      have e1 : T.tup [.str z0, .lst (c0.2.map T.str)] :: cr.map carD = ((z0, c0.2) :: cr).map carD := rfl
      rw [e1]
      refine lcI_pure (enT (((z0, c0.2) :: cr).map carD)) (fKeep z0) fSnd (len_lt (by rw [enT_len, List.length_map, List.length_cons]; rw [List.length_cons] at hcl; omega)) ?_ ?_ ?_
      · intro Q' h
        fail "S"
        exact h _ (by first | trivial | rfl)
      · intro i x hx acc C hacc hT hF
        obtain ⟨d, hd, rfl⟩ : ∃ d, ((z0, c0.2) :: cr)[i]? = some d ∧ x = .tup [.int (i : Nat), carD d] := by
          have hi := (List.getElem?_eq_some_iff.mp hx).1
          rw [enT_len, List.length_map] at hi
          rw [enT_get (t := carD ((z0, c0.2) :: cr)[i]) (by rw [List.getElem?_map, List.getElem?_eq_getElem hi]; rfl)] at hx
          exact ⟨_, List.getElem?_eq_getElem hi, (Option.some.inj hx).symm⟩
        have hT2 : (decide ((i : Int) = 0) || !decide (d.1 = z0)) = true → C (acc ++ [.tup [.str d.1, .lst (d.2.map T.str)]]) _ := hT
        have hF2 : (decide ((i : Int) = 0) || !decide (d.1 = z0)) = false → C acc _ := hF
        have ed : carD d = .tup [.str d.1, .lst (d.2.map T.str)] := rfl
        rw [ed]
        fail "S"
        refine ⟨fun h => ⟨hacc, hT2 (by rw [decide_eq_true (show (i : Int) = 0 by omega)]; rfl)⟩, fun h => ⟨fun h2 => ⟨hacc, hT2 (by rw [decide_eq_false h2, Bool.or_comm]; rfl)⟩, fun h2 => hF2 (by rw [decide_eq_false (show ¬(i : Int) = 0 by omega), decide_eq_true h2]; rfl)⟩⟩
      · rw [keep_all]
        fail "S"
        exact ⟨rfl, hC1 (ts2, (z0, c0.2) :: cr.filter fun d => !decide (d.1 = z0)) ⟨hB2.mono (by omega), O.alike⟩⟩
    · have : cars = [] := by
        cases cars with
        | nil => rfl
        | cons c cr => exact absurd (show false = true from he) Bool.false_ne_true
      subst this
      exact hC1 (ts2, []) ⟨hB2.mono (by omega), O⟩
  · rintro ⟨ts2, cars⟩ ⟨hB2, O⟩
    dsimp only at hB2 O ⊢
    have hstl := O.st.le
    have hcal := O.cl
    have hcl := O.cr.nm.le
    rw [List.length_map] at hcl
    fail "S"
    refine lcI_idx cars carD (fun _ => true) carP (len_lt (by omega)) ?_ ?_ ?_
    · intro Q' h
      fail "S"
      exact h _ (by first | trivial | rfl)
    · intro i c hc acc C hacc hT hF
      have hT := hT rfl
      unfold carD
      unfold carP at hT
      fail "S"
      exact ⟨hacc, hT⟩
    · rw [filt_true]
      fail "S"
      refine ⟨rfl, lcI_of (Z := List Nat × List T) (rgT 0 4) (fun i acc z => acc = natT z.1 ∧ z.1.length = i ∧ (∀ w ∈ z.1, w < 2) ∧ Bx (β + 3010 + (i : Nat)) (.lst z.2)) (fun z => [.lst z.2, .ll [.l 2, .l 3, .l 4], .gone, .gone, .gone, .lst [.tup (stops.map T.str), .tup (natT calm), .tup (cars.map carP)]]) ?_ ⟨([], ts2), ⟨rfl, rfl, fun w hw => absurd hw List.not_mem_nil, hB2.mono (by omega)⟩, rfl⟩ ?_ ?_⟩
      · intro Q' h
        fail "S"
        exact h _ fun _ _ _ _ => trivial
      · rintro i x acc ⟨ws, us⟩ hx ⟨rfl, hwl, hw2, hz⟩ C hC
        dsimp only at hwl hw2 hz ⊢
        obtain ⟨hi, rfl⟩ := rgT_lt (b := 4) hx
        fail "S"
        refine callK_of rfl rfl ⟨_, _, 2, rfl, rfl, hz, by omega, by omega, by omega, fun w ts3 hw hB3 => ?_⟩
        fail "S"
        have := hC (natT (ws ++ [w])) (ws ++ [w], ts3) ⟨rfl, by rw [List.length_append, hwl, List.length_singleton], fun v hv => by
          rcases List.mem_append.mp hv with hv | hv
          · exact hw2 v hv
          · rw [List.mem_singleton.mp hv]; omega, hB3.mono (by omega)⟩
        rw [← natT_app] at this
        exact ⟨len_lt (by rw [natT_len]; omega), this⟩
      · rintro acc ⟨ws, us⟩ ⟨rfl, hwl, hw2, hz⟩
        dsimp only at hwl hw2 hz ⊢
        have hr4 : (rgT 0 4).length = 4 := rfl
        rw [hr4] at hwl hz
        fail "S"
        refine ⟨rfl, 6, _, rfl, ?_⟩
        have hway : ∀ k : Nat, k < 4 → ∃ w, w < 2 ∧ atI (natT ws) (k : Int) = some (.int (w : Nat)) := fun k hk => ways_at (by omega) hw2
        fail "S"
        refine lcI_of (Z := List (Addr × PRec)) (enT [.lst (stops.map T.str), .lst (natT calm), .lst (cars.map carD)]) (fun i acc rs => acc.length = i ∧ RecsOk rs ∧ ∀ k us, k < i → (parts3 stops calm cars)[k]? = some us → ∃ x, acc[k]? = some x ∧ ∃ z, x = z ∧ PickOk rs us z) (fun rs => [.lst us, .ll [.l 2, .l 3, .l 4], .gone, .gone, .gone, .lst [.tup (stops.map T.str), .tup (natT calm), .tup (cars.map carP)], .pool (.lst (natT ws)) rs]) ?_ ⟨[], ⟨rfl, fun r hr => absurd hr List.not_mem_nil, fun k us hk => absurd hk (Nat.not_lt_zero _)⟩, rfl⟩ ?_ ?_
        · intro Q' h
          fail "S"
          first
            | exact h _ fun _ _ _ _ => trivial
            | exact h _ trivial
        · rintro i x acc rs hx ⟨hal, hrs, hpk⟩ C hC
          obtain ⟨ps, hus, rfl⟩ := parts3_at hx
          have hil := (List.getElem?_eq_some_iff.mp hus).1
          have hi3 : i < 3 := hil
          have hul := parts3_le (by omega) (by omega) (by omega) hus
          obtain ⟨w, hw, hat⟩ := hway i (by omega)
          fail "S"
          refine inpQ_of 6 (by decide) rfl rfl rfl fun a ha => ?_
          obtain ⟨y, hy, hpy⟩ := pick_at (ps := ps) ha hw
          fail "S"
          exact ⟨⟨rfl, rfl⟩, _, hat, y, hy, len_lt (by omega), hC (acc ++ [y]) (rs ++ [(a, .lst ps)]) ⟨by rw [List.length_append, hal]; rfl, hrs.app hul, picks_app id (f := fun _ x z => x = z) hal hpk hus ⟨y, rfl, hpy⟩⟩⟩
        · rintro acc rs ⟨hal, hrs, hpk⟩
          fail "S"
          refine ⟨⟨rfl, rfl⟩, ?_⟩
          have h3 : (enT [.lst (stops.map T.str), .lst (natT calm), .lst (cars.map carD)]).length = 3 := rfl
          rw [h3] at hal hpk
          have hlk : (cars.map carD).length < sizeLine := len_lt (by rw [List.length_map]; omega)
          refine lcI_of (Z := List (Addr × PRec)) (cars.map carD) (fun i acc2 rs2 => acc2.length = i ∧ RecsOk rs2 ∧ (∃ q, rs2 = rs ++ q) ∧ ∀ k c, k < i → cars[k]? = some c → ∃ x, acc2[k]? = some x ∧ ∃ z, x = .tup [.str c.1, z] ∧ PickOk rs2 (c.2.map T.str) z) (fun rs2 => [.lst us, .ll [.l 2, .l 3, .l 4], .gone, .gone, .gone, .lst [.tup (stops.map T.str), .tup (natT calm), .tup (cars.map carP)], .pool (.lst (natT ws)) rs2, .lst acc]) ?_ ⟨rs, ⟨rfl, hrs, ⟨[], (List.append_nil _).symm⟩, fun k us hk => absurd hk (Nat.not_lt_zero _)⟩, rfl⟩ ?_ ?_
          · intro Q' h
            fail "S"
            first
              | exact h _ fun _ _ _ _ => trivial
              | exact h _ trivial
          · rintro i x acc2 rs2 hx ⟨hal2, hrs2, hq, hpk2⟩ C hC
            obtain ⟨c, hc, rfl⟩ := map_at hx
            have hcm := List.mem_of_getElem? hc
            have hr3 := O.cr.r3 c hcm
            have hil := (List.getElem?_eq_some_iff.mp hc).1
            obtain ⟨w, hw, hat⟩ := hway 3 (by decide)
            unfold carD
            fail "S"
            refine inpQ_of 6 (by decide) rfl rfl rfl fun a ha => ?_
            obtain ⟨y, hy, hpy⟩ := pick_at (ps := c.2.map T.str) ha hw
            obtain ⟨q, hq⟩ := hq
            fail "S"
            exact ⟨⟨rfl, rfl⟩, _, hat, y, hy, len_lt (by omega), hC (acc2 ++ [.tup [.str c.1, y]]) (rs2 ++ [(a, .lst (c.2.map T.str))]) ⟨by rw [List.length_append, hal2]; rfl, hrs2.app (by rw [List.length_map]; omega), ⟨q ++ [(a, .lst (c.2.map T.str))], by rw [hq, List.append_assoc]⟩, picks_app (fun c : Cr => c.2.map T.str) (g := fun k => cars[k]?) (f := fun c x z => x = .tup [.str c.1, z]) hal2 hpk2 hc ⟨y, rfl, hpy⟩⟩⟩
          · rintro acc2 rs2 ⟨hal2, hrs2, ⟨q, hq⟩, hpk2⟩
            obtain ⟨x0, x1, x2, rfl⟩ := three_of hal
            have hp0 : PickOk rs2 (stops.map T.str) x0 := by
              obtain ⟨x, e, z, rfl, h⟩ := hpk 0 _ (by decide) rfl
              rw [← Option.some.inj e] at h; rw [hq]; exact h.app
            have hp1 : PickOk rs2 (natT calm) x1 := by
              obtain ⟨x, e, z, rfl, h⟩ := hpk 1 _ (by decide) rfl
              rw [← Option.some.inj e] at h; rw [hq]; exact h.app
            fail "S"
            refine inpQ_of 6 (by decide) rfl rfl rfl fun a ha => ?_
            obtain ⟨w, hw, hat⟩ := hway 2 (by decide)
            have hrl : lkR (rs2 ++ [(a, .lst acc2)]) a = some acc2 := lkR_new ha
            fail "S"
            refine ⟨6, rs2.length, acc2, recAt_of rfl (rs_last rs2 _), ?_⟩
            refine ⟨⟨rfl, rfl⟩, _, hat, ?_⟩
            obtain ⟨y, hy, hpy⟩ : ∃ y, atI [.tup acc2, .ref a] (w : Int) = some y ∧ PickOk (rs2 ++ [(a, .lst acc2)]) acc2 y := pick_at ha hw
            obtain ⟨cb, hcb, hcv⟩ := cb_of (rs := rs2 ++ [(a, .lst acc2)]) (hal2.trans (List.length_map _)) fun k c hk hc => by
              obtain ⟨x, h1, z, h2, h3⟩ := hpk2 k c (by rw [List.length_map]; exact hk) hc
              exact ⟨x, h1, z, h2, h3.app⟩
            obtain ⟨b0, hb0⟩ := (hp0.app (q := [(a, .lst acc2)])).rsv2 (rsv_strs _ _) (rsv_strs _ _)
            obtain ⟨b1, hb1⟩ := (hp1.app (q := [(a, .lst acc2)])).rsv2 (rsv_nats _ _) (rsv_nats _ _)
            obtain ⟨b2, hb2⟩ := hpy.rsv2 hcv (rsv_carB _ _)
            obtain ⟨V, hV⟩ : ∃ V, V = T.lst [tl b0 (stops.map T.str), tl b1 (natT calm), tl b2 (cb.map carB)] := ⟨_, rfl⟩
            have hrs3 : RecsOk (rs2 ++ [(a, .lst acc2)]) := hrs2.app (by rw [List.length_map] at hal2; omega)
            have hview : rsvT (rs2 ++ [(a, .lst acc2)]) (rsvT (rs2 ++ [(a, .lst acc2)]) (.lst [x0, x1, y])) = V := by
              rw [hV]
              rw [rsvT.eq_3, rsvT.eq_3, rsvTs_map, rsvTs_map, List.map_map, List.map_cons, List.map_cons, List.map_cons, Function.comp, Function.comp, Function.comp, hb0, hb1, hb2]; rfl
            obtain ⟨kz, hkz⟩ : ∃ z, z = T.rep V := ⟨_, rfl⟩
            obtain ⟨smA, smB⟩ : T.sm 60 V = true ∧ V.wt ≤ 1048576 := by rw [hV]; exact O.smB hcb b0 b1 b2
            refine ⟨y, hy, ?_⟩
            refine vwK_of [7, 6] (rs2 ++ [(a, .lst acc2)]) [] rfl rfl rfl (congrArg (fun t => [SV.d t]) hview) (.inr ⟨6, _, rfl, rfl⟩) rfl rfl rfl ?_ ?_
            · rw [List.all_cons, List.all_cons, List.all_nil]
              exact Bool.and_eq_true_iff.mpr ⟨rfl, Bool.and_eq_true_iff.mpr ⟨pvo_recs hrs3, rfl⟩⟩
            · fail "S"
              rw [show (unm 14 [6] [SV.d V])[6]? = some (some (SV.d V)) from rfl]
              dsimp only
              refine ⟨_, rfl, smA, smB, nolo_rep _, ?_⟩
              refine vwK_of [7, 6] (rs2 ++ [(a, .lst acc2)]) [] rfl rfl rfl (congrArg (fun t => [SV.d t]) hview) (.inr ⟨6, _, rfl, rfl⟩) rfl rfl rfl ?_ ?_
              · rw [List.all_cons, List.all_cons, List.all_nil]
                exact Bool.and_eq_true_iff.mpr ⟨rfl, Bool.and_eq_true_iff.mpr ⟨pvo_recs hrs3, rfl⟩⟩
              · fail "S"
                rw [show (unm 14 [6] [SV.d V])[6]? = some (some (SV.d V)) from rfl]
                rw [← hkz, hV]
                dsimp only
                refine ⟨_, rfl, _, rfl, _, rfl, ?_⟩
                refine callC_of [0, 1] rfl ⟨_, _, _, _, _, _, rfl, rfl, seq_tl _ _, seq_tl _ _, seq_tl _ _, O.mkB hcb, ?_⟩
                fail "S"
                have hdu : trainT cA (stops.map T.str) (natT calm) (cb.map carB) = trT cA stops calm cars := by rw [train_trB, hcb]
                refine ⟨trT cA stops calm cars, by rw [← hdu]; exact train_deep cA _ _ _ 0 _ rfl rfl (Nat.le_refl _), nolo_trT cA stops calm cars, ?_⟩
                refine callVF_of [5] _ [] rfl rfl rfl rfl rfl rfl ⟨stops, calm, cars, rfl, rfl, O, ?_⟩
                fail "S"
                refine ⟨rfl, vwK_of [7, 6] (rs2 ++ [(a, .lst acc2)]) [] rfl rfl rfl (congrArg (fun t => [SV.d t]) hview) (.inr ⟨6, _, rfl, rfl⟩) rfl rfl rfl ?_ ?_⟩
                · rw [List.all_cons, List.all_cons, List.all_nil]
                  exact Bool.and_eq_true_iff.mpr ⟨rfl, Bool.and_eq_true_iff.mpr ⟨pvo_recs hrs3, rfl⟩⟩
                · fail "S"
                  rw [show (unm 14 [6] [SV.d V])[6]? = some (some (SV.d V)) from rfl]
                  dsimp only
                  refine ⟨_, rfl, smA, smB, nolo_rep _, ?_⟩
                  rw [← hkz]
                  fail "S"
                  have hpk3 : ∀ x ∈ acc2, ∃ (c : Cr) (z : T), x = .tup [.str c.1, z] ∧ PickOk (rs2 ++ [(a, .lst acc2)]) (c.2.map T.str) z := fun x hx => by
                    obtain ⟨k, hk⟩ := List.getElem?_of_mem hx
                    have hkl := (List.getElem?_eq_some_iff.mp hk).1
                    have hkc : k < cars.length := by rw [List.length_map] at hal2; omega
                    obtain ⟨x2, h1, z, h2, h3⟩ := hpk2 k cars[k] (by rw [List.length_map]; exact hkc) (List.getElem?_eq_getElem hkc)
                    rw [hk] at h1
                    exact ⟨cars[k], z, (Option.some.inj h1).trans h2, h3.app⟩
                  have hpicks : ∀ x ∈ [x0, x1, y], x = .tup [] ∨ ∃ us, PickOk (rs2 ++ [(a, .lst acc2)]) us x := fun x hx => by
                    simp only [List.mem_cons, List.not_mem_nil, or_false] at hx
                    rcases hx with rfl | rfl | rfl
                    · exact .inr ⟨_, hp0.app⟩
                    · exact .inr ⟨_, hp1.app⟩
                    · exact .inr ⟨_, hpy⟩
                  refine forK_in ?_
                  fail "S"
                  obtain ⟨RS, hRS⟩ : ∃ RS, RS = rs2 ++ [(a, PRec.lst acc2)] := ⟨_, rfl⟩
                  rw [← hRS] at hpicks hrs3 hpk3
                  rw [← hRS]
                  refine lcI_pure [x0, x1, y] isRef id (by show 3 < sizeLine; decide) ?_ ?_ ?_
                  · intro Q' h
                    fail "S"
                    first
                      | exact h _ fun _ _ _ _ => trivial
                      | exact h _ trivial
                      | exact h _ rfl
                      | exact h _ ⟨rfl, rfl⟩
                  · intro i x hx acc C hacc hT hF
                    rcases hpicks x (List.mem_of_getElem? hx) with rfl | ⟨us2, hp⟩
                    · fail "S"
                      exact hF rfl
                    · rcases hp.cases with rfl | ⟨b, j, rfl, hj⟩
                      · fail "S"
                        exact hF rfl
                      · fail "S"
                        exact ⟨⟨6, j, us2, recAt_of rfl hj⟩, hacc, hT rfl⟩
                  · fail "S"
                    refine ⟨⟨rfl, rfl⟩, forI_of (Z := List (Addr × PRec)) (fun i rs5 => Grown RS rs5 i) (fun _ => [some (.l 0), some (.d (.lst (stops.map T.str))), some (.d (.lst (natT calm))), some (.d (.lst (cars.map carD))), some (.l 5), some (.l 6), some (.l 7), some (.d (.str kz)), some (.d (trT cA stops calm cars)), none, none, none, none, none]) (fun rs5 => [.lst us, .ll [.l 2, .l 3, .l 4], .gone, .gone, .gone, .lst [.tup (stops.map T.str), .tup (natT calm), .tup (cars.map carP)], .pool (.lst (natT ws)) rs5, .lst [x0, x1, y]]) ?_ ⟨RS, Grown.refl _ _, rfl, rfl⟩ ?_ ?_⟩
                    · intro i rs5 hg
                      trivial
                    · intro i x rs5 hx hg C hC B2 R2 hB2 hR2
                      obtain ⟨hxm, hxr⟩ := List.mem_filter.mp (List.mem_of_getElem? hx)
                      have hi3 : i < 3 := Nat.lt_of_lt_of_le (List.getElem?_eq_some_iff.mp hx).1 (List.length_filter_le _ _)
                      rcases hpicks x hxm with rfl | ⟨us2, hp⟩
                      · cases hxr
                      · rcases hp.cases with rfl | ⟨b, j, rfl, hj⟩
                        · cases hxr
                        · obtain ⟨m, hm, hj2⟩ := hg j b us2 hj
                          have hul := hrs3.len hj
                          fail "S"
                          refine ⟨isRL_of (n := 6) rfl hj2, appRG_of (n := 6) (o := .lst (natT ws)) (rs := rs5) rfl hj2 (len_lt (by rw [List.length_append, List.length_replicate]; omega)) ⟨List.all_eq_true.mp rfl, List.all_eq_true.mp rfl, ?_⟩⟩
                          exact hC _ (hg.step hj hm hj2)
                    · intro rs5 hg
                      have hg := hg.mono (m := 3) (List.length_filter_le _ _)
                      obtain ⟨m, hm, hyc⟩ : ∃ m, m ≤ 3 ∧ (y = .tup acc2 ∧ m = 0 ∨ ∃ (b : Addr) (j : Nat), y = .ref b ∧ rs5[j]? = some (b, .lst (acc2 ++ List.replicate m qT))) := by
                        rw [← hRS] at hpy
                        rcases hpy.cases with e | ⟨b, j, e, hj⟩
                        · exact ⟨0, by omega, .inl ⟨e, rfl⟩⟩
                        · obtain ⟨m, hm, hj2⟩ := hg j b _ hj
                          exact ⟨m, hm, .inr ⟨b, j, e, hj2⟩⟩
                      have hacl : acc2.length ≤ 8 := by rw [List.length_map] at hal2; omega
                      fail "S"
                      refine forK_in ?_
                      fail "S"
                      refine lcI_pure (acc2 ++ List.replicate m qT) isTup id (len_lt (by rw [List.length_append, List.length_replicate]; omega)) ?_ ?_ ?_
                      · intro Q' h
                        rcases hyc with ⟨rfl, rfl⟩ | ⟨b, j, rfl, hj⟩
                        · fail "S"
                          exact ⟨acc2, none, ⟨rfl, rfl⟩, by rw [List.replicate_zero, List.append_nil] at h; exact h _ trivial⟩
                        · fail "S"
                          exact ⟨6, j, acc2 ++ List.replicate m qT, recAt_of rfl hj, h _ (recAt_of rfl hj)⟩
                      · intro i x hx acc C hacc hT hF
                        rcases List.mem_append.mp (List.mem_of_getElem? hx) with hx | hx
                        · obtain ⟨c, z, rfl, hp⟩ := hpk3 x hx
                          fail "S"
                          exact ⟨hacc, hT rfl⟩
                        · rw [List.eq_of_mem_replicate hx]
                          rw [List.eq_of_mem_replicate hx] at hF
                          unfold qT at hF ⊢
                          fail "S"
                          exact hF rfl
                      · fail "S"
                        refine ⟨⟨rfl, rfl⟩, forI_of (Z := List (Addr × PRec)) (fun i rs5 => Grown RS rs5 (3 + i)) (fun _ => [some (.l 0), some (.d (.lst (stops.map T.str))), some (.d (.lst (natT calm))), some (.d (.lst (cars.map carD))), some (.l 5), some (.l 6), some (.l 7), some (.d (.str kz)), some (.d (trT cA stops calm cars)), none, none, none, none, none]) (fun rs5 => [.lst us, .ll [.l 2, .l 3, .l 4], .gone, .gone, .gone, .lst [.tup (stops.map T.str), .tup (natT calm), .tup (cars.map carP)], .pool (.lst (natT ws)) rs5, .lst [x0, x1, y]]) ?_ ⟨rs5, hg, rfl, rfl⟩ ?_ ?_⟩
                        · intro i rs5 hg
                          trivial
                        · intro i x rs5 hx hg C hC B2 R2 hB2 hR2
                          rw [← List.filter_append] at hx
                          obtain ⟨hxm, hxr⟩ := List.mem_filter.mp (List.mem_of_getElem? hx)
                          have hi3 := Nat.lt_of_lt_of_le (List.getElem?_eq_some_iff.mp hx).1 (List.length_filter_le _ _)
                          rw [List.length_append, List.length_replicate] at hi3
                          rcases List.mem_append.mp hxm with hxm | hxm
                          · obtain ⟨c, z, rfl, hp⟩ := hpk3 x hxm
                            rcases hp.cases with rfl | ⟨b, j, rfl, hj⟩
                            · fail "S"
                              exact ⟨⟨rfl, rfl⟩, hC _ (hg.mono (by omega))⟩
                            · obtain ⟨m2, hm2, hj2⟩ := hg j b _ hj
                              have hul := hrs3.len hj
                              fail "S"
                              refine ⟨⟨6, j, _, recAt_of rfl hj2⟩, isRL_of (n := 6) rfl hj2, appRG_of (n := 6) (o := .lst (natT ws)) (rs := rs5) rfl hj2 (len_lt (by rw [List.length_append, List.length_replicate]; omega)) ⟨List.all_eq_true.mp rfl, List.all_eq_true.mp rfl, ?_⟩⟩
                              exact hC _ (hg.step hj hm2 hj2)
                          · rw [List.eq_of_mem_replicate hxm] at hxr
                            cases hxr
                        · intro rs5 hg
                          fail "S"
                          refine callVF_of [5] _ [] rfl rfl rfl rfl rfl rfl ⟨stops, calm, cars, rfl, rfl, O, ?_⟩
                          fail "S"
                          refine ⟨rfl, ?_⟩
                          unfold trT
                          fail "S"
                          refine callC_of [8, 9] rfl ⟨_, _, _, stops.map T.str, natT calm, cars.map carP, rfl, rfl, rfl, rfl, rfl, by rw [carP_B]; exact O.mkB (fst_B cars), ?_⟩
                          fail "S"
                          have hdu2 : trainT cA (stops.map T.str) (natT calm) (cars.map carP) = trT cA stops calm cars := by rw [carP_B, train_trB, fst_B]
                          refine ⟨⟨rfl, rfl⟩, trT cA stops calm cars, by rw [← hdu2]; exact train_deep cA _ _ _ 8 _ rfl rfl (Nat.le_refl _), ?_⟩
                          refine callVF_of [5] _ [] rfl rfl rfl rfl rfl rfl ⟨stops, calm, cars, rfl, rfl, O, ?_⟩
                          fail "S"
                          exact ⟨rfl, hQ _⟩

theorem ok_law {f : Addr} {fd : FuncData} (U : Tx mg) (G_ : Gx K w mg) (CF : Cf K mg cA) (F : Fun K "law" "law" s_law f fd) (C_right : Cal P w K mg base 8 "_law_right" ["_law_box_here"] sp_right) (C_box : Cal P w K mg base 2 "_law_box" ["_law_script", "_law_k"] sp_box) : FnG P w K mg base 9 f fd ["_law_script"] (toSp K spLawA) := by
  refine fn_body F sc_law (fun vs s Q ⟨_, h, _⟩ => by rw [h]; rfl) fun f cdv A outer s H E hr => ?_
  have hu : (A.deeper (PyProof.Rows.envOfC "law" (defScope s_law) s.heap.objs.size f cdv)).units + 64 < cLine := by have := hr.un; omega
  have hu5 : (A.deeper (PyProof.Rows.envOfC "law" (defScope s_law) s.heap.objs.size f cdv)).units + 65 < cLine := by have := hr.un; omega
  refine ⟨_, (ap_cons (ap_for PassesOwn.never (ai_range1 U.m_range (ae_add ae_int (ae_min U.m_min (aa_cons ae_int (aa_cons (ae_len U.m_len (aa_cons (ae_v (pv 0)) aa_nil)) aa_nil))))) (ag_name (i := 1) sc_law.nd) (ap_blk [1] (ap_one (ap_if (at_not (at_val (ae_cal C_right (hr.mono (by omega)) (aa_cons (ae_cal C_box (hr.mono (by omega)) (aa_cons (ae_v (pv 0)) (aa_cons (ae_v (pv 1)) aa_nil))) aa_nil)))) (ap_one (ap_ret ae_bl)) ap_nil))))
      (ap_one (ap_ret ae_bl))), ?_⟩
  rintro svs s0 Q ⟨ns, rfl, hl, rfl, hQ⟩
  have hK : ∃ K : Nat, (1 + (if (ns.length : Int) < 5 then (ns.length : Int) else 5)) = (K : Int) ∧ K ≤ 64 := by
    refine ⟨1 + min 5 ns.length, ?_, by omega⟩
    split <;> omega
  obtain ⟨K, hK, hK2⟩ := hK
  fail "S"
  refine pFor_of (Z := Unit) (rgT 0 (K : Int)) (fun _ _ => True) (fun _ => [some (.d (.scr (ns.map T.int))), none]) (fun _ => []) ?_ ⟨(), trivial, rfl, rfl⟩ ?_ ?_
  · intro Q' h
    fail "S"
    rw [hK]
    exact ⟨by omega, by omega, h (fun _ => True) fun _ _ _ => trivial⟩
  · rintro i x ⟨⟩ hx _ C hC B R hB hR
    obtain ⟨hi, rfl⟩ := rgT_lt hx
    fail "S"
    refine callK_of rfl rfl ⟨ns, i, rfl, rfl, by omega, fun ts hB3 => ?_⟩
    fail "S"
    refine callK_of rfl rfl ⟨_, 0, rfl, rfl, hB3, by omega, fun ts2 => ?_⟩
    fail "S"
    exact hC () trivial
  · rintro ⟨⟩ _
    fail "S"
    exact hQ _

theorem all_mk {l : PySem.W.OpenLaw} {w : World} {K : Fr} {h : Heap} {mg : Str → Option Value} (X : K.In h) (G : h.Ns mainGlobals mg)
    (w_p_units_of : Wr K "units_of" "units_of" s_p_units_of)
    (w_p_is_room : Wr K "is_room" "is_room" s_p_is_room)
    (w_p_is_name : Wr K "is_name" "is_name" s_p_is_name)
    (w_p_is_number : Wr K "is_number" "is_number" s_p_is_number)
    (w_p_is_row : Wr K "is_row" "is_row" s_p_is_row)
    (w_p_are_unlike : Wr K "are_unlike" "are_unlike" s_p_are_unlike)
    (w_p_is_rising : Wr K "is_rising" "is_rising" s_p_is_rising)
    (w_p_are_stops : Wr K "are_stops" "are_stops" s_p_are_stops)
    (w_p_are_calm : Wr K "are_calm" "are_calm" s_p_are_calm)
    (w_p_are_rooms : Wr K "are_rooms" "are_rooms" s_p_are_rooms)
    (w_p_is_car : Wr K "is_car" "is_car" s_p_is_car)
    (w_p_are_cars : Wr K "are_cars" "are_cars" s_p_are_cars)
    (w_cell_at : Wr K "_law_cell_at" "_law_cell_at" s_cell_at)
    (w_box : Wr K "_law_box" "_law_box" s_box)
    (w_take : Wr K "_law_take" "_law_take" s_take)
    (w_names : Wr K "_law_names" "_law_names" s_names)
    (w_room : Wr K "_law_room" "_law_room" s_room)
    (w_train : Wr K "_law_train" "_law_train" s_train)
    (w_same : Wr K "_law_same" "_law_same" s_same)
    (w_right : Wr K "_law_right" "_law_right" s_right)
    (w_law : Wr K "law" "law" s_law)
    {cNightError : Addr} (ew_NightError : ErrN K "NightError" cNightError)
    {cBadTrain : Addr} (ew_BadTrain : ErrW K "BadTrain" "BadTrain.__init__" cNightError cBadTrain s_EBadTrain)
    {cTrain : Addr} (x_Train : PySem.W.nsIn K mainGlobals "Train" = some (some (.ref cTrain))) (y_Train : Cls K cTrain) (k_Train : PySem.W.makesIn K cTrain = true) (l_Train : PySem.W.keepIn K (.ref cTrain) = true)
    (n_Train_stops : PySem.W.findIn K (.ref cTrain) "stops" = some none)
    (n_Train_calm : PySem.W.findIn K (.ref cTrain) "calm" = some none)
    (n_Train_cars : PySem.W.findIn K (.ref cTrain) "cars" = some none)
    (w_Train_init : WrM K cTrain "__init__" "Train.__init__" s_Train_init)
    (z_abs : PySem.W.nsIn K mainGlobals "abs" = some none)
    (z_all : PySem.W.nsIn K mainGlobals "all" = some none)
    (z_bool : PySem.W.nsIn K mainGlobals "bool" = some none)
    (z_divmod : PySem.W.nsIn K mainGlobals "divmod" = some none)
    (z_enumerate : PySem.W.nsIn K mainGlobals "enumerate" = some none)
    (z_int : PySem.W.nsIn K mainGlobals "int" = some none)
    (z_isinstance : PySem.W.nsIn K mainGlobals "isinstance" = some none)
    (z_len : PySem.W.nsIn K mainGlobals "len" = some none)
    (z_list : PySem.W.nsIn K mainGlobals "list" = some none)
    (z_min : PySem.W.nsIn K mainGlobals "min" = some none)
    (z_range : PySem.W.nsIn K mainGlobals "range" = some none)
    (z_repr : PySem.W.nsIn K mainGlobals "repr" = some none)
    (z_set : PySem.W.nsIn K mainGlobals "set" = some none)
    (z_str : PySem.W.nsIn K mainGlobals "str" = some none)
    (z_sum : PySem.W.nsIn K mainGlobals "sum" = some none)
    (z_tuple : PySem.W.nsIn K mainGlobals "tuple" = some none)
    (z_zip : PySem.W.nsIn K mainGlobals "zip" = some none)
    (v_UNITS : GTk K "UNITS" (.tup ((["l", "u", "l/l", "l/u", "u/l", "u/u"] : List Str).map T.str)))
    (v_MOST_BERTHS : GTk K "MOST_BERTHS" (.int 8))
    (v_LETTERS : GTk K "LETTERS" (.str "abcdefghijklmnopqrstuvwxyz"))
    (v_MOST_LETTERS : GTk K "MOST_LETTERS" (.int 8))
    : ∃ (f : Addr) (fd : FuncData), mg "law" = some (.ref f) ∧ BindA fd ["_law_script"] ∧ ∀ base : Heap, K.In base → base.Ns mainGlobals mg → FnG l.prog w K mg base 9 f fd ["_law_script"] (toSp K spLawA) := by
  have U : Tx mg := ⟨PySem.W.mg_none_of X G z_abs, PySem.W.mg_none_of X G z_all, PySem.W.mg_none_of X G z_bool, PySem.W.mg_none_of X G z_divmod, PySem.W.mg_none_of X G z_enumerate, PySem.W.mg_none_of X G z_int, PySem.W.mg_none_of X G z_isinstance, PySem.W.mg_none_of X G z_len, PySem.W.mg_none_of X G z_list, PySem.W.mg_none_of X G z_min, PySem.W.mg_none_of X G z_range, PySem.W.mg_none_of X G z_repr, PySem.W.mg_none_of X G z_set, PySem.W.mg_none_of X G z_str, PySem.W.mg_none_of X G z_sum, PySem.W.mg_none_of X G z_tuple, PySem.W.mg_none_of X G z_zip⟩
  have D : Ds K mg := ⟨w_p_units_of.df X G (fun _ _ _ _ _ _ us hl => match us, hl with | [_], _ => rfl), w_p_is_room.df X G (fun _ _ _ _ _ _ us hl => match us, hl with | [_], _ => rfl), w_p_is_name.df X G (fun _ _ _ _ _ _ us hl => match us, hl with | [_], _ => rfl), w_p_is_number.df X G (fun _ _ _ _ _ _ us hl => match us, hl with | [_], _ => rfl), w_p_is_row.df X G (fun _ _ _ _ _ _ us hl => match us, hl with | [_], _ => rfl), w_p_are_unlike.df X G (fun _ _ _ _ _ _ us hl => match us, hl with | [_], _ => rfl), w_p_is_rising.df X G (fun _ _ _ _ _ _ us hl => match us, hl with | [_], _ => rfl), w_p_are_stops.df X G (fun _ _ _ _ _ _ us hl => match us, hl with | [_], _ => rfl), w_p_are_calm.df X G (fun _ _ _ _ _ _ us hl => match us, hl with | [_, _], _ => rfl), w_p_are_rooms.df X G (fun _ _ _ _ _ _ us hl => match us, hl with | [_], _ => rfl), w_p_is_car.df X G (fun _ _ _ _ _ _ us hl => match us, hl with | [_], _ => rfl), w_p_are_cars.df X G (fun _ _ _ _ _ _ us hl => match us, hl with | [_], _ => rfl), w_cell_at.df X G (fun _ _ _ _ _ _ us hl => match us, hl with | [_, _], _ => rfl), w_box.df X G (fun _ _ _ _ _ _ us hl => match us, hl with | [_, _], _ => rfl), w_take.df X G (fun _ _ _ _ _ _ us hl => match us, hl with | [_, _], _ => rfl), w_names.df X G (fun _ _ _ _ _ _ us hl => match us, hl with | [_, _], _ => rfl), w_room.df X G (fun _ _ _ _ _ _ us hl => match us, hl with | [_, _], _ => rfl), w_train.df X G (fun _ _ _ _ _ _ us hl => match us, hl with | [_, _], _ => rfl), w_same.df X G (fun _ _ _ _ _ _ us hl => match us, hl with | [_, _], _ => rfl), w_right.df X G (fun _ _ _ _ _ _ us hl => match us, hl with | [_], _ => rfl), w_law.df X G (fun _ _ _ _ _ _ us hl => match us, hl with | [_], _ => rfl)⟩
  let cA : Cs := ⟨cNightError, cBadTrain, cTrain⟩
  have CF : Cf K mg cA := ⟨ew_NightError.errB X G, ew_NightError.nm, ew_BadTrain.errB X G, ew_BadTrain.nm, ew_BadTrain.errC, ⟨y_Train, n_Train_stops⟩, ⟨y_Train, n_Train_calm⟩, ⟨y_Train, n_Train_cars⟩, w_Train_init.dfi (PySem.W.mg_of X G x_Train) k_Train l_Train (fun _ _ _ _ _ _ us hl => match us, hl with | [_, _, _, _], _ => rfl)⟩
  have G_ : Gx K w mg := ⟨v_UNITS.gt X G, v_MOST_BERTHS.gt X G, v_LETTERS.gt X G, v_MOST_LETTERS.gt X G⟩
  obtain ⟨f, fd, F, e1, _, b⟩ := D.d_law.ex
  refine ⟨f, fd, e1, b, fun base _ _ => ?_⟩
  have C_p_are_unlike : Cal l.prog w K mg base 1 "are_unlike" ["things"] sp_p_are_unlike := ok_p_are_unlike U D G_ CF 
  have C_p_is_name : Cal l.prog w K mg base 1 "is_name" ["thing"] sp_p_is_name := ok_p_is_name U D G_ CF 
  have C_p_are_stops : Cal l.prog w K mg base 2 "are_stops" ["thing"] sp_p_are_stops := ok_p_are_stops U D G_ CF C_p_are_unlike C_p_is_name
  have C_p_is_rising : Cal l.prog w K mg base 1 "is_rising" ["numbers"] sp_p_is_rising := ok_p_is_rising U D G_ CF 
  have C_p_is_number : Cal l.prog w K mg base 1 "is_number" ["thing"] sp_p_is_number := ok_p_is_number U D G_ CF 
  have C_p_are_calm : Cal l.prog w K mg base 2 "are_calm" ["thing", "many"] sp_p_are_calm := ok_p_are_calm U D G_ CF C_p_is_rising C_p_is_number
  have C_p_is_row : Cal l.prog w K mg base 1 "is_row" ["thing"] sp_p_is_row := ok_p_is_row U D G_ CF 
  have C_p_units_of : Cal l.prog w K mg base 1 "units_of" ["room"] sp_p_units_of := ok_p_units_of U D G_ CF 
  have C_p_is_room : Cal l.prog w K mg base 2 "is_room" ["thing"] sp_p_is_room := ok_p_is_room U D G_ CF C_p_units_of
  have C_p_are_rooms : Cal l.prog w K mg base 3 "are_rooms" ["thing"] sp_p_are_rooms := ok_p_are_rooms U D G_ CF C_p_is_row C_p_is_room
  have C_p_is_car : Cal l.prog w K mg base 4 "is_car" ["thing"] sp_p_is_car := ok_p_is_car U D G_ CF C_p_is_name C_p_are_rooms
  have C_p_are_cars : Cal l.prog w K mg base 5 "are_cars" ["thing"] sp_p_are_cars := ok_p_are_cars U D G_ CF C_p_are_unlike C_p_is_car
  have C_Train_init : CalI l.prog w K mg base 6 cA.Train "Train" ["self", "stops", "calm", "cars"] (sp_Train_init cA) := ok_Train_init U D G_ CF C_p_are_stops C_p_are_calm C_p_are_cars
  have C_take : Cal l.prog w K mg base 1 "_law_take" ["_law_box_here", "_law_many"] sp_take := ok_take U D G_ CF 
  have C_names : Cal l.prog w K mg base 2 "_law_names" ["_law_box_here", "_law_many"] sp_names := ok_names U D G_ CF C_take
  have C_room : Cal l.prog w K mg base 2 "_law_room" ["_law_box_here", "_law_most"] sp_room := ok_room U D G_ CF C_take
  have C_train : Cal l.prog w K mg base 3 "_law_train" ["_law_box_here", "_law_most"] sp_train := ok_train U D G_ CF C_names C_take C_room
  have C_same : Cal l.prog w K mg base 1 "_law_same" ["_law_train_here", "_law_due"] (sp_same cA) := ok_same U D G_ CF 
  have C_right : Cal l.prog w K mg base 8 "_law_right" ["_law_box_here"] sp_right := ok_right U D G_ CF C_Train_init C_train C_same C_take
  have C_cell_at : Cal l.prog w K mg base 1 "_law_cell_at" ["_law_script", "_law_k"] sp_cell_at := ok_cell_at U D G_ CF 
  have C_box : Cal l.prog w K mg base 2 "_law_box" ["_law_script", "_law_k"] sp_box := ok_box U D G_ CF C_cell_at
  exact ok_law U G_ CF F C_right C_box
end
end K03

open PySem PySem.W PyProof.Rows in
set_option maxRecDepth 100000 in
set_option maxHeartbeats 0 in
theorem PySem.Challenge.cw_nightberths_k03_trains_made_holds : PySem.Challenge.rw_nightberths_k03_trains_made.Holds := by
  w_on; o_law; k_head; (case hw => w_witness2)
  k_fill
  refine Lv.law_end (l := PySem.Challenge.rw_nightberths_k03_trains_made) (k := 9) (x := "_law_script") rfl rfl ⟨rfl, by decide, by decide⟩ (fun w h Y => PySem.W.kIn_of Y) ?F
  case F =>
    intro w mg h KX G
    refine' K03.all_mk KX G ?w_p_units_of ?w_p_is_room ?w_p_is_name ?w_p_is_number ?w_p_is_row ?w_p_are_unlike ?w_p_is_rising ?w_p_are_stops ?w_p_are_calm ?w_p_are_rooms ?w_p_is_car ?w_p_are_cars ?w_cell_at ?w_box ?w_take ?w_names ?w_room ?w_train ?w_same ?w_right ?w_law ?ew_NightError ?ew_BadTrain ?x_Train ?y_Train ?k_Train ?l_Train ?n_Train_stops ?n_Train_calm ?n_Train_cars ?w_Train_init ?z_abs ?z_all ?z_bool ?z_divmod ?z_enumerate ?z_int ?z_isinstance ?z_len ?z_list ?z_min ?z_range ?z_repr ?z_set ?z_str ?z_sum ?z_tuple ?z_zip ?v_UNITS ?v_MOST_BERTHS ?v_LETTERS ?v_MOST_LETTERS
    (case ew_NightError => refine' Lv.ErrN.of ?a1 ?a2 ?a3 ?a4 ?a5 ?a6 ?a7; (case a1 => k_is); (case a2 => k_is); (case a3 => k_is); (case a4 => k_is); (case a5 => k_is); (case a6 => k_is); (case a7 => k_is))
    (case ew_BadTrain => refine' Lv.ErrW.of ?a1 ?a2 ?a3 ?a4 ?a5 ?a6 ?a7 ?a8 ?a9 ?b1 ?b2 ?b3 ?b4 ?b5 ?b6 ?b7 ?b8; (case a1 => k_is); (case a2 => k_is); (case a3 => k_is); (case a4 => k_is); (case a5 => k_is); (case a6 => k_is); (case a7 => k_is); (case a8 => k_is); (case a9 => k_is); (case b1 => k_is); (case b2 => k_is); (case b3 => k_is); (case b4 => k_is); (case b5 => k_is); (case b6 => k_is); (case b7 => k_is); (case b8 => k_is))
    (case x_Train => k_is)
    (case y_Train => refine' Lv.Cls.of ?b1 ?b2 ?b3 ?b4; (case b1 => k_is); (case b2 => k_is); (case b3 => k_is); (case b4 => k_is))
    (case k_Train => k_is)
    (case l_Train => k_is)
    (case n_Train_stops => k_is)
    (case n_Train_calm => k_is)
    (case n_Train_cars => k_is)
    (case w_Train_init => refine' Lv.WrM.of ?a1 ?a2 ?a3 ?a4 ?a5; (case a1 => k_is); (case a2 => k_is); (case a3 => k_is); (case a4 => k_is); (case a5 => k_is))
    (case w_p_units_of => refine' Lv.Wr.of ?a1 ?a2 ?a3 ?a4; (case a1 => k_is); (case a2 => k_is); (case a3 => k_is); (case a4 => k_is))
    (case w_p_is_room => refine' Lv.Wr.of ?a1 ?a2 ?a3 ?a4; (case a1 => k_is); (case a2 => k_is); (case a3 => k_is); (case a4 => k_is))
    (case w_p_is_name => refine' Lv.Wr.of ?a1 ?a2 ?a3 ?a4; (case a1 => k_is); (case a2 => k_is); (case a3 => k_is); (case a4 => k_is))
    (case w_p_is_number => refine' Lv.Wr.of ?a1 ?a2 ?a3 ?a4; (case a1 => k_is); (case a2 => k_is); (case a3 => k_is); (case a4 => k_is))
    (case w_p_is_row => refine' Lv.Wr.of ?a1 ?a2 ?a3 ?a4; (case a1 => k_is); (case a2 => k_is); (case a3 => k_is); (case a4 => k_is))
    (case w_p_are_unlike => refine' Lv.Wr.of ?a1 ?a2 ?a3 ?a4; (case a1 => k_is); (case a2 => k_is); (case a3 => k_is); (case a4 => k_is))
    (case w_p_is_rising => refine' Lv.Wr.of ?a1 ?a2 ?a3 ?a4; (case a1 => k_is); (case a2 => k_is); (case a3 => k_is); (case a4 => k_is))
    (case w_p_are_stops => refine' Lv.Wr.of ?a1 ?a2 ?a3 ?a4; (case a1 => k_is); (case a2 => k_is); (case a3 => k_is); (case a4 => k_is))
    (case w_p_are_calm => refine' Lv.Wr.of ?a1 ?a2 ?a3 ?a4; (case a1 => k_is); (case a2 => k_is); (case a3 => k_is); (case a4 => k_is))
    (case w_p_are_rooms => refine' Lv.Wr.of ?a1 ?a2 ?a3 ?a4; (case a1 => k_is); (case a2 => k_is); (case a3 => k_is); (case a4 => k_is))
    (case w_p_is_car => refine' Lv.Wr.of ?a1 ?a2 ?a3 ?a4; (case a1 => k_is); (case a2 => k_is); (case a3 => k_is); (case a4 => k_is))
    (case w_p_are_cars => refine' Lv.Wr.of ?a1 ?a2 ?a3 ?a4; (case a1 => k_is); (case a2 => k_is); (case a3 => k_is); (case a4 => k_is))
    (case w_cell_at => refine' Lv.Wr.of ?a1 ?a2 ?a3 ?a4; (case a1 => k_is); (case a2 => k_is); (case a3 => k_is); (case a4 => k_is))
    (case w_box => refine' Lv.Wr.of ?a1 ?a2 ?a3 ?a4; (case a1 => k_is); (case a2 => k_is); (case a3 => k_is); (case a4 => k_is))
    (case w_take => refine' Lv.Wr.of ?a1 ?a2 ?a3 ?a4; (case a1 => k_is); (case a2 => k_is); (case a3 => k_is); (case a4 => k_is))
    (case w_names => refine' Lv.Wr.of ?a1 ?a2 ?a3 ?a4; (case a1 => k_is); (case a2 => k_is); (case a3 => k_is); (case a4 => k_is))
    (case w_room => refine' Lv.Wr.of ?a1 ?a2 ?a3 ?a4; (case a1 => k_is); (case a2 => k_is); (case a3 => k_is); (case a4 => k_is))
    (case w_train => refine' Lv.Wr.of ?a1 ?a2 ?a3 ?a4; (case a1 => k_is); (case a2 => k_is); (case a3 => k_is); (case a4 => k_is))
    (case w_same => refine' Lv.Wr.of ?a1 ?a2 ?a3 ?a4; (case a1 => k_is); (case a2 => k_is); (case a3 => k_is); (case a4 => k_is))
    (case w_right => refine' Lv.Wr.of ?a1 ?a2 ?a3 ?a4; (case a1 => k_is); (case a2 => k_is); (case a3 => k_is); (case a4 => k_is))
    (case w_law => refine' Lv.Wr.of ?a1 ?a2 ?a3 ?a4; (case a1 => k_is); (case a2 => k_is); (case a3 => k_is); (case a4 => k_is))
    (case z_abs => k_is)
    (case z_all => k_is)
    (case z_bool => k_is)
    (case z_divmod => k_is)
    (case z_enumerate => k_is)
    (case z_int => k_is)
    (case z_isinstance => k_is)
    (case z_len => k_is)
    (case z_list => k_is)
    (case z_min => k_is)
    (case z_range => k_is)
    (case z_repr => k_is)
    (case z_set => k_is)
    (case z_str => k_is)
    (case z_sum => k_is)
    (case z_tuple => k_is)
    (case z_zip => k_is)
    (case v_UNITS => refine' Lv.GTk.strs_of ?b1 ?b2 ?b3 ?b4; (case b1 => k_is); (case b2 => k_is); (case b3 => decide); (case b4 => repeat (first | exact .nil | refine .cons ⟨_, rfl⟩ ?_)))
    (case v_MOST_BERTHS => refine' Lv.GTk.int_of ?b1; (case b1 => k_is))
    (case v_LETTERS => refine' Lv.GTk.str_of ?b1; (case b1 => k_is))
    (case v_MOST_LETTERS => refine' Lv.GTk.int_of ?b1; (case b1 => k_is))
#print axioms PySem.Challenge.cw_nightberths_k03_trains_made_holds


