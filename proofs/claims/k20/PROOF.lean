import PyProof.Rows.All
import Wide.All
import OpenK.AllK
import Wide.FinOn
import HandS.ForMost
import HandS.Walk
import HandS.Wide
import HandS.TupAny
import HandS.TupLe
import HandS.Style
import HandS.Deep
import HandS.IsInst
import HandS.TupLen
import HandS.Remove
import HandS.Conv
import HandS.Zip
import HandS.More
import KE.GoesEnum
import KE.GoesNew
import HandS.TryOnly
import HandS.Ends
import HandS.Exc
import HandS.ExcOwn
import HandS.ExcInit
import HandS.ExcIs
import KE.SortData
import KE.DataMinMax
import HandS.WideBits
import PyProof.ReprLen
import PyProof.ReprRoads
import HandS.Strs
import HandS.SetFor
import HandS.Dict
import HandS.SetKeys
import HandS.WrittenGet
import PyProof.StrBlock2
import HandS.Codes
import PyProof.StrLawsChain
import KE.KExcIs
import PyProof.Rows.CountFlat
import HandS.DictComp
import KE.KDictWalk
import HandS.NoneIn
import HandS.DictTup
import KE.DataCmp
import PyProof.Rows.IntBool
import KE.KDictZip
import KE.KDictPairs
import HandS.Replace
import KE.KDictSum
import KE.KDictCopyH
import PyProof.Transfer
import HandS.TupSets
import PySem.Challenge.RW_nightberths_k20_keeping_again_and_shared
set_option Elab.async false
set_option linter.all false
set_option maxRecDepth 100000
set_option maxHeartbeats 4000000
/-! Lv1: data (T), places (SV), the store (LO), what a heap has of them (Re), how it grows (Gr). -/
namespace Lv
open PySem L2

abbrev Fr := PySem.W.Frag
def Ex (H H' : Hp) : Prop := ∀ a o, H a = some o → H' a = some o
theorem Ex.refl (H : Hp) : Ex H H := fun _ _ h => h
theorem Ex.trans {H H1 H2 : Hp} (a : Ex H H1) (b : Ex H1 H2) : Ex H H2 := fun x o h => b x o (a x o h)
theorem ex_rd {H H' : Hp} {a : Addr} {u : HO} (e : Ex H H') (h : Rd H a u) : Rd H' a u := by
  rcases h with h | ⟨o, h⟩
  · exact Or.inl (e a _ h)
  · exact Or.inr ⟨o, e a _ h⟩
theorem ex_l {K : Fr} {H H' : Hp} {a : Addr} {xs : List V} (e : Ex H H') (h : SqL K H a xs) : SqL K H' a xs := by
  rcases h with h | h
  · exact Or.inl (ex_rd e h)
  · exact Or.inr h

/-- data, as it never changes -/
inductive T where
  | non | bl (b : Bool) | int (i : Int) | str (x : Str) | ref (a : Addr) | ty (n : String)
  | lst (xs : List T) | tup (xs : List T) | scr (xs : List T)
  /-- what never changes any more: an instance (its attributes' names, values), dicts (keys, values), a caught error with what it tells -/
  | obj (C : Addr) (ns : List Str) (xs : List T) | dk (ks : List Key) (xs : List T) | dt (ks : List (List Key)) (xs : List T) | exc (C : Addr) (t : T)
/-- a place's content: data, or a thing of the store -/
inductive SV where
  | d (t : T) | l (n : Nat)
/-- a record of a pool: an instance (its dict's address, its class, its fields), or a list -/
inductive PRec where
  | ins (dx C : Addr) (fs : List (Str × T))
  | lst (ts : List T)
def PRec.al (a : Addr) : PRec → List Addr
  | .ins dx _ _ => [a, dx]
  | .lst _ => [a]
def poolA (rs : List (Addr × PRec)) : List Addr := rs.flatMap fun r => r.2.al r.1
/-- a thing of the store: what may change -/
inductive LO where
  | lst (xs : List T) | tp (xs : List SV) | gone
  | dK (kvs : List (Key × T)) | dT (kvs : List (List Key × T))
  /-- with places within: a list, dicts, an instance (its dict at j) and its dict (of the instance at j) -/
  | ll (xs : List SV) | mK (kvs : List (Key × SV)) | mT (kvs : List (List Key × SV))
  /-- dicts that a loop walks: read, never written -/
  | fK (od : Obj) (vs : List V) (kvs : List (Key × SV)) | fT (od : Obj) (vs : List V) (kvs : List (List Key × SV))
  /-- dicts of data, locked -/
  | lK (od : Obj) (vs : List V) (kvs : List (Key × T)) | lT (od : Obj) (vs : List V) (kvs : List (List Key × T))
  | ins (C : Addr) (j : Nat) (fs : List (Str × SV)) | own (j : Nat)
  /-- a closed store of its own, the first thing of it stands here -/
  | box (st : List LO)
  /-- a list or a dict of data, and with it things that are known by their addresses (T.ref) -/
  | pool (o : LO) (rs : List (Addr × PRec))
abbrev AS := List (Option SV)
abbrev ST := List LO
/-- a place: its address, and those within it (a box's) -/
structure Ce where
  p : Addr
  io : List Addr
def Ce.al (c : Ce) : List Addr := c.p :: c.io
abbrev one (p : Addr) : Ce := ⟨p, []⟩
abbrev Fi := List Ce
def adr (φ : Fi) : List Addr := φ.flatMap Ce.al
def Fi.r (φ : Fi) (n : Nat) : Option Addr := (φ[n]?).map Ce.p
theorem adr_app (φ ψ : Fi) : adr (φ ++ ψ) = adr φ ++ adr ψ := List.flatMap_append
theorem adr_cons (c : Ce) (φ : Fi) : adr (c :: φ) = c.al ++ adr φ := rfl
theorem adr_mem {φ : Fi} {n : Nat} {c : Ce} {a : Addr} (h : φ[n]? = some c) (ha : a ∈ c.al) : a ∈ adr φ := List.mem_flatMap.mpr ⟨c, List.mem_of_getElem? h, ha⟩
theorem Ce.mem (c : Ce) : c.p ∈ c.al := List.mem_cons_self
theorem adr_p {φ : Fi} {n : Nat} {c : Ce} (h : φ[n]? = some c) : c.p ∈ adr φ := adr_mem h c.mem
theorem adr_of {φ : Fi} {a : Addr} (h : a ∈ adr φ) : ∃ (n : Nat) (c : Ce), φ[n]? = some c ∧ a ∈ c.al := by
  obtain ⟨c, hc, ha⟩ := List.mem_flatMap.mp h
  obtain ⟨n, hn⟩ := List.getElem?_of_mem hc
  exact ⟨n, c, hn, ha⟩
theorem Fi.r_of {φ : Fi} {n : Nat} {c : Ce} (h : φ[n]? = some c) : φ.r n = some c.p := by unfold Fi.r; rw [h]; rfl
theorem Fi.r_inv {φ : Fi} {n : Nat} {p : Addr} (h : φ.r n = some p) : ∃ c, φ[n]? = some c ∧ c.p = p := by
  unfold Fi.r at h
  cases q : φ[n]? with
  | none => rw [q] at h; cases h
  | some c => rw [q] at h; exact ⟨c, rfl, Option.some.inj h⟩
/-- unlike places have nothing in common -/
theorem adr_nd : ∀ {φ : Fi} {i j : Nat} {c d : Ce} {a : Addr}, (adr φ).Nodup → φ[i]? = some c → φ[j]? = some d → a ∈ c.al → a ∈ d.al → i = j
  | [], i, j, c, d, a, _, h, _, _, _ => by cases h
  | e :: φ, 0, 0, c, d, a, _, _, _, _, _ => rfl
  | e :: φ, 0, j + 1, c, d, a, nd, h1, h2, ha, hb => by
    have h1 : e = c := Option.some.inj h1
    subst h1
    have h2 : φ[j]? = some d := h2
    rw [adr_cons, List.nodup_append] at nd
    exact absurd rfl (nd.2.2 a ha a (adr_mem h2 hb))
  | e :: φ, i + 1, 0, c, d, a, nd, h1, h2, ha, hb => by
    have h2 : e = d := Option.some.inj h2
    subst h2
    have h1 : φ[i]? = some c := h1
    rw [adr_cons, List.nodup_append] at nd
    exact absurd rfl (nd.2.2 a hb a (adr_mem h1 ha))
  | e :: φ, i + 1, j + 1, c, d, a, nd, h1, h2, ha, hb => by
    rw [adr_cons, List.nodup_append] at nd
    exact congrArg Nat.succ (adr_nd (φ := φ) nd.2.1 h1 h2 ha hb)

/-- a tuple that stands: tracked, or of the written part -/
def TuW (K : Fr) (H : Hp) (a : Addr) (xs : List V) : Prop :=
  H a = some (.tup xs) ∨
    ((∃ (o : Obj) (its : Array Value) (n : Nat), K.lookup a = some o ∧ o.cls = .type "tuple" ∧ o.data = .seq its n ∧ its.size ≤ sizeLine ∧ Vals xs its.toList) ∧ ∀ x ∈ xs, ∃ z, x = V.str z)
theorem TuW.sq {K : Fr} {H : Hp} {a : Addr} {xs : List V} (h : TuW K H a xs) : SqT K H a xs := h.elim (fun h => .inl (.inl h)) fun h => .inr h.1
theorem TuW.mono {K : Fr} {H H' : Hp} {a : Addr} {xs : List V} (e : Ex H H') (h : TuW K H a xs) : TuW K H' a xs := h.elim (fun h => .inl (e _ _ h)) .inr
/-- an error's object -/
def ExO (C d a : Addr) : HO := .ext fun h => ∃ (oe : Obj) (vs : Array Value), h.get? a = some oe ∧ oe.cls = .ref C ∧ oe.dict = some d ∧ oe.data = .fields vs
mutual
inductive Fz (K : Fr) (B : Hp) : V → T → Prop
  | non : Fz K B .non .non
  | bl (b : Bool) : Fz K B (.bl b) (.bl b)
  | int (i : Int) : Fz K B (.int i) (.int i)
  | str (x : Str) : Fz K B (.str x) (.str x)
  | ref (a : Addr) : Fz K B (.ref a) (.ref a)
  | lst {a : Addr} {xs : List V} {ts : List T} : B a = some (.lst xs) → FzAll K B xs ts → Fz K B (.ref a) (.lst ts)
  | scr {a : Addr} {xs : List V} {ts : List T} : SqL K B a xs → FzAll K B xs ts → Fz K B (.ref a) (.scr ts)
  | ty (n : String) : Fz K B (.ty n) (.ty n)
  | tup {a : Addr} {xs : List V} {ts : List T} : TuW K B a xs → FzAll K B xs ts → Fz K B (.ref a) (.tup ts)
  | obj {a dx C : Addr} {ns : List Str} {xs : List V} {ts : List T} : B a = some (.ins C dx (ns.zip xs)) → B dx = some (.own a) → FzAll K B xs ts → ns.length = ts.length → Fz K B (.ref a) (.obj C ns ts)
  | dk {a : Addr} {od : Obj} {ks : List Key} {xs : List V} {ts : List T} : B a = some (.frz od (.dK (ks.zip xs))) → FzAll K B xs ts → ks.length = ts.length → Fz K B (.ref a) (.dk ks ts)
  | dt {a : Addr} {od : Obj} {ks : List (List Key)} {xs : List V} {ts : List T} : B a = some (.frz od (.dT (ks.zip xs))) → FzAll K B xs ts → ks.length = ts.length → Fz K B (.ref a) (.dt ks ts)
  | exc {a d C : Addr} {v : V} {t : T} : B a = some (ExO C d a) → B d = some (.xd [("what", v)]) → Fz K B v t → Fz K B (.ref a) (.exc C t)
inductive FzAll (K : Fr) (B : Hp) : List V → List T → Prop
  | nil : FzAll K B [] []
  | cons {v : V} {vs : List V} {t : T} {ts : List T} : Fz K B v t → FzAll K B vs ts → FzAll K B (v :: vs) (t :: ts)
end
section
variable {K : Fr} {B B' : Hp}
mutual
theorem Fz.mono (e : Ex B B') : ∀ {v : V} {t : T}, Fz K B v t → Fz K B' v t
  | _, _, .non => .non
  | _, _, .bl b => .bl b
  | _, _, .int i => .int i
  | _, _, .str x => .str x
  | _, _, .ref a => .ref a
  | _, _, .lst h r => .lst (e _ _ h) (FzAll.mono e r)
  | _, _, .scr h r => .scr (ex_l e h) (FzAll.mono e r)
  | _, _, .ty n => .ty n
  | _, _, .tup h r => .tup (h.mono e) (FzAll.mono e r)
  | _, _, .obj h g r l => .obj (e _ _ h) (e _ _ g) (FzAll.mono e r) l
  | _, _, .dk h r l => .dk (e _ _ h) (FzAll.mono e r) l
  | _, _, .dt h r l => .dt (e _ _ h) (FzAll.mono e r) l
  | _, _, .exc h g r => .exc (e _ _ h) (e _ _ g) (Fz.mono e r)
theorem FzAll.mono (e : Ex B B') : ∀ {vs : List V} {ts : List T}, FzAll K B vs ts → FzAll K B' vs ts
  | _, _, .nil => .nil
  | _, _, .cons h r => .cons (Fz.mono e h) (FzAll.mono e r)
end
theorem FzAll.length : ∀ {vs : List V} {ts : List T}, FzAll K B vs ts → vs.length = ts.length
  | _, _, .nil => rfl
  | _, _, .cons _ r => congrArg Nat.succ (FzAll.length r)
theorem FzAll.get : ∀ {vs : List V} {ts : List T} {i : Nat} {v : V}, FzAll K B vs ts → vs[i]? = some v → ∃ t, ts[i]? = some t ∧ Fz K B v t
  | _, _, _, _, .nil, e => by simp at e
  | _, _, 0, _, .cons h _, e => by simp at e; subst e; exact ⟨_, rfl, h⟩
  | _, _, i + 1, v, .cons _ r, e => by
    obtain ⟨t, h1, h2⟩ := FzAll.get (i := i) (v := v) r (by simpa using e)
    exact ⟨t, by simpa using h1, h2⟩
theorem FzAll.get' : ∀ {vs : List V} {ts : List T} {i : Nat} {t : T}, FzAll K B vs ts → ts[i]? = some t → ∃ v, vs[i]? = some v ∧ Fz K B v t
  | _, _, _, _, .nil, e => by simp at e
  | _, _, 0, _, .cons h _, e => by simp at e; subst e; exact ⟨_, rfl, h⟩
  | _, _, i + 1, v, .cons _ r, e => by
    obtain ⟨t, h1, h2⟩ := FzAll.get' (i := i) (t := v) r (by simpa using e)
    exact ⟨t, by simpa using h1, h2⟩
theorem FzAll.append : ∀ {vs ws : List V} {ts us : List T}, FzAll K B vs ts → FzAll K B ws us → FzAll K B (vs ++ ws) (ts ++ us)
  | _, _, _, _, .nil, h => h
  | _, _, _, _, .cons h r, q => .cons h (FzAll.append r q)
theorem FzAll.set {v : V} {t : T} (q : Fz K B v t) : ∀ {vs : List V} {ts : List T} (i : Nat), FzAll K B vs ts → FzAll K B (vs.set i v) (ts.set i t)
  | _, _, _, .nil => .nil
  | _, _, 0, .cons _ r => .cons q r
  | _, _, i + 1, .cons h r => .cons h (FzAll.set q i r)
theorem FzAll.take : ∀ {vs : List V} {ts : List T} (i : Nat), FzAll K B vs ts → FzAll K B (vs.take i) (ts.take i)
  | _, _, 0, _ => .nil
  | _, _, _ + 1, .nil => .nil
  | _, _, i + 1, .cons h r => .cons h (FzAll.take i r)
theorem FzAll.drop : ∀ {vs : List V} {ts : List T} (i : Nat), FzAll K B vs ts → FzAll K B (vs.drop i) (ts.drop i)
  | _, _, 0, r => r
  | _, _, _ + 1, .nil => .nil
  | _, _, i + 1, .cons _ r => FzAll.drop i r
theorem FzAll.reverse : ∀ {vs : List V} {ts : List T}, FzAll K B vs ts → FzAll K B vs.reverse ts.reverse
  | _, _, .nil => .nil
  | _, _, .cons h r => by
    rw [List.reverse_cons, List.reverse_cons]
    exact FzAll.append (FzAll.reverse r) (.cons h .nil)
theorem FzAll.erase : ∀ {vs : List V} {ts : List T} (i : Nat), FzAll K B vs ts → FzAll K B (vs.eraseIdx i) (ts.eraseIdx i)
  | _, _, _, .nil => .nil
  | _, _, 0, .cons _ r => r
  | _, _, i + 1, .cons h r => .cons h (FzAll.erase i r)
theorem FzAll.rep {vs : List V} {ts : List T} (h : FzAll K B vs ts) : ∀ k : Nat, FzAll K B (List.replicate k vs).flatten (List.replicate k ts).flatten
  | 0 => .nil
  | k + 1 => by
    rw [List.replicate_succ, List.replicate_succ, List.flatten_cons, List.flatten_cons]
    exact FzAll.append h (FzAll.rep h k)
theorem FzAll.ints : ∀ (ns : List Int), FzAll K B (ns.map V.int) (ns.map T.int)
  | [] => .nil
  | n :: r => .cons (.int n) (FzAll.ints r)
theorem FzAll.of_ints : ∀ {vs : List V} {ns : List Int}, FzAll K B vs (ns.map T.int) → vs = ns.map V.int
  | _, [], .nil => rfl
  | _, _ :: _, .cons (.int _) r => by rw [FzAll.of_ints r]; rfl
theorem FzAll.of_bls : ∀ {vs : List V} {ns : List Bool}, FzAll K B vs (ns.map T.bl) → vs = ns.map V.bl
  | _, [], .nil => rfl
  | _, _ :: _, .cons (.bl _) r => by rw [FzAll.of_bls r]; rfl
end

/-! ### places and the store over a heap -/
def Rs (K : Fr) (B : Hp) (φ : Fi) (v : V) : SV → Prop
  | .d t => Fz K B v t
  | .l n => ∃ p, φ.r n = some p ∧ v = .ref p
inductive RsAll (K : Fr) (B : Hp) (φ : Fi) : List V → List SV → Prop
  | nil : RsAll K B φ [] []
  | cons {v : V} {vs : List V} {x : SV} {xs : List SV} : Rs K B φ v x → RsAll K B φ vs xs → RsAll K B φ (v :: vs) (x :: xs)
/-- what stands at a place of the store -/
def Ro (K : Fr) (B : Hp) (φ : Fi) : LO → Option HO → Prop
  | .gone, _ => True
  | .lst ts, u => ∃ vs, FzAll K B vs ts ∧ u = some (.lst vs)
  | .tp xs, u => ∃ vs, RsAll K B φ vs xs ∧ u = some (.tup vs)
  | .dK kvs, u => ∃ vs, FzAll K B vs (kvs.map (·.2)) ∧ u = some (.dK ((kvs.map (·.1)).zip vs))
  | .dT kvs, u => ∃ vs, FzAll K B vs (kvs.map (·.2)) ∧ u = some (.dT ((kvs.map (·.1)).zip vs))
  | .ll xs, u => ∃ vs, RsAll K B φ vs xs ∧ u = some (.lst vs)
  | .mK kvs, u => ∃ vs, RsAll K B φ vs (kvs.map (·.2)) ∧ u = some (.dK ((kvs.map (·.1)).zip vs))
  | .mT kvs, u => ∃ vs, RsAll K B φ vs (kvs.map (·.2)) ∧ u = some (.dT ((kvs.map (·.1)).zip vs))
  | .fK od vs kvs, u => RsAll K B φ vs (kvs.map (·.2)) ∧ u = some (.frz od (.dK ((kvs.map (·.1)).zip vs)))
  | .fT od vs kvs, u => RsAll K B φ vs (kvs.map (·.2)) ∧ u = some (.frz od (.dT ((kvs.map (·.1)).zip vs)))
  | .lK od vs kvs, u => FzAll K B vs (kvs.map (·.2)) ∧ u = some (.frz od (.dK ((kvs.map (·.1)).zip vs)))
  | .lT od vs kvs, u => FzAll K B vs (kvs.map (·.2)) ∧ u = some (.frz od (.dT ((kvs.map (·.1)).zip vs)))
  | .ins C j fs, u => ∃ vs dx, RsAll K B φ vs (fs.map (·.2)) ∧ φ.r j = some dx ∧ u = some (.ins C dx ((fs.map (·.1)).zip vs))
  | .own j, u => ∃ x, φ.r j = some x ∧ u = some (.own x)
  | .box _, _ => False
  | .pool _ _, _ => False
/-- a list, a dict of data -/
def LO.shl : LO → Bool
  | .lst _ => true
  | .dK _ => true
  | .dT _ => true
  | .lK _ _ _ => true
  | .lT _ _ _ => true
  | _ => false
/-- a record where it stands -/
def Po (K : Fr) (B H : Hp) (a : Addr) : PRec → Prop
  | .ins dx C fs => ∃ vs, FzAll K B vs (fs.map (·.2)) ∧ H a = some (.ins C dx ((fs.map (·.1)).zip vs)) ∧ H dx = some (.own a)
  | .lst ts => ∃ vs, FzAll K B vs ts ∧ H a = some (.lst vs)
def LO.is : LO → Bool
  | .gone => false
  | _ => true
/-- no box, not gone -/
def LO.smp : LO → Bool
  | .gone => false
  | .box _ => false
  | .pool _ _ => false
  | _ => true
/-- with what is within it -/
inductive Rc (K : Fr) (B H : Hp) : Fi → Ce → LO → Prop
  | gone {φ : Fi} {c : Ce} : Rc K B H φ c .gone
  | sim {φ : Fi} {c : Ce} {o : LO} : o.smp = true → c.io = [] → Ro K B φ o (H c.p) → Rc K B H φ c o
  | box {φ : Fi} {c : Ce} {st : List LO} (ψ : Fi) : c.al = adr ψ → ψ.length = st.length → (∀ (n : Nat) d o, ψ[n]? = some d → st[n]? = some o → o.is = true) → (∀ (n : Nat) d o, ψ[n]? = some d → st[n]? = some o → Rc K B H ψ d o) → Rc K B H φ c (.box st)
  | pool {φ : Fi} {c : Ce} {o : LO} {rs : List (Addr × PRec)} : o.shl = true → c.io = poolA rs → Ro K B φ o (H c.p) → (∀ r ∈ rs, Po K B H r.1 r.2) → Rc K B H φ c (.pool o rs)
/-- a tuple of whole numbers and texts (a dict's key) stands there: it may be data whoever made it -/
def kT (H : Hp) (a : Addr) : Prop := ∃ k : List Key, H a = some (.tup (k.map kV))
theorem kT_upd {H : Hp} {p a : Addr} {u : HO} (h : kT H a) (hp : H p = none) : kT (upd H p u) a := by
  obtain ⟨k, h⟩ := h
  exact ⟨k, by rw [upd_ne (ne_of_none h hp)]; exact h⟩
theorem kT_ne {H : Hp} {p a : Addr} {u : HO} (h : kT H a) (hp : a ≠ p) : kT (upd H p u) a := by
  obtain ⟨k, h⟩ := h
  exact ⟨k, by rw [upd_ne hp]; exact h⟩
theorem kT_no {H : Hp} {a : Addr} {o : HO} (e : H a = some o) (ho : ∀ xs : List V, o ≠ HO.tup xs) : ¬ kT H a := fun ⟨k, h⟩ => by rw [e] at h; exact ho _ (Option.some.inj h)
/-- how heap, data and store grow: what stood and isn't the store's stays; new things of the store are new -/
structure Gr (H B : Hp) (φ : Fi) (H' B' : Hp) (φ' : Fi) : Prop where
  eb : Ex B B'
  pf : ∃ r, φ'.map Ce.p = φ.map Ce.p ++ r
  kp : ∀ a o, H a = some o → a ∉ adr φ → H' a = some o
  nb : ∀ a, B a = none → H a ≠ none → a ∉ adr φ → B' a = none ∨ kT H a
  nf : ∀ a ∈ adr φ', a ∈ adr φ ∨ H a = none
abbrev MP := Hp → Hp → Fi → Prop
structure Re (K : Fr) (M : MP) (H B : Hp) (φ : Fi) (s : ST) : Prop where
  ex : Ex B H
  nd : (adr φ).Nodup
  len : φ.length = s.length
  al : ∀ p ∈ adr φ, H p ≠ none
  fr : ∀ (n : Nat) c o, φ[n]? = some c → s[n]? = some o → o.is = true → ∀ a ∈ c.al, B a = none ∨ kT H a
  ob : ∀ (n : Nat) c o, φ[n]? = some c → s[n]? = some o → Rc K B H φ c o
  pm : ∀ H' B' φ', Gr H B φ H' B' φ' → M H' B' φ'
/-- the slots -/
structure Rsl (K : Fr) (B : Hp) (φ : Fi) (σ : St) (δ : AS) : Prop where
  len : σ.length = δ.length
  at_ : ∀ (i : Nat) x, δ[i]? = some (some x) → ∃ v, σ[i]? = some (some v) ∧ Rs K B φ v x

section
variable {K : Fr} {M : MP} {H H' H2 B B' B2 : Hp} {φ φ' φ2 : Fi} {s s' : ST} {σ : St} {δ : AS} {v : V} {x : SV}
theorem r_app {φ : Fi} {n : Nat} {p : Addr} (r : Fi) (h : φ.r n = some p) : (φ ++ r).r n = some p := by
  obtain ⟨c, h1, rfl⟩ := Fi.r_inv h
  exact Fi.r_of (by rw [List.getElem?_append_left (List.getElem?_eq_some_iff.mp h1).1]; exact h1)
theorem r_map (φ : Fi) (n : Nat) : φ.r n = (φ.map Ce.p)[n]? := by unfold Fi.r; rw [List.getElem?_map]
theorem Gr.refl : Gr H B φ H B φ := ⟨Ex.refl B, ⟨[], by simp⟩, fun _ _ h _ => h, fun _ h _ _ => .inl h, fun _ h => Or.inl h⟩
theorem Gr.get (g : Gr H B φ H' B' φ') {n : Nat} {p : Addr} (h : φ.r n = some p) : φ'.r n = some p := by
  obtain ⟨r, e⟩ := g.pf
  rw [r_map] at h ⊢
  rw [e, List.getElem?_append_left (List.getElem?_eq_some_iff.mp h).1]
  exact h
theorem Gr.le (g : Gr H B φ H' B' φ') : φ.length ≤ φ'.length := by
  obtain ⟨r, e⟩ := g.pf
  have := congrArg List.length e
  rw [List.length_append, List.length_map, List.length_map] at this
  omega
theorem Gr.trans (g : Gr H B φ H' B' φ') (h : Gr H' B' φ' H2 B2 φ2) : Gr H B φ H2 B2 φ2 where
  eb := g.eb.trans h.eb
  pf := by
    obtain ⟨r, e⟩ := g.pf
    obtain ⟨r2, e2⟩ := h.pf
    exact ⟨r ++ r2, by rw [e2, e, List.append_assoc]⟩
  kp := fun a o ha hn => h.kp a o (g.kp a o ha hn) fun hm => by
    rcases g.nf a hm with z | z
    · exact hn z
    · rw [z] at ha; cases ha
  nb := fun a hb hh hn => by
    cases q : H a with
    | none => exact absurd q hh
    | some o =>
      rcases g.nb a hb hh hn with hb | hk
      rotate_left
      · exact .inr hk
      refine (h.nb a hb (by rw [g.kp a o q hn]; exact fun z => nomatch z) fun hm => ?_).imp id fun ⟨k, z⟩ => ⟨k, by rw [g.kp a o q hn, ← q] at z; exact z⟩
      rcases g.nf a hm with z | z
      · exact hn z
      · exact hh z
  nf := fun a hm => by
    rcases h.nf a hm with z | z
    · exact g.nf a z
    · by_cases hn : a ∈ adr φ
      · exact Or.inl hn
      · refine Or.inr ?_
        cases q : H a with
        | none => rfl
        | some o =>
          rw [g.kp a o q hn] at z
          cases z
/-- places and data as they are, or more -/
structure Mo (B : Hp) (φ : Fi) (B' : Hp) (φ' : Fi) : Prop where
  eb : Ex B B'
  rt : ∀ (n : Nat) p, φ.r n = some p → φ'.r n = some p
theorem Gr.mo (g : Gr H B φ H' B' φ') : Mo B φ B' φ' := ⟨g.eb, fun _ _ h => g.get h⟩
theorem Mo.refl : Mo B φ B φ := ⟨Ex.refl B, fun _ _ h => h⟩
theorem Mo.trans (a : Mo B φ B' φ') (b : Mo B' φ' B2 φ2) : Mo B φ B2 φ2 := ⟨a.eb.trans b.eb, fun n p h => b.rt n p (a.rt n p h)⟩
theorem Rs.mo (g : Mo B φ B' φ') (h : Rs K B φ v x) : Rs K B' φ' v x := by
  cases x with
  | d t => exact Fz.mono g.eb h
  | l n =>
    obtain ⟨p, h1, h2⟩ := h
    exact ⟨p, g.rt n p h1, h2⟩
theorem RsAll.mo (g : Mo B φ B' φ') : ∀ {vs : List V} {xs : List SV}, RsAll K B φ vs xs → RsAll K B' φ' vs xs
  | _, _, .nil => .nil
  | _, _, .cons h r => .cons (h.mo g) (RsAll.mo g r)
theorem Rs.mono (g : Gr H B φ H' B' φ') (h : Rs K B φ v x) : Rs K B' φ' v x := h.mo g.mo
theorem RsAll.mono (g : Gr H B φ H' B' φ') {vs : List V} {xs : List SV} (h : RsAll K B φ vs xs) : RsAll K B' φ' vs xs := h.mo g.mo
theorem RsAll.length : ∀ {vs : List V} {xs : List SV}, RsAll K B φ vs xs → vs.length = xs.length
  | _, _, .nil => rfl
  | _, _, .cons _ r => congrArg Nat.succ (RsAll.length r)
theorem RsAll.get' : ∀ {vs : List V} {ts : List SV} {i : Nat} {t : SV}, RsAll K B φ vs ts → ts[i]? = some t → ∃ v, vs[i]? = some v ∧ Rs K B φ v t
  | _, _, _, _, .nil, e => by simp at e
  | _, _, 0, _, .cons h _, e => by simp at e; subst e; exact ⟨_, rfl, h⟩
  | _, _, i + 1, v, .cons _ r, e => by
    obtain ⟨t, h1, h2⟩ := RsAll.get' (i := i) (t := v) r (by simpa using e)
    exact ⟨t, by simpa using h1, h2⟩
theorem RsAll.get : ∀ {vs : List V} {ts : List SV} {i : Nat} {v : V}, RsAll K B φ vs ts → vs[i]? = some v → ∃ t, ts[i]? = some t ∧ Rs K B φ v t
  | _, _, _, _, .nil, e => by simp at e
  | _, _, 0, _, .cons h _, e => by simp at e; subst e; exact ⟨_, rfl, h⟩
  | _, _, i + 1, v, .cons _ r, e => by
    obtain ⟨t, h1, h2⟩ := RsAll.get (i := i) (v := v) r (by simpa using e)
    exact ⟨t, by simpa using h1, h2⟩
/-- all of them data -/
def dats : List SV → Option (List T)
  | [] => some []
  | .d t :: r => (dats r).map (t :: ·)
  | .l _ :: _ => none
theorem RsAll.dats : ∀ {vs : List V} {xs : List SV} {ts : List T}, RsAll K B φ vs xs → Lv.dats xs = some ts → FzAll K B vs ts
  | _, _, ts, .nil, e => by cases e; exact .nil
  | _, .d t :: xs, ts, .cons h r, e => by
    unfold Lv.dats at e
    cases q : Lv.dats xs with
    | none => rw [q] at e; cases e
    | some us =>
      rw [q] at e
      cases e
      exact .cons h (RsAll.dats r q)
  | _, .l _ :: _, ts, .cons h r, e => by cases e
theorem RsAll.of_fz : ∀ {vs : List V} {ts : List T}, FzAll K B vs ts → RsAll K B φ vs (ts.map SV.d)
  | _, _, .nil => .nil
  | _, _, .cons h r => .cons h (RsAll.of_fz r)
theorem Rsl.mo (g : Mo B φ B' φ') (h : Rsl K B φ σ δ) : Rsl K B' φ' σ δ :=
  ⟨h.len, fun i x e => let ⟨v, e1, r⟩ := h.at_ i x e; ⟨v, e1, r.mo g⟩⟩
theorem Rsl.mono (g : Gr H B φ H' B' φ') (h : Rsl K B φ σ δ) : Rsl K B' φ' σ δ := h.mo g.mo
theorem Rsl.set (h : Rsl K B φ σ δ) (i : Nat) (r : Rs K B φ v x) : Rsl K B φ (σ.set i (some v)) (δ.set i (some x)) := by
  refine ⟨by rw [List.length_set, List.length_set]; exact h.len, fun j y e => ?_⟩
  by_cases hij : i = j
  · subst hij
    have hl : i < δ.length := by
      have := (List.getElem?_eq_some_iff.mp e).1
      rwa [List.length_set] at this
    rw [List.getElem?_set_self hl] at e
    cases e
    exact ⟨v, by rw [List.getElem?_set_self (by rw [h.len]; exact hl)], r⟩
  · rw [List.getElem?_set_ne hij] at e
    obtain ⟨w, e1, r1⟩ := h.at_ j y e
    exact ⟨w, by rw [List.getElem?_set_ne hij]; exact e1, r1⟩
/-- forgetting slots -/
theorem Rsl.weak {δ' : AS} (h : Rsl K B φ σ δ) (hl : δ'.length = δ.length) (w : ∀ (i : Nat) x, δ'[i]? = some (some x) → δ[i]? = some (some x)) : Rsl K B φ σ δ' :=
  ⟨h.len.trans hl.symm, fun i x e => h.at_ i x (w i x e)⟩

theorem Ro.mo (g : Mo B φ B' φ') {o : LO} {u : Option HO} (h : Ro K B φ o u) : Ro K B' φ' o u := by
  cases o with
  | gone => trivial
  | lst ts => obtain ⟨vs, h1, h2⟩ := h; exact ⟨vs, h1.mono g.eb, h2⟩
  | tp xs => obtain ⟨vs, h1, h2⟩ := h; exact ⟨vs, h1.mo g, h2⟩
  | dK kvs => obtain ⟨vs, h1, h2⟩ := h; exact ⟨vs, h1.mono g.eb, h2⟩
  | dT kvs => obtain ⟨vs, h1, h2⟩ := h; exact ⟨vs, h1.mono g.eb, h2⟩
  | ll xs => obtain ⟨vs, h1, h2⟩ := h; exact ⟨vs, h1.mo g, h2⟩
  | mK kvs => obtain ⟨vs, h1, h2⟩ := h; exact ⟨vs, h1.mo g, h2⟩
  | mT kvs => obtain ⟨vs, h1, h2⟩ := h; exact ⟨vs, h1.mo g, h2⟩
  | fK od vs kvs => obtain ⟨h1, h2⟩ := h; exact ⟨h1.mo g, h2⟩
  | fT od vs kvs => obtain ⟨h1, h2⟩ := h; exact ⟨h1.mo g, h2⟩
  | lK od vs kvs => obtain ⟨h1, h2⟩ := h; exact ⟨h1.mono g.eb, h2⟩
  | lT od vs kvs => obtain ⟨h1, h2⟩ := h; exact ⟨h1.mono g.eb, h2⟩
  | ins C j fs => obtain ⟨vs, dx, h1, h2, h3⟩ := h; exact ⟨vs, dx, h1.mo g, g.rt _ _ h2, h3⟩
  | own j => obtain ⟨x, h1, h2⟩ := h; exact ⟨x, g.rt _ _ h1, h2⟩
  | box _ => exact h.elim
  | pool _ _ => exact h.elim
theorem Po.mo (e : Ex B B') {a : Addr} {r : PRec} (h : Po K B H a r) (k : ∀ x ∈ r.al a, H' x = H x) : Po K B' H' a r := by
  cases r with
  | ins dx C fs =>
    obtain ⟨vs, h1, h2, h3⟩ := h
    exact ⟨vs, h1.mono e, by rw [k a (by simp [PRec.al])]; exact h2, by rw [k dx (by simp [PRec.al])]; exact h3⟩
  | lst ts =>
    obtain ⟨vs, h1, h2⟩ := h
    exact ⟨vs, h1.mono e, by rw [k a (by simp [PRec.al])]; exact h2⟩
theorem Ro.shl {φ φ' : Fi} {o : LO} {u : Option HO} (h : Ro K B φ o u) (w : o.shl = true) : Ro K B φ' o u := by
  cases o with
  | lst ts => exact h
  | dK kvs => exact h
  | dT kvs => exact h
  | lK _ _ _ => exact h
  | lT _ _ _ => exact h
  | _ => cases w
theorem poolA_mem {rs : List (Addr × PRec)} {r : Addr × PRec} {a : Addr} (h : r ∈ rs) (ha : a ∈ r.2.al r.1) : a ∈ poolA rs := List.mem_flatMap.mpr ⟨r, h, ha⟩
theorem Ro.mono (g : Gr H B φ H' B' φ') {o : LO} {u : Option HO} (h : Ro K B φ o u) : Ro K B' φ' o u := h.mo g.mo
theorem Rc.mo {c : Ce} {o : LO} (h : Rc K B H φ c o) : ∀ {B' : Hp} {φ' : Fi} {H' : Hp}, Mo B φ B' φ' → (∀ a ∈ c.al, H' a = H a) → Rc K B' H' φ' c o := by
  induction h with
  | gone => intro B' φ' H' _ _; exact .gone
  | sim h1 h2 h3 => intro B' φ' H' g e; exact .sim h1 h2 (by rw [e _ (Ce.mem _)]; exact h3.mo g)
  | @box φ c st ψ h1 h2 h3 h4 ih =>
    intro B' φ' H' g e
    refine .box ψ h1 h2 h3 fun n d o q1 q2 => ih n d o q1 q2 ⟨g.eb, fun _ _ h => h⟩ fun a ha => e a ?_
    rw [h1]; exact adr_mem q1 ha
  | pool h1 h2 h3 h4 =>
    intro B' φ' H' g e
    exact .pool h1 h2 (by rw [e _ (Ce.mem _)]; exact h3.mo g) fun r hr => (h4 r hr).mo g.eb fun x hx => e x (List.mem_cons_of_mem _ (by rw [h2]; exact poolA_mem hr hx))
theorem Ro.some {o : LO} {u : Option HO} (h : Ro K B φ o u) (i : o.is = true) : ∃ w, u = some w := by
  cases o with
  | gone => cases i
  | lst ts => obtain ⟨vs, h1, h2⟩ := h; exact ⟨_, h2⟩
  | tp xs => obtain ⟨vs, h1, h2⟩ := h; exact ⟨_, h2⟩
  | dK kvs => obtain ⟨vs, h1, h2⟩ := h; exact ⟨_, h2⟩
  | dT kvs => obtain ⟨vs, h1, h2⟩ := h; exact ⟨_, h2⟩
  | ll xs => obtain ⟨vs, h1, h2⟩ := h; exact ⟨_, h2⟩
  | mK kvs => obtain ⟨vs, h1, h2⟩ := h; exact ⟨_, h2⟩
  | mT kvs => obtain ⟨vs, h1, h2⟩ := h; exact ⟨_, h2⟩
  | fK od vs kvs => obtain ⟨h1, h2⟩ := h; exact ⟨_, h2⟩
  | fT od vs kvs => obtain ⟨h1, h2⟩ := h; exact ⟨_, h2⟩
  | lK od vs kvs => obtain ⟨h1, h2⟩ := h; exact ⟨_, h2⟩
  | lT od vs kvs => obtain ⟨h1, h2⟩ := h; exact ⟨_, h2⟩
  | ins C j fs => obtain ⟨vs, dx, h1, h2, h3⟩ := h; exact ⟨_, h3⟩
  | own j => obtain ⟨x, h1, h2⟩ := h; exact ⟨_, h2⟩
  | box _ => exact h.elim
  | pool _ _ => exact h.elim
theorem smp_is {o : LO} (h : o.smp = true) : o.is = true := by cases o <;> first | rfl | cases h
theorem Re.none_b (e : Re K M H B φ s) {p : Addr} (h : H p = none) : B p = none := by
  cases q : B p with
  | none => rfl
  | some o => rw [e.ex p o q] at h; cases h
theorem Rc.simp_ {c : Ce} {o : LO} (h : Rc K B H φ c o) (w : o.smp = true) : c = one c.p ∧ Ro K B φ o (H c.p) := by
  cases h with
  | gone => cases w
  | sim _ h2 h3 => exact ⟨by cases c; cases h2; rfl, h3⟩
  | box => cases w
  | pool => cases w
/-- a thing that is no box, where it stands -/
theorem Re.at_ (e : Re K M H B φ s) {n : Nat} {o : LO} (h : s[n]? = some o) (w : o.smp = true := by rfl) : ∃ p, φ[n]? = some (one p) ∧ Ro K B φ o (H p) := by
  have hl : n < φ.length := by rw [e.len]; exact (List.getElem?_eq_some_iff.mp h).1
  have hc : φ[n]? = some φ[n] := List.getElem?_eq_getElem hl
  obtain ⟨h1, h2⟩ := (e.ob n _ o hc h).simp_ w
  exact ⟨φ[n].p, by rw [← h1]; exact hc, h2⟩
/-- what may change -/
def LO.mt : LO → Bool
  | .tp _ => false
  | .gone => false
  | .box _ => false
  | .pool _ _ => false
  | _ => true
theorem mt_smp {o : LO} (h : o.mt = true) : o.smp = true := by cases o <;> first | rfl | cases h
theorem Ro.mt {o : LO} {u : Option HO} (h : Ro K B φ o u) (m : o.mt = true) : ∃ w : HO, u = Option.some w ∧ ∀ xs : List V, w ≠ HO.tup xs := by
  cases o with
  | gone => cases m
  | tp _ => cases m
  | lst ts => obtain ⟨vs, h1, h2⟩ := h; exact ⟨_, h2, fun _ e => by cases e⟩
  | dK ts => obtain ⟨vs, h1, h2⟩ := h; exact ⟨_, h2, fun _ e => by cases e⟩
  | dT ts => obtain ⟨vs, h1, h2⟩ := h; exact ⟨_, h2, fun _ e => by cases e⟩
  | ll ts => obtain ⟨vs, h1, h2⟩ := h; exact ⟨_, h2, fun _ e => by cases e⟩
  | mK ts => obtain ⟨vs, h1, h2⟩ := h; exact ⟨_, h2, fun _ e => by cases e⟩
  | mT ts => obtain ⟨vs, h1, h2⟩ := h; exact ⟨_, h2, fun _ e => by cases e⟩
  | fK _ _ _ => obtain ⟨h1, h2⟩ := h; exact ⟨_, h2, fun _ e => by cases e⟩
  | fT _ _ _ => obtain ⟨h1, h2⟩ := h; exact ⟨_, h2, fun _ e => by cases e⟩
  | lK _ _ _ => obtain ⟨h1, h2⟩ := h; exact ⟨_, h2, fun _ e => by cases e⟩
  | lT _ _ _ => obtain ⟨h1, h2⟩ := h; exact ⟨_, h2, fun _ e => by cases e⟩
  | ins C j fs => obtain ⟨vs, dx, h1, h2, h3⟩ := h; exact ⟨_, h3, fun _ e => by cases e⟩
  | own j => obtain ⟨x, h1, h2⟩ := h; exact ⟨_, h2, fun _ e => by cases e⟩
  | box _ => cases m
  | pool _ _ => cases m
theorem Re.frN (e : Re K M H B φ s) {n : Nat} {c : Ce} {o : LO} {a : Addr} {u : HO} (h1 : φ[n]? = some c) (h2 : s[n]? = some o) (h3 : o.is = true) (ha : a ∈ c.al) (hu : H a = some u) (hn : ∀ xs : List V, u ≠ HO.tup xs) : B a = none := (e.fr n c o h1 h2 h3 a ha).resolve_right (kT_no hu hn)
theorem Re.fr1 (e : Re K M H B φ s) {n : Nat} {p : Addr} {o : LO} (h1 : φ[n]? = some (one p)) (h2 : s[n]? = some o) (h3 : o.mt = true) : B p = none := by
  obtain ⟨q, hq, ro⟩ := e.at_ h2 (mt_smp h3)
  rw [h1] at hq
  cases hq
  obtain ⟨w, e1, e2⟩ := ro.mt h3
  exact e.frN h1 h2 (smp_is (mt_smp h3)) (Ce.mem _) e1 e2
theorem Gr.nbN (g : Gr H B φ H' B' φ') {a : Addr} {u : HO} (h : B a = none) (hu : H a = some u) (hn : ∀ xs : List V, u ≠ HO.tup xs) (ha : a ∉ adr φ) : B' a = none := (g.nb a h (by rw [hu]; exact fun z => nomatch z) ha).resolve_right (kT_no hu hn)
theorem Re.top (e : Re K M H B φ s) (p : Addr) : Fi.r (φ ++ [one p]) s.length = some p := Fi.r_of (c := one p) (by rw [List.getElem?_append_right (by rw [e.len]; exact Nat.le_refl _), e.len, Nat.sub_self]; rfl)
theorem Rs.at_ {p : Addr} {n : Nat} (r : Rs K B φ v (.l n)) (h : φ[n]? = some (one p)) : v = .ref p := by
  obtain ⟨q, h1, h2⟩ := r
  rw [Fi.r_of h] at h1
  cases h1
  exact h2

/-- a new thing that is data from now on -/
theorem Re.newD (e : Re K M H B φ s) {p : Addr} (o : HO) (h : H p = none) : Gr H B φ (upd H p o) (upd B p o) φ ∧ Re K M (upd H p o) (upd B p o) φ s := by
  have hp : p ∉ adr φ := fun z => e.al p z h
  have hB := e.none_b h
  have eb : Ex B (upd B p o) := fun a u q => by rw [upd_ne (ne_of_none q hB)]; exact q
  have g : Gr H B φ (upd H p o) (upd B p o) φ := by
    refine ⟨eb, ⟨[], by simp⟩, fun a u q _ => by rw [upd_ne (ne_of_none q h)]; exact q, fun a q1 q2 q3 => ?_, fun _ z => Or.inl z⟩
    have hne : a ≠ p := fun z => q2 (by rw [z]; exact h)
    rw [upd_ne hne]; exact .inl q1
  have pn : ∀ (n : Nat) c a, φ[n]? = some c → a ∈ c.al → a ≠ p := fun n c a z y w => hp (by rw [← w]; exact adr_mem z y)
  refine ⟨g, ⟨fun a u q => ?_, e.nd, e.len, fun a z w => e.al a z (by rw [upd_ne (show a ≠ p from fun y => hp (by rw [← y]; exact z))] at w; exact w), fun n c u h1 h2 h3 a ha => by rw [upd_ne (pn n c a h1 ha)]; exact (e.fr n c u h1 h2 h3 a ha).imp id fun z => kT_upd z h, fun n c u h1 h2 => ?_, fun H' B' φ' g' => e.pm _ _ _ (g.trans g')⟩⟩
  · by_cases hne : a = p
    · subst hne; rw [upd_same] at q ⊢; exact q
    · rw [upd_ne hne] at q ⊢; exact e.ex a u q
  · exact (e.ob n c u h1 h2).mo g.mo fun a ha => upd_ne (pn n c a h1 ha)
/-- a new thing of the store -/
theorem Re.newL (e : Re K M H B φ s) {p : Addr} (u : HO) (o : LO) (h : H p = none) (ho : Ro K B φ o (some u)) (w : o.smp = true := by rfl) : Gr H B φ (upd H p u) B (φ ++ [one p]) ∧ Re K M (upd H p u) B (φ ++ [one p]) (s ++ [o]) := by
  have hp : p ∉ adr φ := fun z => e.al p z h
  have hB := e.none_b h
  have ea : adr (φ ++ [one p]) = adr φ ++ [p] := by rw [adr_app]; rfl
  have g : Gr H B φ (upd H p u) B (φ ++ [one p]) := by
    refine ⟨Ex.refl B, ⟨[p], by rw [List.map_append]; rfl⟩, fun a w q _ => by rw [upd_ne (ne_of_none q h)]; exact q, fun a q1 _ _ => .inl q1, fun a z => ?_⟩
    rw [ea] at z
    rcases List.mem_append.mp z with z | z
    · exact Or.inl z
    · have : a = p := by simpa using z
      exact Or.inr (by rw [this]; exact h)
  have pn : ∀ (n : Nat) c a, φ[n]? = some c → a ∈ c.al → a ≠ p := fun n c a z y w => hp (by rw [← w]; exact adr_mem z y)
  refine ⟨g, ⟨fun a w q => by rw [upd_ne (ne_of_none q hB)]; exact e.ex a w q, ?_, by rw [List.length_append, List.length_append, e.len]; rfl, fun a z w => ?_, fun n c w h1 h2 h3 a ha => ?_, fun n c w' h1 h2 => ?_, fun H' B' φ' g' => e.pm _ _ _ (g.trans g')⟩⟩
  · rw [ea]
    refine List.nodup_append.mpr ⟨e.nd, by simp, fun a ha b hb z => hp ?_⟩
    have hb' : b = p := by simpa using hb
    rw [← hb', ← z]
    exact ha
  · by_cases hne : a = p
    · rw [hne, upd_same] at w; cases w
    · rw [upd_ne hne] at w
      rw [ea] at z
      rcases List.mem_append.mp z with z | z
      · exact e.al a z w
      · exact hne (by simpa using z)
  · by_cases hn : n < φ.length
    · rw [List.getElem?_append_left hn] at h1
      rw [List.getElem?_append_left (by rw [← e.len]; exact hn)] at h2
      exact (e.fr n c w h1 h2 h3 a ha).imp id fun z => kT_upd z h
    · rw [List.getElem?_append_right (by omega)] at h1
      have hq : c = one p := by
        have hz : n - φ.length = 0 := by
          have := (List.getElem?_eq_some_iff.mp h1).1
          simp at this
          omega
        rw [hz] at h1
        simp at h1
        exact h1.symm
      rw [hq] at ha
      have : a = p := by simpa [Ce.al] using ha
      rw [this]; exact .inl hB
  · by_cases hn : n < φ.length
    · rw [List.getElem?_append_left hn] at h1
      rw [List.getElem?_append_left (by rw [← e.len]; exact hn)] at h2
      exact (e.ob n c w' h1 h2).mo g.mo fun a ha => upd_ne (pn n c a h1 ha)
    · have hn' := hn
      rw [e.len] at hn'
      rw [List.getElem?_append_right (by omega)] at h1 h2
      have hz : n - φ.length = 0 := by
        have := (List.getElem?_eq_some_iff.mp h1).1
        simp at this
        omega
      have hz2 : n - s.length = 0 := by rw [← e.len]; exact hz
      rw [hz] at h1
      rw [hz2] at h2
      simp at h1 h2
      subst h1; subst h2
      exact .sim w rfl (by show Ro _ _ _ _ (upd H p u p); rw [upd_same]; exact ho.mono g)
/-- a thing of the store is changed -/
theorem Re.set (e : Re K M H B φ s) {n : Nat} {p : Addr} (u : HO) (o : LO) (h : φ[n]? = some (one p)) (hB : B p = none) (ho : Ro K B φ o (some u)) (w : o.smp = true := by rfl) : Gr H B φ (upd H p u) B φ ∧ Re K M (upd H p u) B φ (s.set n o) := by
  have g : Gr H B φ (upd H p u) B φ := by
    refine ⟨Ex.refl B, ⟨[], by simp⟩, fun a w q hn => ?_, fun a q1 _ _ => .inl q1, fun a z => Or.inl z⟩
    have : a ≠ p := fun z => hn (by rw [z]; exact adr_p h)
    rw [upd_ne this]; exact q
  refine ⟨g, ⟨fun a w q => by rw [upd_ne (ne_of_none q hB)]; exact e.ex a w q, e.nd, by rw [List.length_set]; exact e.len, fun a z w => ?_, fun m c w h1 h2 h3 a ha => ?_, fun m c w' h1 h2 => ?_, fun H' B' φ' g' => e.pm _ _ _ (g.trans g')⟩⟩
  · by_cases hne : a = p
    · rw [hne, upd_same] at w; cases w
    · rw [upd_ne hne] at w; exact e.al a z w
  · by_cases hm : n = m
    · subst hm; rw [h] at h1; cases h1
      have : a = p := by simpa [Ce.al] using ha
      rw [this]; exact .inl hB
    · rw [List.getElem?_set_ne hm] at h2
      exact (e.fr m c w h1 h2 h3 a ha).imp id fun z => kT_ne z fun y => hm (adr_nd e.nd h h1 (a := p) (Ce.mem _) (by rw [← y]; exact ha))
  · by_cases hm : n = m
    · subst hm
      rw [h] at h1; cases h1
      have hl : n < s.length := by rw [← e.len]; exact (List.getElem?_eq_some_iff.mp h).1
      rw [List.getElem?_set_self hl] at h2
      cases h2
      exact .sim w rfl (by show Ro _ _ _ _ (upd H p u p); rw [upd_same]; exact ho)
    · rw [List.getElem?_set_ne hm] at h2
      refine (e.ob m c w' h1 h2).mo .refl fun a ha => upd_ne fun z => hm (adr_nd e.nd h h1 (a := p) (Ce.mem _) (by rw [← z]; exact ha))
/-- things of the store that nothing needs any more: no older thing leans on them -/
def loV (k : Nat) (x : SV) : Bool := match x with | .d _ => true | .l n => decide (n < k)
def clO (k : Nat) : LO → Bool
  | .tp xs => xs.all (loV k)
  | .ll xs => xs.all (loV k)
  | .mK kvs => (kvs.map (·.2)).all (loV k)
  | .mT kvs => (kvs.map (·.2)).all (loV k)
  | .fK _ _ kvs => (kvs.map (·.2)).all (loV k)
  | .fT _ _ kvs => (kvs.map (·.2)).all (loV k)
  | .ins _ j fs => decide (j < k) && (fs.map (·.2)).all (loV k)
  | .own j => decide (j < k)
  | _ => true
theorem r_take {k n : Nat} {p : Addr} (h : φ.r n = some p) (hn : n < k) : Fi.r (φ.take k) n = some p := by
  unfold Fi.r at h ⊢
  rw [List.getElem?_take_of_lt hn]; exact h
theorem RsAll.low {k : Nat} : ∀ {vs : List V} {xs : List SV}, RsAll K B φ vs xs → xs.all (loV k) = true → RsAll K B (φ.take k) vs xs
  | _, _, .nil, _ => .nil
  | _, x :: xs, .cons h r, q => by
    rw [List.all_cons, Bool.and_eq_true] at q
    refine .cons ?_ (RsAll.low r q.2)
    cases x with
    | d t => exact h
    | l n =>
      obtain ⟨p, h1, h2⟩ := h
      exact ⟨p, r_take h1 (of_decide_eq_true q.1), h2⟩
theorem Ro.low {k : Nat} {o : LO} {u : Option HO} (h : Ro K B φ o u) (c : clO k o = true) : Ro K B (φ.take k) o u := by
  cases o with
  | gone => trivial
  | lst ts => exact h
  | tp xs => obtain ⟨vs, h1, h2⟩ := h; exact ⟨vs, h1.low c, h2⟩
  | dK kvs => exact h
  | dT kvs => exact h
  | ll xs => obtain ⟨vs, h1, h2⟩ := h; exact ⟨vs, h1.low c, h2⟩
  | mK xs => obtain ⟨vs, h1, h2⟩ := h; exact ⟨vs, h1.low c, h2⟩
  | mT xs => obtain ⟨vs, h1, h2⟩ := h; exact ⟨vs, h1.low c, h2⟩
  | fK od vs xs => obtain ⟨h1, h2⟩ := h; exact ⟨h1.low c, h2⟩
  | fT od vs xs => obtain ⟨h1, h2⟩ := h; exact ⟨h1.low c, h2⟩
  | lK od vs xs => exact h
  | lT od vs xs => exact h
  | ins C j fs =>
    obtain ⟨vs, dx, h1, h2, h3⟩ := h
    have c := Bool.and_eq_true_iff.mp c
    exact ⟨vs, dx, h1.low c.2, r_take h2 (of_decide_eq_true c.1), h3⟩
  | own j => obtain ⟨x, h1, h2⟩ := h; exact ⟨x, r_take h1 (of_decide_eq_true c), h2⟩
  | box _ => exact h.elim
  | pool _ _ => exact h.elim
theorem Rc.re {c : Ce} {o : LO} (h : Rc K B H φ c o) (f : ∀ u, Ro K B φ o u → Ro K B φ' o u) : Rc K B H φ' c o := by
  cases h with
  | gone => exact .gone
  | sim h1 h2 h3 => exact .sim h1 h2 (f _ h3)
  | box ψ h1 h2 h3 h4 => exact .box ψ h1 h2 h3 h4
  | pool h1 h2 h3 h4 => exact .pool h1 h2 (h3.shl h1) h4
theorem adr_take (k : Nat) : ∀ a ∈ adr (φ.take k), a ∈ adr φ := fun a ha => by
  obtain ⟨c, hc, h⟩ := List.mem_flatMap.mp ha
  exact List.mem_flatMap.mpr ⟨c, List.mem_of_mem_take hc, h⟩
theorem adr_take_nd (k : Nat) (h : (adr φ).Nodup) : (adr (φ.take k)).Nodup := by
  have e : adr φ = adr (φ.take k) ++ adr (φ.drop k) := by rw [← adr_app, List.take_append_drop]
  rw [e] at h
  exact (List.nodup_append.mp h).1
theorem Re.take (e : Re K M H B φ s) (g : Gr H' B' φ' H B φ) (e0 : Re K M H' B' φ' s') {k : Nat} (hk : φ'.length ≤ k) (hk2 : k ≤ φ.length) (c : (s.take k).all (clO k) = true) :
    Gr H' B' φ' H B (φ.take k) ∧ Re K M H B (φ.take k) (s.take k) := by
  have g2 : Gr H' B' φ' H B (φ.take k) := by
    refine ⟨g.eb, ?_, g.kp, g.nb, fun a z => g.nf a (adr_take k a z)⟩
    obtain ⟨r, er⟩ := g.pf
    refine ⟨r.take (k - φ'.length), ?_⟩
    rw [List.map_take, er, List.take_append, List.length_map]
    rw [List.take_of_length_le (by rw [List.length_map]; exact hk)]
  refine ⟨g2, ⟨e.ex, adr_take_nd k e.nd, by rw [List.length_take, List.length_take, e.len], fun a z => e.al a (adr_take k a z), fun n p o h1 h2 h3 => ?_, fun n p o h1 h2 => ?_, fun H3 B3 φ3 g3 => e0.pm _ _ _ (g2.trans g3)⟩⟩
  · have hn : n < k := by
      have := (List.getElem?_eq_some_iff.mp h1).1
      rw [List.length_take] at this
      omega
    rw [List.getElem?_take_of_lt hn] at h1 h2
    exact e.fr n p o h1 h2 h3
  · have hn : n < k := by
      have := (List.getElem?_eq_some_iff.mp h1).1
      rw [List.length_take] at this
      omega
    have hm : o ∈ s.take k := List.mem_of_getElem? h2
    rw [List.getElem?_take_of_lt hn] at h1 h2
    exact (e.ob n p o h1 h2).re fun u h => h.low (List.all_eq_true.mp c o hm)
/-- one more at the end -/
theorem Re.snoc2 {M' : MP} {c : Ce} {o : LO} (re : Re K M' H B φ s) (g : Gr H' B' φ' H B φ) (e0 : Re K M H' B' φ' s') (nf : ∀ a ∈ c.al, a ∈ adr φ' ∨ H' a = none) (out : ∀ a ∈ c.al, a ∉ adr φ) (nd : c.al.Nodup) (al : ∀ a ∈ c.al, H a ≠ none)
    (nb : o.is = true → ∀ a ∈ c.al, B a = none ∨ kT H a) (ob : Rc K B H (φ ++ [c]) c o) : Gr H' B' φ' H B (φ ++ [c]) ∧ Re K M H B (φ ++ [c]) (s ++ [o]) := by
  have ea : adr (φ ++ [c]) = adr φ ++ c.al := by rw [adr_app]; show adr φ ++ (c.al ++ []) = _; rw [List.append_nil]
  have g2 : Gr H' B' φ' H B (φ ++ [c]) := by
    obtain ⟨r, er⟩ := g.pf
    refine ⟨g.eb, ⟨r ++ [c.p], by rw [List.map_append, er, List.append_assoc]; rfl⟩, g.kp, g.nb, fun a z => ?_⟩
    rw [ea] at z
    rcases List.mem_append.mp z with z | z
    · exact g.nf a z
    · exact nf a z
  have mo : Mo B φ B (φ ++ [c]) := ⟨Ex.refl B, fun _ _ h => r_app _ h⟩
  refine ⟨g2, ⟨re.ex, ?_, by rw [List.length_append, List.length_append, re.len]; rfl, fun p hp => ?_, fun m q o h1 h2 h3 => ?_, fun m q o h1 h2 => ?_, fun H3 B3 φ3 g3 => e0.pm _ _ _ (g2.trans g3)⟩⟩
  · rw [ea]
    exact List.nodup_append.mpr ⟨re.nd, nd, fun a ha b hb z => out b hb (z ▸ ha)⟩
  · rw [ea] at hp
    rcases List.mem_append.mp hp with z | z
    · exact re.al p z
    · exact al p z
  · by_cases hm : m < φ.length
    · rw [List.getElem?_append_left hm] at h1
      rw [List.getElem?_append_left (by rw [← re.len]; exact hm)] at h2
      exact re.fr m q o h1 h2 h3
    · have hm2 := hm
      rw [re.len] at hm2
      rw [List.getElem?_append_right (by omega)] at h1 h2
      have hz : m - φ.length = 0 := by
        have := (List.getElem?_eq_some_iff.mp h1).1
        simp at this
        omega
      rw [hz] at h1
      rw [show m - s.length = 0 by rw [← re.len]; exact hz] at h2
      simp at h1 h2
      subst h1; subst h2
      exact nb h3
  · by_cases hm : m < φ.length
    · rw [List.getElem?_append_left hm] at h1
      rw [List.getElem?_append_left (by rw [← re.len]; exact hm)] at h2
      exact (re.ob m q o h1 h2).mo mo fun _ _ => rfl
    · have hm2 := hm
      rw [re.len] at hm2
      rw [List.getElem?_append_right (by omega)] at h1 h2
      have hz : m - φ.length = 0 := by
        have := (List.getElem?_eq_some_iff.mp h1).1
        simp at this
        omega
      rw [hz] at h1
      rw [show m - s.length = 0 by rw [← re.len]; exact hz] at h2
      simp at h1 h2
      subst h1; subst h2
      exact ob
theorem Re.snoc {M' : MP} {c : Ce} {o : LO} (re : Re K M' H B φ s) (g : Gr H' B' φ' H B φ) (e0 : Re K M H' B' φ' s') (nf : ∀ a ∈ c.al, a ∈ adr φ' ∨ H' a = none) (out : ∀ a ∈ c.al, a ∉ adr φ) (nd : c.al.Nodup) (al : ∀ a ∈ c.al, H a ≠ none)
    (nb : o.is = true → ∀ a ∈ c.al, B a = none) (ob : Rc K B H (φ ++ [c]) c o) : Gr H' B' φ' H B (φ ++ [c]) ∧ Re K M H B (φ ++ [c]) (s ++ [o]) := re.snoc2 g e0 nf out nd al (fun h a ha => .inl (nb h a ha)) ob
theorem ce_nd : ∀ {φ : Fi} {n : Nat} {c : Ce}, (adr φ).Nodup → φ[n]? = some c → c.al.Nodup
  | [], _, _, _, h => by cases h
  | e :: φ, 0, c, nd, h => by
    cases (show e = c from Option.some.inj h)
    rw [adr_cons, List.nodup_append] at nd
    exact nd.1
  | e :: φ, n + 1, c, nd, h => by
    rw [adr_cons, List.nodup_append] at nd
    exact ce_nd (φ := φ) nd.2.1 h
theorem adr_nd_of : ∀ {φ : Fi}, (∀ (n : Nat) c, φ[n]? = some c → c.al.Nodup) → (∀ (i j : Nat) c d a, φ[i]? = some c → φ[j]? = some d → a ∈ c.al → a ∈ d.al → i = j) → (adr φ).Nodup
  | [], _, _ => List.nodup_nil
  | e :: φ, h1, h2 => by
    rw [adr_cons]
    refine List.nodup_append.mpr ⟨h1 0 e rfl, adr_nd_of (φ := φ) (fun n c h => h1 (n + 1) c h) (fun i j c d a q1 q2 q3 q4 => Nat.succ.inj (h2 (i + 1) (j + 1) c d a q1 q2 q3 q4)), fun a ha b hb z => ?_⟩
    obtain ⟨j, d, q1, q2⟩ := adr_of hb
    have := h2 0 (j + 1) e d a rfl q1 ha (by rw [z]; exact q2)
    omega
theorem take_out {k n : Nat} {c : Ce} (nd : (adr φ).Nodup) (h : φ[n]? = some c) (hn : k ≤ n) : ∀ a ∈ c.al, a ∉ adr (φ.take k) := fun a ha z => by
  obtain ⟨m, d, h1, h2⟩ := adr_of z
  have hm : m < k := by
    have := (List.getElem?_eq_some_iff.mp h1).1
    rw [List.length_take] at this
    omega
  rw [List.getElem?_take_of_lt hm] at h1
  have := adr_nd nd h h1 ha h2
  omega
/-- the first k things, and a later one -/
theorem Re.pick (e : Re K M H B φ s) (g : Gr H' B' φ' H B φ) (e0 : Re K M H' B' φ' s') {k n : Nat} {c : Ce} {o : LO} (hk : φ'.length ≤ k) (hk2 : k ≤ φ.length) (cl : (s.take k).all (clO k) = true) (hn : k ≤ n) (hc : φ[n]? = some c) (ho : s[n]? = some o)
    (ob : Rc K B H (φ.take k ++ [c]) c o) : Gr H' B' φ' H B (φ.take k ++ [c]) ∧ Re K M H B (φ.take k ++ [c]) (s.take k ++ [o]) := by
  obtain ⟨g2, re2⟩ := e.take g e0 hk hk2 cl
  exact re2.snoc2 g2 e0 (fun a ha => g.nf a (adr_mem hc ha)) (take_out e.nd hc hn) (ce_nd e.nd hc) (fun a ha => e.al a (adr_mem hc ha)) (fun h => e.fr n c o hc ho h) ob
/-- a list of the store is data from now on -/
theorem Re.freeze (e : Re K M H B φ s) {n : Nat} {ts : List T} (h : s[n]? = some (.lst ts)) : ∃ p B', φ[n]? = some (one p) ∧ Fz K B' (.ref p) (.lst ts) ∧ Ex B B' ∧ Re K (fun _ _ _ => True) H B' φ (s.set n .gone) ∧
    (∀ {H0 B0 : Hp} {φ0 : Fi}, Gr H0 B0 φ0 H B φ → (φ0.length ≤ n ∨ p ∈ adr φ0) → Gr H0 B0 φ0 H B' φ) := by
  obtain ⟨p, hp, vs, hv, hu⟩ := e.at_ h
  have hB : B p = none := e.fr1 hp h rfl
  have eb : Ex B (upd B p (.lst vs)) := fun a u q => by rw [upd_ne (ne_of_none q hB)]; exact q
  refine ⟨p, upd B p (.lst vs), hp, .lst upd_same (hv.mono eb), eb, ⟨fun a u q => ?_, e.nd, by rw [List.length_set]; exact e.len, e.al, fun m q o h1 h2 h3 a ha => ?_, fun m q o h1 h2 => ?_, fun _ _ _ _ => trivial⟩, ?_⟩
  · by_cases hne : a = p
    · subst hne; rw [upd_same] at q; rw [hu]; exact q
    · rw [upd_ne hne] at q; exact e.ex a u q
  · by_cases hm : n = m
    · subst hm
      rw [List.getElem?_set_self (List.getElem?_eq_some_iff.mp h).1] at h2
      cases h2
      cases h3
    · rw [List.getElem?_set_ne hm] at h2
      have : a ≠ p := fun z => hm (adr_nd e.nd hp h1 (Ce.mem _) (z ▸ ha))
      rw [upd_ne this]
      exact e.fr m q o h1 h2 h3 a ha
  · by_cases hm : n = m
    · subst hm
      rw [List.getElem?_set_self (List.getElem?_eq_some_iff.mp h).1] at h2
      cases h2
      exact .gone
    · rw [List.getElem?_set_ne hm] at h2
      exact (e.ob m q o h1 h2).mo ⟨eb, fun _ _ h => h⟩ fun _ _ => rfl
  · intro H0 B0 φ0 g hn
    refine ⟨g.eb.trans eb, g.pf, g.kp, fun a z1 z2 z3 => ?_, g.nf⟩
    have hne : a ≠ p := by
      rintro rfl
      rcases hn with hn | hn
      · rcases g.nf a (adr_p hp) with q | q
        · exact z3 q
        · exact z2 q
      · exact z3 hn
    rw [upd_ne hne]
    exact g.nb a z1 z2 z3
end
end Lv

/-! Lv2: what an expression, a test, arguments do to places and store. -/
namespace Lv
open PySem L2

abbrev ATE := AS → ST → (SV → ST → Prop) → Prop
abbrev ATT := AS → ST → (Bool → ST → Prop) → Prop
abbrev ATA := AS → ST → (List SV → ST → Prop) → Prop
abbrev AR2 := SV → SV → ST → (SV → ST → Prop) → Prop
abbrev AR1 := SV → ST → (SV → ST → Prop) → Prop
abbrev ARC := List SV → ST → (SV → ST → Prop) → Prop
abbrev ARM := SV → List SV → ST → (SV → ST → Prop) → Prop

section
variable (K : Fr) (M : MP)
def FinE (H B : Hp) (φ : Fi) (Q : SV → ST → Prop) (Q' : VK) : Prop := ∀ H' B' φ' s' v x, Gr H B φ H' B' φ' → Re K M H' B' φ' s' → Rs K B' φ' v x → Q x s' → Q' v H'
def FinT (H B : Hp) (φ : Fi) (Q : Bool → ST → Prop) (Q' : Bool → Hp → Prop) : Prop := ∀ H' B' φ' s' b, Gr H B φ H' B' φ' → Re K M H' B' φ' s' → Q b s' → Q' b H'
def FinA (H B : Hp) (φ : Fi) (Q : List SV → ST → Prop) (Q' : List V → Hp → Prop) : Prop := ∀ H' B' φ' s' v x, Gr H B φ H' B' φ' → Re K M H' B' φ' s' → RsAll K B' φ' v x → Q x s' → Q' v H'
def LiftE (te : TE) (t : ATE) : Prop := ∀ H B φ σ δ s Q, Re K M H B φ s → Rsl K B φ σ δ → t δ s Q → ∀ Q', FinE K M H B φ Q Q' → te σ H Q'
def LiftT (te : TT) (t : ATT) : Prop := ∀ H B φ σ δ s Q, Re K M H B φ s → Rsl K B φ σ δ → t δ s Q → ∀ Q', FinT K M H B φ Q Q' → te σ H Q'
def LiftA (te : TA) (t : ATA) : Prop := ∀ H B φ σ δ s Q, Re K M H B φ s → Rsl K B φ σ δ → t δ s Q → ∀ Q', FinA K M H B φ Q Q' → te σ H Q'
def LiftR (r : R2) (g : AR2) : Prop := ∀ H B φ s x y sx sy Q, Re K M H B φ s → Rs K B φ x sx → Rs K B φ y sy → g sx sy s Q → ∀ Q', FinE K M H B φ Q Q' → r x y H Q'
def LiftC (r : List V → Hp → VK → Prop) (g : ARC) : Prop := ∀ H B φ s x sx Q, Re K M H B φ s → RsAll K B φ x sx → g sx s Q → ∀ Q', FinE K M H B φ Q Q' → r x H Q'
def LiftM (r : V → List V → Hp → VK → Prop) (g : ARM) : Prop := ∀ H B φ s x sx y sy Q, Re K M H B φ s → Rs K B φ x sx → RsAll K B φ y sy → g sx sy s Q → ∀ Q', FinE K M H B φ Q Q' → r x y H Q'
end
structure AE (X : Cx) (M : MP) (e : Expr) (t : ATE) : Prop where
  ex : ∃ te, PE X e te ∧ LiftE X.K M te t
structure AT (X : Cx) (M : MP) (e : Expr) (t : ATT) : Prop where
  ex : ∃ te, PT X e te ∧ LiftT X.K M te t
structure AW (X : Cx) (M : MP) (e : Expr) (t : ATT) : Prop where
  ex : ∃ te, PW X e te ∧ LiftT X.K M te t
structure AA (X : Cx) (M : MP) (es : List Expr) (t : ATA) : Prop where
  ex : ∃ te, PA X es te ∧ LiftA X.K M te t

section
variable {K : Fr} {M : MP} {H H' B B' : Hp} {φ φ' : Fi} {s s' : ST} {Q : SV → ST → Prop} {Q' : VK}
theorem FinE.grow (f : FinE K M H B φ Q Q') (g : Gr H B φ H' B' φ') : FinE K M H' B' φ' Q Q' := fun _ _ _ _ _ _ g2 re r q => f _ _ _ _ _ _ (g.trans g2) re r q
theorem FinT.grow {Q : Bool → ST → Prop} {Q' : Bool → Hp → Prop} (f : FinT K M H B φ Q Q') (g : Gr H B φ H' B' φ') : FinT K M H' B' φ' Q Q' := fun _ _ _ _ _ g2 re q => f _ _ _ _ _ (g.trans g2) re q
theorem FinA.grow {Q : List SV → ST → Prop} {Q' : List V → Hp → Prop} (f : FinA K M H B φ Q Q') (g : Gr H B φ H' B' φ') : FinA K M H' B' φ' Q Q' := fun _ _ _ _ _ _ g2 re r q => f _ _ _ _ _ _ (g.trans g2) re r q
theorem FinE.now (f : FinE K M H B φ Q Q') (re : Re K M H B φ s) {v : V} {x : SV} (r : Rs K B φ v x) (q : Q x s) : Q' v H := f _ _ _ _ _ _ .refl re r q

theorem Rs.dat {v : V} {t : T} (h : Fz K B v t) : Rs K B φ v (.d t) := h
theorem Rs.loc {n : Nat} {p : Addr} (h : φ.r n = some p) : Rs K B φ (.ref p) (.l n) := ⟨p, h, rfl⟩
/-! ### views -/
/-- a list: data, or the store's -/
def lsV (s : ST) : SV → Option (List T)
  | .d (.lst xs) => some xs
  | .l n => (match s[n]? with | some (.lst xs) => some xs | some (.pool (.lst xs) _) => some xs | _ => none)
  | _ => none
/-- a list or a tuple -/
def sqV (s : ST) : SV → Option (List T)
  | .d (.tup xs) => some xs
  | .d (.scr xs) => some xs
  | x => lsV s x
theorem ls_of (re : Re K M H B φ s) {v : V} {x : SV} {ts : List T} (r : Rs K B φ v x) (h : lsV s x = some ts) : ∃ p vs, v = .ref p ∧ H p = some (.lst vs) ∧ FzAll K B vs ts := by
  cases x with
  | d t =>
    cases t with
    | lst ys =>
      obtain rfl : ys = ts := Option.some.inj h
      cases (show Fz K B v (.lst ys) from r) with
      | lst h1 h2 => exact ⟨_, _, rfl, re.ex _ _ h1, h2⟩
    | _ => cases h
  | l n =>
    obtain ⟨p, hp, rfl⟩ := r
    have h : (match s[n]? with | some (.lst xs) => some xs | some (.pool (.lst xs) _) => some xs | _ => none) = some ts := h
    cases hs : s[n]? with
    | none => rw [hs] at h; cases h
    | some o =>
      rw [hs] at h
      cases o with
      | pool o rs =>
        obtain ⟨c, hc, rfl⟩ := Fi.r_inv hp
        cases o with
        | lst ys =>
          obtain rfl : ys = ts := Option.some.inj h
          cases re.ob n c _ hc hs with
          | sim w => cases w
          | pool w1 w2 w3 w4 =>
            obtain ⟨vs, h1, h2⟩ := w3
            exact ⟨_, vs, rfl, h2, h1⟩
        | _ => cases h
      | lst ys =>
        obtain rfl : ys = ts := Option.some.inj h
        obtain ⟨q, hq, vs, h1, h2⟩ := re.at_ hs
        rw [Fi.r_of hq] at hp; cases hp
        exact ⟨_, vs, rfl, h2, h1⟩
      | _ => cases h
theorem sq_of (re : Re K M H B φ s) {v : V} {x : SV} {ts : List T} (r : Rs K B φ v x) (h : sqV s x = some ts) : ∃ p vs, v = .ref p ∧ (SqL K H p vs ∨ SqT K H p vs) ∧ FzAll K B vs ts := by
  have z : (∃ xs, x = .d (.tup xs)) ∨ (∃ xs, x = .d (.scr xs)) ∨ lsV s x = some ts := by
    unfold sqV at h
    split at h
    · exact Or.inl ⟨_, rfl⟩
    · exact Or.inr (Or.inl ⟨_, rfl⟩)
    · exact Or.inr (Or.inr h)
  rcases z with ⟨ys, rfl⟩ | ⟨ys, rfl⟩ | z
  · have e : ys = ts := Option.some.inj h
    subst e
    cases (show Fz K B v (.tup ys) from r) with
    | tup h1 h2 => exact ⟨_, _, rfl, Or.inr (h1.mono re.ex).sq, h2⟩
  · have e : ys = ts := Option.some.inj h
    subst e
    cases (show Fz K B v (.scr ys) from r) with
    | scr h1 h2 => exact ⟨_, _, rfl, Or.inl (ex_l re.ex h1), h2⟩
  · obtain ⟨p, vs, e, h1, h2⟩ := ls_of re r z
    exact ⟨p, vs, e, Or.inl (SqL.of h1), h2⟩
/-- a list of the store itself -/
theorem own_of (re : Re K M H B φ s) {v : V} {n : Nat} {ts : List T} (r : Rs K B φ v (.l n)) (h : s[n]? = some (.lst ts)) : ∃ p vs, v = .ref p ∧ φ[n]? = some (one p) ∧ H p = some (.lst vs) ∧ B p = none ∧ FzAll K B vs ts := by
  obtain ⟨p, hp, rfl⟩ := r
  obtain ⟨q, hq, vs, h1, h2⟩ := re.at_ h
  rw [Fi.r_of hq] at hp; cases hp
  exact ⟨q, vs, rfl, hq, h2, re.fr1 hq h rfl, h1⟩
/-- a fresh list, told -/
theorem FinE.newL (f : FinE K M H B φ Q Q') (re : Re K M H B φ s) {vs : List V} {ts : List T} (hv : FzAll K B vs ts) (q : Q (.l s.length) (s ++ [.lst ts])) : ∀ p, H p = none → Q' (.ref p) (upd H p (.lst vs)) := fun p hp => by
  obtain ⟨g, re2⟩ := re.newL (.lst vs) (.lst ts) hp ⟨vs, hv, rfl⟩
  exact f _ _ _ _ _ _ g re2 (.loc (re.top _)) q
/-- a fresh tuple of data -/
theorem FinE.newT (f : FinE K M H B φ Q Q') (re : Re K M H B φ s) {vs : List V} {ts : List T} (hv : FzAll K B vs ts) (q : Q (.d (.tup ts)) s) : ∀ p, H p = none → Q' (.ref p) (upd H p (.tup vs)) := fun p hp => by
  obtain ⟨g, re2⟩ := re.newD (.tup vs) hp
  exact f _ _ _ _ _ _ g re2 (.dat (.tup (.inl upd_same) (hv.mono g.eb))) q
end
/-! ### data as PyData -/
mutual
def T.py : T → PyData
  | .non => .none
  | .bl b => .bool b
  | .int i => .int i
  | .str x => .str x
  | .ref _ => .dict []
  | .ty _ => .dict []
  | .lst xs => .list (T.pys xs)
  | .tup xs => .tuple (T.pys xs)
  | .scr xs => .list (T.pys xs)
  | .obj _ _ _ => .dict []
  | .dk _ _ => .dict []
  | .dt _ _ => .dict []
  | .exc _ _ => .dict []
def T.pys : List T → List PyData
  | [] => []
  | x :: r => x.py :: T.pys r
end
theorem pys_map : ∀ xs : List T, T.pys xs = xs.map T.py
  | [] => by simp [T.pys]
  | x :: r => by rw [T.pys, pys_map r]; rfl
section
variable {K : Fr} {B H : Hp}
mutual
theorem Fz.dp (e : Ex B H) : ∀ {v : V} {t : T}, Fz K B v t → t.py.canLay0 = true → Dp K H v t.py
  | _, _, .non, _ => by rw [T.py]; exact .non
  | _, _, .bl b, _ => by rw [T.py]; exact .bl b
  | _, _, .int i, _ => by rw [T.py]; exact .int i
  | _, _, .str x, _ => by rw [T.py]; exact .str x
  | _, _, .ref a, h => by rw [T.py] at h; exact nomatch h
  | _, _, .ty a, h => by rw [T.py] at h; exact nomatch h
  | _, _, .obj _ _ _ _, h => by rw [T.py] at h; exact nomatch h
  | _, _, .dk _ _ _, h => by rw [T.py] at h; exact nomatch h
  | _, _, .dt _ _ _, h => by rw [T.py] at h; exact nomatch h
  | _, _, .exc _ _ _, h => by rw [T.py] at h; exact nomatch h
  | _, _, .lst h r, q => by
    rw [T.py] at q ⊢
    exact .lst (SqL.of (e _ _ h)) (FzAll.dp e r q)
  | _, _, .tup h r, q => by
    rw [T.py] at q ⊢
    exact .tup (h.mono e).sq (FzAll.dp e r q)
  | _, _, .scr h r, q => by
    rw [T.py] at q ⊢
    exact .lst (ex_l e h) (FzAll.dp e r q)
theorem FzAll.dp (e : Ex B H) : ∀ {vs : List V} {ts : List T}, FzAll K B vs ts → PyData.canLayAll0 (T.pys ts) = true → DpAll K H vs (T.pys ts)
  | _, _, .nil, _ => by rw [T.pys]; exact .nil
  | _, _, .cons h r, q => by
    rw [T.pys] at q ⊢
    have q' := Bool.and_eq_true_iff.mp q
    exact .cons (Fz.dp e h q'.1) (FzAll.dp e r q'.2)
end
end
/-- data by a place, so deep -/
def optT (f : SV → Option T) : List SV → Option (List T)
  | [] => some []
  | x :: r => (match f x with
    | some t => (optT f r).map (t :: ·)
    | none => none)
def datF : Nat → ST → SV → Option T
  | _, _, .d t => some t
  | 0, _, .l _ => none
  | k + 1, s, .l n => (match s[n]? with
    | some (.lst xs) => some (.lst xs)
    | some (.tp xs) => (optT (datF k s) xs).map T.tup
    | some (.ll xs) => (optT (datF k s) xs).map T.lst
    | _ => none)
def pyV (s : ST) (x : SV) : Option PyData := (datF 5 s x).map T.py
section
variable {K : Fr} {M : MP} {H H' B B' : Hp} {φ φ' : Fi} {s s' : ST} {Q : SV → ST → Prop} {Q' : VK}
theorem dps_of {f : SV → Option T} (hf : ∀ {v : V} {x : SV} {t : T}, Rs K B φ v x → f x = some t → t.py.canLay0 = true → Dp K H v t.py) :
    ∀ {vs : List V} {xs : List SV} {ts : List T}, RsAll K B φ vs xs → optT f xs = some ts → PyData.canLayAll0 (T.pys ts) = true → DpAll K H vs (T.pys ts)
  | _, _, ts, .nil, e, _ => by cases e; rw [T.pys]; exact .nil
  | _, x :: xs, ts, .cons h r, e, c => by
    unfold optT at e
    cases hx : f x with
    | none => rw [hx] at e; cases e
    | some t =>
      rw [hx] at e
      cases hq : optT f xs with
      | none => rw [hq] at e; cases e
      | some us =>
        rw [hq] at e
        cases e
        rw [T.pys] at c ⊢
        have c := Bool.and_eq_true_iff.mp c
        exact .cons (hf h hx c.1) (dps_of hf r hq c.2)
theorem dat_of (re : Re K M H B φ s) : ∀ (k : Nat) {v : V} {x : SV} {t : T}, Rs K B φ v x → datF k s x = some t → t.py.canLay0 = true → Dp K H v t.py := by
  intro k
  induction k with
  | zero =>
    intro v x t r h c
    cases x with
    | d u => cases (show some u = some t from h); exact Fz.dp re.ex r c
    | l n => cases h
  | succ k ih =>
    intro v x t r h c
    cases x with
    | d u => cases (show some u = some t from h); exact Fz.dp re.ex r c
    | l n =>
      have h : (match s[n]? with
        | some (.lst xs) => some (T.lst xs)
        | some (.tp xs) => (optT (datF k s) xs).map T.tup
        | some (.ll xs) => (optT (datF k s) xs).map T.lst
        | _ => none) = some t := h
      cases hs : s[n]? with
      | none => rw [hs] at h; cases h
      | some o =>
        rw [hs] at h
        obtain ⟨p, hp, rfl⟩ := r
        cases o with
        | lst xs =>
          obtain ⟨q, hq, ho⟩ := re.at_ hs
          rw [Fi.r_of hq] at hp; cases hp
          cases (show some (T.lst xs) = some t from h)
          obtain ⟨vs, h3, h1⟩ := ho
          rw [T.py] at c ⊢
          exact .lst (SqL.of h1) (FzAll.dp re.ex h3 c)
        | tp xs =>
          obtain ⟨q, hq, ho⟩ := re.at_ hs
          rw [Fi.r_of hq] at hp; cases hp
          have h : (optT (datF k s) xs).map T.tup = some t := h
          cases ha : optT (datF k s) xs with
          | none => rw [ha] at h; cases h
          | some ts =>
            rw [ha] at h; cases h
            obtain ⟨vs, h3, h1⟩ := ho
            rw [T.py] at c ⊢
            exact .tup (SqT.of h1) (dps_of (fun r h c => ih r h c) h3 ha c)
        | ll xs =>
          obtain ⟨q, hq, ho⟩ := re.at_ hs
          rw [Fi.r_of hq] at hp; cases hp
          have h : (optT (datF k s) xs).map T.lst = some t := h
          cases ha : optT (datF k s) xs with
          | none => rw [ha] at h; cases h
          | some ts =>
            rw [ha] at h; cases h
            obtain ⟨vs, h3, h1⟩ := ho
            rw [T.py] at c ⊢
            exact .lst (SqL.of h1) (dps_of (fun r h c => ih r h c) h3 ha c)
        | _ => cases h
theorem py_of (re : Re K M H B φ s) {v : V} {x : SV} {d : PyData} (r : Rs K B φ v x) (h : pyV s x = some d) (c : SeqAt.shaped d = true) : Dp K H v d := by
  have c := SeqAt.canLay_of_shaped c
  unfold pyV at h
  cases hd : datF 5 s x with
  | none => rw [hd] at h; cases h
  | some t => rw [hd] at h; cases h; exact dat_of re 5 r hd c

/-! ### flat data -/
def T.flat : T → Bool
  | .non => true
  | .bl _ => true
  | .int _ => true
  | .str _ => true
  | _ => false
def T.v : T → V
  | .non => .non
  | .bl b => .bl b
  | .int i => .int i
  | .str x => .str x
  | _ => .non
theorem flat_of {v : V} {t : T} (h : Fz K B v t) (f : t.flat = true) : v = t.v ∧ flatV v = true := by
  cases h with
  | non => exact ⟨rfl, rfl⟩
  | bl b => exact ⟨rfl, rfl⟩
  | int i => exact ⟨rfl, rfl⟩
  | str x => exact ⟨rfl, rfl⟩
  | _ => cases f
theorem flats_of : ∀ {vs : List V} {ts : List T}, FzAll K B vs ts → ts.all T.flat = true → vs = ts.map T.v ∧ vs.all flatV = true
  | _, _, .nil, _ => ⟨rfl, rfl⟩
  | _, _, .cons h r, q => by
    rw [List.all_cons, Bool.and_eq_true] at q
    obtain ⟨e1, f1⟩ := flat_of h q.1
    obtain ⟨e2, f2⟩ := flats_of r q.2
    subst e1; subst e2
    exact ⟨rfl, by rw [List.all_cons, f1, f2]; rfl⟩
def inT (t : T) (ts : List T) : Bool := inV t.v (ts.map T.v)

/-! ### operators -/
def CM (i j : Int) : Prop := CMul i j ∨ CMulW i j
def CD (i j : Int) : Prop := CDiv i j ∨ CDivW i j
def addG : AR2 := fun x y s Q => match x, y with
  | .d (.int i), .d (.int j) => Q (.d (.int (i + j))) s
  | .d (.str a), .d (.str b) => a.length + b.length ≤ sizeLine ∧ Q (.d (.str (a ++ b))) s
  | .d (.tup a), .d (.tup b) => a.length + b.length ≤ sizeLine ∧ Q (.d (.tup (a ++ b))) s
  | x, y => ∃ a b, lsV s x = some a ∧ lsV s y = some b ∧ a.length + b.length ≤ sizeLine ∧ Q (.l s.length) (s ++ [.lst (a ++ b)])
def subG : AR2 := fun x y s Q => match x, y with
  | .d (.int i), .d (.int j) => Q (.d (.int (i - j))) s
  | _, _ => False
def mulG : AR2 := fun x y s Q => match x, y with
  | .d (.int i), .d (.int j) => CM i j ∧ Q (.d (.int (i * j))) s
  | x, .d (.int k) => ∃ a, lsV s x = some a ∧ -(2 ^ 63) ≤ k ∧ k < 2 ^ 63 ∧ a.length * k.toNat ≤ sizeLine ∧ Q (.l s.length) (s ++ [.lst (List.replicate k.toNat a).flatten])
  | _, _ => False
def fdivG : AR2 := fun x y s Q => match x, y with
  | .d (.int i), .d (.int j) => CD i j ∧ Q (.d (.int (i / j))) s
  | _, _ => False
def modG : AR2 := fun x y s Q => match x, y with
  | .d (.int i), .d (.int j) => 0 < j ∧ Q (.d (.int (i % j))) s
  | _, _ => False
def powG : AR2 := fun x y s Q => match x, y with
  | .d (.int i), .d (.int j) => CPow i j ∧ Q (.d (.int (i ^ j.toNat))) s
  | _, _ => False
def rAdd (K : Fr) : R2 := fun x y H Q => (rI0 fun i j => .int (i + j)) x y H Q ∨ (∃ i j, x = .str i ∧ y = .str j ∧ i.length + j.length ≤ sizeLine ∧ Q (.str (i ++ j)) H) ∨ rCatA K x y H Q ∨ rCat x y H Q
theorem op_addA {X : Cx} : OpR X (binaryOp .Add) (rAdd X.K) := op_add.or (op_add_str.or (op_catA.or op_cat))
theorem int_of {v : V} {i : Int} (h : Rs K B φ v (.d (.int i))) : v = .int i := by
  cases (show Fz K B v (.int i) from h) with
  | int => rfl
theorem str_of {v : V} {i : Str} (h : Rs K B φ v (.d (.str i))) : v = .str i := by
  cases (show Fz K B v (.str i) from h) with
  | str => rfl
theorem bl_of {v : V} {i : Bool} (h : Rs K B φ v (.d (.bl i))) : v = .bl i := by
  cases (show Fz K B v (.bl i) from h) with
  | bl => rfl
theorem non_of {v : V} (h : Rs K B φ v (.d .non)) : v = .non := by
  cases (show Fz K B v .non from h) with
  | non => rfl
theorem tup_of (re : Re K M H B φ s) {v : V} {ts : List T} (h : Rs K B φ v (.d (.tup ts))) : ∃ p vs, v = .ref p ∧ SqT K H p vs ∧ TuW K B p vs ∧ FzAll K B vs ts := by
  cases (show Fz K B v (.tup ts) from h) with
  | tup h1 h2 => exact ⟨_, _, rfl, (h1.mono re.ex).sq, h1, h2⟩
theorem FinE.int (f : FinE K M H B φ Q Q') (re : Re K M H B φ s) {i : Int} (q : Q (.d (.int i)) s) : Q' (.int i) H := f.now re (.dat (.int i)) q
theorem FinE.str (f : FinE K M H B φ Q Q') (re : Re K M H B φ s) {i : Str} (q : Q (.d (.str i)) s) : Q' (.str i) H := f.now re (.dat (.str i)) q
theorem FinE.bl (f : FinE K M H B φ Q Q') (re : Re K M H B φ s) {i : Bool} (q : Q (.d (.bl i)) s) : Q' (.bl i) H := f.now re (.dat (.bl i)) q
theorem FinE.non (f : FinE K M H B φ Q Q') (re : Re K M H B φ s) (q : Q (.d .non) s) : Q' .non H := f.now re (.dat .non) q
theorem lr_cat (re : Re K M H B φ s) {x y : V} {sx sy : SV} (rx : Rs K B φ x sx) (ry : Rs K B φ y sy) (f : FinE K M H B φ Q Q')
    (h : ∃ a b, lsV s sx = some a ∧ lsV s sy = some b ∧ a.length + b.length ≤ sizeLine ∧ Q (.l s.length) (s ++ [.lst (a ++ b)])) : rAdd K x y H Q' := by
  obtain ⟨a, b, h1, h2, h3, q⟩ := h
  obtain ⟨p, vs, rfl, e1, f1⟩ := ls_of re rx h1
  obtain ⟨p2, vs2, rfl, e2, f2⟩ := ls_of re ry h2
  exact .inr (.inr (.inr ⟨p, p2, vs, vs2, rfl, rfl, e1, e2, by rw [f1.length, f2.length]; exact h3, f.newL re (f1.append f2) q⟩))
theorem lr_add : LiftR K M (rAdd K) addG := by
  intro H B φ s x y sx sy Q re rx ry h Q' f
  unfold addG at h
  split at h
  · cases int_of rx; cases int_of ry
    exact .inl ⟨_, _, rfl, rfl, f.int re h⟩
  · cases str_of rx; cases str_of ry
    exact .inr (.inl ⟨_, _, rfl, rfl, h.1, f.str re h.2⟩)
  · obtain ⟨p, vs, rfl, e1, e1', f1⟩ := tup_of re rx
    obtain ⟨p2, vs2, rfl, e2, e2', f2⟩ := tup_of re ry
    refine .inr (.inr (.inl ⟨p, p2, vs, vs2, rfl, rfl, e1, e2, by rw [f1.length, f2.length]; exact h.1, fun z => ?_, fun _ z => ?_, fun _ _ => f.newT re (f1.append f2) h.2⟩))
    · subst z; cases f1
      exact f.now re (.dat (.tup e2' f2)) h.2
    · subst z; cases f2
      rw [List.append_nil] at h
      exact f.now re (.dat (.tup e1' f1)) h.2
  · exact lr_cat re rx ry f h

def rMul : R2 := fun x y H Q => rI CMul (fun i j => .int (i * j)) x y H Q ∨ rI CMulW (fun i j => .int (i * j)) x y H Q ∨ rRep x y H Q
theorem op_mulA {X : Cx} : OpR X (binaryOp .Mult) rMul := op_mul.or (op_mulW.or op_rep)
theorem lr_mul : LiftR K M rMul mulG := by
  intro H B φ s x y sx sy Q re rx ry h Q' f
  unfold mulG at h
  split at h
  · cases int_of rx; cases int_of ry
    rcases h.1 with c | c
    · exact .inl ⟨_, _, rfl, rfl, c, f.int re h.2⟩
    · exact .inr (.inl ⟨_, _, rfl, rfl, c, f.int re h.2⟩)
  · cases int_of ry
    obtain ⟨a, h1, h2, h3, h4, q⟩ := h
    obtain ⟨p, vs, rfl, e1, f1⟩ := ls_of re rx h1
    exact .inr (.inr ⟨p, _, vs, rfl, rfl, e1, h2, h3, by rw [f1.length]; exact h4, f.newL re (f1.rep _) q⟩)
  · exact h.elim
def rFdiv : R2 := fun x y H Q => rI CDiv (fun i j => .int (i / j)) x y H Q ∨ rI CDivW (fun i j => .int (i / j)) x y H Q
theorem op_fdivA {X : Cx} : OpR X (binaryOp .FloorDiv) rFdiv := op_fdiv.or op_fdivW
theorem lr_fdiv : LiftR K M rFdiv fdivG := by
  intro H B φ s x y sx sy Q re rx ry h Q' f
  unfold fdivG at h
  split at h
  · cases int_of rx; cases int_of ry
    rcases h.1 with c | c
    · exact .inl ⟨_, _, rfl, rfl, c, f.int re h.2⟩
    · exact .inr ⟨_, _, rfl, rfl, c, f.int re h.2⟩
  · exact h.elim
theorem lr_sub : LiftR K M (rI0 fun i j => .int (i - j)) subG := by
  intro H B φ s x y sx sy Q re rx ry h Q' f
  unfold subG at h
  split at h
  · cases int_of rx; cases int_of ry
    exact ⟨_, _, rfl, rfl, f.int re h⟩
  · exact h.elim
theorem lr_mod : LiftR K M (rI (fun _ j => 0 < j) fun i j => .int (i % j)) modG := by
  intro H B φ s x y sx sy Q re rx ry h Q' f
  unfold modG at h
  split at h
  · cases int_of rx; cases int_of ry
    exact ⟨_, _, rfl, rfl, h.1, f.int re h.2⟩
  · exact h.elim
theorem lr_pow : LiftR K M (rI CPow fun i j => .int (i ^ j.toNat)) powG := by
  intro H B φ s x y sx sy Q re rx ry h Q' f
  unfold powG at h
  split at h
  · cases int_of rx; cases int_of ry
    exact ⟨_, _, rfl, rfl, h.1, f.int re h.2⟩
  · exact h.elim

/-! ### comparisons -/
/-- ints by p, texts by t -/
def cmpG (p : Int → Int → Bool) : AR2 := fun x y s Q => match x, y with
  | .d (.int i), .d (.int j) => Q (.d (.bl (p i j))) s
  | _, _ => False
theorem lr_cmp (p : Int → Int → Bool) : LiftR K M (rI0 fun i j => .bl (p i j)) (cmpG p) := by
  intro H B φ s x y sx sy Q re rx ry h Q' f
  unfold cmpG at h
  split at h
  · cases int_of rx; cases int_of ry
    exact ⟨_, _, rfl, rfl, f.bl re h⟩
  · exact h.elim
/-- ==, !=: n says which -/
def eqG (n : Bool) : AR2 := fun x y s Q => match x, y with
  | .d (.int i), .d (.int j) => Q (.d (.bl (n != decide (i = j)))) s
  | .d (.str i), .d (.str j) => Q (.d (.bl (n != decide (i = j)))) s
  | .d (.bl i), .d (.bl j) => Q (.d (.bl (n != decide (i = j)))) s
  | x, y => ∃ a b, pyV s x = some a ∧ pyV s y = some b ∧ SeqAt.shaped a = true ∧ SeqAt.shaped b = true ∧ Q (.d (.bl (n != PyData.eqv a b))) s
theorem bne_f (b : Bool) : (false != b) = b := by cases b <;> rfl
theorem bne_t (b : Bool) : (true != b) = !b := by cases b <;> rfl
def rEqA (K : Fr) : R2 := fun x y H Q => rEq x y H Q ∨ rEqD K x y H Q
def rNeA (K : Fr) : R2 := fun x y H Q => rNe x y H Q ∨ rNeD K x y H Q
theorem op_eqA {X : Cx} (hu : X.A.units + 64 < cLine) : OpR X (compareOp .Eq) (rEqA X.K) := op_eq.or (op_eqD hu)
theorem op_neA {X : Cx} (hu : X.A.units + 64 < cLine) : OpR X (compareOp .NotEq) (rNeA X.K) := op_ne.or (op_neD hu)
theorem lr_eq : LiftR K M (rEqA K) (eqG false) := by
  intro H B φ s x y sx sy Q re rx ry h Q' f
  unfold eqG at h
  split at h
  · cases int_of rx; cases int_of ry
    refine .inl ⟨rfl, ?_⟩
    rw [bne_f] at h
    rename_i i j
    have e : decide (V.int i = V.int j) = decide (i = j) := by by_cases q : i = j <;> simp [q]
    rw [e]
    exact f.bl re h
  · cases str_of rx; cases str_of ry
    refine .inl ⟨rfl, ?_⟩
    rw [bne_f] at h
    rename_i i j
    have e : decide (V.str i = V.str j) = decide (i = j) := by by_cases q : i = j <;> simp [q]
    rw [e]
    exact f.bl re h
  · cases bl_of rx; cases bl_of ry
    refine .inl ⟨rfl, ?_⟩
    rw [bne_f] at h
    rename_i i j
    have e : decide (V.bl i = V.bl j) = decide (i = j) := by by_cases q : i = j <;> simp [q]
    rw [e]
    exact f.bl re h
  · obtain ⟨a, b, h1, h2, h3, h4, q⟩ := h
    rw [bne_f] at q
    exact .inr ⟨a, b, py_of re rx h1 h3, py_of re ry h2 h4, h3, h4, f.bl re q⟩
theorem lr_ne : LiftR K M (rNeA K) (eqG true) := by
  intro H B φ s x y sx sy Q re rx ry h Q' f
  unfold eqG at h
  split at h
  · cases int_of rx; cases int_of ry
    refine .inl ⟨rfl, ?_⟩
    rw [bne_t] at h
    rename_i i j
    have e : decide (V.int i = V.int j) = decide (i = j) := by by_cases q : i = j <;> simp [q]
    rw [e]
    exact f.bl re h
  · cases str_of rx; cases str_of ry
    refine .inl ⟨rfl, ?_⟩
    rw [bne_t] at h
    rename_i i j
    have e : decide (V.str i = V.str j) = decide (i = j) := by by_cases q : i = j <;> simp [q]
    rw [e]
    exact f.bl re h
  · cases bl_of rx; cases bl_of ry
    refine .inl ⟨rfl, ?_⟩
    rw [bne_t] at h
    rename_i i j
    have e : decide (V.bl i = V.bl j) = decide (i = j) := by by_cases q : i = j <;> simp [q]
    rw [e]
    exact f.bl re h
  · obtain ⟨a, b, h1, h2, h3, h4, q⟩ := h
    rw [bne_t] at q
    exact .inr ⟨a, b, py_of re rx h1 h3, py_of re ry h2 h4, h3, h4, f.bl re q⟩
/-- is None, is not None | of truths -/
def isG (n : Bool) : AR2 := fun x y s Q => match x, y with
  | .d .non, .d .non => Q (.d (.bl (!n))) s
  | .d (.bl a), .d (.bl b) => Q (.d (.bl (n != decide (a = b)))) s
  | .d (.int _), .d .non => Q (.d (.bl n)) s
  | .d (.str _), .d .non => Q (.d (.bl n)) s
  | .d (.bl _), .d .non => Q (.d (.bl n)) s
  | .d (.lst _), .d .non => Q (.d (.bl n)) s
  | .d (.tup _), .d .non => Q (.d (.bl n)) s
  | .d (.ref _), .d .non => Q (.d (.bl n)) s
  | .d (.obj _ _ _), .d .non => Q (.d (.bl n)) s
  | .d (.exc _ _), .d .non => Q (.d (.bl n)) s
  | .l _, .d .non => Q (.d (.bl n)) s
  | _, _ => False
def rIsA : R2 := fun x y H Q => (y = .non ∧ Q (.bl (decide (x = .non))) H) ∨ rIsB x y H Q
theorem op_isA {X : Cx} : OpR X (compareOp .Is) rIsA := op_isN.or op_isBl
theorem lr_is : LiftR K M rIsA (isG false) := by
  intro H B φ s x y sx sy Q re rx ry h Q' f
  unfold isG at h
  split at h
  · cases non_of rx; cases non_of ry; exact .inl ⟨rfl, f.bl re h⟩
  · cases bl_of rx; cases bl_of ry
    rw [bne_f] at h
    exact .inr ⟨_, _, rfl, rfl, f.bl re h⟩
  · cases int_of rx; cases non_of ry; exact .inl ⟨rfl, f.bl re h⟩
  · cases str_of rx; cases non_of ry; exact .inl ⟨rfl, f.bl re h⟩
  · cases bl_of rx; cases non_of ry; exact .inl ⟨rfl, f.bl re h⟩
  · cases (show Fz K B x (.lst _) from rx) with
    | lst => cases non_of ry; exact .inl ⟨rfl, f.bl re h⟩
  · cases (show Fz K B x (.tup _) from rx) with
    | tup => cases non_of ry; exact .inl ⟨rfl, f.bl re h⟩
  · cases (show Fz K B x (.ref _) from rx) with
    | ref => cases non_of ry; exact .inl ⟨rfl, f.bl re h⟩
  · cases (show Fz K B x (.obj _ _ _) from rx) with
    | obj => cases non_of ry; exact .inl ⟨rfl, f.bl re h⟩
  · cases (show Fz K B x (.exc _ _) from rx) with
    | exc => cases non_of ry; exact .inl ⟨rfl, f.bl re h⟩
  · obtain ⟨p, _, rfl⟩ := rx; cases non_of ry; exact .inl ⟨rfl, f.bl re h⟩
  · exact h.elim
/-- in, not in: one text in another; flat data in a list or tuple; any data in a list -/
def inG (n : Bool) : AR2 := fun x y s Q => match x, y with
  | .d (.str a), .d (.str b) => Q (.d (.bl (n != !(Builtin.Str.occurrences b a 0 b.length 1).isEmpty))) s
  | x, y => (∃ t ts, x = .d t ∧ sqV s y = some ts ∧ t.flat = true ∧ ts.all T.flat = true ∧ Q (.d (.bl (n != inT t ts))) s) ∨
      (∃ a ts, pyV s x = some a ∧ pyV s y = some (.list ts) ∧ SeqAt.shaped a = true ∧ SeqAt.shaped (.list ts) = true ∧ Q (.d (.bl (n != ts.any fun z => PyData.eqv z a))) s)
def rNinA (K : Fr) : R2 := fun x y H Q => (∃ i j, x = .str i ∧ y = .str j ∧ Q (.bl (!(!(Builtin.Str.occurrences j i 0 j.length 1).isEmpty))) H) ∨ rIn K true x y H Q ∨ rNotInD K x y H Q
theorem op_ninA {X : Cx} (hu : X.A.units + 65 < cLine) : OpR X (compareOp .NotIn) (rNinA X.K) := op_notin_str.or (op_notIn_seq.or (op_notInD hu))
theorem lr_nin : LiftR K M (rNinA K) (inG true) := by
  intro H B φ s x y sx sy Q re rx ry h Q' f
  unfold inG at h
  split at h
  · cases str_of rx; cases str_of ry
    rw [bne_t] at h
    exact .inl ⟨_, _, rfl, rfl, f.bl re h⟩
  · rcases h with ⟨t, ts, rfl, h1, h2, h3, q⟩ | ⟨a, ts, h1, h2, h3, h4, q⟩
    · rw [bne_t] at q
      obtain ⟨p, vs, rfl, e1, f1⟩ := sq_of re ry h1
      obtain ⟨e2, f2⟩ := flat_of (show Fz K B x t from rx) h2
      obtain ⟨e3, f3⟩ := flats_of f1 h3
      refine .inr (.inl ⟨p, vs, rfl, e1, f2, f3, ?_⟩)
      rw [if_pos rfl]
      have e : inV x vs = inT t ts := by rw [e2, e3]; rfl
      rw [e]
      exact f.bl re q
    · rw [bne_t] at q
      exact .inr (.inr ⟨a, ts, py_of re rx h1 h3, py_of re ry h2 h4, h3, h4, f.bl re q⟩)
end
end Lv

/-! Lv3: rules for expressions, tests, arguments. -/
namespace Lv
open PySem L2

/-! ### the largest reading -/
def uE (K : Fr) (M : MP) (t : ATE) : TE := fun σ H Q => ∀ te, LiftE K M te t → te σ H Q
def uT (K : Fr) (M : MP) (t : ATT) : TT := fun σ H Q => ∀ te, LiftT K M te t → te σ H Q
def uA (K : Fr) (M : MP) (t : ATA) : TA := fun σ H Q => ∀ te, LiftA K M te t → te σ H Q
section
variable {X : Cx} {M : MP} {e a b c : Expr} {es : List Expr} {pos : Pos}
theorem AE.pe {t : ATE} (h : AE X M e t) : PE X e (uE X.K M t) := by
  obtain ⟨te, h1, h2⟩ := h.ex
  exact ⟨fun pins s σ H Q I q => h1.run pins s σ H Q I (q te h2)⟩
theorem AT.pt {t : ATT} (h : AT X M e t) : PT X e (uT X.K M t) := by
  obtain ⟨te, h1, h2⟩ := h.ex
  exact ⟨fun pins s σ H Q I q => h1.run pins s σ H Q I (q te h2)⟩
theorem AW.pw {t : ATT} (h : AW X M e t) : PW X e (uT X.K M t) := by
  obtain ⟨te, h1, h2⟩ := h.ex
  exact ⟨fun w pins s σ H Q I q => h1.run w pins s σ H Q I (q te h2)⟩
theorem AA.pa {t : ATA} (h : AA X M es t) : PA X es (uA X.K M t) := by
  obtain ⟨te, h1, h2⟩ := h.ex
  exact ⟨fun pos pins s σ H Q I q => h1.run pos pins s σ H Q I (q te h2)⟩
theorem uE_lift {K : Fr} {t : ATE} : LiftE K M (uE K M t) t := fun H B φ σ δ s Q re sl q Q' f te l => l H B φ σ δ s Q re sl q Q' f
theorem uT_lift {K : Fr} {t : ATT} : LiftT K M (uT K M t) t := fun H B φ σ δ s Q re sl q Q' f te l => l H B φ σ δ s Q re sl q Q' f
theorem uA_lift {K : Fr} {t : ATA} : LiftA K M (uA K M t) t := fun H B φ σ δ s Q re sl q Q' f te l => l H B φ σ δ s Q re sl q Q' f
theorem AE.of {te : TE} {t : ATE} (h : PE X e te) (l : LiftE X.K M te t) : AE X M e t := ⟨te, h, l⟩
theorem AT.of {te : TT} {t : ATT} (h : PT X e te) (l : LiftT X.K M te t) : AT X M e t := ⟨te, h, l⟩
theorem AW.of {te : TT} {t : ATT} (h : PW X e te) (l : LiftT X.K M te t) : AW X M e t := ⟨te, h, l⟩
theorem AA.of {te : TA} {t : ATA} (h : PA X es te) (l : LiftA X.K M te t) : AA X M es t := ⟨te, h, l⟩

/-! ### names, constants -/
def aVar (i : Nat) : ATE := fun δ s Q => match δ[i]? with
  | some (some x) => Q x s
  | _ => False
def aC (x : T) : ATE := fun _ s Q => Q (.d x) s
theorem ae_v {i : Nat} (h : PE X e (tVar i)) : AE X M e (aVar i) := by
  refine .of h fun H B φ σ δ s Q re sl q Q' f => ?_
  unfold aVar at q
  cases hd : δ[i]? with
  | none => rw [hd] at q; exact q.elim
  | some o =>
    rw [hd] at q
    cases o with
    | none => exact q.elim
    | some x =>
      obtain ⟨v, h1, h2⟩ := sl.at_ i x hd
      exact ⟨v, h1, f.now re h2 q⟩
theorem ae_int {i j pos} : AE X M (.Constant (.int i) j pos) (aC (.int i)) := .of pe_int fun H B φ σ δ s Q re sl q Q' f => f.int re q
theorem ae_bl {i j pos} : AE X M (.Constant (.bool i) j pos) (aC (.bl i)) := .of pe_bl fun H B φ σ δ s Q re sl q Q' f => f.bl re q
theorem ae_str {i j pos} : AE X M (.Constant (.str i) j pos) (aC (.str i)) := .of pe_str fun H B φ σ δ s Q re sl q Q' f => f.str re q
theorem ae_non {j pos} : AE X M (.Constant .none j pos) (aC .non) := .of pe_non fun H B φ σ δ s Q re sl q Q' f => f.non re q

/-! ### operators -/
def aOp (g : AR2) (ta tb : ATE) : ATE := fun δ s Q => ta δ s fun x s1 => tb δ s1 fun y s2 => g x y s2 Q
def aUn (g : AR1) (ta : ATE) : ATE := fun δ s Q => ta δ s fun x s1 => g x s1 Q
theorem lift_op {K : Fr} {r : R2} {g : AR2} {ta tb : TE} {aa ab : ATE} (lr : LiftR K M r g) (la : LiftE K M ta aa) (lb : LiftE K M tb ab) : LiftE K M (tOp r ta tb) (aOp g aa ab) :=
  fun H B φ σ δ s Q re sl q Q' f => la H B φ σ δ s _ re sl q _ fun H1 B1 φ1 s1 v1 x1 g1 re1 r1 q1 => lb H1 B1 φ1 σ δ s1 _ re1 (sl.mono g1) q1 _ fun H2 B2 φ2 s2 v2 x2 g2 re2 r2 q2 =>
    lr H2 B2 φ2 s2 v1 v2 x1 x2 Q re2 (r1.mono g2) r2 q2 Q' (f.grow (g1.trans g2))
theorem ae_bin {op : Operator} {r : R2} {g : AR2} {ta tb : ATE} (ho : OpR X (binaryOp op) r) (lr : LiftR X.K M r g) (ha : AE X M a ta) (hb : AE X M b tb) : AE X M (.BinOp a op b pos) (aOp g ta tb) :=
  .of (pe_op ho ha.pe hb.pe) (lift_op lr uE_lift uE_lift)
theorem ae_add {ta tb : ATE} (ha : AE X M a ta) (hb : AE X M b tb) : AE X M (.BinOp a .Add b pos) (aOp addG ta tb) := ae_bin op_addA lr_add ha hb
theorem ae_sub {ta tb : ATE} (ha : AE X M a ta) (hb : AE X M b tb) : AE X M (.BinOp a .Sub b pos) (aOp subG ta tb) := ae_bin op_sub lr_sub ha hb
theorem ae_mul {ta tb : ATE} (ha : AE X M a ta) (hb : AE X M b tb) : AE X M (.BinOp a .Mult b pos) (aOp mulG ta tb) := ae_bin op_mulA lr_mul ha hb
theorem ae_fdiv {ta tb : ATE} (ha : AE X M a ta) (hb : AE X M b tb) : AE X M (.BinOp a .FloorDiv b pos) (aOp fdivG ta tb) := ae_bin op_fdivA lr_fdiv ha hb
theorem ae_mod {ta tb : ATE} (ha : AE X M a ta) (hb : AE X M b tb) : AE X M (.BinOp a .Mod b pos) (aOp modG ta tb) := ae_bin op_mod lr_mod ha hb
theorem ae_pow {ta tb : ATE} (ha : AE X M a ta) (hb : AE X M b tb) : AE X M (.BinOp a .Pow b pos) (aOp powG ta tb) := ae_bin op_pow lr_pow ha hb
def negG : AR1 := fun x s Q => match x with
  | .d (.int i) => Q (.d (.int (-i))) s
  | _ => False
theorem ae_neg {ta : ATE} (ha : AE X M a ta) : AE X M (.UnaryOp .USub a pos) (aUn negG ta) :=
  .of (pe_un un_neg ha.pe) fun H B φ σ δ s Q re sl q Q' f => uE_lift (t := ta) H B φ σ δ s _ re sl q _ fun H1 B1 φ1 s1 v1 x1 g1 re1 r1 q1 => by
    unfold negG at q1
    dsimp only at q1
    split at q1
    · cases int_of r1
      exact ⟨_, rfl, (f.grow g1).int re1 q1⟩
    · exact q1.elim

/-! ### comparisons: as values, as tests -/
theorem ae_cmp {op : CmpOp} {r : R2} {g : AR2} {ta tb : ATE} (ho : OpR X (compareOp op) r) (lr : LiftR X.K M r g) (hm : behindInMarks op b = false) (ha : AE X M a ta) (hb : AE X M b tb) : AE X M (.Compare a [op] [b] pos) (aOp g ta tb) :=
  .of (pe_cmpR ho ha.pe hb.pe hm) (lift_op lr uE_lift uE_lift)
def aTest (t : ATE) : ATT := fun δ s Q => t δ s fun x s1 => match x with
  | .d (.bl b) => Q b s1
  | _ => False
theorem lift_test {K : Fr} {te : TE} {t : ATE} (l : LiftE K M te t) : LiftT K M (tTest te) (aTest t) := fun H B φ σ δ s Q re sl q Q' f => l H B φ σ δ s _ re sl q _ fun H1 B1 φ1 s1 v1 x1 g1 re1 r1 q1 => by
  dsimp only at q1
  split at q1
  · cases bl_of r1
    exact ⟨_, rfl, f _ _ _ _ _ g1 re1 q1⟩
  · exact q1.elim
theorem at_cmp {op : CmpOp} {r : R2} {g : AR2} {ta tb : ATE} (ho : OpR X (compareOp op) r) (lr : LiftR X.K M r g) (hm : behindInMarks op b = false) (ha : AE X M a ta) (hb : AE X M b tb) : AT X M (.Compare a [op] [b] pos) (aTest (aOp g ta tb)) :=
  .of (pt_cmpR ho ha.pe hb.pe hm) (lift_test (lift_op lr uE_lift uE_lift))
abbrev ltG : AR2 := cmpG fun i j => decide (i < j)
abbrev leG : AR2 := cmpG fun i j => decide (i ≤ j)
abbrev gtG : AR2 := cmpG fun i j => decide (j < i)
abbrev geG : AR2 := cmpG fun i j => decide (j ≤ i)
/-- an operator of comparison, by its rule -/
structure CO (X : Cx) (M : MP) (op : CmpOp) (b : Expr) (g : AR2) : Prop where
  ex : ∃ r, OpR X (compareOp op) r ∧ LiftR X.K M r g
  hm : behindInMarks op b = false
theorem c_lt : CO X M .Lt b ltG := ⟨⟨_, op_lt, lr_cmp _⟩, nomark _⟩
theorem c_le : CO X M .LtE b leG := ⟨⟨_, op_le, lr_cmp _⟩, nomark _⟩
theorem c_gt : CO X M .Gt b gtG := ⟨⟨_, op_gt, lr_cmp _⟩, nomark _⟩
theorem c_ge : CO X M .GtE b geG := ⟨⟨_, op_ge, lr_cmp _⟩, nomark _⟩
theorem c_eq (hu : X.A.units + 64 < cLine) : CO X M .Eq b (eqG false) := ⟨⟨_, op_eqA hu, lr_eq⟩, nomark _⟩
theorem c_ne (hu : X.A.units + 64 < cLine) : CO X M .NotEq b (eqG true) := ⟨⟨_, op_neA hu, lr_ne⟩, nomark _⟩
theorem c_is : CO X M .Is b (isG false) := ⟨⟨_, op_isA, lr_is⟩, nomark _⟩
theorem c_nin (hu : X.A.units + 65 < cLine) (hm : behindInMarks .NotIn b = false := by rfl) : CO X M .NotIn b (inG true) := ⟨⟨_, op_ninA hu, lr_nin⟩, hm⟩
theorem ae_c {op : CmpOp} {g : AR2} {ta tb : ATE} (h : CO X M op b g) (ha : AE X M a ta) (hb : AE X M b tb) : AE X M (.Compare a [op] [b] pos) (aOp g ta tb) :=
  let ⟨_, h1, h2⟩ := h.ex; ae_cmp h1 h2 h.hm ha hb
theorem at_c {op : CmpOp} {g : AR2} {ta tb : ATE} (h : CO X M op b g) (ha : AE X M a ta) (hb : AE X M b tb) : AT X M (.Compare a [op] [b] pos) (aTest (aOp g ta tb)) :=
  let ⟨_, h1, h2⟩ := h.ex; at_cmp h1 h2 h.hm ha hb
/-- a op b op' c: the last asked only where the first holds -/
def aChain (g g' : AR2) (ta tb tc : ATE) : ATE := fun δ s Q => ta δ s fun x s1 => tb δ s1 fun y s2 => g x y s2 fun z s3 => match z with
  | .d (.bl k) => (k = true → tc δ s3 fun w s4 => g' y w s4 Q) ∧ (k = false → Q (.d (.bl false)) s3)
  | _ => False
theorem lift_chain {K : Fr} {r r' : R2} {g g' : AR2} {ta tb tc : TE} {aa ab ac : ATE} (lr : LiftR K M r g) (lr' : LiftR K M r' g') (la : LiftE K M ta aa) (lb : LiftE K M tb ab) (lc : LiftE K M tc ac) :
    LiftE K M (tChain r r' ta tb tc) (aChain g g' aa ab ac) :=
  fun H B φ σ δ s Q re sl q Q' f => la H B φ σ δ s _ re sl q _ fun H1 B1 φ1 s1 v1 x1 g1 re1 r1 q1 => lb H1 B1 φ1 σ δ s1 _ re1 (sl.mono g1) q1 _ fun H2 B2 φ2 s2 v2 x2 g2 re2 r2 q2 =>
    lr H2 B2 φ2 s2 v1 v2 x1 x2 _ re2 (r1.mono g2) r2 q2 _ fun H3 B3 φ3 s3 v3 x3 g3 re3 r3 q3 => by
      dsimp only at q3
      split at q3
      · rename_i k
        cases bl_of r3
        refine ⟨k, rfl, ?_⟩
        have g03 := (g1.trans g2).trans g3
        cases k with
        | true => exact iteT (lc H3 B3 φ3 σ δ s3 _ re3 (sl.mono g03) (q3.1 rfl) _ fun H4 B4 φ4 s4 v4 x4 g4 re4 r4 q4 => lr' H4 B4 φ4 s4 v2 v4 x2 x4 Q re4 ((r2.mono g3).mono g4) r4 q4 Q' (f.grow (g03.trans g4)))
        | false => exact iteF ((f.grow g03).bl re3 (q3.2 rfl))
      · exact q3.elim
theorem ae_chain {op op' : CmpOp} {g g' : AR2} {ta tb tc : ATE} (h : CO X M op b g) (h' : CO X M op' c g') (ha : AE X M a ta) (hb : AE X M b tb) (hc : AE X M c tc) (hm : lastMarks [op, op'] [b, c] = false := by with_unfolding_all rfl) :
    AE X M (.Compare a [op, op'] [b, c] pos) (aChain g g' ta tb tc) := by
  obtain ⟨r, h1, h2⟩ := h.ex
  obtain ⟨r', h3, h4⟩ := h'.ex
  exact .of (pe_chain h1 h3 ha.pe hb.pe hc.pe hm) (lift_chain h2 h4 uE_lift uE_lift uE_lift)
theorem at_chain {op op' : CmpOp} {g g' : AR2} {ta tb tc : ATE} (h : CO X M op b g) (h' : CO X M op' c g') (ha : AE X M a ta) (hb : AE X M b tb) (hc : AE X M c tc) (hm : lastMarks [op, op'] [b, c] = false := by with_unfolding_all rfl) :
    AT X M (.Compare a [op, op'] [b, c] pos) (aTest (aChain g g' ta tb tc)) := by
  obtain ⟨r, h1, h2⟩ := h.ex
  obtain ⟨r', h3, h4⟩ := h'.ex
  exact .of (pt_chain h1 h3 ha.pe hb.pe hc.pe hm) (lift_test (lift_chain h2 h4 uE_lift uE_lift uE_lift))

/-! ### tests -/
theorem at_val {t : ATE} (h : AE X M e t) (he : ∀ whole, isTrue e X.env whole = (do let v ← whole; standAt e.pos; holding [v] (truthy v)) := by intro _; rfl) : AT X M e (aTest t) :=
  .of (pt_val h.pe he) (show LiftT X.K M (tTest _) _ from lift_test uE_lift)
def aAnd (t u : ATT) : ATT := fun δ s Q => t δ s fun b s1 => (b = true → u δ s1 Q) ∧ (b = false → Q false s1)
def aOr (t u : ATT) : ATT := fun δ s Q => t δ s fun b s1 => (b = true → Q true s1) ∧ (b = false → u δ s1 Q)
def aNot (t : ATT) : ATT := fun δ s Q => t δ s fun b s1 => Q (!b) s1
variable {rest : List Expr} {ta tb : ATT}
theorem AW.at_ (h : AW X M e ta) : AT X M e ta := let ⟨te, h1, h2⟩ := h.ex; .of h1.pt h2
theorem aw_and1 (ha : AT X M a ta) : AW X M (.BoolOp .And [a] pos) ta := .of (pw_and1 ha.pt) uT_lift
theorem aw_or1 (ha : AT X M a ta) : AW X M (.BoolOp .Or [a] pos) ta := .of (pw_or1 ha.pt) uT_lift
theorem lift_and {K : Fr} {t u : TT} {at_ au : ATT} (l : LiftT K M t at_) (m : LiftT K M u au) : LiftT K M (tAnd t u) (aAnd at_ au) := fun H B φ σ δ s Q re sl q Q' f => l H B φ σ δ s _ re sl q _ fun H1 B1 φ1 s1 b g1 re1 q1 => by
  cases b with
  | true => exact iteT (m H1 B1 φ1 σ δ s1 _ re1 (sl.mono g1) (q1.1 rfl) _ (f.grow g1))
  | false => exact iteF (f _ _ _ _ _ g1 re1 (q1.2 rfl))
theorem lift_or {K : Fr} {t u : TT} {at_ au : ATT} (l : LiftT K M t at_) (m : LiftT K M u au) : LiftT K M (tOr t u) (aOr at_ au) := fun H B φ σ δ s Q re sl q Q' f => l H B φ σ δ s _ re sl q _ fun H1 B1 φ1 s1 b g1 re1 q1 => by
  cases b with
  | true => exact iteT (f _ _ _ _ _ g1 re1 (q1.1 rfl))
  | false => exact iteF (m H1 B1 φ1 σ δ s1 _ re1 (sl.mono g1) (q1.2 rfl) _ (f.grow g1))
theorem aw_and (ha : AT X M a ta) (hb : AW X M (.BoolOp .And (b :: rest) pos) tb) : AW X M (.BoolOp .And (a :: b :: rest) pos) (aAnd ta tb) := .of (pw_and ha.pt hb.pw) (lift_and uT_lift uT_lift)
theorem aw_or (ha : AT X M a ta) (hb : AW X M (.BoolOp .Or (b :: rest) pos) tb) : AW X M (.BoolOp .Or (a :: b :: rest) pos) (aOr ta tb) := .of (pw_or ha.pt hb.pw) (lift_or uT_lift uT_lift)
theorem at_not (ha : AT X M a ta) : AT X M (.UnaryOp .Not a pos) (aNot ta) := .of (pt_not ha.pt) fun H B φ σ δ s Q re sl q Q' f => uT_lift (t := ta) H B φ σ δ s _ re sl q _ fun H1 B1 φ1 s1 b g1 re1 q1 => f _ _ _ _ _ g1 re1 q1
/-- a pure test, told at once -/
def aCutT (t : ATT) : ATT := fun δ s Q => ∃ P : Bool, t δ s (fun b s1 => b = P ∧ s1 = s) ∧ Q P s
/-- as values: truths -/
def aAndV (t u : ATE) : ATE := fun δ s Q => t δ s fun x s1 => match x with
  | .d (.bl k) => (k = true → u δ s1 Q) ∧ (k = false → Q (.d (.bl false)) s1)
  | _ => False
def aOrV (t u : ATE) : ATE := fun δ s Q => t δ s fun x s1 => match x with
  | .d (.bl k) => (k = true → Q (.d (.bl true)) s1) ∧ (k = false → u δ s1 Q)
  | _ => False
def aNotV (t : ATE) : ATE := fun δ s Q => t δ s fun x s1 => match x with
  | .d (.bl k) => Q (.d (.bl (!k))) s1
  | _ => False
variable {va vb : ATE}
theorem ae_one {op} (h : AE X M a va) : AE X M (.BoolOp op [a] pos) va := .of (pe_one h.pe) uE_lift
theorem ae_and (ha : AE X M a va) (hb : AE X M (.BoolOp .And (b :: rest) pos) vb) : AE X M (.BoolOp .And (a :: b :: rest) pos) (aAndV va vb) :=
  .of (pe_and ha.pe hb.pe) fun H B φ σ δ s Q re sl q Q' f => uE_lift (t := va) H B φ σ δ s _ re sl q _ fun H1 B1 φ1 s1 v x g1 re1 r1 q1 => by
    dsimp only at q1
    split at q1
    · rename_i k
      cases bl_of r1
      refine ⟨k, rfl, ?_⟩
      cases k with
      | true => exact iteT (uE_lift (t := vb) H1 B1 φ1 σ δ s1 _ re1 (sl.mono g1) (q1.1 rfl) _ (f.grow g1))
      | false => exact iteF ((f.grow g1).bl re1 (q1.2 rfl))
    · exact q1.elim
theorem ae_not (ha : AE X M a va) : AE X M (.UnaryOp .Not a pos) (aNotV va) :=
  .of (pe_not ha.pe) fun H B φ σ δ s Q re sl q Q' f => uE_lift (t := va) H B φ σ δ s _ re sl q _ fun H1 B1 φ1 s1 v x g1 re1 r1 q1 => by
    dsimp only at q1
    split at q1
    · cases bl_of r1
      exact ⟨_, rfl, (f.grow g1).bl re1 q1⟩
    · exact q1.elim
/-- a pure value, told at once -/
def aCut (t : ATE) : ATE := fun δ s Q => ∃ x : T, t δ s (fun y s1 => y = .d x ∧ s1 = s) ∧ Q (.d x) s
theorem ae_cut (ha : AE X M a va) : AE X M a (aCut va) := .of ha.pe fun H B φ σ δ s Q re sl ⟨P, q, q'⟩ Q' f => uE_lift (t := va) H B φ σ δ s _ re sl q _ fun H1 B1 φ1 s1 v b g1 re1 r1 ⟨e1, e2⟩ => f _ _ _ _ _ _ g1 re1 r1 (by rw [e1, e2]; exact q')
/-- a value with what is known of it, the store as it was -/
def aKn (t : ATE) : ATE := fun δ s Q => ∃ P : T → Prop, t δ s (fun y s1 => ∃ x, y = .d x ∧ P x ∧ s1 = s) ∧ ∀ x, P x → Q (.d x) s
def aIfE (t : ATT) (ta tb : ATE) : ATE := fun δ s Q => t δ s fun b s1 => (b = true → ta δ s1 Q) ∧ (b = false → tb δ s1 Q)
theorem ae_if {t : ATT} (hc : AT X M c t) (ha : AE X M a va) (hb : AE X M b vb) : AE X M (.IfExp c a b pos) (aIfE t va vb) :=
  .of (pe_ifExp hc.pt ha.pe hb.pe) fun H B φ σ δ s Q re sl q Q' f => uT_lift (t := t) H B φ σ δ s _ re sl q _ fun H1 B1 φ1 s1 b g1 re1 q1 => by
    cases b with
    | true => exact iteT (uE_lift (t := va) H1 B1 φ1 σ δ s1 _ re1 (sl.mono g1) (q1.1 rfl) _ (f.grow g1))
    | false => exact iteF (uE_lift (t := vb) H1 B1 φ1 σ δ s1 _ re1 (sl.mono g1) (q1.2 rfl) _ (f.grow g1))

/-! ### data: a fresh list is data from here on; what was made on the way is forgotten -/
def aDat (t : ATE) : ATE := fun δ s Q => t δ s fun x s1 => (s1.take s.length).all (clO s.length) = true ∧ match x with
  | .d y => Q (.d y) (s1.take s.length)
  | .l n => s.length ≤ n ∧ ∃ xs, s1[n]? = some (.lst xs) ∧ Q (.d (.lst xs)) (s1.take s.length)
theorem lift_dat {K : Fr} {te : TE} {t : ATE} (l : LiftE K M te t) : LiftE K M te (aDat t) := fun H B φ σ δ s Q re sl q Q' f => l H B φ σ δ s _ re sl q _ fun H1 B1 φ1 s1 v x g1 re1 r1 q1 => by
  obtain ⟨c, q1⟩ := q1
  have hk : φ.length ≤ s.length := Nat.le_of_eq re.len
  cases x with
  | d y =>
    obtain ⟨g2, re2⟩ := re1.take g1 re hk (by rw [← re.len]; exact g1.le) c
    exact f _ _ _ _ _ _ g2 re2 (.dat r1) q1
  | l n =>
    obtain ⟨hn, xs, hx, q1⟩ := q1
    obtain ⟨p, B2, hp, fz, eb, re2, gg⟩ := re1.freeze hx
    obtain ⟨q, hq, ev⟩ := r1
    rw [Fi.r_of hp] at hq; cases hq
    have g2 : Gr H B φ H1 B2 φ1 := gg g1 (.inl (by rw [re.len]; exact hn))
    have re2' : Re K M H1 B2 φ1 (s1.set n .gone) := ⟨re2.ex, re2.nd, re2.len, re2.al, re2.fr, re2.ob, fun H3 B3 φ3 g3 => re.pm _ _ _ (g2.trans g3)⟩
    have e : (s1.set n .gone).take s.length = s1.take s.length := by rw [List.take_set]; exact List.set_eq_of_length_le (by rw [List.length_take]; omega)
    obtain ⟨g3, re3⟩ := re2'.take g2 re hk (by rw [← re.len]; exact g1.le) (by rw [e]; exact c)
    rw [e] at re3
    subst ev
    exact f _ _ _ _ _ _ g3 re3 (.dat fz) q1
theorem ae_dat (ha : AE X M a va) : AE X M a (aDat va) := .of ha.pe (lift_dat uE_lift)
/-! ### arguments, displays -/
def aNil : ATA := fun _ s Q => Q [] s
def aCons (ta : ATE) (tr : ATA) : ATA := fun δ s Q => ta δ s fun x s1 => tr δ s1 fun xs s2 => Q (x :: xs) s2
theorem aa_nil : AA X M [] aNil := .of pa_nil fun H B φ σ δ s Q re sl q Q' f => f _ _ _ _ _ _ .refl re .nil q
theorem aa_cons {tr : ATA} (ha : AE X M e va) (hr : AA X M es tr) (hs : starEach (e :: es) X.env = (false, eval e X.env) :: starEach es X.env := by rfl) : AA X M (e :: es) (aCons va tr) :=
  .of (pa_cons ha.pe hr.pa hs) fun H B φ σ δ s Q re sl q Q' f => uE_lift (t := va) H B φ σ δ s _ re sl q _ fun H1 B1 φ1 s1 v x g1 re1 r1 q1 =>
    uA_lift (t := tr) H1 B1 φ1 σ δ s1 _ re1 (sl.mono g1) q1 _ fun H2 B2 φ2 s2 vs xs g2 re2 r2 q2 => f _ _ _ _ _ _ (g1.trans g2) re2 (.cons (r1.mono g2) r2) q2
/-- (a, b): of data it is data, else a thing of the store -/
def aTup (t : ATA) : ATE := fun δ s Q => t δ s fun xs s1 => xs.length ≤ sizeLine ∧ match dats xs with
  | some ts => Q (.d (.tup ts)) s1
  | none => Q (.l s1.length) (s1 ++ [.tp xs])
def aLst (t : ATA) : ATE := fun δ s Q => t δ s fun xs s1 => xs.length ≤ sizeLine ∧ ∃ ts, dats xs = some ts ∧ Q (.l s1.length) (s1 ++ [.lst ts])
theorem ae_tup {k} {t : ATA} (h : AA X M es t) : AE X M (.Tuple es k pos) (aTup t) := .of (pe_tup h.pa) fun H B φ σ δ s Q re sl q Q' f => uA_lift (t := t) H B φ σ δ s _ re sl q _ fun H1 B1 φ1 s1 vs xs g1 re1 r1 q1 => by
  refine ⟨by rw [r1.length]; exact q1.1, ?_⟩
  have q2 := q1.2
  cases hd : dats xs with
  | some ts =>
    rw [hd] at q2
    exact (f.grow g1).newT re1 (r1.dats hd) q2
  | none =>
    rw [hd] at q2
    intro p hp
    obtain ⟨g2, re2⟩ := re1.newL (.tup vs) (.tp xs) hp ⟨vs, r1, rfl⟩
    exact f _ _ _ _ _ _ (g1.trans g2) re2 (.loc (re1.top _)) q2
theorem ae_lst {t : ATA} (h : AA X M es t) : AE X M (.List es pos) (aLst t) := .of (pe_lst h.pa) fun H B φ σ δ s Q re sl q Q' f => uA_lift (t := t) H B φ σ δ s _ re sl q _ fun H1 B1 φ1 s1 vs xs g1 re1 r1 ⟨q1, ts, q2, q3⟩ =>
  ⟨by rw [r1.length]; exact q1, (f.grow g1).newL re1 (r1.dats q2) q3⟩
end
end Lv

/-! Lv4: subscripts, calls of built-ins, methods. -/
namespace Lv
open PySem L2

section
variable {K : Fr} {M : MP} {H H' B B' : Hp} {φ φ' : Fi} {s s' : ST} {Q : SV → ST → Prop} {Q' : VK}
/-- what is known of what stands there; of a box nothing -/
def RoQ (K : Fr) (B : Hp) (φ : Fi) : LO → Option HO → Prop
  | .gone, _ => True
  | .box _, _ => True
  | .pool o _, u => Ro K B φ o u
  | .lst ts, u => Ro K B φ (.lst ts) u
  | .tp ts, u => Ro K B φ (.tp ts) u
  | .ll ts, u => Ro K B φ (.ll ts) u
  | .dK ts, u => Ro K B φ (.dK ts) u
  | .dT ts, u => Ro K B φ (.dT ts) u
  | .mK ts, u => Ro K B φ (.mK ts) u
  | .mT ts, u => Ro K B φ (.mT ts) u
  | .fK od vs ts, u => Ro K B φ (.fK od vs ts) u
  | .fT od vs ts, u => Ro K B φ (.fT od vs ts) u
  | .lK od vs ts, u => Ro K B φ (.lK od vs ts) u
  | .lT od vs ts, u => Ro K B φ (.lT od vs ts) u
  | .ins C j fs, u => Ro K B φ (.ins C j fs) u
  | .own j, u => Ro K B φ (.own j) u
theorem at_loc (re : Re K M H B φ s) {v : V} {n : Nat} {o : LO} (r : Rs K B φ v (.l n)) (h : s[n]? = some o) : ∃ p, v = .ref p ∧ φ.r n = some p ∧ RoQ K B φ o (H p) := by
  obtain ⟨p, hp, rfl⟩ := r
  refine ⟨p, rfl, hp, ?_⟩
  have go : o.smp = true → Ro K B φ o (H p) := fun w => by
    obtain ⟨q, hq, h1⟩ := re.at_ h w
    rw [Fi.r_of hq] at hp; cases hp
    exact h1
  cases o with
  | pool o rs =>
    obtain ⟨c, hc, rfl⟩ := Fi.r_inv hp
    cases re.ob n c _ hc h with
    | sim w => cases w
    | pool w1 w2 w3 w4 => exact w3
  | _ => first | trivial | exact go rfl
theorem lst_of (re : Re K M H B φ s) {v : V} {ts : List T} (h : Rs K B φ v (.d (.lst ts))) : ∃ p vs, v = .ref p ∧ H p = some (.lst vs) ∧ FzAll K B vs ts := by
  cases (show Fz K B v (.lst ts) from h) with
  | lst h1 h2 => exact ⟨_, _, rfl, re.ex _ _ h1, h2⟩
theorem scr_of (re : Re K M H B φ s) {v : V} {ts : List T} (h : Rs K B φ v (.d (.scr ts))) : ∃ p vs, v = .ref p ∧ SqL K H p vs ∧ SqL K B p vs ∧ FzAll K B vs ts := by
  cases (show Fz K B v (.scr ts) from h) with
  | scr h1 h2 => exact ⟨_, _, rfl, ex_l re.ex h1, h1, h2⟩

/-! ### subscripts -/
theorem atI_fz {vs : List V} {ts : List T} (f : FzAll K B vs ts) {i : Int} {t : T} (h : atI ts i = some t) : ∃ v, atI vs i = some v ∧ Fz K B v t := by
  unfold atI at h ⊢
  rw [f.length]
  cases hj : ixN ts.length i with
  | none => rw [hj] at h; cases h
  | some j =>
    rw [hj] at h
    exact f.get' h
theorem atI_rs {vs : List V} {ts : List SV} (f : RsAll K B φ vs ts) {i : Int} {t : SV} (h : atI ts i = some t) : ∃ v, atI vs i = some v ∧ Rs K B φ v t := by
  unfold atI at h ⊢
  rw [f.length]
  cases hj : ixN ts.length i with
  | none => rw [hj] at h; cases h
  | some j =>
    rw [hj] at h
    exact f.get' h
def ixG : AR2 := fun x y s Q => match x, y with
  | .d (.str z), .d (.int i) => z.length ≤ sizeLine ∧ ∃ c, atI z.cps.toList i = some c ∧ Q (.d (.str ⟨#[c]⟩)) s
  | .d (.tup ts), .d (.int i) => ∃ t, atI ts i = some t ∧ Q (.d t) s
  | .d (.lst ts), .d (.int i) => ∃ t, atI ts i = some t ∧ Q (.d t) s
  | .d (.scr ts), .d (.int i) => ∃ t, atI ts i = some t ∧ Q (.d t) s
  | .l n, .d (.int i) => (match s[n]? with
    | some (.lst ts) => ∃ t, atI ts i = some t ∧ Q (.d t) s
    | some (.tp xs) => ∃ x, atI xs i = some x ∧ Q x s
    | some (.ll xs) => ∃ x, atI xs i = some x ∧ Q x s
    | some (.pool (.lst ts) _) => ∃ t, atI ts i = some t ∧ Q (.d t) s
    | _ => False)
  | _, _ => False
theorem lr_ix : LiftR K M (rIx K) ixG := by
  intro H B φ s x y sx sy Q re rx ry h Q' f
  unfold ixG at h
  split at h
  · cases str_of rx; cases int_of ry
    obtain ⟨hz, c, hc, q⟩ := h
    exact .inr (.inr ⟨_, _, c, rfl, rfl, hz, hc, f.str re q⟩)
  · cases int_of ry
    obtain ⟨t, ht, q⟩ := h
    obtain ⟨p, vs, rfl, e1, _, f1⟩ := tup_of re rx
    obtain ⟨v, hv, r⟩ := atI_fz f1 ht
    exact .inr (.inl ⟨p, vs, _, v, rfl, rfl, e1, hv, f.now re (.dat r) q⟩)
  · cases int_of ry
    obtain ⟨t, ht, q⟩ := h
    obtain ⟨p, vs, rfl, e1, f1⟩ := lst_of re rx
    obtain ⟨v, hv, r⟩ := atI_fz f1 ht
    exact .inl ⟨p, vs, _, v, rfl, rfl, SqL.of e1, hv, f.now re (.dat r) q⟩
  · cases int_of ry
    obtain ⟨t, ht, q⟩ := h
    obtain ⟨p, vs, rfl, e1, _, f1⟩ := scr_of re rx
    obtain ⟨v, hv, r⟩ := atI_fz f1 ht
    exact .inl ⟨p, vs, _, v, rfl, rfl, e1, hv, f.now re (.dat r) q⟩
  · cases int_of ry
    rename_i n i
    cases hs : s[n]? with
    | none => rw [hs] at h; exact h.elim
    | some o =>
      rw [hs] at h
      obtain ⟨p, rfl, hp, ho⟩ := at_loc re rx hs
      cases o with
      | lst ts =>
        obtain ⟨t, ht, q⟩ := h
        obtain ⟨vs, f1, e1⟩ := ho
        obtain ⟨v, hv, r⟩ := atI_fz f1 ht
        exact .inl ⟨p, vs, _, v, rfl, rfl, SqL.of e1, hv, f.now re (.dat r) q⟩
      | tp xs =>
        obtain ⟨t, ht, q⟩ := h
        obtain ⟨vs, f1, e1⟩ := ho
        obtain ⟨v, hv, r⟩ := atI_rs f1 ht
        exact .inr (.inl ⟨p, vs, _, v, rfl, rfl, SqT.of e1, hv, f.now re r q⟩)
      | ll xs =>
        obtain ⟨t, ht, q⟩ := h
        obtain ⟨vs, f1, e1⟩ := ho
        obtain ⟨v, hv, r⟩ := atI_rs f1 ht
        exact .inl ⟨p, vs, _, v, rfl, rfl, SqL.of e1, hv, f.now re r q⟩
      | pool o rs =>
        cases o with
        | lst ts =>
          obtain ⟨t, ht, q⟩ := h
          obtain ⟨vs, f1, e1⟩ := ho
          obtain ⟨v, hv, r⟩ := atI_fz f1 ht
          exact .inl ⟨p, vs, _, v, rfl, rfl, SqL.of e1, hv, f.now re (.dat r) q⟩
        | _ => exact h.elim
      | _ => exact h.elim
  · exact h.elim
end
section
variable {X : Cx} {M : MP} {e a b c : Expr} {es : List Expr} {pos : Pos} {va vb : ATE}
theorem ae_ix (ha : AE X M a va) (hb : AE X M b vb) (hs : PlainIx b := by exact fun _ _ => rfl) : AE X M (.Subscript a b pos) (aOp ixG va vb) := .of (pe_ix ix_seq ha.pe hb.pe hs) (lift_op lr_ix uE_lift uE_lift)

/-! ### slices -/
abbrev ATO := AS → ST → (Option Int → ST → Prop) → Prop
def FinO (K : Fr) (M : MP) (H B : Hp) (φ : Fi) (Q : Option Int → ST → Prop) (Q' : Option Int → Hp → Prop) : Prop := ∀ H' B' φ' s' b, Gr H B φ H' B' φ' → Re K M H' B' φ' s' → Q b s' → Q' b H'
def LiftO (K : Fr) (M : MP) (te : TO) (t : ATO) : Prop := ∀ H B φ σ δ s Q, Re K M H B φ s → Rsl K B φ σ δ → t δ s Q → ∀ Q', FinO K M H B φ Q Q' → te σ H Q'
structure AO (X : Cx) (M : MP) (e : Option Expr) (t : ATO) : Prop where
  ex : ∃ te, PO X e te ∧ LiftO X.K M te t
def aNo : ATO := fun _ s Q => Q none s
def aPart (t : ATE) : ATO := fun δ s Q => t δ s fun x s1 => match x with
  | .d (.int i) => Q (some i) s1
  | _ => False
theorem ao_none : AO X M none aNo := ⟨_, po_none, fun H B φ σ δ s Q re sl q Q' f => f _ _ _ _ _ .refl re q⟩
theorem ao_some (h : AE X M e va) : AO X M (some e) (aPart va) := ⟨_, po_some h.pe, fun H B φ σ δ s Q re sl q Q' f => uE_lift (t := va) H B φ σ δ s _ re sl q _ fun H1 B1 φ1 s1 v x g1 re1 r1 q1 => by
  dsimp only at q1
  split at q1
  · cases int_of r1
    exact ⟨_, rfl, f _ _ _ _ _ g1 re1 q1⟩
  · exact q1.elim⟩
/-- what a slice cuts out -/
def cut {α : Type} (xs : List α) (lo hi : Option Int) : List α := (xs.drop (HT.sIx xs.length 0 lo)).take (HT.sIx xs.length xs.length hi - HT.sIx xs.length 0 lo)
theorem cut_fz {K : Fr} {B : Hp} {vs : List V} {ts : List T} (f : FzAll K B vs ts) (lo hi : Option Int) : FzAll K B (cutV vs lo hi) (cut ts lo hi) := by
  unfold cutV cut
  rw [f.length]
  exact (f.drop _).take _
def slG : SV → Option Int → Option Int → ST → (SV → ST → Prop) → Prop := fun x lo hi s Q => match x with
  | .d (.tup ts) => Q (.d (.tup (cut ts lo hi))) s
  | .d (.str z) => z.length ≤ sizeLine ∧ Q (.d (.str (cutS z lo hi))) s
  | x => ∃ ts, lsV s x = some ts ∧ Q (.l s.length) (s ++ [.lst (cut ts lo hi)])
def rSl (K : Fr) : V → Option Int → Option Int → Hp → VK → Prop := fun x lo hi H Q => rSlA K x lo hi H Q ∨ rSlS x lo hi H Q ∨ rSlL K x lo hi H Q
theorem sl_any : SlR X (rSl X.K) := SlR.or sl_tupA (SlR.or sl_str sl_list)
theorem sIx_zero (n : Nat) (o : Option Int) (h : HT.sIx n n o = n) (ts : List T) (hn : ts.length = n) (h0 : HT.sIx n 0 lo = 0) : cut ts lo o = ts := by
  subst hn
  unfold cut
  rw [h0, h, List.drop_zero, Nat.sub_zero, List.take_length]
theorem ls_sl {K : Fr} {M : MP} {H B : Hp} {φ : Fi} {s : ST} {Q : SV → ST → Prop} {Q' : VK} (re : Re K M H B φ s) {x : V} {sx : SV} (rx : Rs K B φ x sx) (f : FinE K M H B φ Q Q') {lo hi : Option Int}
    (h : ∃ ts, lsV s sx = some ts ∧ Q (.l s.length) (s ++ [.lst (cut ts lo hi)])) : rSl K x lo hi H Q' := by
  obtain ⟨ts, h1, q⟩ := h
  obtain ⟨p, vs, rfl, e1, f1⟩ := ls_of re rx h1
  exact .inr (.inr ⟨p, vs, rfl, SqL.of e1, f.newL re (cut_fz f1 lo hi) q⟩)
theorem ls_slG {K : Fr} {M : MP} {H B : Hp} {φ : Fi} {s : ST} {Q : SV → ST → Prop} {Q' : VK} (re : Re K M H B φ s) {x : V} {sx : SV} (rx : Rs K B φ x sx) (f : FinE K M H B φ Q Q') {lo hi : Option Int} (h : slG sx lo hi s Q) : rSl K x lo hi H Q' := by
  unfold slG at h
  split at h
  · rename_i ts
    obtain ⟨p, vs, rfl, e1, e2, f1⟩ := tup_of re rx
    refine .inl ⟨p, vs, rfl, e1, fun w => ?_, fun _ => f.newT re (cut_fz f1 lo hi) h⟩
    have e : cut ts lo hi = ts := by
      rw [f1.length] at w
      exact sIx_zero _ _ w.2 _ rfl w.1
    rw [e] at h
    exact f.now re (.dat (.tup e2 f1)) h
  · cases str_of rx
    exact .inr (.inl ⟨_, rfl, h.1, f.str re h.2⟩)
  · exact ls_sl re rx f h
variable {lo hi : Option Expr} {p2 : Pos} {tl th : ATO}
def aSl (t : ATE) (tl th : ATO) : ATE := fun δ s Q => t δ s fun x s1 => tl δ s1 fun l s2 => th δ s2 fun u s3 => slG x l u s3 Q
theorem ae_sl (ha : AE X M e va) (hl : AO X M lo tl) (hh : AO X M hi th) : AE X M (.Subscript e (.Slice lo hi none p2) pos) (aSl va tl th) := by
  obtain ⟨_, l1, l2⟩ := hl.ex
  obtain ⟨_, h1, h2⟩ := hh.ex
  refine .of (pe_slice sl_any ha.pe l1 h1) fun H B φ σ δ s Q re sl q Q' f => uE_lift (t := va) H B φ σ δ s _ re sl q _ fun H1 B1 φ1 s1 v x g1 re1 r1 q1 => l2 H1 B1 φ1 σ δ s1 _ re1 (sl.mono g1) q1 _ fun H2 B2 φ2 s2 l g2 re2 q2 =>
    h2 H2 B2 φ2 σ δ s2 _ re2 ((sl.mono g1).mono g2) q2 _ fun H3 B3 φ3 s3 u g3 re3 q3 => ls_slG re3 ((r1.mono g2).mono g3) (f.grow ((g1.trans g2).trans g3)) q3
/-- xs[::-1] of a list -/
def aRev (t : ATE) : ATE := fun δ s Q => t δ s fun x s1 => ∃ ts, lsV s1 x = some ts ∧ Q (.l s1.length) (s1 ++ [.lst ts.reverse])

/-! ### calls of built-ins -/
def aCall (g : ARC) (t : ATA) : ATE := fun δ s Q => t δ s fun xs s1 => g xs s1 Q
theorem lift_call {K : Fr} {r : List V → Hp → VK → Prop} {g : ARC} {t : TA} {at_ : ATA} (lc : LiftC K M r g) (l : LiftA K M t at_) : LiftE K M (tCB r t) (aCall g at_) :=
  fun H B φ σ δ s Q re sl q Q' f => l H B φ σ δ s _ re sl q _ fun H1 B1 φ1 s1 vs xs g1 re1 r1 q1 => lc H1 B1 φ1 s1 vs xs Q re1 r1 q1 Q' (f.grow g1)
theorem ae_callB {x : Str} {p : Pos} {id : String} {r : List V → Hp → VK → Prop} {g : ARC} {t : ATA} (hc : CallR X (.builtin id) r) (lc : LiftC X.K M r g) (hg : Gl X x) (hm : X.mg x = none) (hv : bootBuiltins x = some (.builtin id)) (ha : AA X M (e :: es) t)
    (hn : x ≠ "__name__" := by decide) (hdb : (x == ("__debug__" : Str)) = false := by decide)
    (he : starEach (e :: es) X.env = (false, eval e X.env) :: starEach es X.env := by rfl) (hpl : (backTo pos (starEach es X.env)).any (·.1) = false := by rfl) : AE X M (.Call (.Name x p) (e :: es) [] pos) (aCall g t) :=
  .of (pe_callB hc hg hm hv ha.pa hn hdb he hpl) (lift_call lc uA_lift)
theorem ae_callT {x : Str} {p : Pos} {id : String} {r : List V → Hp → VK → Prop} {g : ARC} {t : ATA} (hc : CallR X (.type id) r) (lc : LiftC X.K M r g) (hg : Gl X x) (hm : X.mg x = none) (hv : bootBuiltins x = some (.type id)) (ha : AA X M (e :: es) t)
    (hn : x ≠ "__name__" := by decide) (hdb : (x == ("__debug__" : Str)) = false := by decide)
    (he : starEach (e :: es) X.env = (false, eval e X.env) :: starEach es X.env := by rfl) (hpl : (backTo pos (starEach es X.env)).any (·.1) = false := by rfl) : AE X M (.Call (.Name x p) (e :: es) [] pos) (aCall g t) :=
  .of (pe_callTy hc hg hm hv ha.pa hn hdb he hpl) (lift_call lc uA_lift)
theorem rsall1 {K : Fr} {B : Hp} {φ : Fi} {vs : List V} {x : SV} (h : RsAll K B φ vs [x]) : ∃ v, vs = [v] ∧ Rs K B φ v x := by
  cases h with
  | cons r t => cases t; exact ⟨_, rfl, r⟩
theorem rsall2 {K : Fr} {B : Hp} {φ : Fi} {vs : List V} {x y : SV} (h : RsAll K B φ vs [x, y]) : ∃ v w, vs = [v, w] ∧ Rs K B φ v x ∧ Rs K B φ w y := by
  cases h with
  | cons r t =>
    obtain ⟨w, rfl, r2⟩ := rsall1 t
    exact ⟨_, _, rfl, r, r2⟩
theorem rsall0 {K : Fr} {B : Hp} {φ : Fi} {vs : List V} (h : RsAll K B φ vs []) : vs = [] := by cases h; rfl
/-- len -/
def lenG : ARC := fun xs s Q => match xs with
  | [.d (.str z)] => z.length ≤ sizeLine ∧ Q (.d (.int z.length)) s
  | [.d (.tup ts)] => Q (.d (.int ts.length)) s
  | [.d (.lst ts)] => Q (.d (.int ts.length)) s
  | [.d (.scr ts)] => Q (.d (.int ts.length)) s
  | [.l n] => (match s[n]? with
    | some (.lst ts) => Q (.d (.int ts.length)) s
    | some (.tp ts) => Q (.d (.int ts.length)) s
    | some (.dK ts) => Q (.d (.int ts.length)) s
    | some (.dT ts) => Q (.d (.int ts.length)) s
    | some (.ll ts) => Q (.d (.int ts.length)) s
    | some (.mK ts) => Q (.d (.int ts.length)) s
    | some (.mT ts) => Q (.d (.int ts.length)) s
    | _ => False)
  | _ => False
def rLen (K : Fr) : List V → Hp → VK → Prop := fun xs H Q => (∃ z, xs = [.str z] ∧ z.length ≤ sizeLine ∧ Q (.int z.length) H) ∨ (∃ p ys, xs = [.ref p] ∧ (SqL K H p ys ∨ SqT K H p ys) ∧ Q (.int ys.length) H) ∨
  (∃ a kvs, xs = [V.ref a] ∧ H a = some (.dK kvs) ∧ Q (.int kvs.length) H) ∨ rLenT xs H Q
theorem cr_len : CallR X (.builtin "len") (rLen X.K) := CallR.or call_len_str (CallR.or call_len_seq (CallR.or call_lenD call_len_dT))
theorem lr_len {K : Fr} : LiftC K M (rLen K) lenG := by
  intro H B φ s x sx Q re rx h Q' f
  unfold lenG at h
  split at h
  · obtain ⟨v, rfl, r⟩ := rsall1 rx
    cases str_of r
    exact .inl ⟨_, rfl, h.1, f.int re h.2⟩
  · obtain ⟨v, rfl, r⟩ := rsall1 rx
    obtain ⟨p, vs, rfl, e1, _, f1⟩ := tup_of re r
    exact .inr (.inl ⟨p, vs, rfl, .inr e1, by rw [f1.length]; exact f.int re h⟩)
  · obtain ⟨v, rfl, r⟩ := rsall1 rx
    obtain ⟨p, vs, rfl, e1, f1⟩ := lst_of re r
    exact .inr (.inl ⟨p, vs, rfl, .inl (SqL.of e1), by rw [f1.length]; exact f.int re h⟩)
  · obtain ⟨v, rfl, r⟩ := rsall1 rx
    obtain ⟨p, vs, rfl, e1, _, f1⟩ := scr_of re r
    exact .inr (.inl ⟨p, vs, rfl, .inl e1, by rw [f1.length]; exact f.int re h⟩)
  · obtain ⟨v, rfl, r⟩ := rsall1 rx
    rename_i n
    cases hs : s[n]? with
    | none => rw [hs] at h; exact h.elim
    | some o =>
      rw [hs] at h
      obtain ⟨p, rfl, hp, ho⟩ := at_loc re r hs
      cases o with
      | lst ts =>
        obtain ⟨vs, f1, e1⟩ := ho
        exact .inr (.inl ⟨p, vs, rfl, .inl (SqL.of e1), by rw [f1.length]; exact f.int re h⟩)
      | tp xs =>
        obtain ⟨vs, f1, e1⟩ := ho
        exact .inr (.inl ⟨p, vs, rfl, .inr (SqT.of e1), by rw [f1.length]; exact f.int re h⟩)
      | dK ts =>
        obtain ⟨vs, f1, e1⟩ := ho
        have hl := f1.length
        rw [List.length_map] at hl
        exact .inr (.inr (.inl ⟨p, _, rfl, e1, by rw [List.length_zip, List.length_map, hl, Nat.min_self]; exact f.int re h⟩))
      | dT ts =>
        obtain ⟨vs, f1, e1⟩ := ho
        have hl := f1.length
        rw [List.length_map] at hl
        exact .inr (.inr (.inr ⟨p, _, rfl, e1, by rw [List.length_zip, List.length_map, hl, Nat.min_self]; exact f.int re h⟩))
      | ll ts =>
        obtain ⟨vs, f1, e1⟩ := ho
        exact .inr (.inl ⟨p, vs, rfl, .inl (SqL.of e1), by rw [f1.length]; exact f.int re h⟩)
      | mK ts =>
        obtain ⟨vs, f1, e1⟩ := ho
        have hl := f1.length
        rw [List.length_map] at hl
        exact .inr (.inr (.inl ⟨p, _, rfl, e1, by rw [List.length_zip, List.length_map, hl, Nat.min_self]; exact f.int re h⟩))
      | mT ts =>
        obtain ⟨vs, f1, e1⟩ := ho
        have hl := f1.length
        rw [List.length_map] at hl
        exact .inr (.inr (.inr ⟨p, _, rfl, e1, by rw [List.length_zip, List.length_map, hl, Nat.min_self]; exact f.int re h⟩))
      | _ => exact h.elim
  · exact h.elim
theorem ae_len {p : Pos} {t : ATA} (hm : X.mg "len" = none) (ha : AA X M [e] t) (hg : Gl X "len" := by rfl) (he : starEach [e] X.env = (false, eval e X.env) :: starEach [] X.env := by rfl) : AE X M (.Call (.Name "len" p) [e] [] pos) (aCall lenG t) := ae_callB cr_len lr_len hg hm PySem.boot_len ha (he := he)
/-- abs, int, min, max, sum -/
def absG : ARC := fun xs s Q => match xs with
  | [.d (.int i)] => Q (.d (.int (if i < 0 then -i else i))) s
  | _ => False
theorem lr_abs {K : Fr} : LiftC K M (fun xs H Q => ∃ i, xs = [.int i] ∧ Q (.int (if i < 0 then -i else i)) H) absG := by
  intro H B φ s x sx Q re rx h Q' f
  unfold absG at h
  split at h
  · obtain ⟨v, rfl, r⟩ := rsall1 rx
    cases int_of r
    exact ⟨_, rfl, f.int re h⟩
  · exact h.elim
def intG : ARC := fun xs s Q => match xs with
  | [.d (.int i)] => Q (.d (.int i)) s
  | [.d (.bl b)] => Q (.d (.int (if b then 1 else 0))) s
  | _ => False
theorem lr_int {K : Fr} : LiftC K M (fun xs H Q => (∃ i, xs = [.int i] ∧ Q (.int i) H) ∨ ∃ k, xs = [.bl k] ∧ Q (.int (if k then 1 else 0)) H) intG := by
  intro H B φ s x sx Q re rx h Q' f
  unfold intG at h
  split at h
  · obtain ⟨v, rfl, r⟩ := rsall1 rx
    cases int_of r
    exact .inl ⟨_, rfl, f.int re h⟩
  · obtain ⟨v, rfl, r⟩ := rsall1 rx
    cases bl_of r
    exact .inr ⟨_, rfl, f.int re h⟩
  · exact h.elim
/-- the greatest, the least of some ints -/
def maxL (ns : List Int) : Int := ns.max?.getD 0
def minL (ns : List Int) : Int := ns.min?.getD 0
theorem maxL_mem {ns : List Int} (h : ns ≠ []) : maxL ns ∈ ns := by
  unfold maxL
  cases e : ns.max? with
  | none => exact absurd (List.max?_eq_none_iff.mp e) h
  | some m => exact List.max?_mem e
theorem le_maxL {ns : List Int} {n : Int} (h : n ∈ ns) : n ≤ maxL ns := by
  unfold maxL
  cases e : ns.max? with
  | none => rw [List.max?_eq_none_iff.mp e] at h; cases h
  | some m => exact (List.max?_le_iff e).mp (Int.le_refl m) n h
theorem minL_mem {ns : List Int} (h : ns ≠ []) : minL ns ∈ ns := by
  unfold minL
  cases e : ns.min? with
  | none => exact absurd (List.min?_eq_none_iff.mp e) h
  | some m => exact List.min?_mem e
theorem minL_le {ns : List Int} {n : Int} (h : n ∈ ns) : minL ns ≤ n := by
  unfold minL
  cases e : ns.min? with
  | none => rw [List.min?_eq_none_iff.mp e] at h; cases h
  | some m => exact (List.le_min?_iff e).mp (Int.le_refl m) n h
def maxG : ARC := fun xs s Q => match xs with
  | [.d (.int i), .d (.int j)] => Q (.d (.int (if j > i then j else i))) s
  | [x] => ∃ ns : List Int, lsV s x = some (ns.map T.int) ∧ ns ≠ [] ∧ Q (.d (.int (maxL ns))) s
  | _ => False
def minG : ARC := fun xs s Q => match xs with
  | [.d (.int i), .d (.int j)] => Q (.d (.int (if j < i then j else i))) s
  | [x] => ∃ ns : List Int, lsV s x = some (ns.map T.int) ∧ ns ≠ [] ∧ Q (.d (.int (minL ns))) s
  | _ => False
def rMaxA (K : Fr) : List V → Hp → VK → Prop := fun xs H Q => (∃ i j, xs = [.int i, .int j] ∧ Q (.int (if j > i then j else i)) H) ∨ rMax K xs H Q
def rMinA (K : Fr) : List V → Hp → VK → Prop := fun xs H Q => (∃ i j, xs = [.int i, .int j] ∧ Q (.int (if j < i then j else i)) H) ∨ rMin K xs H Q
theorem cr_maxA (hc : X.calm = true) : CallR X (.builtin "max") (rMaxA X.K) := CallR.or (call_max2 hc) (cr_max hc)
theorem cr_minA (hc : X.calm = true) : CallR X (.builtin "min") (rMinA X.K) := CallR.or (call_min2 hc) (cr_min hc)
theorem lr_max {K : Fr} : LiftC K M (rMaxA K) maxG := by
  intro H B φ s x sx Q re rx h Q' f
  unfold maxG at h
  split at h
  · obtain ⟨v, w, rfl, r1, r2⟩ := rsall2 rx
    cases int_of r1; cases int_of r2
    exact .inl ⟨_, _, rfl, f.int re h⟩
  · obtain ⟨v, rfl, r⟩ := rsall1 rx
    obtain ⟨ns, h1, h2, q⟩ := h
    obtain ⟨p, vs, rfl, e1, f1⟩ := ls_of re r h1
    have e := f1.of_ints
    subst e
    refine .inr ⟨p, ns, rfl, SqL.of e1, List.length_pos_iff.mpr h2, fun m hm hle => ?_⟩
    have : m = maxL ns := Int.le_antisymm (le_maxL hm) (hle _ (maxL_mem h2))
    rw [this]
    exact f.int re q
  · exact h.elim
theorem lr_min {K : Fr} : LiftC K M (rMinA K) minG := by
  intro H B φ s x sx Q re rx h Q' f
  unfold minG at h
  split at h
  · obtain ⟨v, w, rfl, r1, r2⟩ := rsall2 rx
    cases int_of r1; cases int_of r2
    exact .inl ⟨_, _, rfl, f.int re h⟩
  · obtain ⟨v, rfl, r⟩ := rsall1 rx
    obtain ⟨ns, h1, h2, q⟩ := h
    obtain ⟨p, vs, rfl, e1, f1⟩ := ls_of re r h1
    have e := f1.of_ints
    subst e
    refine .inr ⟨p, ns, rfl, SqL.of e1, List.length_pos_iff.mpr h2, fun m hm hle => ?_⟩
    have : m = minL ns := Int.le_antisymm (hle _ (minL_mem h2)) (minL_le hm)
    rw [this]
    exact f.int re q
  · exact h.elim
def sumG : ARC := fun xs s Q => match xs with
  | [x] => ∃ ns : List Int, lsV s x = some (ns.map T.int) ∧ Q (.d (.int ns.sum)) s
  | _ => False
theorem lr_sum {K : Fr} : LiftC K M (rSum K) sumG := by
  intro H B φ s x sx Q re rx h Q' f
  unfold sumG at h
  split at h
  · obtain ⟨v, rfl, r⟩ := rsall1 rx
    obtain ⟨ns, h1, q⟩ := h
    obtain ⟨p, vs, rfl, e1, f1⟩ := ls_of re r h1
    have e := f1.of_ints
    subst e
    exact ⟨p, ns, rfl, SqL.of e1, f.int re q⟩
  · exact h.elim
def allG : ARC := fun xs s Q => match xs with
  | [x] => ∃ bs : List Bool, lsV s x = some (bs.map T.bl) ∧ Q (.d (.bl (bs.all id))) s
  | _ => False
def anyG : ARC := fun xs s Q => match xs with
  | [x] => ∃ bs : List Bool, lsV s x = some (bs.map T.bl) ∧ Q (.d (.bl (bs.any id))) s
  | _ => False
theorem lr_all {K : Fr} : LiftC K M (rAll K) allG := by
  intro H B φ s x sx Q re rx h Q' f
  unfold allG at h
  split at h
  · obtain ⟨v, rfl, r⟩ := rsall1 rx
    obtain ⟨ns, h1, q⟩ := h
    obtain ⟨p, vs, rfl, e1, f1⟩ := ls_of re r h1
    have e := f1.of_bls
    subst e
    exact ⟨p, ns, rfl, SqL.of e1, f.bl re q⟩
  · exact h.elim
theorem lr_any {K : Fr} : LiftC K M (rAny K) anyG := by
  intro H B φ s x sx Q re rx h Q' f
  unfold anyG at h
  split at h
  · obtain ⟨v, rfl, r⟩ := rsall1 rx
    obtain ⟨ns, h1, q⟩ := h
    obtain ⟨p, vs, rfl, e1, f1⟩ := ls_of re r h1
    have e := f1.of_bls
    subst e
    exact ⟨p, ns, rfl, SqL.of e1, f.bl re q⟩
  · exact h.elim
theorem ae_abs {p : Pos} {t : ATA} (hm : X.mg "abs" = none) (ha : AA X M [e] t) (hg : Gl X "abs" := by rfl) (he : starEach [e] X.env = (false, eval e X.env) :: starEach [] X.env := by rfl) : AE X M (.Call (.Name "abs" p) [e] [] pos) (aCall absG t) := ae_callB call_abs lr_abs hg hm (by decide +kernel) ha (he := he)
theorem ae_max {p : Pos} {t : ATA} (hm : X.mg "max" = none) (ha : AA X M (e :: es) t) (hg : Gl X "max" := by rfl) (hc : X.calm = true := by rfl) (he : starEach (e :: es) X.env = (false, eval e X.env) :: starEach es X.env := by rfl) (hpl : (backTo pos (starEach es X.env)).any (·.1) = false := by rfl) :
    AE X M (.Call (.Name "max" p) (e :: es) [] pos) (aCall maxG t) := ae_callB (cr_maxA hc) lr_max hg hm (by decide +kernel) ha (he := he) (hpl := hpl)
theorem ae_min {p : Pos} {t : ATA} (hm : X.mg "min" = none) (ha : AA X M (e :: es) t) (hg : Gl X "min" := by rfl) (hc : X.calm = true := by rfl) (he : starEach (e :: es) X.env = (false, eval e X.env) :: starEach es X.env := by rfl) (hpl : (backTo pos (starEach es X.env)).any (·.1) = false := by rfl) :
    AE X M (.Call (.Name "min" p) (e :: es) [] pos) (aCall minG t) := ae_callB (cr_minA hc) lr_min hg hm (by decide +kernel) ha (he := he) (hpl := hpl)
theorem ae_sum {p : Pos} {t : ATA} (hm : X.mg "sum" = none) (ha : AA X M [e] t) (hg : Gl X "sum" := by rfl) (hc : X.calm = true := by rfl) (he : starEach [e] X.env = (false, eval e X.env) :: starEach [] X.env := by rfl) : AE X M (.Call (.Name "sum" p) [e] [] pos) (aCall sumG t) := ae_callB (cr_sum hc) lr_sum hg hm (by decide +kernel) ha (he := he)
theorem ae_all {p : Pos} {t : ATA} (hm : X.mg "all" = none) (ha : AA X M [e] t) (hg : Gl X "all" := by rfl) (hc : X.calm = true := by rfl) (he : starEach [e] X.env = (false, eval e X.env) :: starEach [] X.env := by rfl) : AE X M (.Call (.Name "all" p) [e] [] pos) (aCall allG t) := ae_callB (cr_all hc) lr_all hg hm (by decide +kernel) ha (he := he)
theorem ae_any {p : Pos} {t : ATA} (hm : X.mg "any" = none) (ha : AA X M [e] t) (hg : Gl X "any" := by rfl) (hc : X.calm = true := by rfl) (he : starEach [e] X.env = (false, eval e X.env) :: starEach [] X.env := by rfl) : AE X M (.Call (.Name "any" p) [e] [] pos) (aCall anyG t) := ae_callB (cr_any hc) lr_any hg hm (by decide +kernel) ha (he := he)
theorem ae_int_ {p : Pos} {t : ATA} (hm : X.mg "int" = none) (ha : AA X M [e] t) (hg : Gl X "int" := by rfl) (he : starEach [e] X.env = (false, eval e X.env) :: starEach [] X.env := by rfl) : AE X M (.Call (.Name "int" p) [e] [] pos) (aCall intG t) := ae_callT call_int1 lr_int hg hm (by decide +kernel) ha (he := he)
/-- list(..), tuple(..) -/
def listG : ARC := fun xs s Q => match xs with
  | [x] => ∃ ts, sqV s x = some ts ∧ Q (.l s.length) (s ++ [.lst ts])
  | _ => False
def tupleG : ARC := fun xs s Q => match xs with
  | [x] => ∃ ts, sqV s x = some ts ∧ (∀ us, x ≠ .d (.scr us)) ∧ Q (.d (.tup ts)) s
  | _ => False
theorem lr_list {K : Fr} : LiftC K M (fun xs H Q => ∃ p ys, xs = [.ref p] ∧ (SqL K H p ys ∨ SqT K H p ys) ∧ ∀ l, H l = none → Q (.ref l) (upd H l (.lst ys))) listG := by
  intro H B φ s x sx Q re rx h Q' f
  unfold listG at h
  split at h
  · obtain ⟨v, rfl, r⟩ := rsall1 rx
    obtain ⟨ts, h1, q⟩ := h
    obtain ⟨p, vs, rfl, e1, f1⟩ := sq_of re r h1
    exact ⟨p, vs, rfl, e1, f.newL re f1 q⟩
  · exact h.elim
theorem ae_list {p : Pos} {t : ATA} (hm : X.mg "list" = none) (ha : AA X M [e] t) (hg : Gl X "list" := by rfl) (he : starEach [e] X.env = (false, eval e X.env) :: starEach [] X.env := by rfl) : AE X M (.Call (.Name "list" p) [e] [] pos) (aCall listG t) := ae_callT call_list_of lr_list hg hm (by decide +kernel) ha (he := he)
/-- list(range(n)), list(range(a, b)) -/
def rgT (a b : Int) : List T := (List.range (b - a).toNat).map fun (i : Nat) => T.int (a + i)
def aLstRg (t : ATA) : ATE := fun δ s Q => t δ s fun xs s1 => match xs with
  | [.d (.int n)] => RgOk 0 n ∧ Q (.l s1.length) (s1 ++ [.lst (rgT 0 n)])
  | [.d (.int a), .d (.int b)] => RgOk a b ∧ Q (.l s1.length) (s1 ++ [.lst (rgT a b)])
  | _ => False
theorem rgT_fz {K : Fr} {B : Hp} (a b : Int) : FzAll K B (rgV a b) (rgT a b) := by
  unfold rgV rgT
  generalize (List.range (b - a).toNat) = l
  induction l with
  | nil => exact .nil
  | cons x r ih => exact .cons (.int _) ih
theorem ae_listRg {p p' pos' : Pos} (hl : X.mg "list" = none) (hm : X.mg "range" = none) (ha : AE X M e va) (hg : Gl X "list" := by rfl) (hg' : Gl X "range" := by rfl) (hc : X.calm = true := by rfl)
    (na : starEach [e] X.env = (false, eval e X.env) :: starEach [] X.env := by rfl) (na2 : starEach [.Call (.Name "range" p') [e] [] pos'] X.env = (false, eval (.Call (.Name "range" p') [e] [] pos') X.env) :: starEach [] X.env := by rfl) :
    AE X M (.Call (.Name "list" p) [.Call (.Name "range" p') [e] [] pos'] [] pos) (aLstRg (aCons va aNil)) :=
  .of (pe_listRg hc hg hl (prg_1 hg' hm ha.pe na) na2) fun H B φ σ δ s Q re sl q Q' f => uE_lift (t := va) H B φ σ δ s _ re sl q _ fun H1 B1 φ1 s1 v x g1 re1 r1 q1 => by
    cases x with
    | l n => exact q1.elim
    | d t =>
      cases t with
      | int i =>
        cases int_of r1
        exact ⟨i, rfl, q1.1, (f.grow g1).newL re1 (rgT_fz 0 i) q1.2⟩
      | _ => exact q1.elim
end
end Lv

/-! Lv5: methods, isinstance, what is walked, targets, statements, loops, comprehensions, calls of own defs. -/
namespace Lv
open PySem L2

section
variable {X : Cx} {M : MP} {e o a b c : Expr} {es : List Expr} {pos : Pos} {va vb : ATE}
/-! ### isinstance -/
def tyN (s : ST) : SV → Option String
  | .d .non => some "NoneType"
  | .d (.bl _) => some "bool"
  | .d (.int _) => some "int"
  | .d (.str _) => some "str"
  | .d (.lst _) => some "list"
  | .d (.scr _) => some "list"
  | .d (.tup _) => some "tuple"
  | .d (.dk _ _) => some "dict"
  | .l n => (match s[n]? with
    | some (.lst _) => some "list"
    | some (.tp _) => some "tuple"
    | some (.dK _) => some "dict"
    | some (.dT _) => some "dict"
    | some (.ll _) => some "list"
    | some (.mK _) => some "dict"
    | some (.mT _) => some "dict"
    | _ => none)
  | _ => none
theorem tyN_ok {K : Fr} {H B : Hp} {φ : Fi} {s : ST} (re : Re K M H B φ s) {v : V} {x : SV} (r : Rs K B φ v x) {n : String} (h : tyN s x = some n) : TyX K H v (.type n) := by
  cases x with
  | l k =>
    have h : (match s[k]? with | some (.lst _) => some "list" | some (.tp _) => some "tuple" | some (.dK _) => some "dict" | some (.dT _) => some "dict" | some (.ll _) => some "list" | some (.mK _) => some "dict" | some (.mT _) => some "dict" | _ => none) = some n := h
    cases hs : s[k]? with
    | none => rw [hs] at h; cases h
    | some u =>
      rw [hs] at h
      obtain ⟨p, rfl, hp, ho⟩ := at_loc re r hs
      cases u with
      | lst ts => cases (show some "list" = some n from h); obtain ⟨vs, _, e1⟩ := ho; exact .base (.lst e1)
      | tp ts => cases (show some "tuple" = some n from h); obtain ⟨vs, _, e1⟩ := ho; exact .base (.tup e1)
      | dK ts => cases (show some "dict" = some n from h); obtain ⟨vs, _, e1⟩ := ho; exact .base (.dK e1)
      | dT ts => cases (show some "dict" = some n from h); obtain ⟨vs, _, e1⟩ := ho; exact .base (.dT e1)
      | ll ts => cases (show some "list" = some n from h); obtain ⟨vs, _, e1⟩ := ho; exact .base (.lst e1)
      | mK ts => cases (show some "dict" = some n from h); obtain ⟨vs, _, e1⟩ := ho; exact .base (.dK e1)
      | mT ts => cases (show some "dict" = some n from h); obtain ⟨vs, _, e1⟩ := ho; exact .base (.dT e1)
      | _ => cases h
  | d t =>
    cases t with
    | non => cases (show some "NoneType" = some n from h); cases non_of r; exact .base .non
    | bl y => cases (show some "bool" = some n from h); cases bl_of r; exact .base (.bl _)
    | int y => cases (show some "int" = some n from h); cases int_of r; exact .base (.int _)
    | str y => cases (show some "str" = some n from h); cases str_of r; exact .base (.str _)
    | lst ts =>
      cases (show some "list" = some n from h)
      obtain ⟨p, vs, rfl, e1, _⟩ := lst_of re r
      exact .base (.lst e1)
    | scr ts =>
      cases (show some "list" = some n from h)
      obtain ⟨p, vs, rfl, e1, _, _⟩ := scr_of re r
      rcases e1 with (e1 | ⟨ob, e1⟩) | ⟨ob, its, m, hk, hc, _⟩
      · exact .base (.lst e1)
      · exact .base (.frz e1)
      · exact .kList hk hc
    | tup ts =>
      cases (show some "tuple" = some n from h)
      obtain ⟨p, vs, rfl, _, e1, _⟩ := tup_of re r
      rcases e1 with e1 | ⟨⟨ob, its, m, hk, hc, _⟩, _⟩
      · exact .base (.tup (re.ex _ _ e1))
      · exact .kTuple hk hc
    | dk ks ts =>
      cases (show some "dict" = some n from h)
      cases (show Fz K B v (.dk ks ts) from r) with
      | dk h1 _ _ =>
        exact .fDict (re.ex _ _ h1)
    | dt _ _ => cases h
    | obj _ _ _ => cases h
    | exc _ _ => cases h
    | ref _ => cases h
    | ty _ => cases h
def kitsB (a : String) : List String → Option Bool
  | [] => some false
  | b :: r => match kitB a b with
    | some true => some true
    | some false => kitsB a r
    | none => none
theorem kitsB_ok {K : Fr} {a : String} : ∀ {bs : List String} {r : Bool}, kitsB a bs = some r → PySem.W.kitAny K (.type a) (bs.map Value.type) = some r
  | [], r, h => by cases h; exact kitAny_nil
  | b :: bs, r, h => by
    unfold kitsB at h
    cases hb : kitB a b with
    | none => rw [hb] at h; cases h
    | some z =>
      rw [hb] at h
      refine kitAny_cons (kit_ty hb) (fun e => ?_) (fun e => ?_)
      · subst e; exact kitsB_ok h
      · subst e; cases h; rfl
def isiG : ARC := fun xs s Q => match xs with
  | [x, .d (.ty b)] => ∃ a r, tyN s x = some a ∧ kitB a b = some r ∧ Q (.d (.bl r)) s
  | [x, .d (.tup ts)] => ∃ a bs r, tyN s x = some a ∧ ts = bs.map T.ty ∧ kitsB a bs = some r ∧ Q (.d (.bl r)) s
  | _ => False
def rIsiA (K : Fr) : List V → Hp → VK → Prop := fun xs H Q => rIsi K xs H Q ∨ rIsiT K xs H Q ∨ rIsiK K xs H Q
theorem cr_isi : CallR X (.builtin "isinstance") (rIsiA X.K) := CallR.or call_isi (CallR.or call_isiT call_isiK)
theorem fz_tys {K : Fr} {B : Hp} : ∀ {vs : List V} {bs : List String}, FzAll K B vs (bs.map T.ty) → vs = bs.map V.ty
  | _, [], .nil => rfl
  | _, _ :: _, .cons (.ty _) r => by rw [fz_tys r]; rfl
theorem clsv_tys : ∀ bs : List String, Paired ClsV (bs.map V.ty) (bs.map Value.type)
  | [] => .nil
  | b :: r => .cons (.ty b) (clsv_tys r)
theorem vals_tys : ∀ {bs : List String} {us : List Value}, Vals (bs.map V.ty) us → us = bs.map Value.type
  | [], _, .nil => rfl
  | _ :: _, _, .cons r t => by
    rw [vals_tys t]
    have : _ = _ := r
    rw [this]; rfl
theorem lr_isi {K : Fr} : LiftC K M (rIsiA K) isiG := by
  intro H B φ s x sx Q re rx h Q' f
  unfold isiG at h
  split at h
  · obtain ⟨v, w, rfl, r1, r2⟩ := rsall2 rx
    obtain ⟨a, r, h1, h2, q⟩ := h
    cases (show Fz K B w (.ty _) from r2) with
    | ty => exact .inl ⟨v, _, _, _, r, rfl, .ty _, tyN_ok re r1 h1, kit_ty h2, f.bl re q⟩
  · obtain ⟨v, w, rfl, r1, r2⟩ := rsall2 rx
    obtain ⟨a, bs, r, h1, rfl, h2, q⟩ := h
    obtain ⟨p, vs, rfl, _, e2, f1⟩ := tup_of re r2
    have e := fz_tys f1
    subst e
    rcases e2 with e2 | ⟨⟨⟨oc, od, dt, sl⟩, its, n, hk, hc, hd, hz, hv⟩, _⟩
    · exact .inr (.inl ⟨v, p, _, _, _, r, rfl, re.ex _ _ e2, clsv_tys bs, tyN_ok re r1 h1, kitsB_ok h2, f.bl re q⟩)
    · simp only at hc hd
      subst hc hd
      refine .inr (.inr ⟨v, p, od, bs.map Value.type, n, sl, _, r, rfl, ?_, tyN_ok re r1 h1, kitsB_ok h2, f.bl re q⟩)
      rw [hk]
      have : its = (bs.map Value.type).toArray := by
        have := vals_tys hv
        rw [← this]
      rw [this]
  · exact h.elim
theorem ae_isi {e2 : Expr} {p : Pos} {t : ATA} (hm : X.mg "isinstance" = none) (ha : AA X M [e, e2] t) (hg : Gl X "isinstance" := by rfl) (he : starEach [e, e2] X.env = (false, eval e X.env) :: starEach [e2] X.env := by rfl) (hpl : (backTo pos (starEach [e2] X.env)).any (·.1) = false := by rfl) :
    AE X M (.Call (.Name "isinstance" p) [e, e2] [] pos) (aCall isiG t) := ae_callB cr_isi lr_isi hg hm (by decide +kernel) ha (he := he) (hpl := hpl)
/-- a built-in class as a value -/
theorem ae_ty {x : Str} {n : String} (hm : X.mg x = none) (hv : bootBuiltins x = some (.type n)) (hg : Gl X x := by rfl) (hn : x ≠ "__name__" := by decide) (hd : (x == ("__debug__" : Str)) = false := by decide) : AE X M (.Name x pos) (aC (.ty n)) :=
  .of (pe_bltn hg hm hv (v := .ty n) rfl hn hd) fun H B φ σ δ s Q re sl q Q' f => f.now re (.dat (.ty n)) q

/-! ### methods -/
def isTy (s : ST) : SV → Option String
  | .d (.str _) => some "str"
  | .d (.lst _) => some "list"
  | .d (.scr _) => some "list"
  | .l n => (match s[n]? with
    | some (.lst _) => some "list"
    | some (.dK _) => some "dict"
    | some (.dT _) => some "dict"
    | some (.ll _) => some "list"
    | some (.mK _) => some "dict"
    | some (.mT _) => some "dict"
    | _ => none)
  | _ => none
theorem isTy_ok {K : Fr} {H B : Hp} {φ : Fi} {s : ST} (re : Re K M H B φ s) {v : V} {x : SV} (r : Rs K B φ v x) {n : String} (h : isTy s x = some n) : tyV K n v H := by
  cases x with
  | l k =>
    have h : (match s[k]? with | some (.lst _) => some "list" | some (.dK _) => some "dict" | some (.dT _) => some "dict" | some (.ll _) => some "list" | some (.mK _) => some "dict" | some (.mT _) => some "dict" | _ => none) = some n := h
    cases hs : s[k]? with
    | none => rw [hs] at h; cases h
    | some u =>
      rw [hs] at h
      obtain ⟨p, rfl, hp, ho⟩ := at_loc re r hs
      cases u with
      | lst ts => cases (show some "list" = some n from h); obtain ⟨vs, _, e1⟩ := ho; exact .inl ⟨rfl, _, SqL.of e1⟩
      | dK ts => cases (show some "dict" = some n from h); obtain ⟨vs, _, e1⟩ := ho; exact .inr (.inr (.inl ⟨rfl, .inl ⟨_, e1⟩⟩))
      | dT ts => cases (show some "dict" = some n from h); obtain ⟨vs, _, e1⟩ := ho; exact .inr (.inr (.inl ⟨rfl, .inr ⟨_, e1⟩⟩))
      | ll ts => cases (show some "list" = some n from h); obtain ⟨vs, _, e1⟩ := ho; exact .inl ⟨rfl, _, SqL.of e1⟩
      | mK ts => cases (show some "dict" = some n from h); obtain ⟨vs, _, e1⟩ := ho; exact .inr (.inr (.inl ⟨rfl, .inl ⟨_, e1⟩⟩))
      | mT ts => cases (show some "dict" = some n from h); obtain ⟨vs, _, e1⟩ := ho; exact .inr (.inr (.inl ⟨rfl, .inr ⟨_, e1⟩⟩))
      | _ => cases h
  | d t =>
    cases t with
    | str y => cases (show some "str" = some n from h); cases str_of r; exact rfl
    | lst ts =>
      cases (show some "list" = some n from h)
      obtain ⟨p, vs, rfl, e1, _⟩ := lst_of re r
      exact .inl ⟨rfl, _, SqL.of e1⟩
    | scr ts =>
      cases (show some "list" = some n from h)
      obtain ⟨p, vs, rfl, e1, _, _⟩ := scr_of re r
      exact .inl ⟨rfl, _, e1⟩
    | _ => cases h
def aMe (ty : String) (g : ARM) (to : ATE) (t : ATA) : ATE := fun δ s Q => to δ s fun x s1 => isTy s1 x = some ty ∧ t δ s1 fun xs s2 => g x xs s2 Q
def aMe0 (ty : String) (g : ARM) (to : ATE) : ATE := fun δ s Q => to δ s fun x s1 => isTy s1 x = some ty ∧ g x [] s1 Q
theorem ae_me {name : Str} {apos : Pos} {ty id : String} {r : V → List V → Hp → VK → Prop} {g : ARM} {t : ATA} (pa : PlainAttrs ty) (slot : Slot ty name id) (hty : typeOf (.builtin id) = pure (.type "method_descriptor")) (hm : MtR X id r) (lm : LiftM X.K M r g) (ho : AE X M o va) (ha : AA X M (e :: es) t)
    (hbase : attributeBase o name X.env (eval o X.env) = eval o X.env := by rfl)
    (hfew : ((backTo pos (starEach (e :: es) X.env)).all (fun x => !x.1) && (backToKw pos (keywordEach [] X.env)).all (fun x => x.1.isSome)
      && decide ((e :: es).length + ([] : List Keyword).length + (if ([] : List Keyword).isEmpty then 0 else 1) < 30)) = true := by rfl)
    (hline : (apos.endLine == pos.line) = true := by rfl) (hs : starEach (e :: es) X.env = (false, eval e X.env) :: starEach es X.env := by rfl) (hplain : (backTo pos (starEach es X.env)).any (·.1) = false := by rfl) :
    AE X M (.Call (.Attribute o name apos) (e :: es) [] pos) (aMe ty g va t) :=
  .of (pe_bm pa slot hty hm ho.pe ha.pa hbase hfew hline hs hplain) fun H B φ σ δ s Q re sl q Q' f => uE_lift (t := va) H B φ σ δ s _ re sl q _ fun H1 B1 φ1 s1 v x g1 re1 r1 ⟨q0, q1⟩ =>
    ⟨isTy_ok re1 r1 q0, uA_lift (t := t) H1 B1 φ1 σ δ s1 _ re1 (sl.mono g1) q1 _ fun H2 B2 φ2 s2 vs xs g2 re2 r2 q2 => lm H2 B2 φ2 s2 v x vs xs Q re2 (r1.mono g2) r2 q2 Q' (f.grow (g1.trans g2))⟩
theorem ae_me0 {name : Str} {apos : Pos} {ty id : String} {r : V → List V → Hp → VK → Prop} {g : ARM} (pa : PlainAttrs ty) (slot : Slot ty name id) (hty : typeOf (.builtin id) = pure (.type "method_descriptor")) (hm : MtR X id r) (lm : LiftM X.K M r g) (ho : AE X M o va)
    (hbase : attributeBase o name X.env (eval o X.env) = eval o X.env := by rfl) (hline : (apos.endLine == pos.line) = true := by rfl) :
    AE X M (.Call (.Attribute o name apos) [] [] pos) (aMe0 ty g va) :=
  .of (pe_bm0 pa slot hty hm ho.pe hbase hline) fun H B φ σ δ s Q re sl q Q' f => uE_lift (t := va) H B φ σ δ s _ re sl q _ fun H1 B1 φ1 s1 v x g1 re1 r1 ⟨q0, q1⟩ =>
    ⟨isTy_ok re1 r1 q0, lm H1 B1 φ1 s1 v x [] [] Q re1 r1 .nil q1 Q' (f.grow g1)⟩
/-- the store's list n becomes zs -/
theorem FinE.setL {K : Fr} {H B : Hp} {φ : Fi} {s : ST} {Q : SV → ST → Prop} {Q' : VK} (f : FinE K M H B φ Q Q') (re : Re K M H B φ s) {n : Nat} {p : Addr} {vs : List V} {ts : List T} (hp : φ[n]? = some (one p)) (hB : B p = none) (hv : FzAll K B vs ts) {w : V} {t : T} (hw : Fz K B w t)
    (q : Q (.d t) (s.set n (.lst ts))) : Q' w (upd H p (.lst vs)) := by
  obtain ⟨g, re2⟩ := re.set (.lst vs) (.lst ts) hp hB ⟨vs, hv, rfl⟩
  exact f _ _ _ _ _ _ g re2 (.dat hw) q
def appG : ARM := fun x xs s Q => match x, xs with
  | .l n, [.d t] => ∃ ts, s[n]? = some (.lst ts) ∧ ts.length < sizeLine ∧ Q (.d .non) (s.set n (.lst (ts ++ [t])))
  | .l n, [.l m] => ∃ xs, s[n]? = some (.ll xs) ∧ xs.length < sizeLine ∧ Q (.d .non) (s.set n (.ll (xs ++ [.l m])))
  | _, _ => False
theorem RsAll.app1 {K : Fr} {B : Hp} {φ : Fi} {v : V} {x : SV} (h : Rs K B φ v x) : ∀ {vs : List V} {xs : List SV}, RsAll K B φ vs xs → RsAll K B φ (vs ++ [v]) (xs ++ [x])
  | _, _, .nil => .cons h .nil
  | _, _, .cons a r => .cons a (RsAll.app1 h r)
theorem lr_app {K : Fr} : LiftM K M rAppend appG := by
  intro H B φ s x sx y sy Q re rx ry h Q' f
  unfold appG at h
  split at h
  · obtain ⟨v, rfl, r⟩ := rsall1 ry
    obtain ⟨ts, h1, h2, q⟩ := h
    obtain ⟨p, vs, rfl, hp, e1, hB, f1⟩ := own_of re rx h1
    exact ⟨p, vs, v, rfl, rfl, e1, by rw [f1.length]; exact h2, f.setL re hp hB (f1.append (.cons r .nil)) .non q⟩
  · obtain ⟨w, rfl, r⟩ := rsall1 ry
    obtain ⟨xs, h1, h2, q⟩ := h
    obtain ⟨p, hp, rfl⟩ := rx
    obtain ⟨a, ha, vs, f1, e1⟩ := re.at_ h1
    rw [Fi.r_of ha] at hp; cases hp
    obtain ⟨g, re2⟩ := re.set (.lst (vs ++ [w])) (.ll (xs ++ [_])) ha (re.fr1 ha h1 rfl) ⟨vs ++ [w], f1.app1 r, rfl⟩
    exact ⟨a, vs, w, rfl, rfl, e1, by rw [f1.length]; exact h2, f _ _ _ _ _ _ g re2 (.dat .non) q⟩
  · exact h.elim
def revG : ARM := fun x xs s Q => match x, xs with
  | .l n, [] => ∃ ts, s[n]? = some (.lst ts) ∧ Q (.d .non) (s.set n (.lst ts.reverse))
  | _, _ => False
theorem lr_rev {K : Fr} : LiftM K M rReverse revG := by
  intro H B φ s x sx y sy Q re rx ry h Q' f
  unfold revG at h
  split at h
  · cases rsall0 ry
    obtain ⟨ts, h1, q⟩ := h
    obtain ⟨p, vs, rfl, hp, e1, hB, f1⟩ := own_of re rx h1
    exact ⟨p, vs, rfl, rfl, e1, f.setL re hp hB f1.reverse .non q⟩
  · exact h.elim
def clrG : ARM := fun x xs s Q => match x, xs with
  | .l n, [] => ∃ ts, s[n]? = some (.lst ts) ∧ Q (.d .non) (s.set n (.lst []))
  | _, _ => False
theorem FzAll.dropLast {K : Fr} {B : Hp} {vs : List V} {ts : List T} (h : FzAll K B vs ts) : FzAll K B vs.dropLast ts.dropLast := by
  rw [List.dropLast_eq_take, List.dropLast_eq_take, h.length]
  exact h.take _
def popG : ARM := fun x xs s Q => match x, xs with
  | .l n, [] => ∃ ts t, s[n]? = some (.lst ts) ∧ ts[ts.length - 1]? = some t ∧ Q (.d t) (s.set n (.lst ts.dropLast))
  | _, _ => False
def popAtG : ARM := fun x xs s Q => match x, xs with
  | .l n, [.d (.int i)] => ∃ ts k t, s[n]? = some (.lst ts) ∧ -(2 ^ 63) ≤ i ∧ i < 2 ^ 63 ∧ seqIndex? i ts.length = some k ∧ ts[k]? = some t ∧ Q (.d t) (s.set n (.lst (ts.eraseIdx k)))
  | _, _ => False
theorem lr_popAt {K : Fr} : LiftM K M rPopAt popAtG := by
  intro H B φ s x sx y sy Q re rx ry h Q' f
  unfold popAtG at h
  split at h
  · obtain ⟨v, rfl, r⟩ := rsall1 ry
    cases int_of r
    obtain ⟨ts, k, t, h1, h2, h3, h4, h5, q⟩ := h
    obtain ⟨p, vs, rfl, hp, e1, hB, f1⟩ := own_of re rx h1
    obtain ⟨v, hv, r⟩ := f1.get' h5
    exact ⟨p, vs, _, k, v, rfl, rfl, e1, h2, h3, by rw [f1.length]; exact h4, hv, f.setL re hp hB (f1.erase k) r q⟩
  · exact h.elim
/-- l.extend(m): m another list -/
def extG : ARM := fun x xs s Q => match x, xs with
  | .l n, [y] => ∃ ts us, s[n]? = some (.lst ts) ∧ lsV s y = some us ∧ ts.length + us.length ≤ sizeLine ∧ Q (.d .non) (s.set n (.lst (ts ++ us)))
  | _, _ => False
def insG : ARM := fun x xs s Q => match x, xs with
  | .l n, [.d (.int i), .d t] => ∃ ts, s[n]? = some (.lst ts) ∧ ts.length < sizeLine ∧ 0 ≤ i ∧ i < 2 ^ 63 ∧ Q (.d .non) (s.set n (.lst (ts.take i.toNat ++ [t] ++ ts.drop i.toNat)))
  | _, _ => False
theorem lr_ins {K : Fr} : LiftM K M (fun x vs H Q => ∃ (l : Addr) (xs : List V) (i : Int) (y : V), x = .ref l ∧ vs = [.int i, y] ∧ H l = some (.lst xs) ∧ xs.length < sizeLine ∧ 0 ≤ i ∧ i < 2 ^ 63 ∧
    Q .non (upd H l (.lst (xs.take i.toNat ++ [y] ++ xs.drop i.toNat)))) insG := by
  intro H B φ s x sx y sy Q re rx ry h Q' f
  unfold insG at h
  split at h
  · obtain ⟨v, w, rfl, r, r2⟩ := rsall2 ry
    cases int_of r
    obtain ⟨ts, h1, h2, h3, h4, q⟩ := h
    obtain ⟨p, vs, rfl, hp, e1, hB, f1⟩ := own_of re rx h1
    exact ⟨p, vs, _, w, rfl, rfl, e1, by rw [f1.length]; exact h2, h3, h4, f.setL re hp hB (((f1.take _).append (.cons r2 .nil)).append (f1.drop _)) .non q⟩
  · exact h.elim
/-- index of flat data that is there -/
def eqF (a b : T) : Bool := eqV a.v b.v
def idxG : ARM := fun x xs s Q => match xs with
  | [.d y] => ∃ ts j z, lsV s x = some ts ∧ y.flat = true ∧ ts.all T.flat = true ∧ ts[j]? = some z ∧ eqF z y = true ∧ (∀ m z', m < j → ts[m]? = some z' → eqF z' y = false) ∧ Q (.d (.int (j : Nat))) s
  | _ => False
theorem lr_idx {K : Fr} : LiftM K M (rIndex K) idxG := by
  intro H B φ s x sx y sy Q re rx ry h Q' f
  unfold idxG at h
  split at h
  · obtain ⟨v, rfl, r⟩ := rsall1 ry
    obtain ⟨ts, j, z, h1, h2, h3, h4, h5, h6, q⟩ := h
    obtain ⟨p, vs, rfl, e1, f1⟩ := ls_of re rx h1
    obtain ⟨e2, f2⟩ := flat_of (show Fz K B v _ from r) h2
    obtain ⟨e3, f3⟩ := flats_of f1 h3
    subst e2; subst e3
    refine ⟨p, _, _, j, z.v, rfl, rfl, SqL.of e1, f2, f3, by rw [List.getElem?_map, h4]; rfl, h5, fun m z' hm hz => ?_, f.int re q⟩
    rw [List.getElem?_map] at hz
    cases hw : ts[m]? with
    | none => rw [hw] at hz; cases hz
    | some z2 =>
      rw [hw] at hz
      cases hz
      exact h6 m z2 hm hw
  · exact h.elim
def jnG : ARM := fun x xs s Q => match x, xs with
  | .d (.str a), [y] => ∃ ys : List Str, sqV s y = some (ys.map T.str) ∧ (ys.map (·.length)).sum + ys.length * a.length ≤ 16777216 ∧ Q (.d (.str (Txt.join a ys))) s
  | _, _ => False
def cntG : ARM := fun x xs s Q => match x, xs with
  | .d (.str a), [.d (.str b)] => Q (.d (.int (Txt.count a b))) s
  | _, _ => False
def splG : ARM := fun x xs s Q => match x, xs with
  | .d (.str a), [.d (.str b)] => (b.length == 0) = false ∧ a.length + 2 ≤ sizeLine ∧ Q (.l s.length) (s ++ [.lst ((Txt.split a b).map T.str)])
  | _, _ => False
variable {apos : Pos} {t : ATA}
abbrev HB (X : Cx) (o : Expr) (name : Str) : Prop := attributeBase o name X.env (eval o X.env) = eval o X.env
abbrev HF (X : Cx) (es : List Expr) (pos : Pos) : Prop := ((backTo pos (starEach es X.env)).all (fun x => !x.1) && (backToKw pos (keywordEach [] X.env)).all (fun x => x.1.isSome) && decide (es.length + ([] : List Keyword).length + (if ([] : List Keyword).isEmpty then 0 else 1) < 30)) = true
abbrev HS1 (X : Cx) (e : Expr) (es : List Expr) : Prop := starEach (e :: es) X.env = (false, eval e X.env) :: starEach es X.env
abbrev HP1 (X : Cx) (es : List Expr) (pos : Pos) : Prop := (backTo pos (starEach es X.env)).any (·.1) = false
theorem ae_append (ho : AE X M o va) (ha : AA X M [e] t) (hb : HB X o "append" := by rfl) (hf : HF X [e] pos := by rfl) (hl : (apos.endLine == pos.line) = true := by rfl) (hs : HS1 X e [] := by rfl) (hp : HP1 X [] pos := by rfl) :
    AE X M (.Call (.Attribute o "append" apos) [e] [] pos) (aMe "list" appG va t) := ae_me PySem.F.plainAttrs_list PySem.F.slot_list_append PySem.F.type_list_append mt_append lr_app ho ha hb hf hl hs hp
theorem ae_index (ho : AE X M o va) (ha : AA X M [e] t) (hb : HB X o "index" := by rfl) (hf : HF X [e] pos := by rfl) (hl : (apos.endLine == pos.line) = true := by rfl) (hs : HS1 X e [] := by rfl) (hp : HP1 X [] pos := by rfl) :
    AE X M (.Call (.Attribute o "index" apos) [e] [] pos) (aMe "list" idxG va t) := ae_me PySem.F.plainAttrs_list PySem.F.slot_list_index PySem.F.type_list_index mt_index lr_idx ho ha hb hf hl hs hp
theorem ae_popAt (ho : AE X M o va) (ha : AA X M [e] t) (hb : HB X o "pop" := by rfl) (hf : HF X [e] pos := by rfl) (hl : (apos.endLine == pos.line) = true := by rfl) (hs : HS1 X e [] := by rfl) (hp : HP1 X [] pos := by rfl) :
    AE X M (.Call (.Attribute o "pop" apos) [e] [] pos) (aMe "list" popAtG va t) := ae_me PySem.F.plainAttrs_list PySem.F.slot_list_pop PySem.F.type_list_pop mt_popAt lr_popAt ho ha hb hf hl hs hp
theorem ae_insert {e2 : Expr} (ho : AE X M o va) (ha : AA X M [e, e2] t) (hb : HB X o "insert" := by rfl) (hf : HF X [e, e2] pos := by rfl) (hl : (apos.endLine == pos.line) = true := by rfl) (hs : HS1 X e [e2] := by rfl) (hp : HP1 X [e2] pos := by rfl) :
    AE X M (.Call (.Attribute o "insert" apos) [e, e2] [] pos) (aMe "list" insG va t) := ae_me PySem.F.plainAttrs_list PySem.F.slot_list_insert PySem.F.type_list_insert mt_insert lr_ins ho ha hb hf hl hs hp
theorem ae_reverse (ho : AE X M o va) (hb : HB X o "reverse" := by rfl) (hl : (apos.endLine == pos.line) = true := by rfl) : AE X M (.Call (.Attribute o "reverse" apos) [] [] pos) (aMe0 "list" revG va) :=
  ae_me0 PySem.F.plainAttrs_list PySem.F.slot_list_reverse PySem.F.type_list_reverse mt_reverse lr_rev ho hb hl
end
end Lv

/-! LvI: enumerate and zip over lists, tuples and texts in any mix; a list or a tuple walked. -/
namespace LvI
open PySem PySem.Spec PyProof.Rows L2
open AutoSeq1 (wpAny_loadPart')

/-! ### enumerate of anything that begins -/
set_option maxHeartbeats 4000000 in
theorem meets_enum1 {v : Value} {o : Obj} {H : Heap → Prop} (B : Begins v o H) :
    Meets (Builtin.«enumerate.__new__» ⟨[.type "enumerate", v], []⟩) (fun _ R s => H s.heap ∧
      R (.ok (.ret (.ref (s.heap.push o).objs.size))) { s with heap := (s.heap.push o).push { cls := .type "enumerate", data := .fields #[.none, .bool false, .ref s.heap.objs.size, rawInt 0, .none, .none] } }) :=
  .of_wp fun prog w A R s h => by
    obtain ⟨hp, g, d, tk, os⟩ := s; obtain ⟨h1, h⟩ := h
    have hsub := sub_enumerate
    have q1 : ∀ {A' : Around} {E : Value → Shared → Prop} {Q : Value → Shared → Prop}, Q (.ref hp.objs.size) ⟨hp.push o, g, d, tk, os⟩ → wpAny (model prog w) A' (pyIter v) Q E ⟨hp, g, d, tk, os⟩ :=
      fun q => B.iter prog w _ _ ⟨hp, g, d, tk, os⟩ _ h1 q
    wp_walk using q1
    refine wpAny_stack_any fun st => wpAny_pure ?_
    split
    · rename_i c _ _ _ _ _
      cases (c == Value.type "enumerate")
      · wp_walk using q1
        exact ⟨_, rfl, h⟩
      · wp_walk using q1
        exact ⟨_, rfl, h⟩
    · wp_walk using q1
      exact ⟨_, rfl, h⟩
theorem enum_begins1 {prog : Program} {w : World} {A : Around} {E : Value → Shared → Prop} {s : Shared} {v : Value} {o : Obj} {H : Heap → Prop} {Q : Value → Shared → Prop} (B : Begins v o H) (h1 : H s.heap)
    (h : ∀ h', IsEnum h' (s.heap.objs.size + 1) s.heap.objs.size 0 .none → h'.get? s.heap.objs.size = some o → h'.objs.size = s.heap.objs.size + 2 →
      (∀ b o, s.heap.get? b = some o → h'.get? b = some o) → Q (.ref (s.heap.objs.size + 1)) { s with heap := h' }) :
    wpAny (model prog w) A (call (.type "enumerate") [v]) Q E s := by
  refine callType_new F.called_enumerate (by decide) (F.typeCall_enumerate_1 _) (F.newCall_enumerate_1 _) (fun obj => F.args_object_init_2 obj _) F.entry_enumerate_new
    (meets_enum1 B) ⟨h1, ?_⟩
  have hz : (s.heap.push o).objs.size = s.heap.objs.size + 1 := Heap.size_push ..
  show _ ∧ _
  rw [hz]
  have he : IsEnum ((s.heap.push o).push { cls := .type "enumerate", data := .fields #[.none, .bool false, .ref s.heap.objs.size, rawInt 0, .none, .none] }) (s.heap.objs.size + 1) s.heap.objs.size 0 .none := by
    have := Heap.get?_push_size (s.heap.push o) (o := { cls := .type "enumerate", data := .fields #[.none, .bool false, .ref s.heap.objs.size, rawInt 0, .none, .none] }) rfl
    rw [hz] at this; exact this
  refine ⟨⟨_, he, rfl⟩, h _ he (Heap.get?_push_of_some _ (Heap.get?_push_size _ B.free)) (by rw [Heap.size_push, hz]) fun b o x => Heap.get?_push_of_some _ (Heap.get?_push_of_some _ x)⟩

/-! ### what is drawn from -/
inductive Src where
  | L (a : Addr) | U (a : Addr) | S (z : Str)
def Src.rd (K : PySem.W.Frag) : Src → Hp → List V → Prop
  | .L a, H, xs => SqL K H a xs
  | .U a, H, xs => SqT K H a xs
  | .S z, _, xs => xs = z.cps.toList.map fun c => V.str ⟨#[c]⟩
def Src.v : Src → V
  | .L a => .ref a
  | .U a => .ref a
  | .S z => .str z
def Src.it : Src → Heap → Addr → Nat → Prop
  | .L a, h, it, i => h.IsListIter it a i
  | .U a, h, it, i => h.IsTupleIter it a i
  | .S z, h, it, i => ∃ t, h.IsStrIter it (strIterType z) z t i
def Src.ad : Src → List Addr
  | .L a => [a]
  | .U a => [a]
  | .S _ => []
section
variable {X : Cx} {pins : List (Addr × Obj)} {σ : L2.St} {H : Hp} {s : Shared} {xs : List V}
theorem Src.obj {k : Src} {h : Heap} {it : Addr} {i : Nat} (st : k.it h it i) : ∃ o, h.get? it = some o ∧ ∀ v, o.data ≠ .cell v := by
  cases k with
  | L a => obtain ⟨o, e, _, d⟩ := st; exact ⟨o, e, fun v q => by rw [d] at q; cases q⟩
  | U a => obtain ⟨o, e, _, d⟩ := st; exact ⟨o, e, fun v q => by rw [d] at q; cases q⟩
  | S z => obtain ⟨t, o, e, _, d⟩ := st; exact ⟨o, e, fun v q => by rw [d] at q; cases q⟩
theorem Src.keep {k : Src} {h h' : Heap} {it : Addr} {i : Nat} (st : k.it h it i) (hk : ∀ o, h.get? it = some o → h'.get? it = some o) : k.it h' it i := by
  cases k with
  | L a => exact st.at hk
  | U a => exact st.at hk
  | S z => obtain ⟨t, o, e, d⟩ := st; exact ⟨t, o, hk o e, d⟩
theorem Src.inj {k : Src} (I : Inv X pins σ H s) {ys : List V} (h : k.rd X.K H xs) (h' : k.rd X.K H ys) : xs = ys := by
  cases k with
  | L a => exact I.list_inj h h'
  | U a => exact I.tuple_inj h h'
  | S z => exact h.trans h'.symm
/-- the iterator draws the items as they stand -/
theorem Src.draws {k : Src} {it : Addr} {i : Nat} (I : Inv X pins σ H s) (hc : X.calm = true) (hr : k.rd X.K H xs) (hi : k.it s.heap it i) (hne : it ∉ k.ad) :
    ∃ (P : Nat → Value → Prop) (Sx : Nat → Heap → Prop), Draws X.prog X.w X.A.in1 it (it :: k.ad) xs.length P Sx ∧ Sx i s.heap ∧ (∀ j v, P j v → ∃ x, xs[j]? = some x ∧ RelV x v) ∧ (∀ j h', Sx j h' → k.it h' it j) := by
  have hh : X.A.in1.handled = none := I.ok.hd hc
  cases k with
  | L a =>
    obtain ⟨its, rv, p, hz⟩ := I.list hr
    have hne' : a ≠ it := fun z => hne (by rw [← z]; exact List.mem_singleton.mpr rfl)
    have hl : its.toArray.size = xs.length := by rw [List.size_toArray]; exact rv.length.symm
    refine ⟨_, _, hl ▸ Draws.list hh it a hne' its.toArray, ⟨hi, p.isList⟩, fun j v hv => ?_, fun j h' st => st.1⟩
    have hv' : its[j]? = some v := by simpa using hv
    obtain ⟨hj, hv2⟩ := List.getElem?_eq_some_iff.mp hv'
    have hj2 : j < xs.length := by rw [rv.length]; exact hj
    obtain ⟨u, hu, ru⟩ := rv.get (List.getElem?_eq_getElem hj2)
    rw [hv'] at hu
    cases hu
    exact ⟨_, List.getElem?_eq_getElem hj2, ru⟩
  | U a =>
    obtain ⟨its, rv, p, hz⟩ := I.tuple hr
    have hne' : a ≠ it := fun z => hne (by rw [← z]; exact List.mem_singleton.mpr rfl)
    have hl : its.toArray.size = xs.length := by rw [List.size_toArray]; exact rv.length.symm
    refine ⟨_, _, hl ▸ Draws.tuple hh it a hne' its.toArray, ⟨hi, p⟩, fun j v hv => ?_, fun j h' st => st.1⟩
    have hv' : its[j]? = some v := by simpa using hv
    obtain ⟨hj, hv2⟩ := List.getElem?_eq_some_iff.mp hv'
    have hj2 : j < xs.length := by rw [rv.length]; exact hj
    obtain ⟨u, hu, ru⟩ := rv.get (List.getElem?_eq_getElem hj2)
    rw [hv'] at hu
    cases hu
    exact ⟨_, List.getElem?_eq_getElem hj2, ru⟩
  | S z =>
    obtain ⟨t, st⟩ := hi
    have hl : z.cps.size = xs.length := by rw [show xs = z.cps.toList.map (fun c => V.str ⟨#[c]⟩) from hr, List.length_map, Array.length_toList]
    refine ⟨_, _, hl ▸ Draws.text hh it z t, st, fun j v hv => ?_, fun j h' st => ⟨t, st⟩⟩
    obtain ⟨c, u, h1, h2⟩ := hv
    refine ⟨.str ⟨#[c]⟩, ?_, u, h2⟩
    rw [show xs = z.cps.toList.map (fun c => V.str ⟨#[c]⟩) from hr, List.getElem?_map, Array.getElem?_toList, h1]
    rfl

/-! ### enumerate -/
def IteK (K : PySem.W.Frag) (k : Src) : It :=
  ⟨fun i H => ∃ (xs : List V) (x : V), k.rd K H xs ∧ xs[i]? = some x, fun i H v H' => ∃ T x, v = .ref T ∧ H T = none ∧ H' = upd H T (.tup [.int (i : Nat), x]) ∧ ∀ xs, k.rd K H xs → xs[i]? = some x, fun i H => ∃ xs : List V, k.rd K H xs ∧ xs.length = i⟩
theorem turn_enumK {P : Program} {w : World} {K : PySem.W.Frag} {elts : List Expr} {kk : Nat} {tpos : Pos} (k : Src) (e it : Addr) :
    Turn P w K (.Tuple elts kk tpos) (IteK K k) [e, it] e (fun i h => (∃ old, IsEnum h e it ((i : Nat) : Int) old) ∧ k.it h it i ∧ e ≠ it ∧ e ∉ k.ad ∧ it ∉ k.ad) where
  mem := by simp
  obj := fun i h st b hb => by
    obtain ⟨⟨old, he⟩, hi, _⟩ := st
    have e' : b = e ∨ b = it := by simpa using hb
    rcases e' with z | z
    · rw [z]; exact ⟨_, he, fun v q => nomatch q⟩
    · rw [z]; exact Src.obj hi
  keep := fun i h h' st k' => let ⟨⟨old, he⟩, hi, r⟩ := st; ⟨⟨old, k' e (by simp) _ he⟩, Src.keep hi fun o q => k' it (by simp) o q, r⟩
  item := by
    intro X hP hw hK hc i pins s σ H E I hf st hg
    subst hP hw hK
    obtain ⟨⟨old, he⟩, hit, hne, hea, hia⟩ := st
    obtain ⟨xs, x, hq, hx⟩ := hg
    obtain ⟨Pv, Sx, D, st1, hP, hS⟩ := Src.draws I hc hq hit hia
    have hi : i < xs.length := (List.getElem?_eq_some_iff.mp hx).1
    have hel : e < s.heap.objs.size := Heap.lt_size he
    have hil : it < s.heap.objs.size := by obtain ⟨o, q, _⟩ := Src.obj hit; exact Heap.lt_size q
    have G := GoesN.enumFrom (elts := elts) (x1 := kk) (pos := tpos) 0 D e hne (by simp [hne, hea]) (by simp)
    have z0 : (0 : Int) + (i : Int) = (i : Int) := Int.zero_add _
    refine G.goes i s _ E hi ⟨⟨old, by rw [z0]; exact he⟩, st1⟩ fun v h' tk ⟨T, t, u, ev, hT, hPu, hTu⟩ ⟨⟨old', he'⟩, st2⟩ hk htk => ?_
    obtain ⟨x', hx', ru⟩ := hP i u hPu
    rw [hx] at hx'; cases hx'
    rw [z0] at hTu
    have new : ObjOk X.prog X.w (upd H T (.tup [.int (i : Nat), x])) h' T (.tup [.int (i : Nat), x]) :=
      ⟨by show 2 ≤ sizeLine; decide, [.int i t, u], .cons ⟨_, rfl⟩ (.cons ru .nil), hTu⟩
    have I1 : Inv X pins σ (upd H T (.tup [.int (i : Nat), x])) { s with heap := h', toks := tk } :=
      I.turnedNew (ch := [e, it]) (fun b ob hb q => hk b ob hb q) hf hT new
    subst ev
    refine ⟨.ref T, _, I1, rfl, ⟨T, x, rfl, I.hok.fresh hT, rfl, fun ys hy => by rw [Src.inj I hy hq]; exact hx⟩, ⟨⟨old', ?_⟩, hS _ _ st2, hne, hea, hia⟩, fun b hb => ?_⟩
    · have e1 : (0 : Int) + ((i + 1 : Nat) : Int) = ((i + 1 : Nat) : Int) := Int.zero_add _
      rw [e1] at he'; exact he'
    · have hb' : b < s.heap.objs.size := by
        have e' : b = e ∨ b = it := by simpa using hb
        rcases e' with z | z
        · rw [z]; exact hel
        · rw [z]; exact hil
      rw [upd_ne (Nat.ne_of_lt (Nat.lt_of_lt_of_le hb' hT))]
      exact (hf b hb).1
  done := by
    intro X hP hw hK hc i pins s σ H E I hf st hg
    subst hP hw hK
    obtain ⟨⟨old, he⟩, hit, hne, hea, hia⟩ := st
    obtain ⟨xs, hq, hx⟩ := hg
    subst hx
    obtain ⟨Pv, Sx, D, st1, hP, hS⟩ := Src.draws I hc hq hit hia
    have G := GoesN.enumFrom (elts := elts) (x1 := kk) (pos := tpos) 0 D e hne (by simp [hne, hea]) (by simp)
    have z0 : (0 : Int) + (xs.length : Int) = (xs.length : Int) := Int.zero_add _
    exact G.stops s _ E ⟨⟨old, by rw [z0]; exact he⟩, st1⟩ fun h' tk hk htk => I.turnedL (ch := [e, it]) (fun b o hb q => hk b o hb q) hf
  self := fun A i s Q E st h => let ⟨⟨_, he⟩, _⟩ := st; wpAny_pyIter_enum he h
/-- how a source begins -/
theorem Src.begins {k : Src} {u : Value} (I : Inv X pins σ H s) (hr : k.rd X.K H xs) (r : RelV k.v u) : ∃ (o : Obj) (Hh : Heap → Prop), Begins u o Hh ∧ Hh s.heap ∧ (∀ h' it, h'.get? it = some o → k.it h' it 0) ∧ ∀ a ∈ k.ad, a < s.heap.objs.size := by
  cases k with
  | L a =>
    cases r
    obtain ⟨its, rv, p, hz⟩ := I.list hr
    exact ⟨_, _, begins_list a its.toArray, p.isList, fun h' it e => ⟨_, e, rfl, rfl⟩, fun b hb => by rw [show b = a by simpa [Src.ad] using hb]; obtain ⟨o, n, e, _⟩ := p; exact Heap.lt_size e⟩
  | U a =>
    cases r
    obtain ⟨its, rv, p, hz⟩ := I.tuple hr
    exact ⟨_, _, begins_tuple a its.toArray, p, fun h' it e => ⟨_, e, rfl, rfl⟩, fun b hb => by rw [show b = a by simpa [Src.ad] using hb]; obtain ⟨o, e, _⟩ := p; exact Heap.lt_size e⟩
  | S z =>
    obtain ⟨t, rfl⟩ := r
    exact ⟨_, _, begins_text z t, trivial, fun h' it e => ⟨t, _, e, rfl, rfl⟩, fun b hb => nomatch hb⟩
end
def iEnumK (K : PySem.W.Frag) (ta : TA) : TI := fun σ H R => ta σ H fun vs H1 => ∃ (k : Src) (xs : List V), vs = [k.v] ∧ k.rd K H1 xs ∧ R (IteK K k) H1
theorem pi_enumK {X : Cx} {e : Expr} {ta : TA} {p pos tpos : Pos} {elts : List Expr} {kk : Nat} (hg : Gl X "enumerate") (hm : X.mg "enumerate" = none) (ha : PA X [e] ta) (hs : starEach [e] X.env = [(false, eval e X.env)] := by rfl) :
    PI X (.Tuple elts kk tpos) (.Call (.Name "enumerate" p) [e] [] pos) (iEnumK X.K ta) := by
  refine ⟨fun pins s σ H R I h => ?_⟩
  refine Call_ (ld_blt I hg hm boot_enumerate (PyProof.Rows.callWith_type1 (thn (ha.run pos pins s σ H _ I h) fun us s1 ⟨vs, H1, I1, r1, q1⟩ => ?_) hs rfl))
  obtain ⟨k, xs, ex, hq, q⟩ := q1
  subst ex
  cases r1 with
  | cons r rr =>
    cases rr
    obtain ⟨o, Hh, B, hB, hIt, hAd⟩ := Src.begins I1 hq r
    refine enum_begins1 B hB fun h' he hit hsz hk => wpAny_pyIter_enum he ?_
    have I2 : Inv X pins σ H1 { s1 with heap := h' } := I1.kept (t' := s1.toks) hk
    refine ⟨s1.heap.objs.size + 1, [s1.heap.objs.size + 1, s1.heap.objs.size], _, _, H1, rfl, I2, turn_enumK k (s1.heap.objs.size + 1) s1.heap.objs.size, ⟨⟨.none, he⟩, hIt _ _ hit, Nat.succ_ne_self _, fun z => ?_, fun z => ?_⟩, fun b hb => ?_, q⟩
    · exact absurd (hAd _ z) (Nat.not_lt.mpr (Nat.le_succ _))
    · exact absurd (hAd _ z) (Nat.lt_irrefl _)
    have e' : b = s1.heap.objs.size + 1 ∨ b = s1.heap.objs.size := by simpa using hb
    have hle : s1.heap.objs.size ≤ b := by
      rcases e' with z | z
      · rw [z]; exact Nat.le_add_right _ _
      · rw [z]; exact Nat.le_refl _
    exact I1.fpOk hle (I1.hok.fresh hle)

/-! ### zip -/
def ItzK (K : PySem.W.Frag) (k1 k2 : Src) : It :=
  ⟨fun i H => ∃ (xs ys : List V) (x y : V), k1.rd K H xs ∧ k2.rd K H ys ∧ xs[i]? = some x ∧ ys[i]? = some y,
    fun i H v H' => ∃ T x y, v = .ref T ∧ H T = none ∧ H' = upd H T (.tup [x, y]) ∧ (∀ xs, k1.rd K H xs → xs[i]? = some x) ∧ ∀ ys, k2.rd K H ys → ys[i]? = some y,
    fun i H => ∃ xs ys : List V, k1.rd K H xs ∧ k2.rd K H ys ∧ min xs.length ys.length = i⟩
theorem turn_zipK {P : Program} {w : World} {K : PySem.W.Frag} {elts : List Expr} {kk : Nat} {tpos : Pos} (k1 k2 : Src) (z TI TO i1 i2 : Addr) (S : ZipSep2 z TI TO i1 i2 (i1 :: k1.ad) (i2 :: k2.ad)) :
    Turn P w K (.Tuple elts kk tpos) (ItzK K k1 k2) [z, TI, TO, i1, i2] z (fun i h => IsZip h z TI TO .none ∧ IsTupOf2 h TI (.ref i1) (.ref i2) ∧ (∃ a1 a2, IsTupOf2 h TO a1 a2) ∧ k1.it h i1 i ∧ k2.it h i2 i ∧ i1 ∉ k1.ad ∧ i2 ∉ k2.ad) where
  mem := by simp
  obj := fun i h st c hcm => by
    obtain ⟨hz, hTI, ⟨x, y, hTO⟩, h1, h2, _⟩ := st
    have e' : c = z ∨ c = TI ∨ c = TO ∨ c = i1 ∨ c = i2 := by simpa using hcm
    rcases e' with q | q | q | q | q
    · rw [q]; exact ⟨_, hz, fun v q => nomatch q⟩
    · rw [q]; exact ⟨_, hTI, fun v q => nomatch q⟩
    · rw [q]; exact ⟨_, hTO, fun v q => nomatch q⟩
    · rw [q]; exact Src.obj h1
    · rw [q]; exact Src.obj h2
  keep := fun i h h' st k => by
    obtain ⟨hz, hTI, ⟨x, y, hTO⟩, h1, h2, r⟩ := st
    exact ⟨k z (by simp) _ hz, k TI (by simp) _ hTI, ⟨x, y, k TO (by simp) _ hTO⟩, Src.keep h1 fun o q => k i1 (by simp) o q, Src.keep h2 fun o q => k i2 (by simp) o q, r⟩
  item := by
    intro X hP hw hK hc i pins s σ H E I hf st hg
    subst hP hw hK
    obtain ⟨hz, hTI, hTO, h1, h2, n1, n2⟩ := st
    obtain ⟨xs, ys, x, y, hqx, hqy, hx, hy⟩ := hg
    obtain ⟨P1, S1, D1, st1, hP1, hS1⟩ := Src.draws I hc hqx h1 n1
    obtain ⟨P2, S2, D2, st2, hP2, hS2⟩ := Src.draws I hc hqy h2 n2
    have hi : i < min xs.length ys.length := by
      have a := (List.getElem?_eq_some_iff.mp hx).1
      have b := (List.getElem?_eq_some_iff.mp hy).1
      omega
    have lts : ∀ c ∈ [z, TI, TO, i1, i2], c < s.heap.objs.size := fun c hcm => by
      obtain ⟨x, y, hTO⟩ := hTO
      have e' : c = z ∨ c = TI ∨ c = TO ∨ c = i1 ∨ c = i2 := by simpa using hcm
      rcases e' with q | q | q | q | q
      · rw [q]; exact Heap.lt_size hz
      · rw [q]; exact Heap.lt_size hTI
      · rw [q]; exact Heap.lt_size hTO
      · rw [q]; obtain ⟨o, e, _⟩ := Src.obj h1; exact Heap.lt_size e
      · rw [q]; obtain ⟨o, e, _⟩ := Src.obj h2; exact Heap.lt_size e
    have G := GoesN.zip2 (elts := elts) (x1 := kk) (pos := tpos) S D1 D2
    refine G.goes i s _ E hi ⟨hz, hTI, hTO, st1, st2⟩ fun v h' tk ⟨T, u1, u2, ev, hT, hu1, hu2, hTu⟩ ⟨hz', hTI', hTO', st1', st2'⟩ hk htk => ?_
    obtain ⟨x', hx', r1⟩ := hP1 i u1 hu1
    rw [hx] at hx'; cases hx'
    obtain ⟨y', hy', r2⟩ := hP2 i u2 hu2
    rw [hy] at hy'; cases hy'
    have new : ObjOk X.prog X.w (upd H T (.tup [x, y])) h' T (.tup [x, y]) :=
      ⟨by show 2 ≤ sizeLine; decide, [u1, u2], .cons r1 (.cons r2 .nil), hTu⟩
    have I1 : Inv X pins σ (upd H T (.tup [x, y])) { s with heap := h', toks := tk } :=
      I.turnedNew (ch := [z, TO, i1, i2]) (fun b ob hb q => hk b ob hb q) (fun b hb => hf b (by
        have e' : b = z ∨ b = TO ∨ b = i1 ∨ b = i2 := by simpa using hb
        rcases e' with q | q | q | q <;> simp [q])) hT new
    subst ev
    refine ⟨.ref T, _, I1, rfl, ⟨T, x, y, rfl, I.hok.fresh hT, rfl, fun l hl => by rw [Src.inj I hl hqx]; exact hx, fun l hl => by rw [Src.inj I hl hqy]; exact hy⟩, ⟨hz', hTI', hTO', hS1 _ _ st1', hS2 _ _ st2', n1, n2⟩, fun b hb => ?_⟩
    rw [upd_ne (Nat.ne_of_lt (Nat.lt_of_lt_of_le (lts b hb) hT))]
    exact (hf b hb).1
  done := by
    intro X hP hw hK hc i pins s σ H E I hf st hg
    subst hP hw hK
    obtain ⟨hz, hTI, hTO, h1, h2, n1, n2⟩ := st
    obtain ⟨xs, ys, hqx, hqy, hend⟩ := hg
    subst hend
    obtain ⟨P1, S1, D1, st1, hP1, hS1⟩ := Src.draws I hc hqx h1 n1
    obtain ⟨P2, S2, D2, st2, hP2, hS2⟩ := Src.draws I hc hqy h2 n2
    have G := GoesN.zip2 (elts := elts) (x1 := kk) (pos := tpos) S D1 D2
    exact G.stops s _ E ⟨hz, hTI, hTO, st1, st2⟩ fun h' tk hk htk => I.turnedL (ch := [z, TO, i1, i2]) (fun b o hb q => hk b o hb q) (fun b hb => hf b (by
        have e' : b = z ∨ b = TO ∨ b = i1 ∨ b = i2 := by simpa using hb
        rcases e' with q | q | q | q <;> simp [q]))
  self := fun A i s Q E st h => wpAny_pyIter_zip st.1 h
def iZipK (K : PySem.W.Frag) (ta : TA) : TI := fun σ H R => ta σ H fun vs H1 => ∃ (k1 k2 : Src) (xs ys : List V), vs = [k1.v, k2.v] ∧ k1.rd K H1 xs ∧ k2.rd K H1 ys ∧ R (ItzK K k1 k2) H1
theorem pi_zipK {X : Cx} {e e2 : Expr} {ta : TA} {p pos tpos : Pos} {elts : List Expr} {kk : Nat} (hg : Gl X "zip") (hm : X.mg "zip" = none) (ha : PA X [e, e2] ta)
    (hs : starEach [e, e2] X.env = (false, eval e X.env) :: starEach [e2] X.env := by rfl) (hpl : (backTo pos (starEach [e2] X.env)).any (·.1) = false := by rfl) :
    PI X (.Tuple elts kk tpos) (.Call (.Name "zip" p) [e, e2] [] pos) (iZipK X.K ta) := by
  refine ⟨fun pins s σ H R I h => ?_⟩
  refine Call_ (ld_blt I hg hm PyProof.Rows.boot_zip (PyProof.Rows.callWith_type1 (thn (ha.run pos pins s σ H _ I h) fun us s1 ⟨vs, H1, I1, r1, q1⟩ => ?_) hs hpl))
  obtain ⟨k1, k2, xs, ys, ex, hq1, hq2, q⟩ := q1
  subst ex
  cases r1 with
  | cons r rr =>
    cases rr with
    | cons r' rr =>
      cases rr
      obtain ⟨o1, Hh1, B1, hB1, hIt1, hAd1⟩ := Src.begins I1 hq1 r
      obtain ⟨o2, Hh2, B2, hB2, hIt2, hAd2⟩ := Src.begins I1 hq2 r'
      refine zip_begins2 B1 B2 hB1 hB2 fun h' hz hTI hTO g1 g2 hsz hk => wpAny_pyIter_zip hz ?_
      have I2 : Inv X pins σ H1 { s1 with heap := h' } := I1.kept (t' := s1.toks) hk
      refine ⟨s1.heap.objs.size + 4, [s1.heap.objs.size + 4, s1.heap.objs.size + 2, s1.heap.objs.size + 3, s1.heap.objs.size, s1.heap.objs.size + 1], _, _, H1, rfl, I2, turn_zipK k1 k2 _ _ _ _ _ (zip_sep2 hAd1 hAd2),
        ⟨hz, hTI, ⟨_, _, hTO⟩, hIt1 _ _ g1, hIt2 _ _ g2, fun z => absurd (hAd1 _ z) (Nat.lt_irrefl _), fun z => absurd (hAd2 _ z) (Nat.not_lt.mpr (Nat.le_succ _))⟩, fun c hcm => ?_, q⟩
      have e' : c = s1.heap.objs.size + 4 ∨ c = s1.heap.objs.size + 2 ∨ c = s1.heap.objs.size + 3 ∨ c = s1.heap.objs.size ∨ c = s1.heap.objs.size + 1 := by simpa using hcm
      have hle : s1.heap.objs.size ≤ c := by
        rcases e' with z | z | z | z | z
        · rw [z]; exact Nat.le_add_right _ _
        · rw [z]; exact Nat.le_add_right _ _
        · rw [z]; exact Nat.le_add_right _ _
        · rw [z]; exact Nat.le_refl _
        · rw [z]; exact Nat.le_add_right _ _
      exact I1.fpOk hle (I1.hok.fresh hle)

/-! ### a list, a tuple, a text -/
def Src.itr (K : PySem.W.Frag) : Src → It
  | .L a => Itl K a
  | .U a => Itt K a
  | .S z => Its z
def iSeq (K : PySem.W.Frag) (tl : TE) : TI := fun σ H R => tl σ H fun x H1 => ∃ (k : Src) (xs : List V), x = k.v ∧ k.rd K H1 xs ∧ R (k.itr K) H1
theorem pi_seq {X : Cx} {tg l : Expr} {tl : TE} (hl : PE X l tl) : PI X tg l (iSeq X.K tl) := by
  refine ⟨fun pins s σ H R I h => ?_⟩
  refine thn (hl.run pins s σ H _ I h) fun v s1 ⟨x, H1, I1, r1, q1⟩ => ?_
  obtain ⟨k, xs, rfl, hq, q⟩ := q1
  cases k with
  | L a =>
    cases r1
    obtain ⟨its, rv, p, hz⟩ := I1.list hq
    refine wpAny_pyIter_list p.isList ?_
    refine ⟨s1.heap.objs.size, [s1.heap.objs.size], _, _, H1, rfl, I1.kept (t' := s1.toks) fun b o e => Heap.get?_push_of_some _ e, turn_list a _, ⟨_, Heap.get?_push_size _ rfl, rfl, rfl⟩, fun b hb => ?_, q⟩
    have e : b = s1.heap.objs.size := by simpa using hb
    subst e
    exact I1.fpOk (Nat.le_refl _) (I1.hok.fresh (Nat.le_refl _))
  | U a =>
    cases r1
    obtain ⟨its, rv, p, hz⟩ := I1.tuple hq
    refine wpAny_pyIter_tuple (show s1.heap.IsTuple a its.toArray from p) ?_
    refine ⟨s1.heap.objs.size, [s1.heap.objs.size], _, _, H1, rfl, I1.kept (t' := s1.toks) fun b o e => Heap.get?_push_of_some _ e, turn_tuple a _, ⟨_, Heap.get?_push_size _ rfl, rfl, rfl⟩, fun b hb => ?_, q⟩
    have e : b = s1.heap.objs.size := by simpa using hb
    subst e
    exact I1.fpOk (Nat.le_refl _) (I1.hok.fresh (Nat.le_refl _))
  | S z =>
    obtain ⟨t, rfl⟩ := r1
    cases ha : z.cps.all (· < 128)
    · exact wpAny_pyIter_wide ha (pi_one (tk := s1.toks) I1 _ (turn_str _ z t "str_iterator" (.inr rfl)) ⟨_, Heap.get?_push_size _ rfl, rfl, rfl⟩ q)
    · exact wpAny_pyIter_ascii ha (pi_one (tk := s1.toks) I1 _ (turn_str _ z t "str_ascii_iterator" (.inl rfl)) ⟨_, Heap.get?_push_size _ rfl, rfl, rfl⟩ q)
end LvI

/-! Lv6: what is walked, targets, statements, loops, comprehensions. -/
namespace Lv
open PySem L2 LvI

/-! ### what is walked -/
/-- an iterator that gives these items, as long as the store is so -/
def Wk (K : Fr) (M : MP) (J : It) (items : List T) (grd : ST → Prop) (H0 B0 : Hp) (φ0 : Fi) : Prop :=
  ∃ (G : Hp → Prop) (Y : Nat → Hp → V → Hp → Prop), Walk J items.length G Y ∧ (∀ H B φ s, Gr H0 B0 φ0 H B φ → Re K M H B φ s → grd s → G H) ∧
    (∀ i H x H' B φ s, Gr H0 B0 φ0 H B φ → Re K M H B φ s → grd s → i < items.length → Y i H x H' → ∃ B' t, items[i]? = some t ∧ Gr H B φ H' B' φ ∧ Re K M H' B' φ s ∧ Fz K B' x t)
abbrev ATI := AS → ST → (List T → (ST → Prop) → ST → Prop) → Prop
def LiftI (K : Fr) (M : MP) (wi : TI) (t : ATI) : Prop := ∀ H B φ σ δ s Q, Re K M H B φ s → Rsl K B φ σ δ → t δ s Q → ∀ R : It → Hp → Prop,
  (∀ H' B' φ' s' J items grd, Gr H B φ H' B' φ' → Re K M H' B' φ' s' → Wk K M J items grd H' B' φ' → Q items grd s' → R J H') → wi σ H R
structure AI (X : Cx) (M : MP) (tg e : Expr) (t : ATI) : Prop where
  ex : ∃ wi, PI X tg e wi ∧ LiftI X.K M wi t
def chT (z : Str) : List T := z.cps.toList.map fun c => T.str ⟨#[c]⟩
def wkV (s : ST) : SV → Option (List T × Option Nat)
  | .d (.lst ts) => some (ts, none)
  | .d (.tup ts) => some (ts, none)
  | .d (.scr ts) => some (ts, none)
  | .d (.str z) => some (chT z, none)
  | .l n => (match s[n]? with
    | some (.lst ts) => some (ts, some n)
    | _ => none)
  | _ => none
def grd (ts : List T) : Option Nat → ST → Prop
  | none, _ => True
  | some n, s => s[n]? = some (.lst ts)
section
variable {K : Fr} {M : MP} {H B : Hp} {φ : Fi} {s : ST}
theorem chT_fz (z : Str) : FzAll K B (z.cps.toList.map fun c => V.str ⟨#[c]⟩) (chT z) := by
  unfold chT
  generalize z.cps.toList = l
  induction l with
  | nil => exact .nil
  | cons x r ih => exact .cons (.str _) ih
theorem src_of (re : Re K M H B φ s) {v : V} {x : SV} (r : Rs K B φ v x) {ts : List T} {g : Option Nat} (h : wkV s x = some (ts, g)) :
    ∃ k : Src, v = k.v ∧ grd ts g s ∧ ∀ H2 B2 φ2 s2, Gr H B φ H2 B2 φ2 → Re K M H2 B2 φ2 s2 → grd ts g s2 → ∃ ws, k.rd K H2 ws ∧ FzAll K B2 ws ts := by
  cases x with
  | l n =>
    have h : (match s[n]? with | some (.lst ts) => some (ts, some n) | _ => none) = some (ts, g) := h
    cases hs : s[n]? with
    | none => rw [hs] at h; cases h
    | some o =>
      rw [hs] at h
      cases o with
      | lst us =>
        cases (show some (us, some n) = some (ts, g) from h)
        obtain ⟨p, vs, rfl, hp, e1, hB, f1⟩ := own_of re r hs
        refine ⟨.L p, rfl, hs, fun H2 B2 φ2 s2 g2 re2 gd => ?_⟩
        obtain ⟨p2, ws, e4, hp2, e5, _, f2⟩ := own_of re2 (r.mono g2) gd
        cases e4
        exact ⟨ws, SqL.of e5, f2⟩
      | _ => cases h
  | d t =>
    cases t with
    | lst us =>
      cases (show some (us, none) = some (ts, g) from h)
      cases (show Fz K B v (.lst ts) from r) with
      | lst eb fb => exact ⟨.L _, rfl, trivial, fun H2 B2 φ2 s2 g2 re2 _ => ⟨_, SqL.of (re2.ex _ _ (g2.eb _ _ eb)), fb.mono g2.eb⟩⟩
    | tup us =>
      cases (show some (us, none) = some (ts, g) from h)
      cases (show Fz K B v (.tup ts) from r) with
      | tup eb fb => exact ⟨.U _, rfl, trivial, fun H2 B2 φ2 s2 g2 re2 _ => ⟨_, ((eb.mono g2.eb).mono re2.ex).sq, fb.mono g2.eb⟩⟩
    | scr us =>
      cases (show some (us, none) = some (ts, g) from h)
      cases (show Fz K B v (.scr ts) from r) with
      | scr eb fb => exact ⟨.L _, rfl, trivial, fun H2 B2 φ2 s2 g2 re2 _ => ⟨_, ex_l re2.ex (ex_l g2.eb eb), fb.mono g2.eb⟩⟩
    | str z =>
      cases (show some (chT z, none) = some (ts, g) from h)
      cases str_of r
      exact ⟨.S z, rfl, trivial, fun H2 B2 φ2 s2 g2 re2 _ => ⟨_, rfl, chT_fz z⟩⟩
    | _ => cases h
/-- a new pair of data -/
theorem pair_new (re : Re K M H B φ s) {x : V} {H' : Hp} {v w : V} {a b : T} (h : ∃ T0, x = .ref T0 ∧ H T0 = none ∧ H' = upd H T0 (.tup [v, w])) (hv : Fz K B v a) (hw : Fz K B w b) : ∃ B', Gr H B φ H' B' φ ∧ Re K M H' B' φ s ∧ Fz K B' x (.tup [a, b]) := by
  obtain ⟨T0, rfl, h1, rfl⟩ := h
  obtain ⟨g, re2⟩ := re.newD (.tup [v, w]) h1
  exact ⟨_, g, re2, .tup (.inl upd_same) (.cons (hv.mono g.eb) (.cons (hw.mono g.eb) .nil))⟩
end
section
variable {X : Cx} {M : MP} {tg e e2 a b : Expr} {pos p : Pos} {va vb : ATE}
/-- over a list, a tuple, a text -/
def aSeq (t : ATE) : ATI := fun δ s Q => t δ s fun x s1 => ∃ ts g, wkV s1 x = some (ts, g) ∧ Q ts (grd ts g) s1
theorem ai_seq (h : AE X M e va) : AI X M tg e (aSeq va) := by
  refine ⟨_, pi_seq h.pe, fun H B φ σ δ s Q re sl q R f => uE_lift (t := va) H B φ σ δ s _ re sl q _ fun H1 B1 φ1 s1 v x g1 re1 r1 ⟨ts, g, hw, q1⟩ => ?_⟩
  obtain ⟨k, rfl, gd, hk⟩ := src_of re1 r1 hw
  obtain ⟨ws, hr, fw⟩ := hk _ _ _ _ .refl re1 gd
  refine ⟨k, ws, rfl, hr, f _ _ _ _ _ _ _ g1 re1 ⟨fun H => ∃ ws, k.rd X.K H ws ∧ ws.length = ts.length, (k.itr X.K).yld, ?_, fun H2 B2 φ2 s2 g2 re2 gd2 => ?_, fun i H2 x H3 B2 φ2 s2 g2 re2 gd2 hi y => ?_⟩ q1⟩
  · cases k with
    | L a => exact ⟨fun i H hi ⟨ws, h1, h2⟩ => ⟨ws, ws[i]'(by omega), h1, by simp [h2, hi]⟩, fun H ⟨ws, h1, h2⟩ => ⟨ws, h1, by omega⟩, fun i H x H' _ _ y => y⟩
    | U a => exact ⟨fun i H hi ⟨ws, h1, h2⟩ => ⟨ws, ws[i]'(by omega), h1, by simp [h2, hi]⟩, fun H ⟨ws, h1, h2⟩ => ⟨ws, h1, by omega⟩, fun i H x H' _ _ y => y⟩
    | S z =>
      have e : ∀ ws, Src.rd X.K (.S z) H ws → ws.length = z.cps.size := fun ws h => by rw [show ws = z.cps.toList.map (fun c => V.str ⟨#[c]⟩) from h, List.length_map, Array.length_toList]
      exact ⟨fun i H hi ⟨ws, h1, h2⟩ => by rw [← h2, e ws h1] at hi; exact hi, fun H ⟨ws, h1, h2⟩ => by rw [← h2, e ws h1]; exact Nat.le_refl _, fun i H x H' _ _ y => y⟩
  · obtain ⟨ws, hr, fw⟩ := hk _ _ _ _ g2 re2 gd2
    exact ⟨ws, hr, fw.length⟩
  · obtain ⟨ws, hr, fw⟩ := hk _ _ _ _ g2 re2 gd2
    cases k with
    | L a =>
      obtain ⟨rfl, hx⟩ := y
      obtain ⟨t, ht, r⟩ := fw.get (hx ws hr)
      exact ⟨B2, t, ht, .refl, re2, r⟩
    | U a =>
      obtain ⟨rfl, hx⟩ := y
      obtain ⟨t, ht, r⟩ := fw.get (hx ws hr)
      exact ⟨B2, t, ht, .refl, re2, r⟩
    | S z =>
      obtain ⟨rfl, c, hc, rfl⟩ := y
      have hx : ws[i]? = some (.str ⟨#[c]⟩) := by
        rw [show ws = z.cps.toList.map (fun c => V.str ⟨#[c]⟩) from hr, List.getElem?_map, Array.getElem?_toList, hc]; rfl
      obtain ⟨t, ht, r⟩ := fw.get hx
      exact ⟨B2, t, ht, .refl, re2, r⟩
/-- range -/
def aRng1 (t : ATE) : ATI := fun δ s Q => t δ s fun x s1 => match x with
  | .d (.int n) => -(2 ^ 62) ≤ n ∧ n < 2 ^ 62 ∧ Q (rgT 0 n) (fun _ => True) s1
  | _ => False
def aRng2 (t u : ATE) : ATI := fun δ s Q => t δ s fun x s1 => u δ s1 fun y s2 => match x, y with
  | .d (.int a), .d (.int b) => (-(2 ^ 62) ≤ a ∧ a < 2 ^ 62 ∧ -(2 ^ 62) ≤ b ∧ b < 2 ^ 62) ∧ Q (rgT a b) (fun _ => True) s2
  | _, _ => False
theorem rgT_len (a b : Int) : (rgT a b).length = (b - a).toNat := by unfold rgT; rw [List.length_map, List.length_range]
theorem rgT_get {a b : Int} {i : Nat} (h : i < (b - a).toNat) : (rgT a b)[i]? = some (.int (a + i)) := by
  unfold rgT
  rw [List.getElem?_map, List.getElem?_range h]
  rfl
theorem wk_rng {K : Fr} {M : MP} {H0 B0 : Hp} {φ0 : Fi} (a b : Int) {n : Nat} (hn : n = (b - a).toNat) : Wk K M (Itr a n) (rgT a b) (fun _ => True) H0 B0 φ0 := by
  subst hn
  refine ⟨fun _ => True, YFn fun i => .int (a + i), by rw [rgT_len]; exact walk_range, fun _ _ _ _ _ _ _ => trivial, fun i H x H' B φ s g re _ hi ⟨e, hx⟩ => ?_⟩
  subst e; subst hx
  rw [rgT_len] at hi
  exact ⟨B, _, rgT_get hi, .refl, re, .int _⟩
theorem ai_range1 (hm : X.mg "range" = none) (ha : AE X M a va) (hg : Gl X "range" := by rfl) (hs : HS1 X a [] := by rfl) (hs2 : starEach [a] X.env = [(false, eval a X.env)] := by rfl) : AI X M tg (.Call (.Name "range" p) [a] [] pos) (aRng1 va) :=
  ⟨_, pi_range1 hg hm (pa_cons ha.pe pa_nil hs) hs2, fun H B φ σ δ s Q re sl q R f => uE_lift (t := va) H B φ σ δ s _ re sl q _ fun H1 B1 φ1 s1 v x g1 re1 r1 q1 => by
    dsimp only at q1
    split at q1
    · cases int_of r1
      exact ⟨_, rfl, q1.1, q1.2.1, f _ _ _ _ _ _ _ g1 re1 (wk_rng 0 _ (by rw [Int.sub_zero])) q1.2.2⟩
    · exact q1.elim⟩
theorem ai_range2 (hm : X.mg "range" = none) (ha : AE X M a va) (hb : AE X M b vb) (hg : Gl X "range" := by rfl) (hs : HS1 X a [b] := by rfl) (hs1 : HS1 X b [] := by rfl) (hs2 : starEach [a, b] X.env = [(false, eval a X.env), (false, eval b X.env)] := by rfl) (hs3 : starEach [b] X.env = [(false, eval b X.env)] := by rfl) :
    AI X M tg (.Call (.Name "range" p) [a, b] [] pos) (aRng2 va vb) :=
  ⟨_, pi_range2 hg hm (pa_cons ha.pe (pa_cons hb.pe pa_nil hs1) hs) hs2 hs3, fun H B φ σ δ s Q re sl q R f => uE_lift (t := va) H B φ σ δ s _ re sl q _ fun H1 B1 φ1 s1 v x g1 re1 r1 q1 => uE_lift (t := vb) H1 B1 φ1 σ δ s1 _ re1 (sl.mono g1) q1 _ fun H2 B2 φ2 s2 w y g2 re2 r2 q2 => by
    dsimp only at q2
    split at q2
    · cases int_of r1
      cases int_of r2
      exact ⟨_, _, rfl, q2.1, f _ _ _ _ _ _ _ (g1.trans g2) re2 (wk_rng _ _ rfl) q2.2⟩
    · exact q2.elim⟩
/-- enumerate, zip -/
def enT (ts : List T) : List T := ts.zipIdx.map fun p => T.tup [.int (p.2 : Nat), p.1]
def zpT (ts us : List T) : List T := List.zipWith (fun a b => T.tup [a, b]) ts us
theorem enT_get {ts : List T} {i : Nat} {t : T} (h : ts[i]? = some t) : (enT ts)[i]? = some (.tup [.int (i : Nat), t]) := by
  unfold enT
  rw [List.getElem?_map, List.getElem?_zipIdx, h]
  simp
theorem enT_len (ts : List T) : (enT ts).length = ts.length := by unfold enT; rw [List.length_map, List.length_zipIdx]
theorem zpT_get {ts us : List T} {i : Nat} {t u : T} (h : ts[i]? = some t) (h2 : us[i]? = some u) : (zpT ts us)[i]? = some (.tup [t, u]) := by
  unfold zpT
  rw [List.getElem?_zipWith, h, h2]
theorem zpT_len (ts us : List T) : (zpT ts us).length = min ts.length us.length := by unfold zpT; rw [List.length_zipWith]
def aEnm (t : ATE) : ATI := fun δ s Q => t δ s fun x s1 => ∃ ts g, wkV s1 x = some (ts, g) ∧ Q (enT ts) (grd ts g) s1
theorem ai_enum {elts : List Expr} {kk : Nat} {tpos : Pos} (hm : X.mg "enumerate" = none) (ha : AE X M e va) (hg : Gl X "enumerate" := by rfl) (hs : HS1 X e [] := by rfl) (hs2 : starEach [e] X.env = [(false, eval e X.env)] := by rfl) :
    AI X M (.Tuple elts kk tpos) (.Call (.Name "enumerate" p) [e] [] pos) (aEnm va) := by
  refine ⟨_, pi_enumK hg hm (pa_cons ha.pe pa_nil hs) hs2, fun H B φ σ δ s Q re sl q R f => uE_lift (t := va) H B φ σ δ s _ re sl q _ fun H1 B1 φ1 s1 v x g1 re1 r1 ⟨ts, g, hw, q1⟩ => ?_⟩
  obtain ⟨k, rfl, gd, hk⟩ := src_of re1 r1 hw
  obtain ⟨ws, hr, fw⟩ := hk _ _ _ _ .refl re1 gd
  refine ⟨k, ws, rfl, hr, f _ _ _ _ _ _ _ g1 re1 ⟨fun H => ∃ ws, k.rd X.K H ws ∧ ws.length = ts.length, (IteK X.K k).yld, ?_, fun H2 B2 φ2 s2 g2 re2 gd2 => ?_, fun i H2 x H3 B2 φ2 s2 g2 re2 gd2 hi y => ?_⟩ q1⟩
  · rw [enT_len]
    exact ⟨fun i H hi ⟨ws, h1, h2⟩ => ⟨ws, ws[i]'(by omega), h1, by simp [h2, hi]⟩, fun H ⟨ws, h1, h2⟩ => ⟨ws, h1, h2⟩, fun i H x H' _ _ y => y⟩
  · obtain ⟨ws, hr, fw⟩ := hk _ _ _ _ g2 re2 gd2
    exact ⟨ws, hr, fw.length⟩
  · obtain ⟨ws, hr, fw⟩ := hk _ _ _ _ g2 re2 gd2
    obtain ⟨T0, x0, h1, h2, h3, h4⟩ := y
    obtain ⟨t, ht, r⟩ := fw.get (h4 ws hr)
    obtain ⟨B3, g3, re3, r3⟩ := pair_new re2 ⟨T0, h1, h2, h3⟩ (.int _) r
    exact ⟨B3, _, enT_get ht, g3, re3, r3⟩
def aZip (t u : ATE) : ATI := fun δ s Q => t δ s fun x s1 => u δ s1 fun y s2 => ∃ ts g us g', wkV s2 x = some (ts, g) ∧ wkV s2 y = some (us, g') ∧ Q (zpT ts us) (fun s => grd ts g s ∧ grd us g' s) s2
theorem ai_zip {elts : List Expr} {kk : Nat} {tpos : Pos} (hm : X.mg "zip" = none) (ha : AE X M e va) (hb : AE X M e2 vb) (hg : Gl X "zip" := by rfl) (hs : HS1 X e [e2] := by rfl) (hs1 : HS1 X e2 [] := by rfl) (hpl : (backTo pos (starEach [e2] X.env)).any (·.1) = false := by rfl) :
    AI X M (.Tuple elts kk tpos) (.Call (.Name "zip" p) [e, e2] [] pos) (aZip va vb) := by
  refine ⟨_, pi_zipK hg hm (pa_cons ha.pe (pa_cons hb.pe pa_nil hs1) hs) hs hpl, fun H B φ σ δ s Q re sl q R f => uE_lift (t := va) H B φ σ δ s _ re sl q _ fun H0 B0 φ0 s0 v0 x0 g0 re0 r0 q0 => uE_lift (t := vb) H0 B0 φ0 σ δ s0 _ re0 (sl.mono g0) q0 _ fun H1 B1 φ1 s1 v x g1 re1 r1 ⟨ts, g, us, g', hw, hw', q1⟩ => ?_⟩
  obtain ⟨k, rfl, gd, hk⟩ := src_of re1 (r0.mono g1) hw
  obtain ⟨k', rfl, gd', hk'⟩ := src_of re1 r1 hw'
  obtain ⟨ws, hr, fw⟩ := hk _ _ _ _ .refl re1 gd
  obtain ⟨ws', hr', fw'⟩ := hk' _ _ _ _ .refl re1 gd'
  refine ⟨k, k', ws, ws', rfl, hr, hr', f _ _ _ _ _ _ _ (g0.trans g1) re1 ⟨fun H => ∃ ws ws', k.rd X.K H ws ∧ ws.length = ts.length ∧ k'.rd X.K H ws' ∧ ws'.length = us.length, (ItzK X.K k k').yld, ?_, fun H2 B2 φ2 s2 g2 re2 gd2 => ?_, fun i H2 x H3 B2 φ2 s2 g2 re2 gd2 hi y => ?_⟩ q1⟩
  · rw [zpT_len]
    exact ⟨fun i H hi ⟨ws, ws', h1, h2, h3, h4⟩ => ⟨ws, ws', ws[i]'(by omega), ws'[i]'(by omega), h1, h3, List.getElem?_eq_getElem (by omega), List.getElem?_eq_getElem (by omega)⟩, fun H ⟨ws, ws', h1, h2, h3, h4⟩ => ⟨ws, ws', h1, h3, by rw [h2, h4]⟩, fun i H x H' _ _ y => y⟩
  · obtain ⟨ws, hr, fw⟩ := hk _ _ _ _ g2 re2 gd2.1
    obtain ⟨ws', hr', fw'⟩ := hk' _ _ _ _ g2 re2 gd2.2
    exact ⟨ws, ws', hr, fw.length, hr', fw'.length⟩
  · obtain ⟨ws, hr, fw⟩ := hk _ _ _ _ g2 re2 gd2.1
    obtain ⟨ws', hr', fw'⟩ := hk' _ _ _ _ g2 re2 gd2.2
    obtain ⟨T0, x0, y0, h1, h2, h3, h4, h5⟩ := y
    obtain ⟨t, ht, r⟩ := fw.get (h4 ws hr)
    obtain ⟨t', ht', r'⟩ := fw'.get (h5 ws' hr')
    obtain ⟨B3, g3, re3, r3⟩ := pair_new re2 ⟨T0, h1, h2, h3⟩ r r'
    exact ⟨B3, _, zpT_get ht ht', g3, re3, r3⟩
end

/-! ### targets -/
abbrev ATG := SV → AS → ST → (AS → ST → Prop) → Prop
abbrev ATGs := List SV → AS → ST → (AS → ST → Prop) → Prop
def FinG (K : Fr) (M : MP) (H B : Hp) (φ : Fi) (Q : AS → ST → Prop) (Q' : St → Hp → Prop) : Prop := ∀ H' B' φ' s' σ' δ', Gr H B φ H' B' φ' → Re K M H' B' φ' s' → Rsl K B' φ' σ' δ' → Q δ' s' → Q' σ' H'
theorem FinG.grow {K : Fr} {M : MP} {H B H' B' : Hp} {φ φ' : Fi} {Q : AS → ST → Prop} {Q' : St → Hp → Prop} (f : FinG K M H B φ Q Q') (g : Gr H B φ H' B' φ') : FinG K M H' B' φ' Q Q' := fun _ _ _ _ _ _ g2 re sl q => f _ _ _ _ _ _ (g.trans g2) re sl q
/-- only the slots vs are written -/
def Onl (vs : List Nat) (σ σ' : St) : Prop := σ'.length = σ.length ∧ ∀ i, i ∉ vs → σ'[i]? = σ[i]?
def LiftG (K : Fr) (M : MP) (vs : List Nat) (g : TG) (t : ATG) : Prop := ∀ H B φ σ δ s v x Q, Re K M H B φ s → Rsl K B φ σ δ → Rs K B φ v x → t x δ s Q → ∀ Q', FinG K M H B φ Q (fun σ' H' => Onl vs σ σ' → Q' σ' H') → g v σ H Q'
def LiftGs (K : Fr) (M : MP) (vs : List Nat) (g : TGs) (t : ATGs) : Prop := ∀ H B φ σ δ s v x Q, Re K M H B φ s → Rsl K B φ σ δ → RsAll K B φ v x → t x δ s Q → ∀ Q', FinG K M H B φ Q (fun σ' H' => Onl vs σ σ' → Q' σ' H') → g v σ H Q'
structure AG (X : Cx) (M : MP) (vs : List Nat) (e : Expr) (t : ATG) : Prop where
  ex : ∃ g, PG X e g ∧ LiftG X.K M vs g t
structure AGs (X : Cx) (M : MP) (vs : List Nat) (es : List Expr) (t : ATGs) : Prop where
  ex : ∃ g, PGs X es g ∧ LiftGs X.K M vs g t
def uG (K : Fr) (M : MP) (vs : List Nat) (t : ATG) : TG := fun v σ H Q => ∀ g, LiftG K M vs g t → g v σ H Q
theorem uG_lift {K : Fr} {M : MP} {vs : List Nat} {t : ATG} : LiftG K M vs (uG K M vs t) t := fun H B φ σ δ s v x Q re sl r q Q' f te l => l H B φ σ δ s v x Q re sl r q Q' f
theorem Onl.refl (vs : List Nat) (σ : St) : Onl vs σ σ := ⟨rfl, fun _ _ => rfl⟩
theorem Onl.trans {vs ws us : List Nat} {σ σ' σ2 : St} (h : Onl vs σ σ') (h2 : Onl ws σ' σ2) (hv : ∀ i ∈ vs, i ∈ us) (hw : ∀ i ∈ ws, i ∈ us) : Onl us σ σ2 := ⟨h2.1.trans h.1, fun i hi => (h2.2 i fun z => hi (hw i z)).trans (h.2 i fun z => hi (hv i z))⟩
section
variable {X : Cx} {M : MP} {e : Expr} {es : List Expr} {pos : Pos} {vs ws : List Nat}
theorem AG.pg {t : ATG} (h : AG X M vs e t) : PG X e (uG X.K M vs t) := by
  obtain ⟨g, h1, h2⟩ := h.ex
  exact ⟨fun pins s σ H v u Q I r q => h1.run pins s σ H v u Q I r (q g h2)⟩
def aName (i : Nat) : ATG := fun x δ s Q => Q (δ.set i (some x)) s
theorem ag_name {i : Nat} {x : Str} (hN : X.N.Nodup) (hi : X.N[i]? = some x := by rfl) (hx : Loc X.env.scope x := by first | exact Or.inl rfl | exact Or.inr rfl) (hf : X.fn x = true ∨ X.env.scope.names.lookup x = some .local := by first | exact .inl rfl | exact .inr rfl) : AG X M [i] (.Name x pos) (aName i) :=
  ⟨_, pg_name hN hi hx hf, fun H B φ σ δ s v x Q re sl r q Q' f => f _ _ _ _ _ _ .refl re (sl.set i r) q ⟨List.length_set, fun j hj => List.getElem?_set_ne (fun z => hj (by rw [← z]; exact List.mem_singleton.mpr rfl))⟩⟩
def agNil : ATGs := fun xs δ s Q => xs = [] ∧ Q δ s
def agCons (t : ATG) (u : ATGs) : ATGs := fun xs δ s Q => match xs with
  | x :: r => t x δ s fun δ' s' => u r δ' s' Q
  | [] => False
theorem ags_nil : AGs X M [] [] agNil := ⟨_, pgs_nil, fun H B φ σ δ s v x Q re sl r q Q' f => by
  obtain ⟨rfl, q⟩ := q
  exact ⟨rsall0 r, f _ _ _ _ _ _ .refl re sl q (Onl.refl _ _)⟩⟩
theorem ags_cons {t : ATG} {u : ATGs} (h : AG X M vs e t) (h2 : AGs X M ws es u) (hs : (assignEach (e :: es) X.env).map (·.2) = assign e X.env :: (assignEach es X.env).map (·.2) := by rfl) : AGs X M (vs ++ ws) (e :: es) (agCons t u) := by
  obtain ⟨g, h3, h4⟩ := h2.ex
  refine ⟨_, pgs_cons h.pg h3 hs, fun H B φ σ δ s v x Q re sl r q Q' f => ?_⟩
  cases r with
  | nil => exact q.elim
  | cons r1 r2 =>
    exact ⟨_, _, rfl, uG_lift (t := t) H B φ σ δ s _ _ _ re sl r1 q _ fun H1 B1 φ1 s1 σ1 δ1 g1 re1 sl1 q1 o1 => h4 H1 B1 φ1 σ1 δ1 s1 _ _ _ re1 sl1 (r2.mono g1) q1 _ fun H2 B2 φ2 s2 σ2 δ2 g2 re2 sl2 q2 o2 =>
      f _ _ _ _ _ _ (g1.trans g2) re2 sl2 q2 (o1.trans o2 (fun i hi => List.mem_append_left _ hi) fun i hi => List.mem_append_right _ hi)⟩
theorem PG.or {e : Expr} {g g' : TG} (h : PG X e g) (h' : PG X e g') : PG X e (fun v σ H Q => g v σ H Q ∨ g' v σ H Q) :=
  ⟨fun pins s σ H v u Q I r q => q.elim (fun q => h.run pins s σ H v u Q I r q) fun q => h'.run pins s σ H v u Q I r q⟩
/-- (a, b, ..) = a tuple or a list -/
def aTupG (n : Nat) (u : ATGs) : ATG := fun x δ s Q => match x with
  | .d (.tup ts) => ts.length = n ∧ u (ts.map SV.d) δ s Q
  | .d (.lst ts) => ts.length = n ∧ u (ts.map SV.d) δ s Q
  | .l k => (match s[k]? with
    | some (.tp xs) => xs.length = n ∧ u xs δ s Q
    | some (.lst ts) => ts.length = n ∧ u (ts.map SV.d) δ s Q
    | _ => False)
  | _ => False
theorem ag_tup {k n : Nat} {u : ATGs} (hc : X.calm = true) (h : AGs X M vs es u) (hn : (assignEach es X.env).length = n := by rfl) (hst : (assignEach es X.env).findIdx? (·.1) = none := by rfl) : AG X M vs (.Tuple es k pos) (aTupG n u) := by
  obtain ⟨g, h3, h4⟩ := h.ex
  refine ⟨_, PG.or (pg_tup hc h3 hn hst) (pg_lst hc h3 hn hst), fun H B φ σ δ s v x Q re sl r q Q' f => ?_⟩
  replace q : aTupG n u x δ s Q := q
  unfold aTupG at q
  split at q
  · obtain ⟨p, vs, rfl, e1, _, f1⟩ := tup_of re r
    exact .inl ⟨p, vs, rfl, e1, by rw [f1.length]; exact q.1, h4 H B φ σ δ s vs _ Q re sl (RsAll.of_fz f1) q.2 Q' f⟩
  · obtain ⟨p, vs, rfl, e1, f1⟩ := lst_of re r
    exact .inr ⟨p, vs, rfl, SqL.of e1, by rw [f1.length]; exact q.1, h4 H B φ σ δ s vs _ Q re sl (RsAll.of_fz f1) q.2 Q' f⟩
  · rename_i x j
    cases hs : s[j]? with
    | none => rw [hs] at q; exact q.elim
    | some o =>
      rw [hs] at q
      obtain ⟨p, rfl, hp, ho⟩ := at_loc re r hs
      cases o with
      | tp xs =>
        obtain ⟨vs, f1, e1⟩ := ho
        exact .inl ⟨p, vs, rfl, SqT.of e1, by rw [f1.length]; exact q.1, h4 H B φ σ δ s vs _ Q re sl f1 q.2 Q' f⟩
      | lst ts =>
        obtain ⟨vs, f1, e1⟩ := ho
        exact .inr ⟨p, vs, rfl, SqL.of e1, by rw [f1.length]; exact q.1, h4 H B φ σ δ s vs _ Q re sl (RsAll.of_fz f1) q.2 Q' f⟩
      | _ => exact q.elim
  · exact q.elim
/-- l[i] = data, l a list of the store -/
def aSetL (vo vi : ATE) : ATG := fun x δ s Q => vo δ s fun o s1 => vi δ s1 fun i s2 => match o, i, x with
  | .l n, .d (.int k), .d t => ∃ ts j, s2[n]? = some (.lst ts) ∧ ixN ts.length k = some j ∧ Q δ (s2.set n (.lst (ts.set j t)))
  | _, _, _ => False
theorem ag_sub {o i : Expr} {vo vi : ATE} (ho : AE X M o vo) (hi : AE X M i vi) (hsb : ∀ v, assign (.Subscript o i pos) X.env v = (do
    let ov ← holding [v] (eval o X.env)
    let iv ← holding [v, ov] (eval i X.env)
    standAt pos
    holding [v, ov, iv] (setItem ov iv v)
    release [v, ov, iv] []) := by exact fun _ => rfl) : AG X M [] (.Subscript o i pos) (aSetL vo vi) :=
  ⟨_, pg_sub ho.pe hi.pe set_list hsb, fun H B φ σ δ s v x Q re sl r q Q' f => uE_lift (t := vo) H B φ σ δ s _ re sl q _ fun H1 B1 φ1 s1 v1 x1 g1 re1 r1 q1 => uE_lift (t := vi) H1 B1 φ1 σ δ s1 _ re1 (sl.mono g1) q1 _ fun H2 B2 φ2 s2 v2 x2 g2 re2 r2 q2 => by
    dsimp only at q2
    split at q2
    · cases int_of r2
      obtain ⟨ts, j, h1, h2, q2⟩ := q2
      obtain ⟨p, vs, rfl, hp, e1, hB, f1⟩ := own_of re2 (r1.mono g2) h1
      refine ⟨p, vs, _, j, rfl, rfl, e1, by rw [f1.length]; exact h2, ?_⟩
      obtain ⟨g3, re3⟩ := re2.set (.lst (vs.set j v)) (.lst (ts.set j _)) hp hB ⟨_, f1.set ((r.mono g1).mono g2) j, rfl⟩
      exact f _ _ _ _ _ _ ((g1.trans g2).trans g3) re3 (((sl.mono g1).mono g2).mono g3) q2 (Onl.refl _ _)
    · exact q2.elim⟩
end
end Lv

/-! Lv7: statements, loops, comprehensions. -/
namespace Lv
open PySem L2 LvI

structure AEnds where
  nx : AS → ST → Prop
  rt : SV → ST → Prop
  bk : AS → ST → Prop := fun _ _ => False
  ct : AS → ST → Prop := fun _ _ => False
abbrev ATS := AEnds → AS → ST → Prop
structure FinS (K : Fr) (M : MP) (H B : Hp) (φ : Fi) (A : AEnds) (D : Ends) : Prop where
  nx : FinG K M H B φ A.nx D.nx
  rt : FinE K M H B φ A.rt D.rt
  bk : FinG K M H B φ A.bk D.bk
  ct : FinG K M H B φ A.ct D.ct
theorem FinS.grow {K : Fr} {M : MP} {H B H' B' : Hp} {φ φ' : Fi} {A : AEnds} {D : Ends} (f : FinS K M H B φ A D) (g : Gr H B φ H' B' φ') : FinS K M H' B' φ' A D := ⟨f.nx.grow g, f.rt.grow g, f.bk.grow g, f.ct.grow g⟩
def LiftS (K : Fr) (M : MP) (ts : TS) (t : ATS) : Prop := ∀ H B φ σ δ s A, Re K M H B φ s → Rsl K B φ σ δ → t A δ s → ∀ D, FinS K M H B φ A D → ts D σ H
structure AP (X : Cx) (M : MP) (st : Stmt) (t : ATS) : Prop where
  ex : ∃ ts, PS X st ts ∧ LiftS X.K M ts t
structure APs (X : Cx) (M : MP) (st : List Stmt) (t : ATS) : Prop where
  ex : ∃ ts, PSs X st ts ∧ LiftS X.K M ts t
def uS (K : Fr) (M : MP) (t : ATS) : TS := fun D σ H => ∀ ts, LiftS K M ts t → ts D σ H
theorem uS_lift {K : Fr} {M : MP} {t : ATS} : LiftS K M (uS K M t) t := fun H B φ σ δ s A re sl q D f te l => l H B φ σ δ s A re sl q D f
section
variable {X : Cx} {M : MP} {st : Stmt} {rest body : List Stmt} {t u : ATS} {e c : Expr} {pos : Pos} {va : ATE}
theorem AP.ps (h : AP X M st t) : PS X st (uS X.K M t) := by
  obtain ⟨ts, h1, h2⟩ := h.ex
  exact ⟨fun pins s σ H D I q => h1.run pins s σ H D I (q ts h2)⟩
theorem APs.pss (h : APs X M body t) : PSs X body (uS X.K M t) := by
  obtain ⟨ts, h1, h2⟩ := h.ex
  exact ⟨fun pins s σ H D I q => h1.run pins s σ H D I (q ts h2)⟩
def pNext : ATS := fun A δ s => A.nx δ s
def pSeq (t u : ATS) : ATS := fun A δ s => t { A with nx := fun δ' s' => u A δ' s' } δ s
theorem ap_nil : APs X M [] pNext := ⟨_, pss_nil, fun H B φ σ δ s A re sl q D f => f.nx _ _ _ _ _ _ .refl re sl q⟩
theorem ap_cons (h1 : AP X M st t) (h2 : APs X M rest u) : APs X M (st :: rest) (pSeq t u) :=
  ⟨_, pss_cons h1.ps h2.pss, fun H B φ σ δ s A re sl q D f => uS_lift (t := t) H B φ σ δ s _ re sl q _ ⟨fun H' B' φ' s' σ' δ' g re' sl' q' => uS_lift (t := u) H' B' φ' σ' δ' s' A re' sl' q' D (f.grow g), f.rt, f.bk, f.ct⟩⟩
theorem ap_one (h1 : AP X M st t) : APs X M [st] t := ⟨_, pss_one h1.ps, uS_lift⟩
def pBrk : ATS := fun A δ s => A.bk δ s
def pCnt : ATS := fun A δ s => A.ct δ s
/-- an expression whose value is dropped; what was made on the way is forgotten -/
def pDrop (t : ATE) : ATS := fun A δ s => t δ s fun _ s1 => (s1.take s.length).all (clO s.length) = true ∧ A.nx δ (s1.take s.length)
theorem ap_expr (h : AE X M e va) (hs : swapsWith e none pos.line X.env = pure false := by rfl) : AP X M (.Expr e pos) (pDrop va) :=
  ⟨_, ps_expr h.pe hs, fun H B φ σ δ s A re sl q D f => uE_lift (t := va) H B φ σ δ s _ re sl q _ fun H1 B1 φ1 s1 v x g1 re1 r1 ⟨c, q1⟩ => by
    obtain ⟨g2, re2⟩ := re1.take g1 re (Nat.le_of_eq re.len) (by rw [← re.len]; exact g1.le) c
    exact f.nx _ _ _ _ _ _ g2 re2 (sl.mono g2) q1⟩
def pRet (t : ATE) : ATS := fun A δ s => t δ s A.rt
theorem ap_ret (h : AE X M e va) : AP X M (.Return (some e) pos) (pRet va) := ⟨_, ps_ret h.pe, fun H B φ σ δ s A re sl q D f => uE_lift (t := va) H B φ σ δ s _ re sl q _ f.rt⟩
def pRetN : ATS := fun A _ s => A.rt (.d .non) s
def pIf (tc : ATT) (t u : ATS) : ATS := fun A δ s => tc δ s fun b s1 => (b = true → t A δ s1) ∧ (b = false → u A δ s1)
theorem ap_if {tc : ATT} {a b : List Stmt} (hc : AT X M c tc) (ha : APs X M a t) (hb : APs X M b u) : AP X M (.If c a b pos) (pIf tc t u) :=
  ⟨_, ps_if hc.pt ha.pss hb.pss, fun H B φ σ δ s A re sl q D f => uT_lift (t := tc) H B φ σ δ s _ re sl q _ fun H1 B1 φ1 s1 b g1 re1 q1 => by
    cases b with
    | true => exact iteT (uS_lift (t := t) H1 B1 φ1 σ δ s1 A re1 (sl.mono g1) (q1.1 rfl) D (f.grow g1))
    | false => exact iteF (uS_lift (t := u) H1 B1 φ1 σ δ s1 A re1 (sl.mono g1) (q1.2 rfl) D (f.grow g1))⟩
/-- target = value: the value is data (what was made on the way is forgotten), or as it is -/
def pAsg (t : ATE) (g : ATG) : ATS := fun A δ s => t δ s fun x s1 => g x δ s1 A.nx
theorem ap_asg {tg : Expr} {vs : List Nat} {g : ATG} (he : AE X M e va) (hg : AG X M vs tg g) (hs : swapsWithSole [tg] e pos.line X.env = pure false := by rfl) (hw : swappedStores [tg] e X.env = pure none := by rfl) (h1 : (assignEach [tg] X.env).map (·.2) = [assign tg X.env] := by rfl) : AP X M (.Assign [tg] e pos) (pAsg va g) :=
  ⟨_, ps_asg he.pe hg.pg hs hw h1, fun H B φ σ δ s A re sl q D f => uE_lift (t := va) H B φ σ δ s _ re sl q _ fun H1 B1 φ1 s1 v x g1 re1 r1 q1 =>
    uG_lift (t := g) H1 B1 φ1 σ δ s1 v x _ re1 (sl.mono g1) r1 q1 _ fun H2 B2 φ2 s2 σ2 δ2 g2 re2 sl2 q2 _ => f.nx _ _ _ _ _ _ (g1.trans g2) re2 sl2 q2⟩
def pSet (t : ATE) (i : Nat) : ATS := fun A δ s => t δ s fun x s1 => A.nx (δ.set i (some x)) s1
theorem ap_set {i : Nat} {x : Str} {pos' : Pos} (hN : X.N.Nodup) (he : AE X M e va) (hi : X.N[i]? = some x := by rfl) (hx : Loc X.env.scope x := by first | exact Or.inl rfl | exact Or.inr rfl)
    (hs : swapsWith e (some (.Name x pos')) pos.line X.env = pure false := by rfl) (hf : X.fn x = true ∨ X.env.scope.names.lookup x = some .local := by first | exact .inl rfl | exact .inr rfl) : AP X M (.Assign [.Name x pos'] e pos) (pSet va i) :=
  ⟨_, ps_set hN hi hx he.pe hs hf, fun H B φ σ δ s A re sl q D f => uE_lift (t := va) H B φ σ δ s _ re sl q _ fun H1 B1 φ1 s1 v x g1 re1 r1 q1 => f.nx _ _ _ _ _ _ g1 re1 ((sl.mono g1).set i r1) q1⟩
/-- a, b = x, y -/
def pPar (i j : Nat) (t : ATA) : ATS := fun A δ s => t δ s fun xs s1 => match xs with
  | [x, y] => A.nx ((δ.set i (some x)).set j (some y)) s1
  | _ => False
theorem ap_par {i j : Nat} {x y : Str} {a b : Expr} {ta : ATA} {px py pt : Pos} {kt k2 pt2} (hN : X.N.Nodup) (ha : AA X M [a, b] ta) (hc : X.calm = true := by rfl) (hi : X.N[i]? = some x := by rfl) (hj : X.N[j]? = some y := by rfl) (hij : i ≠ j := by decide)
    (h : ∀ {T : TA}, PA X [a, b] T → PS X (.Assign [.Tuple [.Name x px, .Name y py] kt pt] (.Tuple [a, b] k2 pt2) pos) (tPar i j T)) : AP X M (.Assign [.Tuple [.Name x px, .Name y py] kt pt] (.Tuple [a, b] k2 pt2) pos) (pPar i j ta) :=
  ⟨_, h ha.pa, fun H B φ σ δ s A re sl q D f => uA_lift (t := ta) H B φ σ δ s _ re sl q _ fun H1 B1 φ1 s1 v x g1 re1 r1 q1 => by
    dsimp only at q1
    split at q1
    · obtain ⟨v, w, rfl, r, r2⟩ := rsall2 r1
      exact ⟨_, _, rfl, f.nx _ _ _ _ _ _ g1 re1 (((sl.mono g1).set i r).set j r2) q1⟩
    · exact q1.elim⟩
/-- name += e -/
def pAug (i : Nat) (g : AR2) (t : ATE) : ATS := fun A δ s => match δ[i]? with
  | some (some x) => t δ s fun y s1 => g x y s1 fun z s2 => A.nx (δ.set i (some z)) s2
  | _ => False
def ipAddG : AR2 := fun x y s Q => match x, y with | .d (.int i), .d (.int j) => Q (.d (.int (i + j))) s | _, _ => False

/-! ### loops -/
def pFor (ti : ATI) (g : ATG) (tb : ATS) : ATS := fun A δ s => ti δ s fun items grd s1 => ∃ Pv : Nat → AS → ST → Prop, Pv 0 δ s1 ∧ (∀ i δ' s', Pv i δ' s' → grd s') ∧
  (∀ i x δ' s', items[i]? = some x → Pv i δ' s' → g (.d x) δ' s' fun δ2 s2 => tb { A with nx := Pv (i + 1), ct := Pv (i + 1), bk := A.nx } δ2 s2) ∧ (∀ δ' s', Pv items.length δ' s' → A.nx δ' s')
theorem ap_for {tg iter : Expr} {ti : ATI} {vs : List Nat} {g : ATG} (hp : PassesOwn (model X.prog X.w) X.A X.env X.xe) (hi : AI X M tg iter ti) (hg : AG X M vs tg g) (hb : APs X M body t) (hc : X.calm = true := by rfl) (hfs : ∀ x, foldedSetIterable iter X.env x = pure x := by exact fun _ => rfl) : AP X M (.For tg iter body [] pos) (pFor ti g t) := by
  obtain ⟨wi, h1, h2⟩ := hi.ex
  refine ⟨_, ps_for hp hc h1 hg.pg hb.pss hfs, fun H B φ σ δ s A re sl q D f => h2 H B φ σ δ s _ re sl q _ fun H1 B1 φ1 s1 J items grd g1 re1 wk ⟨Pv, p0, pg, ps, pd⟩ => ?_⟩
  obtain ⟨G, Y, W, hG, hY⟩ := wk
  refine for_it W (fun i σ' H' => ∃ B' φ' s' δ', Gr H1 B1 φ1 H' B' φ' ∧ Re X.K M H' B' φ' s' ∧ Rsl X.K B' φ' σ' δ' ∧ Pv i δ' s') ⟨B1, φ1, s1, δ, .refl, re1, sl.mono g1, p0⟩ (fun i σ' H' hi ⟨B', φ', s', δ', g2, re2, sl2, p2⟩ => ?_) (fun i x σ' H2 H3 hi ⟨B', φ', s', δ', g2, re2, sl2, p2⟩ hy => ?_) (fun σ' H' ⟨B', φ', s', δ', g2, re2, sl2, p2⟩ => ?_)
  · exact hG H' B' φ' s' g2 re2 (pg _ _ _ p2)
  · obtain ⟨B3, t0, ht, g3, re3, fz⟩ := hY i H2 x H3 B' φ' s' g2 re2 (pg _ _ _ p2) hi hy
    refine uG_lift (t := g) H3 B3 φ' σ' δ' s' x (.d t0) _ re3 (sl2.mono g3) (.dat fz) (ps i t0 δ' s' ht p2) _ fun H4 B4 φ4 s4 σ4 δ4 g4 re4 sl4 q4 _ => ?_
    refine uS_lift (t := t) H4 B4 φ4 σ4 δ4 s4 _ re4 sl4 q4 _ ⟨fun H5 B5 φ5 s5 σ5 δ5 g5 re5 sl5 q5 => ⟨B5, φ5, s5, δ5, ((g2.trans g3).trans g4).trans g5, re5, sl5, q5⟩, f.rt.grow (((g1.trans g2).trans g3).trans g4), f.nx.grow (((g1.trans g2).trans g3).trans g4), fun H5 B5 φ5 s5 σ5 δ5 g5 re5 sl5 q5 => ⟨B5, φ5, s5, δ5, ((g2.trans g3).trans g4).trans g5, re5, sl5, q5⟩⟩
  · exact f.nx _ _ _ _ _ _ (g1.trans g2) re2 sl2 (pd _ _ p2)
/-- while: the word by a measure -/
def pWhile (tc : ATT) (tb : ATS) : ATS := fun A δ s => ∃ Pv : Nat → AS → ST → Prop, (∃ m, Pv m δ s) ∧ ∀ m δ' s', Pv m δ' s' →
  tc δ' s' fun b s1 => (b = true → tb { A with nx := fun δ2 s2 => ∃ m', m' < m ∧ Pv m' δ2 s2, ct := fun δ2 s2 => ∃ m', m' < m ∧ Pv m' δ2 s2, bk := A.nx } δ' s1) ∧ (b = false → A.nx δ' s1)
theorem ap_while {tc : ATT} (hp : PassesOwn (model X.prog X.w) X.A X.env X.xe) (hc : AT X M c tc) (hb : APs X M body t) : AP X M (.While c body [] pos) (pWhile tc t) := by
  refine ⟨_, ps_while hp hc.pt hb.pss, fun H B φ σ δ s A re sl ⟨Pv, ⟨m0, p0⟩, ps⟩ D f => ?_⟩
  refine ⟨fun m σ' H' => ∃ B' φ' s' δ', Gr H B φ H' B' φ' ∧ Re X.K M H' B' φ' s' ∧ Rsl X.K B' φ' σ' δ' ∧ Pv m δ' s', ⟨m0, B, φ, s, δ, .refl, re, sl, p0⟩, fun m σ' H' ⟨B', φ', s', δ', g2, re2, sl2, p2⟩ => ?_⟩
  refine uT_lift (t := tc) H' B' φ' σ' δ' s' _ re2 sl2 (ps m δ' s' p2) _ fun H3 B3 φ3 s3 b g3 re3 q3 => ?_
  have g := g2.trans g3
  cases b with
  | false => exact iteF (f.nx _ _ _ _ _ _ g re3 (sl2.mono g3) (q3.2 rfl))
  | true =>
    refine iteT ⟨fun σ4 H4 => ∃ m', m' < m ∧ ∃ B' φ' s' δ', Gr H B φ H4 B' φ' ∧ Re X.K M H4 B' φ' s' ∧ Rsl X.K B' φ' σ4 δ' ∧ Pv m' δ' s', fun σ4 H4 h => h, ?_⟩
    exact uS_lift (t := t) H3 B3 φ3 σ' δ' s3 _ re3 (sl2.mono g3) (q3.1 rfl) _ ⟨fun H5 B5 φ5 s5 σ5 δ5 g5 re5 sl5 ⟨m', hm, q5⟩ => ⟨m', hm, B5, φ5, s5, δ5, g.trans g5, re5, sl5, q5⟩, f.rt.grow g, f.nx.grow g, fun H5 B5 φ5 s5 σ5 δ5 g5 re5 sl5 ⟨m', hm, q5⟩ => ⟨m', hm, B5, φ5, s5, δ5, g.trans g5, re5, sl5, q5⟩⟩

/-! ### list comprehensions -/
def wipeA (δ : AS) : List Nat → AS
  | [] => δ
  | v :: vs => (wipeA δ vs).set v none
theorem wipeA_length (δ : AS) : ∀ vs, (wipeA δ vs).length = δ.length
  | [] => rfl
  | v :: vs => by unfold wipeA; rw [List.length_set, wipeA_length δ vs]
theorem Rsl.wipe {K : Fr} {B : Hp} {φ : Fi} {σ : St} {δ : AS} (h : Rsl K B φ σ δ) : ∀ vs, Rsl K B φ (L2.wipe σ vs) (wipeA δ vs)
  | [] => h
  | v :: vs => by
    have ih := Rsl.wipe h vs
    refine ⟨by unfold L2.wipe wipeA; rw [List.length_set, List.length_set]; exact ih.len, fun i x e => ?_⟩
    unfold wipeA at e
    unfold L2.wipe
    by_cases hi : v = i
    · subst hi
      by_cases hl : v < (wipeA δ vs).length
      · rw [List.getElem?_set_self hl] at e; cases e
      · rw [List.getElem?_eq_none (by rw [List.length_set]; omega)] at e; cases e
    · rw [List.getElem?_set_ne hi] at e ⊢
      exact ih.at_ i x e
theorem wipe_at {σ : St} {i : Nat} : ∀ {vs : List Nat}, (L2.wipe σ vs)[i]? = if i ∈ vs ∧ i < σ.length then some none else σ[i]?
  | [] => by simp [L2.wipe]
  | v :: vs => by
    unfold L2.wipe
    by_cases hv : v = i
    · subst hv
      by_cases hl : v < σ.length
      · rw [List.getElem?_set_self (by rw [wipe_length]; exact hl), if_pos ⟨List.mem_cons_self, hl⟩]
      · rw [List.getElem?_eq_none (by rw [List.length_set, wipe_length]; omega), if_neg (fun z => hl z.2), List.getElem?_eq_none (by omega)]
    · rw [List.getElem?_set_ne hv, wipe_at (vs := vs)]
      have e : (i ∈ v :: vs ∧ i < σ.length) ↔ (i ∈ vs ∧ i < σ.length) := by
        rw [List.mem_cons]
        exact ⟨fun ⟨a, b⟩ => ⟨a.resolve_left fun z => hv z.symm, b⟩, fun ⟨a, b⟩ => ⟨.inr a, b⟩⟩
      by_cases z : i ∈ vs ∧ i < σ.length
      · rw [if_pos z, if_pos (e.mpr z)]
      · rw [if_neg z, if_neg fun y => z (e.mp y)]
theorem wipe_only {σ σ' : St} {vs ws : List Nat} (h : Onl ws (L2.wipe σ vs) σ') (hw : ∀ i ∈ ws, i ∈ vs) : L2.wipe σ' vs = L2.wipe σ vs := by
  refine List.ext_getElem? fun i => ?_
  have hl : σ'.length = σ.length := by rw [h.1, wipe_length]
  rw [wipe_at, wipe_at, hl]
  by_cases z : i ∈ vs ∧ i < σ.length
  · rw [if_pos z, if_pos z]
  · rw [if_neg z, if_neg z]
    by_cases hi : i ∈ vs
    · have : σ.length ≤ i := Nat.le_of_not_lt fun y => z ⟨hi, y⟩
      rw [List.getElem?_eq_none (by omega), List.getElem?_eq_none this]
    · rw [h.2 i (fun y => hi (hw i y)), wipe_at, if_neg z]
/-- an object beside the store is made or changed -/
theorem Re.poke {K : Fr} {M : MP} {H B H0 B0 : Hp} {φ φ0 : Fi} {s s0 : ST} {o : HO} {D : Addr} (re : Re K M H B φ s) (e0 : Re K M H0 B0 φ0 s0) (g : Gr H0 B0 φ0 H B φ) (h0 : H0 D = none) (hφ : D ∉ adr φ) (hB : B D = none) : Gr H0 B0 φ0 (upd H D o) B φ ∧ Re K M (upd H D o) B φ s := by
  have g2 : Gr H0 B0 φ0 (upd H D o) B φ := ⟨g.eb, g.pf, fun a u h hn => by rw [upd_ne (ne_of_none h h0)]; exact g.kp a u h hn, g.nb, g.nf⟩
  have ne : ∀ {n : Nat} {c : Ce} {a : Addr}, φ[n]? = some c → a ∈ c.al → a ≠ D := fun h ha z => hφ (by rw [← z]; exact adr_mem h ha)
  exact ⟨g2, ⟨fun a u h => by rw [upd_ne (ne_of_none h hB)]; exact re.ex a u h, re.nd, re.len, fun p hp => by rw [upd_ne (fun z => hφ (by rw [← z]; exact hp))]; exact re.al p hp, fun n c o h1 h2 h3 a ha => (re.fr n c o h1 h2 h3 a ha).imp id fun z => kT_ne z (ne h1 ha), fun n c o h1 h2 => (re.ob n c o h1 h2).mo .refl fun a ha => upd_ne (ne h1 ha), fun H3 B3 φ3 g3 => e0.pm _ _ _ (g2.trans g3)⟩⟩
/-- an object beside the store comes into it -/
theorem Re.adopt {K : Fr} {M : MP} {H B H0 B0 : Hp} {φ φ0 : Fi} {s s0 : ST} {vs : List V} {ts : List T} {D : Addr} (re : Re K M H B φ s) (e0 : Re K M H0 B0 φ0 s0) (g : Gr H0 B0 φ0 H B φ) (h0 : H0 D = none) (hφ : D ∉ adr φ) (hB : B D = none) (h : H D = some (.lst vs)) (f : FzAll K B vs ts) :
    Gr H0 B0 φ0 H B (φ ++ [one D]) ∧ Re K M H B (φ ++ [one D]) (s ++ [.lst ts]) :=
  re.snoc g e0 (fun a ha => by rw [show a = D by simpa [Ce.al] using ha]; exact .inr h0) (fun a ha => by rw [show a = D by simpa [Ce.al] using ha]; exact hφ) (by simp [Ce.al]) (fun a ha => by rw [show a = D by simpa [Ce.al] using ha, h]; exact fun z => nomatch z)
    (fun _ a ha => by rw [show a = D by simpa [Ce.al] using ha]; exact hB) (.sim rfl rfl ⟨vs, f, h⟩)
structure ATs (X : Cx) (M : MP) (es : List Expr) (t : ATT) : Prop where
  ex : ∃ te, PTs X es te ∧ LiftT X.K M te t
def aYes : ATT := fun _ s Q => Q true s
theorem ats_nil : ATs X M [] aYes := ⟨_, pts_nil, fun H B φ σ δ s Q re sl q Q' f => f _ _ _ _ _ .refl re q⟩
theorem ats_one {t : ATT} (h : AT X M c t) : ATs X M [c] t := ⟨_, pts_one h.pt, uT_lift⟩
theorem ATs.pts {es : List Expr} {t : ATT} (h : ATs X M es t) : PTs X es (uT X.K M t) := by
  obtain ⟨te, h1, h2⟩ := h.ex
  exact ⟨fun pins s σ H Q I q => h1.run pins s σ H Q I (q te h2)⟩
/-- the items of a comprehension: the word by the turn and what is made so far -/
def aLcI (ti : ATI) (g : ATG) (tt : ATT) (te : ATE) (vs : List Nat) : AS → ST → (List T → ST → Prop) → Prop := fun δ s Q => ti δ s fun items grd s1 => ∃ Pv : Nat → List T → ST → Prop, Pv 0 [] s1 ∧ (∀ i acc s', Pv i acc s' → grd s') ∧
  (∀ i x acc s', items[i]? = some x → Pv i acc s' → g (.d x) (wipeA δ vs) s' fun δ2 s2 => tt δ2 s2 fun b s3 => (b = true → te δ2 s3 fun y s4 => ∃ t, y = .d t ∧ acc.length < sizeLine ∧ Pv (i + 1) (acc ++ [t]) s4) ∧ (b = false → Pv (i + 1) acc s3)) ∧
  (∀ acc s', Pv items.length acc s' → Q acc s')
def aLc (ti : ATI) (g : ATG) (tt : ATT) (te : ATE) (vs : List Nat) : ATE := fun δ s Q => aLcI ti g tt te vs δ s fun acc s' => Q (.l s'.length) (s' ++ [.lst acc])
theorem lift_lc {K : Fr} {wi : TI} {ti : ATI} {g : TG} {ag : ATG} {tt : TT} {att : ATT} {te : TE} {ate : ATE} {vs ws : List Nat} (hi : LiftI K M wi ti) (hg : LiftG K M ws g ag) (hw : ∀ i ∈ ws, i ∈ vs) (ht : LiftT K M tt att) (he : LiftE K M te ate) :
    LiftE K M (tLc wi g tt te vs) (aLc ti ag att ate vs) := fun H B φ σ δ s Q re sl q Q' f => by
  refine hi H B φ σ δ s _ re sl q _ fun H1 B1 φ1 s1 J items grd g1 re1 wk ⟨Pv, p0, pg, ps, pd⟩ => ?_
  obtain ⟨G, Y, W, hG, hY⟩ := wk
  intro Dl hD
  have hB1 : B1 Dl = none := re1.none_b hD
  have hφ1 : Dl ∉ adr φ1 := fun z => re1.al Dl z hD
  obtain ⟨ga, rea⟩ := re1.poke (o := .lst []) re1 .refl hD hφ1 hB1
  refine lc_it W (fun i H' => ∃ B' φ' s' acc vs', Gr H1 B1 φ1 H' B' φ' ∧ Re K M H' B' φ' s' ∧ Dl ∉ adr φ' ∧ B' Dl = none ∧ H' Dl = some (.lst vs') ∧ FzAll K B' vs' acc ∧ Pv i acc s')
    ⟨B1, φ1, s1, [], [], ga, rea, hφ1, hB1, upd_same, .nil, p0⟩ (fun i H' hi ⟨B', φ', s', acc, vs', g2, re2, d1, d2, d3, fz, p2⟩ => hG H' B' φ' s' g2 re2 (pg _ _ _ p2)) (fun i x H2 H3 hi ⟨B', φ', s', acc, vs', g2, re2, d1, d2, d3, fz, p2⟩ hy => ?_)
    (fun H' ⟨B', φ', s', acc, vs', g2, re2, d1, d2, d3, fz, p2⟩ => ?_)
  · obtain ⟨B3, t0, hit, g3, re3, fx⟩ := hY i H2 x H3 B' φ' s' g2 re2 (pg _ _ _ p2) hi hy
    have kd : ∀ {H4 B4 : Hp} {φ4 : Fi}, Gr H2 B' φ' H4 B4 φ4 → Dl ∉ adr φ4 ∧ B4 Dl = none ∧ H4 Dl = some (.lst vs') := fun g4 =>
      ⟨fun z => (g4.nf Dl z).elim d1 (fun w => by rw [w] at d3; cases d3), g4.nbN d2 d3 (fun _ z => by cases z) d1, g4.kp Dl _ d3 d1⟩
    have slw : Rsl K B3 φ' (L2.wipe σ vs) (wipeA δ vs) := (((sl.mono g1).wipe vs).mono g2).mono g3
    refine hg H3 B3 φ' (L2.wipe σ vs) (wipeA δ vs) s' x (.d t0) _ re3 slw (.dat fx) (ps i t0 acc s' hit p2) _ fun H4 B4 φ4 s4 σ4 δ4 g4 re4 sl4 q4 on => ⟨wipe_only on hw, ?_⟩
    refine ht H4 B4 φ4 σ4 δ4 s4 _ re4 sl4 q4 _ fun H5 B5 φ5 s5 b g5 re5 q5 => ?_
    have g25 := (g3.trans g4).trans g5
    cases b with
    | false =>
      refine iteF ?_
      obtain ⟨e1, e2, e3⟩ := kd g25
      exact ⟨B5, φ5, s5, acc, vs', g2.trans g25, re5, e1, e2, e3, fz.mono g25.eb, q5.2 rfl⟩
    | true =>
      refine iteT (he H5 B5 φ5 σ4 δ4 s5 _ re5 (sl4.mono g5) (q5.1 rfl) _ fun H6 B6 φ6 s6 v6 x6 g6 re6 r6 ⟨t6, e6, z6, p6⟩ => ?_)
      subst e6
      have g26 := g25.trans g6
      obtain ⟨e1, e2, e3⟩ := kd g26
      obtain ⟨g7, re7⟩ := re6.poke (o := .lst (vs' ++ [v6])) re1 (g2.trans g26) hD e1 e2
      exact ⟨vs', e3, by rw [fz.length]; exact z6, B6, φ6, s6, acc ++ [t6], vs' ++ [v6], g7, re7, e1, e2, upd_same, (fz.mono g26.eb).append (.cons r6 .nil), p6⟩
  · obtain ⟨g3, re3⟩ := re2.adopt re1 g2 hD d1 d2 d3 fz
    exact f _ _ _ _ _ _ (g1.trans g3) re3 (.loc (re2.top _)) (pd _ _ p2)
/-- [elt for tg in iter if ..] -/
theorem ae_lc {elt tg iter : Expr} {ifs : List Expr} {scope : Scope} {own : List (Str × Nat)} {ti : ATI} {g : ATG} {tt : ATT} {te : ATE} {ws : List Nat} (hN : X.N.Nodup) (hi : AI X M tg iter ti) (ok : BlkOk X.N X.env.scope scope own)
    (hg : ∀ (s : Shared) (H : Hp) (C : Addr) (cl : List (Str × Addr)) (fp : List Addr), AG (X.blk s H scope (compEnvC scope cl C X.env) fp) M ws tg g) (ht : ∀ (s : Shared) (H : Hp) (C : Addr) (cl : List (Str × Addr)) (fp : List Addr), ATs (X.blk s H scope (compEnvC scope cl C X.env) fp) M ifs tt)
    (he : ∀ (s : Shared) (H : Hp) (C : Addr) (cl : List (Str × Addr)) (fp : List Addr), AE (X.blk s H scope (compEnvC scope cl C X.env) fp) M elt te) (hw : ∀ i ∈ ws, i ∈ own.map (·.2) := by decide) (hc : X.calm = true := by rfl) (hs : ∀ x, foldedSetIterable iter X.env x = pure x := by intro _; rfl) :
    AE X M (.ListComp elt [⟨tg, iter, ifs, 0⟩] scope pos) (aLc ti g tt te (own.map (·.2))) := by
  obtain ⟨wi, h1, h2⟩ := hi.ex
  exact .of (pe_lc hc hN h1 ok (fun s H C cl fp => show PG _ tg (uG X.K M ws g) from (hg s H C cl fp).pg) (fun s H C cl fp => show PTs _ ifs (uT X.K M tt) from (ht s H C cl fp).pts) (fun s H C cl fp => show PE _ elt (uE X.K M te) from (he s H C cl fp).pe) hs) (lift_lc h2 uG_lift hw uT_lift uE_lift)
/-- name = [..] on one line -/
theorem ap_setLc {i : Nat} {y : Str} {py spos : Pos} {elt tg iter : Expr} {ifs : List Expr} {scope : Scope} {own : List (Str × Nat)} {ti : ATI} {g : ATG} {tt : ATT} {te : ATE} {ws : List Nat} {t' : ATE} (hN : X.N.Nodup) (hi : AI X M tg iter ti) (ok : BlkOk X.N X.env.scope scope own)
    (hg : ∀ (s : Shared) (H : Hp) (C : Addr) (cl : List (Str × Addr)) (fp : List Addr), AG (X.blk s H scope (compEnvC scope cl C X.env) fp) M ws tg g) (ht : ∀ (s : Shared) (H : Hp) (C : Addr) (cl : List (Str × Addr)) (fp : List Addr), ATs (X.blk s H scope (compEnvC scope cl C X.env) fp) M ifs tt)
    (he : ∀ (s : Shared) (H : Hp) (C : Addr) (cl : List (Str × Addr)) (fp : List Addr), AE (X.blk s H scope (compEnvC scope cl C X.env) fp) M elt te)
    (hm : ∀ {T : TE}, LiftE X.K M T (aLc ti g tt te (own.map (·.2))) → LiftE X.K M T t')
    (hsw : swapsWith (.ListComp elt [⟨tg, iter, ifs, 0⟩] scope pos) (some (.Name y py)) spos.line X.env = pure true) (hw : ∀ i ∈ ws, i ∈ own.map (·.2) := by decide) (hc : X.calm = true := by rfl) (hy : X.N[i]? = some y := by rfl) (hyl : X.env.scope.names.lookup y = some .local := by rfl) (hs : ∀ x, foldedSetIterable iter X.env x = pure x := by intro _; rfl) :
    AP X M (.Assign [.Name y py] (.ListComp elt [⟨tg, iter, ifs, 0⟩] scope pos) spos) (pSet t' i) := by
  obtain ⟨wi, h1, h2⟩ := hi.ex
  refine ⟨_, ps_setLc hc hN hy hyl hsw h1 ok (fun s H C cl fp => show PG _ tg (uG X.K M ws g) from (hg s H C cl fp).pg) (fun s H C cl fp => show PTs _ ifs (uT X.K M tt) from (ht s H C cl fp).pts) (fun s H C cl fp => show PE _ elt (uE X.K M te) from (he s H C cl fp).pe) hs, fun H B φ σ δ s A re sl q D f => ?_⟩
  exact hm (lift_lc h2 uG_lift hw uT_lift uE_lift) H B φ σ δ s _ re sl q _ fun H1 B1 φ1 s1 v x g1 re1 r1 q1 => f.nx _ _ _ _ _ _ g1 re1 ((sl.mono g1).set i r1) q1
end
end Lv

/-! Lg: promises of defs that are called where no repr is running. -/
namespace Lv
open PySem PySem.Spec PyProof.Rows L2 LvI
/-- room for k calls more, no repr runs -/
structure RoomG (k : Nat) (A : Around) : Prop where
  rm : Room k A
  gd : A.guards = some []
theorem RoomG.mono {j k : Nat} {A : Around} (r : RoomG k A) (h : j ≤ k) : RoomG j A := ⟨r.rm.mono h, r.gd⟩
theorem RoomG.un {k : Nat} {A : Around} (r : RoomG k A) : A.units + 16 * k + 200 < cLine := r.rm.un
theorem RoomG.deeper {k : Nat} {A : Around} (r : RoomG (k + 1) A) (e : Env) : RoomG k (A.deeper e) := ⟨r.rm.deeper e, r.gd⟩
structure FnG (P : Program) (w : World) (K : Fr) (mg : Str → Option Value) (base : Heap) (k : Nat) (f : Addr) (fd : FuncData) (ps : List Str) (sp : Sp) : Prop where
  ln : ∀ vs H Q E, sp vs H Q E → vs.length = ps.length
  go : ∀ (A : Around) (outer : List Env) (t : Shared) (H : Hp) (args : Args) (us : List Value) (vs : List V) (Q : VK) (E : XK),
    RoomG k A → Env0 P w K mg base A outer t H → BindsTo t fd args (ps.zip us) → Vals vs us → sp vs H Q E → codeAny (model P w) A (.call (.ref f) args) (CR (L2.CX P w) outer P w H t Q E) t
section
variable {P : Program} {w : World} {K : Fr} {mg : Str → Option Value} {base : Heap} {k : Nat} {f : Addr} {fd : FuncData} {ps : List Str} {sp sp' : Sp}
theorem FnG.imp (F : FnG P w K mg base k f fd ps sp) (h : ∀ vs H Q E, sp' vs H Q E → sp vs H Q E) : FnG P w K mg base k f fd ps sp' :=
  ⟨fun _ _ _ _ q => F.ln _ _ _ _ (h _ _ _ _ q), fun A outer t H args us vs Q E r1 r2 r3 r4 q => F.go A outer t H args us vs Q E r1 r2 r3 r4 (h _ _ _ _ q)⟩
end
/-- no error is let out -/
abbrev XN : XK := fun _ _ _ => False
theorem cx_no {P : Program} {w : World} {outer : List Env} {H : Hp} {s s' : Shared} {u : Value} (h : L2.CX P w outer H s XN u s') : False := by
  obtain ⟨_, _, _, _, _, _, _, _, _, _, _, _, z⟩ := h
  exact z
section
variable {X : Cx} {k : Nat} {f C : Addr} {fd : FuncData} {ps : List Str} {sp : Sp} {E : XK} {x m : Str} {p pos apos : Pos} {e o : Expr} {es : List Expr} {ta : TA} {to : TE}
/-- such a def runs -/
theorem run_G {pins : List (Addr × Obj)} {σ : L2.St} {H : Hp} {s : Shared} {Q : VK} {us : List Value} {vs : List V} (F : FnG X.prog X.w X.K X.mg X.base k f fd ps sp) (hr : RoomG k X.A) (hb : Binds X.K fd ps []) (hx : PassesAt (L2.CX X.prog X.w) X σ E)
    (I : L2.Inv X pins σ H s) (r : Vals vs us) (h : sp vs H Q E) : wpAny (model X.prog X.w) X.A (call (.ref f) us) (EP X pins σ Q) X.xe s := by
  have hl : us.length = ps.length := r.length.symm.trans (F.ln _ _ _ _ h)
  have bnd := hb s us I.kIn (by rw [List.append_nil]; exact hl)
  rw [List.append_nil] at bnd
  refine wpAny_call (codeAny_mono (F.go X.A X.stack s H ⟨us, []⟩ us vs Q E hr I.env0 bnd r h) fun res t2 fin => ?_)
  match res, fin with
  | .error y, fin => exact hx pins H s y t2 I fin
  | .ok (.ret u), fin => exact I.after fin
  | .ok .next, fin => exact fin.elim
  | .ok .brk, fin => exact fin.elim
  | .ok .cont, fin => exact fin.elim
theorem pass_no {σ : L2.St} : PassesAt (L2.CX X.prog X.w) X σ XN := fun _ _ _ _ _ _ c => (cx_no c).elim
/-- a call of such a def; E is wished of an error -/
theorem pe_callX {E : L2.St → XK} (F : FnG X.prog X.w X.K X.mg X.base k f fd ps sp) (hr : RoomG k X.A) (hg : Gl X x) (hm : X.mg x = some (.ref f)) (hk : PySem.W.keepIn X.K (.ref f) = true) (hb : Binds X.K fd ps []) (hx : ∀ σ, PassesAt (L2.CX X.prog X.w) X σ (E σ)) (ha : PA X (e :: es) ta)
    (hdb : (x == ("__debug__" : Str)) = false := by decide) (he : starEach (e :: es) X.env = (false, eval e X.env) :: starEach es X.env := by rfl)
    (hpl : (backTo pos (starEach es X.env)).any (·.1) = false := by rfl) : PE X (.Call (.Name x p) (e :: es) [] pos) (fun σ H Q => ta σ H fun vs H1 => sp vs H1 Q (E σ)) := by
  constructor
  intro pins t σ H Q I q0
  refine wpAny_Call_Name_kw (ld_glob I hg hm ?_ hdb)
  refine PySem.W.callWith_K (h₀ := X.base) I.ok.mod.kin hk (thn (ha.run pos pins t σ H _ I q0) fun us t1 ⟨vs, H1, I1, rv, q1⟩ => ⟨I1.kIn, ?_⟩) he hpl
  exact run_G F hr hb (hx σ) I1 rv q1
/-- a call of such a def, nothing is let out -/
theorem pe_callG (F : FnG X.prog X.w X.K X.mg X.base k f fd ps sp) (hr : RoomG k X.A) (hg : Gl X x) (hm : X.mg x = some (.ref f)) (hk : PySem.W.keepIn X.K (.ref f) = true) (hb : Binds X.K fd ps []) (ha : PA X (e :: es) ta)
    (hdb : (x == ("__debug__" : Str)) = false := by decide) (he : starEach (e :: es) X.env = (false, eval e X.env) :: starEach es X.env := by rfl)
    (hpl : (backTo pos (starEach es X.env)).any (·.1) = false := by rfl) : PE X (.Call (.Name x p) (e :: es) [] pos) (fun σ H Q => ta σ H fun vs H1 => sp vs H1 Q XN) := pe_callX (E := fun _ => XN) F hr hg hm hk hb (fun _ => pass_no) ha hdb he hpl
theorem RoomG.make {k : Nat} {A : Around} (r : RoomG (k + 1) A) (C : Addr) (us : List Value) (kw : List (Str × Value)) : RoomG k (A.under (.builtin "type.__call__" ⟨.ref C :: us, kw⟩)) := ⟨r.rm.make C us kw, by first | exact r.gd | (have := r.gd; simpa [Around.under] using this)⟩
end
section
variable {P : Program} {w : World} {K : Fr} {mg : Str → Option Value} {base : Heap} {k : Nat} {f : Addr} {fd : FuncData} {N ps : List Str} {sp : Sp}
/-- such a def, by its body -/
theorem fnG_of {name qual : Str} {pr : Arguments} {body : List Stmt} {scope : Scope} {dV kV doc pm cdv ct oc : Value} {an od : Option Addr} {osl : Array (Option Value)}
    (lk : K.lookup f = some ⟨oc, od, .func (PySem.W.fnOf name qual pr body scope dV kV doc pm an cdv ct), osl⟩) (hcd : PySem.W.codeIn K cdv qual = true) (S : FnScope N ps scope) (ln : ∀ vs H Q E, sp vs H Q E → vs.length = ps.length)
    (hbody : ∀ (A : Around) (outer : List Env) (t : Shared) (H : Hp) (vs : List V) (Q : VK) (E : XK), RoomG k (A.deeper (PyProof.Rows.envOfC qual scope t.heap.objs.size f cdv)) → sp vs H Q E →
      ∃ ts, PSs (cxOf (L2.CX P w) P w K mg base N qual scope f cdv A outer t H E) body ts ∧ ts { nx := fun _ H' => Q .non H', rt := Q } (L2.start N vs) H) :
    FnG P w K mg base (k + 1) f (PySem.W.fnOf name qual pr body scope dV kV doc pm an cdv ct) ps sp := by
  constructor
  · exact ln
  intro A outer t H args us vs Q E hr e0 hb rv hsp
  have hlen := ln _ _ _ _ hsp
  have kin : K.In t.heap := e0.mod.kin.keeps fun b o e => (e0.bs b o e).1
  have nol : t.heap.NoLimit := e0.mod.nolimit.keeps fun b o e => (e0.bs b o e).1
  have kinds : ∀ y ∈ ps.zip us, scope.names.lookup y.1 = some .local ∨ (scope.names.lookup y.1 = some .cell ∧ ((cellsFrom (t.heap.objs.size + 1) scope.names []).lookup y.1).isSome = true) := by
    rintro ⟨n, v⟩ hy
    cases S.par n (List.of_mem_zip hy).1 with
    | inl q => exact .inl q
    | inr q => exact .inr ⟨q, PySem.W.cellsFrom_some _ _ _ (.inl q)⟩
  refine codeAny_call_function hr.rm.depth (kin _ _ lk) rfl S.co S.gen rfl (PySem.W.codeRec_of kin hcd) (hb _ _ _ _ ?_)
  refine wpAny_newFunctionEnv_cells S.kind kinds fun env he t1 call => ?_
  cases he
  refine ⟨nol.keeps call.toInCall.keep, codeAny_func ?_⟩
  obtain ⟨ts, hts, hq⟩ := hbody A outer t H vs Q E (hr.deeper _) hsp
  have I : L2.Inv (cxOf (L2.CX P w) P w K mg base N qual scope f cdv A outer t H E) [] (L2.start N vs) H t1 := inv_start S hr.rm.hd e0 hlen rv call
  refine wpAny_mono (hts.run [] t1 (L2.start N vs) H _ I hq) (fun fl t2 fin => ?_) fun _ _ fin => fin
  match fl, fin with
  | .ret u, ⟨v, σ', H', J, r2, q⟩ => exact ⟨v, H', J.os, J.bare, J.base, J.hok, r2, q⟩
  | .next, ⟨σ', H', J, q⟩ => exact ⟨V.non, H', J.os, J.bare, J.base, J.hok, rfl, q⟩
  | .brk, ⟨_, _, _, q⟩ => exact q.elim
  | .cont, ⟨_, _, _, q⟩ => exact q.elim
end
/-! ### the law itself -/
section
variable {P : Program} {w : World} {K : Fr} {mg mb : Str → Option Value} {k : Nat} {fa a : Addr} {fd : FuncData} {x : Str} {sp : Sp} {t : Shared} {vs : List Value} {ns : List Int}
/-- from an abstract heap that has nothing but the script -/
theorem core_G (KX : K.In t.heap) (hns : t.heap.Ns mainGlobals mg) (hbn : t.heap.Ns builtinsNs mb) (hbb : ∀ y : Str, y ≠ "__name__" → mb y = bootBuiltins y) (hlim : t.heap.NoLimit) (hg : t.gens = #[]) (ha : t.heap.get? a = some { cls := .type "list", data := .seq vs.toArray })
    (hr : RoomG k callerA) (F : ∀ base : Heap, K.In base → base.Ns mainGlobals mg → FnG P w K mg base k fa fd [x] sp) (hbind : ∀ (s : Shared) (u : Value), BindsTo s fd ⟨[u], []⟩ [(x, u)]) (H : Hp) (hO : Only H)
    (hsp : sp [.ref a] H (fun v _ => v = .bl true) fun _ _ _ => False) (hok : HOk P w H t.heap) (hA : ∀ b, H b ≠ none → b = a) (hK : H a ≠ none → K.lookup a = none) :
    codeAny (model P w) callerA (.call (.ref fa) ⟨[.ref a], []⟩) (fun r s' => r = .ok (.ret (.bool true)) ∧ OldK t.heap s'.heap ∧ s'.os = t.os ∧ AllBare s'.gens) t := by
  have only : ∀ b u, H b = some u → b = a := fun b u e => hA b fun z => by rw [e] at z; cases z
  have plain : ∀ {b : Addr} {o : Obj}, t.heap.get? b = some o → H b = none → (hidT t.heap H).get? b = some o := fun e n => hidT_get e n
  have nodict : ∀ {b : Addr} {o : Obj} {es : Array DictEntry} {ep : Nat}, t.heap.get? b = some o → o.data = .dict es ep → H b = none := by
    intro b o es ep e d
    cases q : H b with
    | none => rfl
    | some u =>
      cases only b u q
      rw [ha] at e
      injection e with e
      rw [← e] at d
      cases (show Data.seq vs.toArray _ = Data.dict es ep from d)
  have nsH : ∀ {b : Addr} {m : Str → Option Value}, t.heap.Ns b m → (hidT t.heap H).Ns b m := by
    rintro b m ⟨o, es, ep, e, d, r⟩
    exact ⟨o, es, ep, plain e (nodict e d), d, r⟩
  have kinH : K.In (hidT t.heap H) := by
    intro b o e
    refine plain (KX b o e) ?_
    cases q : H b with
    | none => rfl
    | some u =>
      cases only b u q
      rw [hK (fun z => by rw [q] at z; cases z)] at e
      cases e
  obtain ⟨mc, l1, l2⟩ := hlim
  have env : Env0 P w K mg (hidT t.heap H) callerA [] t H := {
    frames := rfl, mod := ⟨kinH, nsH hns, ⟨mb, nsH hbn, hbb⟩, ⟨mc, nsH l1, l2⟩⟩, bs := fun b o e => of_hidT e, bsz := Nat.le_of_eq (hidT_size _ _),
    funs := trivial, frf := fun b hb => (nomatch (show b ∈ ([] : List Addr) from hb)), hok := hok, bare := .of_eq hg }
  refine codeAny_mono ((F _ kinH (nsH hns)).go callerA [] t H ⟨[.ref a], []⟩ [.ref a] [.ref a] _ _ hr env (hbind t (.ref a)) (.cons rfl .nil) hsp) fun res t' fin => ?_
  match res, fin with
  | .error e, fin => exact (cx_no fin).elim
  | .ok .next, fin => exact fin.elim
  | .ok .brk, fin => exact fin.elim
  | .ok .cont, fin => exact fin.elim
  | .ok (.ret u), ⟨v, H', os, bare, un, hok', rv, q⟩ =>
    cases (show v = .bl true from q)
    cases (show u = Value.bool true from rv)
    refine ⟨rfl, OldK.of_keep fun b o e => ?_, os, bare⟩
    cases hb : H b with
    | none => exact un.keep b o e hb (fun z => nomatch (show b ∈ ([] : List Addr) from z)) (by simp)
    | some u =>
      cases hO b with
      | inl z => rw [hb] at z; cases z
      | inr z =>
        obtain ⟨ob, xs, z⟩ := z
        have o1 := (hok b _ z).1
        have o2 := (hok' b _ (un.frzs b ob _ z)).1
        rw [e] at o1
        cases o1
        exact o2
theorem law_callG (KX : K.In t.heap) (hns : t.heap.Ns mainGlobals mg) (hbn : t.heap.Ns builtinsNs mb) (hbb : ∀ y : Str, y ≠ "__name__" → mb y = bootBuiltins y) (hlim : t.heap.NoLimit) (hg : t.gens = #[]) (ha : t.heap.get? a = some { cls := .type "list", data := .seq vs.toArray })
    (hi : IntsAre vs ns) (hl : ns.length ≤ sizeLine) (hr : RoomG k callerA) (F : ∀ base : Heap, K.In base → base.Ns mainGlobals mg → FnG P w K mg base k fa fd [x] sp) (hbind : ∀ (s : Shared) (u : Value), BindsTo s fd ⟨[u], []⟩ [(x, u)])
    (hsp : ∀ H : Hp, Only H → SqL K H a (ns.map V.int) → sp [.ref a] H (fun v _ => v = .bl true) fun _ _ _ => False) :
    codeAny (model P w) callerA (.call (.ref fa) ⟨[.ref a], []⟩) (fun r s' => r = .ok (.ret (.bool true)) ∧ OldK t.heap s'.heap ∧ s'.os = t.os ∧ AllBare s'.gens) t := by
  have rv := vals_ints hi
  cases hk : K.lookup a with
  | some o =>
    have e := KX a o hk
    rw [ha] at e
    injection e with e
    subst e
    have hS : SqL K (fun _ => none) a (ns.map V.int) := .inr ⟨_, vs.toArray, _, hk, rfl, rfl, rfl, by rw [List.size_toArray, hi.length]; exact hl, by simpa using rv⟩
    exact core_G KX hns hbn hbb hlim hg ha hr F hbind _ (fun _ => .inl rfl) (hsp _ (fun _ => .inl rfl) hS) (fun b u z => nomatch (show (none : Option HO) = some u from z)) (fun b z => absurd rfl z) fun z => absurd rfl z
  | none =>
    let ob : Obj := { cls := .type "list", data := .seq vs.toArray }
    let H : Hp := fun b => if b = a then some (.frz ob (.lst (ns.map V.int))) else none
    have at_ : H a = some (.frz ob (.lst (ns.map V.int))) := if_pos rfl
    have off : ∀ b, b ≠ a → H b = none := fun b hb => if_neg hb
    have hO : Only H := fun b => by
      by_cases hb : b = a
      · exact .inr ⟨ob, _, by rw [hb]; exact at_⟩
      · exact .inl (off b hb)
    refine core_G KX hns hbn hbb hlim hg ha hr F hbind H hO (hsp H hO (.inl (.inr ⟨ob, at_⟩))) (fun b u z => ?_) (fun b z => ?_) fun _ => hk
    · by_cases hb : b = a
      · subst hb
        rw [at_] at z
        cases z
        exact ⟨ha, by rw [List.length_map]; exact hl, vs, _, rv, ha⟩
      · rw [off b hb] at z
        cases z
    · exact Decidable.byContradiction fun hb => z (off b hb)
end
theorem walk_G {l : PySem.W.OpenLaw} {n k : Nat} {q : Program} {loose : List Str} {XP : (Str → Option Value) → Heap → Prop} {YP : World → Heap → Prop} {d : DefRec} {K : Params → Fr} {sp : World → Sp} {x : Str} (hn : l.most = some n) (hn2 : n ≤ sizeLine) (hdf : d.params.defaults = []) (hr : Room k callerA)
    (hY : ∀ (w : World) (h : Heap), YP w h → (K w.params).In h)
    (F : ∀ (w : World) (mg : Str → Option Value) (fa : Addr) (h : Heap), (K w.params).In h → h.Ns mainGlobals mg → mg d.name = some (.ref fa) → ∃ fd : FuncData, (∀ (s : Shared) (u : Value), BindsTo s fd ⟨[u], []⟩ [(x, u)]) ∧ ∀ base : Heap, (K w.params).In base → base.Ns mainGlobals mg → FnG l.prog w (K w.params) mg base k fa fd [x] (sp w))
    (hsp : ∀ (w : World) (H : Hp) (a : Addr) (ns : List Int), ns.length ≤ n → Only H → SqL (K w.params) H a (ns.map V.int) → sp w [.ref a] H (fun v _ => v = .bl true) fun _ _ _ => False) :
    PySem.W.WalkO q loose XP YP l.row.toRowW d [] (fun f vs => PySem.call f vs) := by
  refine Att.attach_call hn hdf fun w s0 t mg mb fa o pm cd doc a vs ns G Y h1 h2 h3 hmg hobj hints hlen hgens => ?_
  have kin := hY w _ Y
  have ⟨fd, bnd, prom⟩ := F w mg fa _ kin G.T.g hmg
  exact law_callG kin G.T.g G.T.b G.T.builtins G.T.nolimit hgens hobj hints (Nat.le_trans hlen hn2) ⟨hr, rfl⟩ prom bnd fun H => hsp w H a ns hlen
end Lv

/-! Lv8: promises of defs, their calls, a def by its body. -/
namespace Lv
open PySem L2 LvI

/-- a def's promise over places and store: the arguments, the store handed in, what is wanted -/
abbrev ASp := List SV → ST → (SV → ST → Prop) → Prop
def M0 : MP := fun _ _ _ => True
def toSp (K : Fr) (sp : ASp) : Sp := fun vs H Q _ => ∃ (B : Hp) (φ : Fi) (s : ST) (svs : List SV) (Qa : SV → ST → Prop), Re K M0 H B φ s ∧ RsAll K B φ vs svs ∧ sp svs s Qa ∧
  ∀ H' B' φ' s' v x, Gr H B φ H' B' φ' → Re K M0 H' B' φ' s' → Rs K B' φ' v x → Qa x s' → Q v H'
def slots (N : List Str) (svs : List SV) : AS := svs.map some ++ List.replicate (N.length - svs.length) none
theorem rsl_start {K : Fr} {B : Hp} {φ : Fi} {N : List Str} {vs : List V} {svs : List SV} (r : RsAll K B φ vs svs) : Rsl K B φ (L2.start N vs) (slots N svs) := by
  have hl := r.length
  refine ⟨by unfold L2.start slots; simp [hl], fun i x e => ?_⟩
  unfold slots at e
  unfold L2.start
  by_cases hi : i < svs.length
  · rw [List.getElem?_append_left (by rw [List.length_map]; exact hi), List.getElem?_map] at e
    rw [List.getElem?_append_left (by rw [List.length_map, hl]; exact hi), List.getElem?_map]
    cases hs : svs[i]? with
    | none => rw [hs] at e; cases e
    | some y =>
      rw [hs] at e
      cases e
      obtain ⟨v, hv, q⟩ := r.get' hs
      exact ⟨v, by rw [hv]; rfl, q⟩
  · rw [List.getElem?_append_right (by rw [List.length_map]; omega)] at e
    have := List.mem_of_getElem? e
    have := List.eq_of_mem_replicate this
    cases this
section
variable {P : Program} {w : World} {K : Fr} {mg : Str → Option Value} {base : Heap}
/-- a def by its body -/
theorem fn_lv {x qual : Str} {st : Stmt} {f : Addr} {fd : FuncData} {N ps : List Str} {k : Nat} {sp : ASp} (F : Fun K x qual st f fd) (S : FnScope N ps (defScope st)) (len : ∀ vs s Q, sp vs s Q → vs.length = ps.length)
    (hbody : ∀ (cdv : Value) (A : Around) (outer : List Env) (s : Shared) (H : Hp) (E : XK), RoomG k (A.deeper (PyProof.Rows.envOfC qual (defScope st) s.heap.objs.size f cdv)) → ∀ (svs : List SV) (s0 : ST) (Q : SV → ST → Prop), sp svs s0 Q →
      ∃ t, APs (cxOf (L2.CX P w) P w K mg base N qual (defScope st) f cdv A outer s H E).nox M0 (defBody st) t ∧ t { nx := fun _ s' => Q (.d .non) s', rt := Q } (slots N svs) s0) : FnG P w K mg base (k + 1) f fd ps (toSp K sp) := by
  obtain ⟨oc, od, kV, doc, pm, an, cdv, ct, osl, rfl, lk, hcd⟩ := F.ex
  refine fnG_of lk hcd S (fun vs H Q E h => ?_) fun A outer s H vs Q E hr h => ?_
  · obtain ⟨B, φ, s, svs, Qa, re, r, h1, h2⟩ := h
    rw [r.length]; exact len _ _ _ h1
  · obtain ⟨B, φ, s0, svs, Qa, re, r, h1, h2⟩ := h
    obtain ⟨t, ⟨ts, p1, p2⟩, q⟩ := hbody cdv A outer s H E hr svs s0 Qa h1
    refine ⟨ts, p1.nox, p2 H B φ (L2.start N vs) (slots N svs) s0 _ re (rsl_start r) q _ ⟨fun H' B' φ' s' σ' δ' g re' sl' q' => h2 _ _ _ _ _ _ g re' (.dat .non) q', fun H' B' φ' s' v x g re' r' q' => h2 _ _ _ _ _ _ g re' r' q', fun H' B' φ' s' σ' δ' g re' sl' q' => q'.elim, fun H' B' φ' s' σ' δ' g re' sl' q' => q'.elim⟩⟩
end

/-! ### a call: the places handed in are the callee's store -/
def argL : List SV → List Nat
  | [] => []
  | .d _ :: r => argL r
  | .l n :: r => if n ∈ argL r then argL r else n :: argL r
theorem argL_nd : ∀ xs, (argL xs).Nodup
  | [] => List.nodup_nil
  | .d _ :: r => argL_nd r
  | .l n :: r => by
    unfold argL
    split
    · exact argL_nd r
    · rename_i h
      exact List.nodup_cons.mpr ⟨h, argL_nd r⟩
theorem argL_mem : ∀ {xs : List SV} {n : Nat}, SV.l n ∈ xs → n ∈ argL xs
  | .d _ :: r, n, h => by
    show n ∈ argL r
    rcases List.mem_cons.mp h with h | h
    · cases h
    · exact argL_mem h
  | .l m :: r, n, h => by
    unfold argL
    rcases List.mem_cons.mp h with h | h
    · cases h
      split
      · assumption
      · exact List.mem_cons_self
    · split
      · exact argL_mem h
      · exact List.mem_cons_of_mem _ (argL_mem h)
def toC (ns : List Nat) : SV → SV
  | .l n => .l (ns.idxOf n)
  | x => x
/-- a callee's place, told by the caller's store of L things -/
def ren (ns : List Nat) (L : Nat) : SV → SV
  | .l k => (match ns[k]? with
    | some n => .l n
    | none => .l (L + (k - ns.length)))
  | x => x
/-- a number of a place likewise -/
def renN (ns : List Nat) (L : Nat) (k : Nat) : Nat := match ns[k]? with
  | some n => n
  | none => L + (k - ns.length)
def renO (ns : List Nat) (L : Nat) : LO → LO
  | .tp xs => .tp (xs.map (ren ns L))
  | .ll xs => .ll (xs.map (ren ns L))
  | .mK kvs => .mK (kvs.map fun p => (p.1, ren ns L p.2))
  | .mT kvs => .mT (kvs.map fun p => (p.1, ren ns L p.2))
  | .fK od vs kvs => .fK od vs (kvs.map fun p => (p.1, ren ns L p.2))
  | .fT od vs kvs => .fT od vs (kvs.map fun p => (p.1, ren ns L p.2))
  | .ins C j fs => .ins C (renN ns L j) (fs.map fun p => (p.1, ren ns L p.2))
  | .own j => .own (renN ns L j)
  | o => o
def simO : LO → Bool
  | .lst _ => true
  | .dK _ => true
  | .dT _ => true
  | .lK _ _ _ => true
  | .lT _ _ _ => true
  | .box _ => true
  | .pool _ _ => true
  | _ => false
section
variable {α : Type}
def putAll : List α → List Nat → List α → List α
  | s, n :: ns, o :: os => putAll (s.set n o) ns os
  | s, _, _ => s
theorem putAll_len : ∀ (s : List α) (ns : List Nat) (os : List α), (putAll s ns os).length = s.length
  | s, [], os => by
    cases os <;> rfl
  | s, _ :: _, [] => rfl
  | s, n :: ns, o :: os => by
    unfold putAll
    rw [putAll_len, List.length_set]
theorem putAll_other : ∀ (s : List α) (ns : List Nat) (os : List α) (i : Nat), i ∉ ns → (putAll s ns os)[i]? = s[i]?
  | s, [], os, i, _ => by
    cases os <;> rfl
  | s, _ :: _, [], i, _ => rfl
  | s, n :: ns, o :: os, i, h => by
    unfold putAll
    rw [putAll_other _ ns os i (fun z => h (List.mem_cons_of_mem _ z)), List.getElem?_set_ne (fun z => h (by rw [← z]; exact List.mem_cons_self))]
theorem putAll_at : ∀ (s : List α) (ns : List Nat) (os : List α) (k n : Nat) (o : α), ns.Nodup → ns[k]? = some n → os[k]? = some o → n < s.length → (putAll s ns os)[n]? = some o
  | s, m :: ns, o' :: os, 0, n, o, nd, h1, h2, h3 => by
    have e1 : m = n := by simpa using h1
    have e2 : o' = o := by simpa using h2
    subst e1; subst e2
    unfold putAll
    rw [putAll_other _ ns os m (List.nodup_cons.mp nd).1, List.getElem?_set_self h3]
  | s, m :: ns, o' :: os, k + 1, n, o, nd, h1, h2, h3 => by
    unfold putAll
    exact putAll_at _ ns os k n o (List.nodup_cons.mp nd).2 (by simpa using h1) (by simpa using h2) (by rw [List.length_set]; exact h3)
end
/-- where each thing behind a call comes from -/
def bck {α : Type} (X : List α) (ns : List Nat) (X' : List α) : List α := putAll X ns X' ++ X'.drop ns.length
theorem bck_ren {α : Type} {X X' : List α} {ns : List Nat} (nd : ns.Nodup) (hlt : ∀ n ∈ ns, n < X.length) (k : Nat) (hk : k < X'.length) : (bck X ns X')[renN ns X.length k]? = X'[k]? := by
  unfold bck renN
  cases hn : ns[k]? with
  | some n =>
    have hm := hlt n (List.mem_of_getElem? hn)
    show (putAll X ns X' ++ X'.drop ns.length)[n]? = _
    rw [List.getElem?_append_left (by rw [putAll_len]; exact hm), List.getElem?_eq_getElem hk]
    exact putAll_at X ns X' k n _ nd hn (List.getElem?_eq_getElem hk) hm
  | none =>
    have := List.getElem?_eq_none_iff.mp hn
    show (putAll X ns X' ++ X'.drop ns.length)[X.length + (k - ns.length)]? = _
    rw [List.getElem?_append_right (by rw [putAll_len]; omega), putAll_len, List.getElem?_drop]
    congr 1; omega
theorem bck_old {α : Type} {X X' : List α} {ns : List Nat} {m : Nat} (h : m < X.length) (hn : m ∉ ns) : (bck X ns X')[m]? = X[m]? := by
  unfold bck
  rw [List.getElem?_append_left (by rw [putAll_len]; exact h), putAll_other _ _ _ _ hn]
theorem bck_len {α : Type} {X X' : List α} {ns : List Nat} : (bck X ns X').length = X.length + (X'.length - ns.length) := by
  unfold bck; rw [List.length_append, putAll_len, List.length_drop]
theorem bck_src {ns : List Nat} {L N m : Nat} (hN : ns.length ≤ N) (h : m < L + (N - ns.length)) : (m < L ∧ m ∉ ns) ∨ ∃ k, k < N ∧ renN ns L k = m := by
  by_cases hm : m ∈ ns
  · obtain ⟨k, hk⟩ := List.getElem?_of_mem hm
    have := (List.getElem?_eq_some_iff.mp hk).1
    exact .inr ⟨k, by omega, by unfold renN; rw [hk]⟩
  · by_cases hL : m < L
    · exact .inl ⟨hL, hm⟩
    · refine .inr ⟨ns.length + (m - L), by omega, ?_⟩
      unfold renN
      rw [List.getElem?_eq_none (by omega)]
      show L + (ns.length + (m - L) - ns.length) = m
      omega
/-- chosen places -/
def selF (φ : Fi) (ns : List Nat) : Fi := ns.map fun n => (φ[n]?).getD (one 0)
theorem selF_len (φ : Fi) (ns : List Nat) : (selF φ ns).length = ns.length := List.length_map ..
theorem selF_at {φ : Fi} {ns : List Nat} (hlt : ∀ n ∈ ns, n < φ.length) {k n : Nat} (h : ns[k]? = some n) : (selF φ ns)[k]? = φ[n]? := by
  unfold selF
  have q : φ[n]? = some (φ[n]'(hlt n (List.mem_of_getElem? h))) := List.getElem?_eq_getElem _
  rw [List.getElem?_map, h, q]
  show some ((φ[n]?).getD (one 0)) = _
  rw [q]; rfl
theorem selF_inv {φ : Fi} {ns : List Nat} (hlt : ∀ n ∈ ns, n < φ.length) {k : Nat} {c : Ce} (h : (selF φ ns)[k]? = some c) : ∃ n, ns[k]? = some n ∧ φ[n]? = some c := by
  have hk := (List.getElem?_eq_some_iff.mp h).1
  rw [selF_len] at hk
  have hn : ns[k]? = some ns[k] := List.getElem?_eq_getElem hk
  exact ⟨_, hn, by rw [← selF_at hlt hn]; exact h⟩
theorem selF_sub {φ : Fi} {ns : List Nat} (hlt : ∀ n ∈ ns, n < φ.length) : ∀ a ∈ adr (selF φ ns), a ∈ adr φ := fun a ha => by
  obtain ⟨k, c, h1, h2⟩ := adr_of ha
  obtain ⟨n, _, h3⟩ := selF_inv hlt h1
  exact adr_mem h3 h2
theorem selF_nd {φ : Fi} {ns : List Nat} (hlt : ∀ n ∈ ns, n < φ.length) (nd : ns.Nodup) (h : (adr φ).Nodup) : (adr (selF φ ns)).Nodup := by
  refine adr_nd_of (fun n c hc => ?_) fun i j c d a h1 h2 h3 h4 => ?_
  · obtain ⟨m, _, h3⟩ := selF_inv hlt hc
    exact ce_nd h h3
  · obtain ⟨m, m1, m2⟩ := selF_inv hlt h1
    obtain ⟨m', m1', m2'⟩ := selF_inv hlt h2
    have := adr_nd h m2 m2' h3 h4
    subst this
    obtain ⟨j1, j2⟩ := List.getElem?_eq_some_iff.mp m1
    obtain ⟨k1, k2⟩ := List.getElem?_eq_some_iff.mp m1'
    exact (List.getElem_inj nd).mp (j2.trans k2.symm)
def aFn (sp : ASp) (t : ATA) : ATE := fun δ s Q => t δ s fun xs s1 =>
  ((argL xs).all fun n => match s1[n]? with | some o => simO o | none => false) = true ∧
    sp (xs.map (toC (argL xs))) ((argL xs).map fun n => (s1[n]?).getD .gone) fun r s2 => Q (ren (argL xs) s1.length r) (putAll s1 (argL xs) (s2.map (renO (argL xs) s1.length)) ++ (s2.drop (argL xs).length).map (renO (argL xs) s1.length))
theorem Ro.sim {K : Fr} {B : Hp} {φ φ' : Fi} {o : LO} {u : Option HO} (h : Ro K B φ o u) (c : simO o = true) : Ro K B φ' o u := by
  cases o with
  | tp _ => cases c
  | gone => cases c
  | lst _ => exact h
  | dK _ => exact h
  | dT _ => exact h
  | lK _ _ _ => exact h
  | lT _ _ _ => exact h
  | box _ => exact h.elim
  | pool _ _ => exact h.elim
  | _ => cases c
theorem Rc.sim_ {K : Fr} {B H : Hp} {φ φ' : Fi} {o : LO} {c : Ce} (h : Rc K B H φ c o) (w : simO o = true) : Rc K B H φ' c o := h.re fun _ h => h.sim w
theorem RsAll.map_to {K : Fr} {B : Hp} {φ φ' : Fi} {f : SV → SV} : ∀ {vs : List V} {xs : List SV}, RsAll K B φ vs xs → (∀ v x, x ∈ xs → Rs K B φ v x → Rs K B φ' v (f x)) → RsAll K B φ' vs (xs.map f)
  | _, _, .nil, _ => .nil
  | _, _, .cons r t, h => .cons (h _ _ List.mem_cons_self r) (RsAll.map_to t fun v x hx => h v x (List.mem_cons_of_mem _ hx))
theorem map_snd {α β γ : Type} (f : β → γ) (l : List (α × β)) : (l.map fun p => (p.1, f p.2)).map (·.2) = (l.map (·.2)).map f ∧ (l.map fun p => (p.1, f p.2)).map (·.1) = l.map (·.1) := by
  rw [List.map_map, List.map_map, List.map_map]; exact ⟨rfl, rfl⟩
/-- behind a call: the callee's places and store put into the caller's; B2 is the data from here on -/
theorem Re.back {K : Fr} {M : MP} {H B H' B' B2 : Hp} {φ φ' : Fi} {s s2 : ST} {ns : List Nat} (re : Re K M H B φ s) (nd : ns.Nodup) (hlt : ∀ n ∈ ns, n < φ.length) {sc : ST} (re' : Re K M0 H' B' φ' sc)
    (pf : ∃ r, φ'.map Ce.p = (selF φ ns).map Ce.p ++ r) (kp : ∀ a o, H a = some o → a ∉ adr (selF φ ns) → H' a = some o) (nf : ∀ a ∈ adr φ', a ∈ adr (selF φ ns) ∨ H a = none)
    (eb : Ex B B2) (ex : Ex B2 H') (nb : ∀ a, B a = none → H a ≠ none → a ∉ adr (selF φ ns) → B2 a = none ∨ kT H a) (nb2 : ∀ a, B' a = none → B2 a = none)
    (l2 : s2.length = sc.length) (i2 : ∀ (k : Nat) o', s2[k]? = some o' → ∃ o, sc[k]? = some o ∧ (o'.is = true → o.is = true) ∧ ∀ c, φ'[k]? = some c → Rc K B' H' φ' c o → Rc K B2 H' (bck φ ns φ') c o') :
    Gr H B φ H' B2 (bck φ ns φ') ∧ Re K M H' B2 (bck φ ns φ') (bck s ns s2) := by
  obtain ⟨r0, er⟩ := pf
  have hL : φ.length = s.length := re.len
  have hN : ns.length ≤ φ'.length := by
    have := congrArg List.length er
    rw [List.length_append, List.length_map, List.length_map, selF_len] at this
    omega
  have hlt2 : ∀ n ∈ ns, n < s.length := fun n hn => by rw [← hL]; exact hlt n hn
  have ls2 : s2.length = φ'.length := by rw [l2]; exact re'.len.symm
  have root : ∀ (k n : Nat), ns[k]? = some n → φ'.r k = φ.r n := fun k n hk => by
    have hkl := (List.getElem?_eq_some_iff.mp hk).1
    rw [r_map, er, List.getElem?_append_left (by rw [List.length_map, selF_len]; exact hkl), ← r_map]
    unfold Fi.r
    rw [selF_at hlt hk]
  -- each place of the new ones
  have src : ∀ (m : Nat) c, (bck φ ns φ')[m]? = some c → (m < φ.length ∧ m ∉ ns ∧ φ[m]? = some c) ∨ ∃ k, k < φ'.length ∧ renN ns φ.length k = m ∧ φ'[k]? = some c := fun m c h => by
    have hm := (List.getElem?_eq_some_iff.mp h).1
    rw [bck_len] at hm
    rcases bck_src hN hm with ⟨h1, h2⟩ | ⟨k, h1, h2⟩
    · exact .inl ⟨h1, h2, by rw [← bck_old h1 h2]; exact h⟩
    · exact .inr ⟨k, h1, h2, by rw [← bck_ren nd hlt k h1, h2]; exact h⟩
  have apart : ∀ {m : Nat} {c : Ce} {a : Addr}, m ∉ ns → φ[m]? = some c → a ∈ c.al → a ∉ adr φ' ∧ a ∉ adr (selF φ ns) := fun {m c a} h1 h2 h3 => by
    have h4 : a ∉ adr (selF φ ns) := fun z => by
      obtain ⟨k, d, q1, q2⟩ := adr_of z
      obtain ⟨n, q3, q4⟩ := selF_inv hlt q1
      have := adr_nd re.nd h2 q4 h3 q2
      exact h1 (by rw [this]; exact List.mem_of_getElem? q3)
    exact ⟨fun z => (nf a z).elim h4 fun w => re.al a (adr_mem h2 h3) w, h4⟩
  have ad : ∀ a ∈ adr (bck φ ns φ'), (a ∈ adr φ ∧ a ∉ adr (selF φ ns)) ∨ a ∈ adr φ' := fun a ha => by
    obtain ⟨m, c, h1, h2⟩ := adr_of ha
    rcases src m c h1 with ⟨_, q2, q3⟩ | ⟨k, q1, q2, q3⟩
    · exact .inl ⟨adr_mem q3 h2, (apart q2 q3 h2).2⟩
    · exact .inr (adr_mem q3 h2)
  have sub := selF_sub hlt
  have g : Gr H B φ H' B2 (bck φ ns φ') := by
    refine ⟨eb, ⟨(φ'.drop ns.length).map Ce.p, ?_⟩, fun a o ha hn => kp a o ha fun z => hn (sub a z), fun a h1 h2 h3 => nb a h1 h2 fun z => h3 (sub a z), fun a ha => ?_⟩
    · unfold bck
      rw [List.map_append]
      congr 1
      refine List.ext_getElem? fun m => ?_
      rw [← r_map, ← r_map]
      by_cases hm : m ∈ ns
      · obtain ⟨k, hk⟩ := List.getElem?_of_mem hm
        have hkl := (List.getElem?_eq_some_iff.mp hk).1
        have hk' : φ'[k]? = some φ'[k] := List.getElem?_eq_getElem (by omega)
        rw [Fi.r_of (putAll_at φ ns φ' k m _ nd hk hk' (hlt m hm)), ← root k m hk, Fi.r_of hk']
      · unfold Fi.r
        rw [putAll_other _ _ _ _ hm]
    · rcases ad a ha with ⟨h, _⟩ | h
      · exact .inl h
      · exact (nf a h).imp (sub a) id
  have same : ∀ {m : Nat} {c : Ce}, m ∉ ns → φ[m]? = some c → ∀ a ∈ c.al, H' a = H a := fun {m c} h1 h2 a ha => by
    cases hHp : H a with
    | none => exact absurd hHp (re.al a (adr_mem h2 ha))
    | some o => exact kp a o hHp (apart h1 h2 ha).2
  have ob2 : ∀ (m : Nat) o', (bck s ns s2)[m]? = some o' → (m < s.length ∧ m ∉ ns ∧ s[m]? = some o') ∨ ∃ k, renN ns s.length k = m ∧ s2[k]? = some o' := fun m o' h => by
    have hm := (List.getElem?_eq_some_iff.mp h).1
    rw [bck_len] at hm
    rcases bck_src (by rw [ls2]; exact hN) hm with ⟨h1, h2⟩ | ⟨k, h1, h2⟩
    · exact .inl ⟨h1, h2, by rw [← bck_old h1 h2]; exact h⟩
    · exact .inr ⟨k, h2, by rw [← bck_ren nd hlt2 k h1, h2]; exact h⟩
  have both : ∀ (m : Nat) c o', (bck φ ns φ')[m]? = some c → (bck s ns s2)[m]? = some o' → (m ∉ ns ∧ φ[m]? = some c ∧ s[m]? = some o') ∨ ∃ k, φ'[k]? = some c ∧ s2[k]? = some o' := fun m c o' h1 h2 => by
    rcases src m c h1 with ⟨q1, q2, q3⟩ | ⟨k, q1, q2, q3⟩
    · refine .inl ⟨q2, q3, ?_⟩
      rw [← bck_old (X' := s2) (by rw [← hL]; exact q1) q2]; exact h2
    · refine .inr ⟨k, q3, ?_⟩
      rw [← bck_ren (X' := s2) nd hlt2 k (by rw [ls2]; exact q1), ← hL, q2]; exact h2
  refine ⟨g, ⟨ex, ?_, by rw [bck_len, bck_len, ls2, hL], fun a ha => ?_, fun m c o' h1 h2 h3 a ha => ?_, fun m c o' h1 h2 => ?_, fun H3 B3 φ3 g3 => re.pm _ _ _ (g.trans g3)⟩⟩
  · refine adr_nd_of (fun m c h => ?_) fun i j c d a h1 h2 h3 h4 => ?_
    · rcases src m c h with ⟨_, _, q⟩ | ⟨k, _, _, q⟩
      · exact ce_nd re.nd q
      · exact ce_nd re'.nd q
    · rcases src i c h1 with ⟨_, p2, p3⟩ | ⟨k, p1, p2, p3⟩
      · rcases src j d h2 with ⟨_, q2, q3⟩ | ⟨l, q1, q2, q3⟩
        · exact adr_nd re.nd p3 q3 h3 h4
        · exact absurd (adr_mem q3 h4) (apart p2 p3 h3).1
      · rcases src j d h2 with ⟨_, q2, q3⟩ | ⟨l, q1, q2, q3⟩
        · exact absurd (adr_mem p3 h3) (apart q2 q3 h4).1
        · rw [← p2, ← q2, adr_nd re'.nd p3 q3 h3 h4]
  · rcases ad a ha with ⟨h, h2⟩ | h
    · cases hHp : H a with
      | none => exact absurd hHp (re.al a h)
      | some o => rw [kp a o hHp h2]; exact fun z => nomatch z
    · exact re'.al a h
  · rcases both m c o' h1 h2 with ⟨q1, q2, q3⟩ | ⟨k, q1, q2⟩
    · have kk : kT H a → kT H' a := fun ⟨k, z⟩ => ⟨k, by rw [same q1 q2 a ha]; exact z⟩
      rcases re.fr m c o' q2 q3 h3 a ha with hb | hk
      · exact (nb a hb (re.al a (adr_mem q2 ha)) (apart q1 q2 ha).2).imp id kk
      · exact .inr (kk hk)
    · obtain ⟨o, e1, e2, _⟩ := i2 k o' q2
      exact (re'.fr k c o q1 e1 (e2 h3) a ha).imp (nb2 a) id
  · rcases both m c o' h1 h2 with ⟨q1, q2, q3⟩ | ⟨k, q1, q2⟩
    · exact (re.ob m c o' q2 q3).mo g.mo (same q1 q2)
    · obtain ⟨o, e1, e2, e3⟩ := i2 k o' q2
      exact e3 c q1 (re'.ob k c o q1 e1)
/-- a callee's place is the caller's renamed -/
theorem bck_r {φ φ' : Fi} {ns : List Nat} (nd : ns.Nodup) (hlt : ∀ n ∈ ns, n < φ.length) {k : Nat} {p : Addr} (h : φ'.r k = some p) : Fi.r (bck φ ns φ') (renN ns φ.length k) = some p := by
  obtain ⟨c, h1, rfl⟩ := Fi.r_inv h
  refine Fi.r_of ?_
  rw [bck_ren nd hlt k (List.getElem?_eq_some_iff.mp h1).1]
  exact h1
theorem ren_l (ns : List Nat) (L k : Nat) : ren ns L (.l k) = .l (renN ns L k) := by simp only [ren, renN]; cases ns[k]? <;> rfl
theorem Rs.ren {K : Fr} {B : Hp} {φ φ' : Fi} {ns : List Nat} (nd : ns.Nodup) (hlt : ∀ n ∈ ns, n < φ.length) {u : V} {y : SV} (ry : Rs K B φ' u y) : Rs K B (bck φ ns φ') u (Lv.ren ns φ.length y) := by
  cases y with
  | d t => exact ry
  | l k =>
    obtain ⟨p, e1, rfl⟩ := ry
    rw [ren_l]
    exact ⟨p, bck_r nd hlt e1, rfl⟩
theorem Ro.ren {K : Fr} {B : Hp} {φ φ' : Fi} {ns : List Nat} (nd : ns.Nodup) (hlt : ∀ n ∈ ns, n < φ.length) {o : LO} {u : Option HO} (ho : Ro K B φ' o u) : Ro K B (bck φ ns φ') (renO ns φ.length o) u := by
  have rr : ∀ v x, Rs K B φ' v x → Rs K B (bck φ ns φ') v (Lv.ren ns φ.length x) := fun v x h => h.ren nd hlt
  cases o with
  | tp ys =>
    obtain ⟨ws, f1, e1⟩ := ho
    exact ⟨ws, f1.map_to fun v x _ rx => rr v x rx, e1⟩
  | gone => trivial
  | lst _ => exact ho
  | dK _ => exact ho
  | dT _ => exact ho
  | ll ys =>
    obtain ⟨ws, f1, e1⟩ := ho
    exact ⟨ws, f1.map_to fun v x _ rx => rr v x rx, e1⟩
  | mK kvs =>
    obtain ⟨ws, f1, e1⟩ := ho
    obtain ⟨m1, m2⟩ := map_snd (Lv.ren ns φ.length) kvs
    exact ⟨ws, by rw [m1]; exact f1.map_to fun v x _ rx => rr v x rx, by rw [m2]; exact e1⟩
  | mT kvs =>
    obtain ⟨ws, f1, e1⟩ := ho
    obtain ⟨m1, m2⟩ := map_snd (Lv.ren ns φ.length) kvs
    exact ⟨ws, by rw [m1]; exact f1.map_to fun v x _ rx => rr v x rx, by rw [m2]; exact e1⟩
  | fK od vs kvs =>
    obtain ⟨f1, e1⟩ := ho
    obtain ⟨m1, m2⟩ := map_snd (Lv.ren ns φ.length) kvs
    exact ⟨by rw [m1]; exact f1.map_to fun v x _ rx => rr v x rx, by rw [m2]; exact e1⟩
  | lK od vs kvs => exact ho
  | lT od vs kvs => exact ho
  | fT od vs kvs =>
    obtain ⟨f1, e1⟩ := ho
    obtain ⟨m1, m2⟩ := map_snd (Lv.ren ns φ.length) kvs
    exact ⟨by rw [m1]; exact f1.map_to fun v x _ rx => rr v x rx, by rw [m2]; exact e1⟩
  | ins C j fs =>
    obtain ⟨ws, dx, f1, j1, e1⟩ := ho
    obtain ⟨m1, m2⟩ := map_snd (Lv.ren ns φ.length) fs
    exact ⟨ws, dx, by rw [m1]; exact f1.map_to fun v x _ rx => rr v x rx, bck_r nd hlt j1, by rw [m2]; exact e1⟩
  | own j =>
    obtain ⟨x, j1, e1⟩ := ho
    exact ⟨x, bck_r nd hlt j1, e1⟩
  | box _ => exact ho.elim
  | pool _ _ => exact ho.elim
theorem renO_is {ns : List Nat} {L : Nat} {o : LO} : (renO ns L o).is = o.is ∧ (renO ns L o).smp = o.smp := by cases o <;> exact ⟨rfl, rfl⟩
theorem Rc.ren {K : Fr} {B H : Hp} {φ φ' : Fi} {ns : List Nat} (nd : ns.Nodup) (hlt : ∀ n ∈ ns, n < φ.length) {c : Ce} {o : LO} (ho : Rc K B H φ' c o) : Rc K B H (bck φ ns φ') c (renO ns φ.length o) := by
  cases ho with
  | gone => exact .gone
  | sim h1 h2 h3 => exact .sim (by rw [renO_is.2]; exact h1) h2 (h3.ren nd hlt)
  | box ψ h1 h2 h3 h4 => exact .box ψ h1 h2 h3 h4
  | pool h1 h2 h3 h4 => exact .pool h1 h2 (h3.shl h1) h4
/-- ahead of a call: the callee's places and store -/
theorem Re.fore {K : Fr} {M : MP} {H B Bc : Hp} {φ : Fi} {s : ST} {ns : List Nat} (re : Re K M H B φ s) (nd : ns.Nodup) (hlt : ∀ n ∈ ns, n < φ.length) (ex : Ex Bc H) {sc : ST} (l : sc.length = ns.length)
    (fr : ∀ n ∈ ns, ∀ c, φ[n]? = some c → ∀ a ∈ c.al, B a = none → Bc a = none) (ob : ∀ (k n : Nat) c o, ns[k]? = some n → φ[n]? = some c → sc[k]? = some o → ∃ o0, s[n]? = some o0 ∧ (o.is = true → o0.is = true) ∧ (Rc K B H φ c o0 → Rc K Bc H (selF φ ns) c o)) : Re K M0 H Bc (selF φ ns) sc := by
  refine ⟨ex, selF_nd hlt nd re.nd, by rw [selF_len, l], fun p hp => re.al p (selF_sub hlt p hp), fun k c o e1 e2 e3 a ha => ?_, fun k c o e1 e2 => ?_, fun _ _ _ _ => trivial⟩
  · obtain ⟨n, q1, q2⟩ := selF_inv hlt e1
    obtain ⟨o0, p1, p2, _⟩ := ob k n c o q1 q2 e2
    exact (re.fr n c o0 q2 p1 (p2 e3) a ha).imp (fr n (List.mem_of_getElem? q1) c q2 a ha) id
  · obtain ⟨n, q1, q2⟩ := selF_inv hlt e1
    obtain ⟨o0, p1, p2, p3⟩ := ob k n c o q1 q2 e2
    exact p3 (re.ob n c o0 q2 p1)
theorem Rs.toC {K : Fr} {B : Hp} {φ : Fi} {ns : List Nat} (hlt : ∀ n ∈ ns, n < φ.length) {v : V} {x : SV} (r : Rs K B φ v x) (h : ∀ n, x = .l n → n ∈ ns) : Rs K B (selF φ ns) v (Lv.toC ns x) := by
  cases x with
  | d t => exact r
  | l n =>
    obtain ⟨p, e1, rfl⟩ := r
    have hm : n ∈ ns := h n rfl
    have hk : ns[ns.idxOf n]? = some n := by
      rw [List.getElem?_eq_getElem (List.idxOf_lt_length_of_mem hm)]
      exact congrArg some (List.getElem_idxOf (List.idxOf_lt_length_of_mem hm))
    exact ⟨p, by unfold Fi.r at e1 ⊢; rw [selF_at hlt hk]; exact e1, rfl⟩
theorem bck_st (s : ST) (ns : List Nat) (f : LO → LO) (s2 : ST) : putAll s ns (s2.map f) ++ (s2.drop ns.length).map f = bck s ns (s2.map f) := by unfold bck; rw [List.map_drop]
theorem lift_fn {K : Fr} {M : MP} {H B : Hp} {φ : Fi} {s : ST} {vs : List V} {xs : List SV} {Q : SV → ST → Prop} {Q' : VK} {E : XK} {sp : ASp} (re : Re K M H B φ s) (r : RsAll K B φ vs xs)
    (h1 : ((argL xs).all fun n => match s[n]? with | some o => simO o | none => false) = true)
    (h2 : sp (xs.map (toC (argL xs))) ((argL xs).map fun n => (s[n]?).getD .gone) fun r s2 => Q (ren (argL xs) s.length r) (putAll s (argL xs) (s2.map (renO (argL xs) s.length)) ++ (s2.drop (argL xs).length).map (renO (argL xs) s.length)))
    (f : FinE K M H B φ Q Q') : toSp K sp vs H Q' E := by
  generalize hns : argL xs = ns at h1 h2
  have nd : ns.Nodup := by rw [← hns]; exact argL_nd xs
  have hat : ∀ n ∈ ns, ∃ o, s[n]? = some o ∧ simO o = true := fun n hn => by
    have := List.all_eq_true.mp h1 n hn
    cases hs : s[n]? with
    | none => rw [hs] at this; cases this
    | some o => rw [hs] at this; exact ⟨o, rfl, this⟩
  have hlt : ∀ n ∈ ns, n < φ.length := fun n hn => by
    obtain ⟨o, ho, _⟩ := hat n hn
    rw [re.len]; exact (List.getElem?_eq_some_iff.mp ho).1
  have rec_ : Re K M0 H B (selF φ ns) (ns.map fun n => (s[n]?).getD .gone) := by
    refine re.fore nd hlt re.ex (List.length_map ..) (fun _ _ _ _ _ _ h => h) fun k n c o q1 q2 q3 => ?_
    obtain ⟨o', ho', so'⟩ := hat n (List.mem_of_getElem? q1)
    rw [List.getElem?_map, q1] at q3
    have q3 : (s[n]?).getD .gone = o := by simpa using q3
    rw [ho'] at q3
    cases q3
    exact ⟨_, ho', id, fun h => h.sim_ so'⟩
  have rsc : RsAll K B (selF φ ns) vs (xs.map (toC ns)) := r.map_to fun v x hx rx => rx.toC hlt fun n e => by rw [← hns]; exact argL_mem (e ▸ hx)
  refine ⟨B, selF φ ns, _, _, _, rec_, rsc, h2, fun H' B' φ' s' v x g re' r' q' => ?_⟩
  have hL : φ.length = s.length := re.len
  rw [bck_st, ← hL] at q'
  obtain ⟨g2, re2⟩ := re.back nd hlt re' g.pf g.kp g.nf g.eb re'.ex g.nb (fun _ h => h) (s2 := s'.map (renO ns φ.length)) (List.length_map ..) fun k o' h => by
    rw [List.getElem?_map] at h
    obtain ⟨o, h1, rfl⟩ := Option.map_eq_some_iff.mp h
    exact ⟨o, h1, fun w => by rw [renO_is.1] at w; exact w, fun c _ hc => hc.ren nd hlt⟩
  exact f _ _ _ _ _ _ g2 re2 (r'.ren nd hlt) q'
section
variable {X : Cx} {M : MP} {e : Expr} {es : List Expr} {pos p : Pos}
theorem ae_fn {k : Nat} {f : Addr} {fd : FuncData} {ps : List Str} {sp : ASp} {x : Str} {t : ATA} (F : FnG X.prog X.w X.K X.mg X.base k f fd ps (toSp X.K sp)) (hr : RoomG k X.A) (hm : X.mg x = some (.ref f)) (hk : PySem.W.keepIn X.K (.ref f) = true) (hb : Binds X.K fd ps []) (ha : AA X M (e :: es) t)
    (hg : Gl X x := by rfl) (hdb : (x == ("__debug__" : Str)) = false := by decide) (he : starEach (e :: es) X.env = (false, eval e X.env) :: starEach es X.env := by rfl) (hpl : (backTo pos (starEach es X.env)).any (·.1) = false := by rfl) :
    AE X M (.Call (.Name x p) (e :: es) [] pos) (aFn sp t) :=
  .of (pe_callG F hr hg hm hk hb ha.pa hdb he hpl) fun H B φ σ δ s Q re sl q Q' f => uA_lift (t := t) H B φ σ δ s _ re sl q _ fun H1 B1 φ1 s1 vs xs g1 re1 r1 ⟨h1, h2⟩ => by
    exact lift_fn re1 r1 h1 h2 (f.grow g1)
end
/-- a weaker promise -/
theorem toSp_imp {K : Fr} {sp sp' : ASp} (h : ∀ vs s Q, sp' vs s Q → sp vs s Q) : ∀ vs H Q E, toSp K sp' vs H Q E → toSp K sp vs H Q E := fun vs H Q E ⟨B, φ, s, svs, Qa, re, r, h1, h2⟩ => ⟨B, φ, s, svs, Qa, re, r, h _ _ _ h1, h2⟩
end Lv

/-! Lv9: xs[i] op= e of lists, the end of a law. -/
namespace Lv
open PySem L2 LvI
section
variable {X : Cx} {M : MP} {e o i : Expr} {pos : Pos} {vo vi ve : ATE}
theorem get_list : PGet X (rIxL X.K) := by
  intro pins s σ H x y v u Q I rx ry h
  obtain ⟨p, xs, i, z, rfl, rfl, hq, he, q⟩ := h
  cases rx
  obtain ⟨t, rfl⟩ := ry
  obtain ⟨its, r, pl, hz⟩ := I.list hq
  obtain ⟨j, h1, h2, h3, h4, h5⟩ := atI_get he
  obtain ⟨w, ew, rw'⟩ := r.get h2
  have ln := r.length
  have big := line63
  have fin : EP X pins σ Q w s := ⟨z, H, I, rw', q⟩
  by_cases h0 : 0 ≤ i
  · have hj : i.toNat = j := Option.some.inj (by rw [← seqIndex_of h0 h5]; exact h1)
    exact wpAny_getItem_list pl.isList h0 (by omega) (by rw [hj]; simpa using ew) fin
  · have hj : (i + (its.toArray.size : Int)).toNat = j := by
      rw [List.size_toArray, ← ln]
      exact Option.some.inj (by rw [← seqIndex_neg (by omega) h4]; exact h1)
    exact wpAny_getItem_list_neg pl.isList (by omega) (by rw [List.size_toArray] <;> omega) (by omega) (by rw [hj]; simpa using ew) fin
/-- l[i] op= e of ints, l a list of the store -/
def pAugL (f : Int → Int → Int) (vo vi ve : ATE) : ATS := fun A δ s => vo δ s fun o s1 => vi δ s1 fun i s2 => match o, i with
  | .l n, .d (.int k) => ∃ ts j c, s2[n]? = some (.lst ts) ∧ ixN ts.length k = some j ∧ ts[j]? = some (.int c) ∧ ve δ s2 fun y s3 => match y with
    | .d (.int d) => s3[n]? = some (.lst ts) ∧ A.nx δ (s3.set n (.lst (ts.set j (.int (f c d)))))
    | _ => False
  | _, _ => False
theorem ap_augL {f : Int → Int → Int} {op : Operator} {tpos : Pos} (hp : PIp X op (ipI f)) (ho : AE X M o vo) (hi : AE X M i vi) (he : AE X M e ve)
    (ha : ∀ ov iv new, augStore i ov iv new = (do holding [new, ov, iv] (setItem ov iv new); release [new, ov, iv] []; pure .next) := by intros; rfl) :
    AP X M (.AugAssign (.Subscript o i tpos) op e pos) (pAugL f vo vi ve) :=
  ⟨_, ps_augS ho.pe hi.pe get_list he.pe hp set_list ha, fun H B φ σ δ s A re sl q D fin => uE_lift (t := vo) H B φ σ δ s _ re sl q _ fun H1 B1 φ1 s1 v1 x1 g1 re1 r1 q1 => uE_lift (t := vi) H1 B1 φ1 σ δ s1 _ re1 (sl.mono g1) q1 _ fun H2 B2 φ2 s2 v2 x2 g2 re2 r2 q2 => by
    dsimp only at q2
    split at q2
    · cases int_of r2
      obtain ⟨ts, j, c, h1, h2, h3, q2⟩ := q2
      obtain ⟨p, vs, rfl, hp, e1, hB, f1⟩ := own_of re2 (r1.mono g2) h1
      obtain ⟨w, ew, fw⟩ := f1.get' h3
      have ln := f1.length
      cases int_of (φ := φ2) (.dat fw)
      refine ⟨p, vs, _, .int c, rfl, rfl, SqL.of e1, by unfold atI; rw [ln, h2]; exact ew, ?_⟩
      refine uE_lift (t := ve) H2 B2 φ2 σ δ s2 _ re2 ((sl.mono g1).mono g2) q2 _ fun H3 B3 φ3 s3 v3 x3 g3 re3 r3 q3 => ?_
      dsimp only at q3
      split at q3
      · cases int_of r3
        obtain ⟨h4, q3⟩ := q3
        obtain ⟨p', vs', e', hp', e1', hB', f1'⟩ := own_of re3 ((r1.mono g2).mono g3) h4
        cases e'
        refine ⟨_, _, rfl, rfl, p, vs', _, j, rfl, rfl, e1', by rw [f1'.length]; exact h2, ?_⟩
        obtain ⟨g4, re4⟩ := re3.set (.lst (vs'.set j _)) (.lst (ts.set j (.int _))) hp' hB' ⟨_, FzAll.set (.int _) j f1', rfl⟩
        exact fin.nx _ _ _ _ _ _ (((g1.trans g2).trans g3).trans g4) re4 ((((sl.mono g1).mono g2).mono g3).mono g4) q3
      · exact q3.elim
    · exact q2.elim⟩
end
/-- a law's promise: a script of at most 63 numbers -/
def spLawA : ASp := fun vs s Q => ∃ ns : List Int, vs = [.d (.scr (ns.map T.int))] ∧ ns.length ≤ 63 ∧ s = [] ∧ ∀ s', Q (.d (.bl true)) s'
theorem re_start {K : Fr} {H : Hp} : Re K M0 H H [] [] := by
  refine ⟨fun _ _ h => h, List.nodup_nil, rfl, fun p hp => (nomatch hp), fun n p o e => by simp at e, fun n p o e => by simp at e, fun _ _ _ _ => trivial⟩
theorem law_start {K : Fr} {H : Hp} {a : Addr} {ns : List Int} (h : SqL K H a (ns.map V.int)) (hl : ns.length ≤ 63) {E : XK} : toSp K spLawA [.ref a] H (fun v _ => v = .bl true) E := by
  refine ⟨H, [], [], _, fun v _ => v = .d (.bl true), re_start, .cons (.dat (.scr h (FzAll.ints ns))) .nil, ⟨ns, rfl, hl, rfl, fun _ => rfl⟩, fun H' B' φ' s' v x g re r q => ?_⟩
  subst q
  exact bl_of r
end Lv

/-! Lv10: bodies and blocks that leave no rest, defs by name. -/
namespace Lv
open PySem L2 LvI
/-- the value only, all that was made behind the first things forgotten but a fresh thing that is handed on -/
def ownC (k : Nat) (Q : SV → ST → Prop) : SV → ST → Prop := fun x s1 => (s1.take k).all (clO k) = true ∧ match x with
  | .d y => Q (.d y) (s1.take k)
  | .l n => (n < k → Q (.l n) (s1.take k)) ∧ (k ≤ n → ∃ o, s1[n]? = some o ∧ simO o = true ∧ Q (.l k) (s1.take k ++ [o]))
section
variable {K : Fr} {M : MP} {H B : Hp} {φ : Fi} {s : ST} {Q : SV → ST → Prop} {Q' : VK}
theorem fin_own (re : Re K M H B φ s) (f : FinE K M H B φ Q Q') : FinE K M H B φ (ownC s.length Q) Q' := fun H1 B1 φ1 s1 v x g1 re1 r1 q1 => by
  obtain ⟨c, q1⟩ := q1
  have hk : φ.length ≤ s.length := Nat.le_of_eq re.len
  have hk2 : s.length ≤ φ1.length := by rw [← re.len]; exact g1.le
  cases x with
  | d y =>
    obtain ⟨g2, re2⟩ := re1.take g1 re hk hk2 c
    exact f _ _ _ _ _ _ g2 re2 (.dat r1) q1
  | l n =>
    obtain ⟨p, hp, rfl⟩ := r1
    by_cases hn : n < s.length
    · obtain ⟨g2, re2⟩ := re1.take g1 re hk hk2 c
      exact f _ _ _ _ _ _ g2 re2 (.loc (r_take hp hn)) (q1.1 hn)
    have hn : s.length ≤ n := by omega
    obtain ⟨o, hx, hs, q1⟩ := q1.2 hn
    obtain ⟨d, hd, rfl⟩ := Fi.r_inv hp
    obtain ⟨g3, re3⟩ := re1.pick g1 re hk hk2 c hn hd hx ((re1.ob n d o hd hx).sim_ hs)
    refine f _ _ _ _ _ _ g3 re3 (.loc (Fi.r_of (c := d) ?_)) q1
    rw [List.getElem?_append_right (by rw [List.length_take]; omega), List.length_take, Nat.min_eq_left hk2, Nat.sub_self]; rfl
/-- a slot of things that stay -/
def lowS (k : Nat) : Option SV → Option SV
  | some (.l n) => if n < k then some (.l n) else none
  | x => x
def endC (k : Nat) (Q : AS → ST → Prop) : AS → ST → Prop := fun δ s1 => (s1.take k).all (clO k) = true ∧ Q (δ.map (lowS k)) (s1.take k)
theorem Rsl.low {B : Hp} {φ1 : Fi} {σ : St} {δ : AS} {k : Nat} (h : Rsl K B φ1 σ δ) : Rsl K B (φ1.take k) σ (δ.map (lowS k)) := by
  refine ⟨by rw [List.length_map]; exact h.len, fun i x hx => ?_⟩
  rw [List.getElem?_map] at hx
  cases hd : δ[i]? with
  | none => rw [hd] at hx; cases hx
  | some o =>
    rw [hd] at hx
    have hx : lowS k o = some x := Option.some.inj hx
    cases o with
    | none => cases hx
    | some y =>
      obtain ⟨v, e1, e2⟩ := h.at_ i y hd
      cases y with
      | d t => cases hx; exact ⟨v, e1, e2⟩
      | l n =>
        have hx : (if n < k then some (SV.l n) else none) = some x := hx
        by_cases hn : n < k
        · rw [if_pos hn] at hx
          cases hx
          obtain ⟨p, e3, e4⟩ := e2
          exact ⟨v, e1, p, r_take e3 hn, e4⟩
        · rw [if_neg hn] at hx; cases hx
theorem Rsl.wipeA {B : Hp} {φ : Fi} {σ : St} {δ : AS} (h : Rsl K B φ σ δ) (vs : List Nat) : Rsl K B φ σ (wipeA δ vs) := by
  refine h.weak (wipeA_length δ vs) ?_
  induction vs with
  | nil => exact fun i x e => e
  | cons v vs ih =>
    intro i x e
    unfold Lv.wipeA at e
    by_cases hi : v = i
    · subst hi
      rw [List.getElem?_set] at e
      simp at e
    · rw [List.getElem?_set_ne hi] at e
      exact ih i x e
/-- and slots forgotten -/
def endW (k : Nat) (vs : List Nat) (Q : AS → ST → Prop) : AS → ST → Prop := fun δ s1 => (s1.take k).all (clO k) = true ∧ Q (wipeA (δ.map (lowS k)) vs) (s1.take k)
theorem fin_blk {Q : AS → ST → Prop} {Q' : St → Hp → Prop} (re : Re K M H B φ s) (f : FinG K M H B φ Q Q') : FinG K M H B φ (endC s.length Q) Q' := fun H1 B1 φ1 s1 σ δ g1 re1 sl ⟨c, q1⟩ => by
  obtain ⟨g2, re2⟩ := re1.take g1 re (Nat.le_of_eq re.len) (by rw [← re.len]; exact g1.le) c
  exact f _ _ _ _ _ _ g2 re2 sl.low q1
end
section
variable {K : Fr} {M : MP} {H B : Hp} {φ : Fi} {s : ST}
theorem fin_wip {vs : List Nat} {Q : AS → ST → Prop} {Q' : St → Hp → Prop} (f : FinG K M H B φ Q Q') : FinG K M H B φ (fun δ s1 => Q (wipeA δ vs) s1) Q' := fun H1 B1 φ1 s1 σ δ g1 re1 sl q1 => f _ _ _ _ _ _ g1 re1 (sl.wipeA vs) q1
end
section
variable {X : Cx} {M : MP} {st : List Stmt} {t : ATS} {e : Expr} {va : ATE}
/-- a value whose rests are forgotten -/
def aFr (t : ATE) : ATE := fun δ s Q => t δ s (ownC s.length Q)
theorem lift_fr {K : Fr} {te : TE} {t : ATE} (l : LiftE K M te t) : LiftE K M te (aFr t) := fun H B φ σ δ s Q re sl q Q' f => l H B φ σ δ s _ re sl q _ (fin_own re f)
theorem ae_fr (ha : AE X M e va) : AE X M e (aFr va) := .of ha.pe (lift_fr uE_lift)
/-- a test whose rests are forgotten -/
def aFrT (t : ATT) : ATT := fun δ s Q => t δ s fun b s1 => (s1.take s.length).all (clO s.length) = true ∧ Q b (s1.take s.length)
/-- a block of a loop: what it makes is forgotten at its end -/
def pBlk (vs : List Nat) (t : ATS) : ATS := fun A δ s => t { nx := endW s.length vs A.nx, rt := A.rt, bk := endW s.length vs A.bk, ct := endW s.length vs A.ct } δ s
theorem ap_blk (vs : List Nat) (h : APs X M st t) : APs X M st (pBlk vs t) := ⟨_, h.pss, fun H B φ σ δ s A re sl q D f => uS_lift (t := t) H B φ σ δ s _ re sl q _ ⟨fin_blk re (fin_wip f.nx), f.rt, fin_blk re (fin_wip f.bk), fin_blk re (fin_wip f.ct)⟩⟩
/-- a def's body: what it makes is forgotten but what it hands back -/
def pBody (t : ATS) : ATS := fun A δ s => t { nx := endC s.length A.nx, rt := ownC s.length A.rt } δ s
theorem ap_body (h : APs X M st t) : APs X M st (pBody t) := ⟨_, h.pss, fun H B φ σ δ s A re sl q D f => uS_lift (t := t) H B φ σ δ s _ re sl q _ ⟨fin_blk re f.nx, fin_own re f.rt, fun _ _ _ _ _ _ _ _ _ z => z.elim, fun _ _ _ _ _ _ _ _ _ z => z.elim⟩⟩
end

/-! ### defs by name -/
def BindA (fd : FuncData) (ps : List Str) : Prop := ∀ us : List Value, us.length = ps.length → bindArgs fd ⟨us, []⟩ = pure (ps.zip us)
/-- x stands in the program: its def, as written -/
structure Df (K : Fr) (mg : Str → Option Value) (x qual : Str) (st : Stmt) (ps : List Str) : Prop where
  ex : ∃ f fd, Fun K x qual st f fd ∧ mg x = some (.ref f) ∧ PySem.W.keepIn K (.ref f) = true ∧ BindA fd ps
/-- x keeps its promise -/
structure Cal (P : Program) (w : World) (K : Fr) (mg : Str → Option Value) (base : Heap) (k : Nat) (x : Str) (ps : List Str) (sp : ASp) : Prop where
  ex : ∃ f fd, FnG P w K mg base k f fd ps (toSp K sp) ∧ mg x = some (.ref f) ∧ PySem.W.keepIn K (.ref f) = true ∧ BindA fd ps
section
variable {P : Program} {w : World} {K : Fr} {mg : Str → Option Value} {base : Heap}
theorem fn_body {f : Addr} {fd : FuncData} {x qual : Str} {st : Stmt} {ps : List Str} {k : Nat} {sp : ASp} (F : Fun K x qual st f fd) {N : List Str} (S : FnScope N ps (defScope st)) (len : ∀ vs s Q, sp vs s Q → vs.length = ps.length)
    (hbody : ∀ (f : Addr) (cdv : Value) (A : Around) (outer : List Env) (s : Shared) (H : Hp) (E : XK), RoomG k (A.deeper (PyProof.Rows.envOfC qual (defScope st) s.heap.objs.size f cdv)) →
      ∃ t, APs (cxOf (L2.CX P w) P w K mg base N qual (defScope st) f cdv A outer s H E).nox M0 (defBody st) t ∧ ∀ (svs : List SV) (s0 : ST) (Q : SV → ST → Prop), sp svs s0 Q → pBody t { nx := fun _ s' => Q (.d .non) s', rt := Q } (slots N svs) s0) : FnG P w K mg base (k + 1) f fd ps (toSp K sp) :=
  fn_lv F S len fun cdv A outer s H E hr svs s0 Q h => by
    obtain ⟨t, p, q⟩ := hbody f cdv A outer s H E hr
    exact ⟨_, ap_body p, q svs s0 Q h⟩
theorem Df.cal {x qual : Str} {st : Stmt} {ps : List Str} {k : Nat} {sp : ASp} (D : Df K mg x qual st ps) {N : List Str} (S : FnScope N ps (defScope st)) (len : ∀ vs s Q, sp vs s Q → vs.length = ps.length)
    (hbody : ∀ (f : Addr) (cdv : Value) (A : Around) (outer : List Env) (s : Shared) (H : Hp) (E : XK), RoomG k (A.deeper (PyProof.Rows.envOfC qual (defScope st) s.heap.objs.size f cdv)) →
      ∃ t, APs (cxOf (L2.CX P w) P w K mg base N qual (defScope st) f cdv A outer s H E).nox M0 (defBody st) t ∧ ∀ (svs : List SV) (s0 : ST) (Q : SV → ST → Prop), sp svs s0 Q → pBody t { nx := fun _ s' => Q (.d .non) s', rt := Q } (slots N svs) s0) : Cal P w K mg base (k + 1) x ps sp := by
  obtain ⟨f, fd, F, h1, h2, h3⟩ := D.ex
  exact ⟨f, fd, fn_body F S len hbody, h1, h2, h3⟩
theorem Cal.imp {k : Nat} {x : Str} {ps : List Str} {sp sp' : ASp} (C : Cal P w K mg base k x ps sp) (h : ∀ vs s Q, sp' vs s Q → sp vs s Q) : Cal P w K mg base k x ps sp' := by
  obtain ⟨f, fd, F, h1, h2, h3⟩ := C.ex
  exact ⟨f, fd, F.imp (toSp_imp h), h1, h2, h3⟩
end
section
variable {X : Cx} {M : MP} {e : Expr} {es : List Expr} {pos p : Pos}
theorem ae_cal {k : Nat} {ps : List Str} {sp : ASp} {x : Str} {t : ATA} (C : Cal X.prog X.w X.K X.mg X.base k x ps sp) (hr : RoomG k X.A) (ha : AA X M (e :: es) t)
    (hg : Gl X x := by rfl) (hdb : (x == ("__debug__" : Str)) = false := by decide) (he : starEach (e :: es) X.env = (false, eval e X.env) :: starEach es X.env := by rfl) (hpl : (backTo pos (starEach es X.env)).any (·.1) = false := by rfl) :
    AE X M (.Call (.Name x p) (e :: es) [] pos) (aFn sp t) := by
  obtain ⟨f, fd, F, h1, h2, h3⟩ := C.ex
  exact ae_fn F hr h1 h2 (.all h3) ha hg hdb he hpl
end
/-- what the top has written of a def -/
structure Wr (K : Fr) (x qual : Str) (st : Stmt) : Prop where
  ex : ∃ (f : Addr) (od an : Option Addr) (oc kV dc pm cd ct : Value) (sl : Array (Option Value)), PySem.W.nsIn K mainGlobals x = some (some (.ref f)) ∧
    K.lookup f = some ⟨oc, od, .func (PySem.W.fnOf x qual (defArgs st) (defBody st) (defScope st) .none kV dc pm an cd ct), sl⟩ ∧ PySem.W.codeIn K cd qual = true ∧ PySem.W.keepIn K (.ref f) = true
theorem Wr.df {K : Fr} {h : Heap} {mg : Str → Option Value} {x qual : Str} {st : Stmt} {ps : List Str} (W : Wr K x qual st) (X : K.In h) (G : h.Ns mainGlobals mg)
    (hb : ∀ (kV doc pm : Value) (an : Option Addr) (cdv ct : Value) (us : List Value), us.length = ps.length → bindArgs (PySem.W.fnOf x qual (defArgs st) (defBody st) (defScope st) .none kV doc pm an cdv ct) ⟨us, []⟩ = pure (ps.zip us)) : Df K mg x qual st ps := by
  obtain ⟨f, od, an, oc, kV, dc, pm, cd, ct, sl, h1, h2, h3, h4⟩ := W.ex
  have F := fun_mk (st := st) h2 h3 h4
  exact ⟨f, _, F, PySem.W.mg_of X G h1, h4, fun us hl => hb _ _ _ _ _ _ us hl⟩
theorem law_end {l : PySem.W.OpenLaw} {q : Program} {loose : List Str} {XP : (Str → Option Value) → Heap → Prop} {YP : World → Heap → Prop} {d : DefRec} {K : Params → Fr} {k : Nat} {x : Str} (hn : l.most = some 63) (hdf : d.params.defaults = []) (hr : Room k callerA)
    (hY : ∀ (w : World) (h : Heap), YP w h → (K w.params).In h)
    (F : ∀ (w : World) (mg : Str → Option Value) (h : Heap), (K w.params).In h → h.Ns mainGlobals mg → ∃ (f : Addr) (fd : FuncData), mg d.name = some (.ref f) ∧ BindA fd [x] ∧ ∀ base : Heap, (K w.params).In base → base.Ns mainGlobals mg → FnG l.prog w (K w.params) mg base k f fd [x] (toSp (K w.params) spLawA)) :
    PySem.W.WalkO q loose XP YP l.row.toRowW d [] (fun f vs => PySem.call f vs) := by
  refine walk_G (n := 63) (k := k) (x := x) (K := K) (sp := fun w => toSp (K w.params) spLawA) hn (by decide) hdf hr hY (fun w mg fa h X G hfa => ?_) fun w H a ns hl _ hS => law_start hS hl
  obtain ⟨f, fd, e, b, C⟩ := F w mg h X G
  have e := hfa.symm.trans e
  cases e
  exact ⟨fd, fun s u => .of_eq (b [u] rfl), C⟩
end Lv

/-! Lv11: readings of loops by an invariant over a state of one's own. -/
namespace Lv
open PySem L2 LvI
/-- what follows, shut to simp -/
structure Lk {α : Type} (a : α) : Type where
  mk ::
/-- a call, as it stands: only its places are looked at by simp -/
def callK (sp : ASp) (Q : SV → ST → Prop) (_ : Lk Q) (xs : List SV) (s1 : ST) : Prop :=
  ((argL xs).all fun n => match s1[n]? with | some o => simO o | none => false) = true ∧
    sp (xs.map (toC (argL xs))) ((argL xs).map fun n => (s1[n]?).getD .gone) fun r s2 => Q (ren (argL xs) s1.length r) (putAll s1 (argL xs) (s2.map (renO (argL xs) s1.length)) ++ (s2.drop (argL xs).length).map (renO (argL xs) s1.length))
theorem aFn_eq (sp : ASp) (t : ATA) (δ : AS) (s : ST) (Q : SV → ST → Prop) : aFn sp t δ s Q = t δ s fun xs s1 => callK sp Q .mk xs s1 := rfl
theorem callK_of {sp : ASp} {xs : List SV} {s : ST} {Q : SV → ST → Prop} {l : Lk Q} {ns : List Nat} (e : argL xs = ns) (h1 : (ns.all fun n => match s[n]? with | some o => simO o | none => false) = true)
    (h2 : sp (xs.map (toC ns)) (ns.map fun n => (s[n]?).getD .gone) fun r s2 => Q (ren ns s.length r) (putAll s ns (s2.map (renO ns s.length)) ++ (s2.drop ns.length).map (renO ns s.length))) : callK sp Q l xs s := by
  subst e; exact ⟨h1, h2⟩
def forK (ti : ATI) (g : ATG) (tb : ATS) (A : AEnds) (_ : Lk (ti, g, tb, A)) (δ : AS) (s : ST) : Prop := pFor ti g tb A δ s
theorem pFor_eq (ti : ATI) (g : ATG) (tb : ATS) (A : AEnds) (δ : AS) (s : ST) : pFor ti g tb A δ s = forK ti g tb A .mk δ s := rfl
def whileK (tc : ATT) (tb : ATS) (A : AEnds) (_ : Lk (tc, tb, A)) (δ : AS) (s : ST) : Prop := pWhile tc tb A δ s
theorem pWhile_eq (tc : ATT) (tb : ATS) (A : AEnds) (δ : AS) (s : ST) : pWhile tc tb A δ s = whileK tc tb A .mk δ s := rfl
def lcK (ti : ATI) (g : ATG) (tt : ATT) (te : ATE) (Q : List T → ST → Prop) (_ : Lk (ti, g, tt, te, Q)) (vs : List Nat) (δ : AS) (s : ST) : Prop := aLcI ti g tt te vs δ s Q
theorem aLcI_eq (ti : ATI) (g : ATG) (tt : ATT) (te : ATE) (Q : List T → ST → Prop) (vs : List Nat) (δ : AS) (s : ST) : aLcI ti g tt te vs δ s Q = lcK ti g tt te Q .mk vs δ s := rfl
theorem pFor_of {ti : ATI} {g : ATG} {tb : ATS} {A : AEnds} {l : Lk (ti, g, tb, A)} {δ : AS} {s : ST} {Z : Type} (items : List T) (inv : Nat → Z → Prop) (dl : Z → AS) (so : Z → ST)
    (h1 : ∀ Q' : List T → (ST → Prop) → ST → Prop, (∀ grd : ST → Prop, (∀ i z, inv i z → grd (so z)) → Q' items grd s) → ti δ s Q') (h0 : ∃ z, inv 0 z ∧ δ = dl z ∧ s = so z)
    (hs : ∀ i x z, items[i]? = some x → inv i z → ∀ C : AS → ST → Prop, (∀ z', inv (i + 1) z' → C (dl z') (so z')) → ∀ (B : AS → ST → Prop) (R : SV → ST → Prop), (∀ δ s, A.nx δ s → B δ s) → (∀ x s, A.rt x s → R x s) → g (.d x) (dl z) (so z) fun δ2 s2 => tb { nx := C, rt := R, bk := B, ct := C } δ2 s2)
    (hd : ∀ z, inv items.length z → A.nx (dl z) (so z)) : forK ti g tb A l δ s := by
  unfold forK pFor
  refine h1 _ fun grd hg => ⟨fun i δ' s' => ∃ z, inv i z ∧ δ' = dl z ∧ s' = so z, h0, ?_, ?_, ?_⟩
  · rintro i δ' s' ⟨z, hz, rfl, rfl⟩; exact hg i z hz
  · rintro i x δ' s' hx ⟨z, hz, rfl, rfl⟩
    exact hs i x z hx hz _ (fun z' hz' => ⟨z', hz', rfl, rfl⟩) A.nx A.rt (fun _ _ h => h) fun _ _ h => h
  · rintro δ' s' ⟨z, hz, rfl, rfl⟩; exact hd z hz
theorem pWhile_of {tc : ATT} {tb : ATS} {A : AEnds} {l : Lk (tc, tb, A)} {δ : AS} {s : ST} {Z : Type} (inv : Nat → Z → Prop) (dl : Z → AS) (so : Z → ST) (h0 : ∃ m z, inv m z ∧ δ = dl z ∧ s = so z)
    (hs : ∀ m z, inv m z → ∀ C : AS → ST → Prop, (∀ m' z', m' < m → inv m' z' → C (dl z') (so z')) → ∀ (B : AS → ST → Prop) (R : SV → ST → Prop), (∀ δ s, A.nx δ s → B δ s) → (∀ x s, A.rt x s → R x s) → tc (dl z) (so z) fun b s1 => (b = true → tb { nx := C, rt := R, bk := B, ct := C } (dl z) s1) ∧ (b = false → B (dl z) s1)) : whileK tc tb A l δ s := by
  unfold whileK pWhile
  obtain ⟨m, z, hz, e1, e2⟩ := h0
  refine ⟨fun i δ' s' => ∃ z, inv i z ∧ δ' = dl z ∧ s' = so z, ⟨m, z, hz, e1, e2⟩, ?_⟩
  rintro i δ' s' ⟨z, hz, rfl, rfl⟩
  exact hs i z hz _ (fun m' z' hm hz' => ⟨m', hm, z', hz', rfl, rfl⟩) A.nx A.rt (fun _ _ h => h) fun _ _ h => h
theorem lcI_of {ti : ATI} {g : ATG} {tt : ATT} {te : ATE} {vs : List Nat} {δ : AS} {s : ST} {Q : List T → ST → Prop} {l : Lk (ti, g, tt, te, Q)} {Z : Type} (items : List T) (inv : Nat → List T → Z → Prop) (so : Z → ST)
    (h1 : ∀ Q' : List T → (ST → Prop) → ST → Prop, (∀ grd : ST → Prop, (∀ i acc z, inv i acc z → grd (so z)) → Q' items grd s) → ti δ s Q') (h0 : ∃ z, inv 0 [] z ∧ s = so z)
    (hs : ∀ i x acc z, items[i]? = some x → inv i acc z → ∀ C : List T → ST → Prop, (∀ acc' z', inv (i + 1) acc' z' → C acc' (so z')) → g (.d x) (wipeA δ vs) (so z) fun δ2 s2 => tt δ2 s2 fun b s3 => (b = true → te δ2 s3 fun y s4 => ∃ t, y = .d t ∧ acc.length < sizeLine ∧ C (acc ++ [t]) s4) ∧ (b = false → C acc s3))
    (hd : ∀ acc z, inv items.length acc z → Q acc (so z)) : lcK ti g tt te Q l vs δ s := by
  unfold lcK aLcI
  refine h1 _ fun grd hg => ⟨fun i acc s' => ∃ z, inv i acc z ∧ s' = so z, h0, ?_, ?_, ?_⟩
  · rintro i acc s' ⟨z, hz, rfl⟩; exact hg i acc z hz
  · rintro i x acc s' hx ⟨z, hz, rfl⟩
    exact hs i x acc z hx hz (fun acc' s' => ∃ z, inv (i + 1) acc' z ∧ s' = so z) fun acc' z' hz' => ⟨z', hz', rfl⟩
  · rintro acc s' ⟨z, hz, rfl⟩; exact hd acc z hz
/-- a comprehension that changes nothing -/
theorem lcI_pure {ti : ATI} {g : ATG} {tt : ATT} {te : ATE} {vs : List Nat} {δ : AS} {s : ST} {Q : List T → ST → Prop} {l : Lk (ti, g, tt, te, Q)} (items : List T) (fB : T → Bool) (fE : T → T) (hsz : items.length < sizeLine)
    (h1 : ∀ Q' : List T → (ST → Prop) → ST → Prop, (∀ grd : ST → Prop, grd s → Q' items grd s) → ti δ s Q')
    (hs : ∀ (i : Nat) x, items[i]? = some x → ∀ (acc : List T) (C : List T → ST → Prop), acc.length < sizeLine → (fB x = true → C (acc ++ [fE x]) s) → (fB x = false → C acc s) → g (.d x) (wipeA δ vs) s fun δ2 s2 => tt δ2 s2 fun b s3 => (b = true → te δ2 s3 fun y s4 => ∃ t, y = .d t ∧ acc.length < sizeLine ∧ C (acc ++ [t]) s4) ∧ (b = false → C acc s3))
    (hd : Q ((items.filter fB).map fE) s) : lcK ti g tt te Q l vs δ s := by
  have hlen : ∀ i, i ≤ items.length → (((items.take i).filter fB).map fE).length < sizeLine := fun i hi => by
    rw [List.length_map]
    refine Nat.lt_of_le_of_lt (List.length_filter_le _ _) ?_
    rw [List.length_take]; omega
  refine lcI_of items (fun i acc (_ : Unit) => acc = ((items.take i).filter fB).map fE) (fun _ => s) (fun Q' h => h1 Q' fun grd hg => h grd fun _ _ _ _ => hg) ⟨(), by simp, rfl⟩ ?_ ?_
  · rintro i x acc ⟨⟩ hx rfl C hC
    have hi := (List.getElem?_eq_some_iff.mp hx).1
    have e : ((items.take (i + 1)).filter fB).map fE = ((items.take i).filter fB).map fE ++ (if fB x then [fE x] else []) := by
      rw [List.take_succ, hx, List.filter_append, List.map_append]
      cases hb : fB x <;> simp [hb]
    refine hs i x hx _ C (hlen i (by omega)) (fun hb => hC _ () ?_) (fun hb => hC _ () ?_)
    · rw [e, hb]; rfl
    · rw [e, hb]; simp
  · rintro acc ⟨⟩ rfl
    rw [List.take_length]; exact hd
/-- a def that is never called -/
theorem Df.none {P : Program} {w : World} {K : Fr} {mg : Str → Option Value} {base : Heap} {x qual : Str} {st : Stmt} {ps : List Str} {k : Nat} {sp : ASp} (D : Df K mg x qual st ps) (h : ∀ vs s Q, ¬ sp vs s Q) : Cal P w K mg base k x ps sp := by
  obtain ⟨f, fd, F, h1, h2, h3⟩ := D.ex
  refine ⟨f, fd, ⟨fun vs H Q E q => ?_, fun A outer s H args us vs Q E _ _ _ _ q => ?_⟩, h1, h2, h3⟩
  · obtain ⟨_, _, _, _, _, _, _, q, _⟩ := q; exact absurd q (h _ _ _)
  · obtain ⟨_, _, _, _, _, _, _, q, _⟩ := q; exact absurd q (h _ _ _)
end Lv

/-! Lv12: data compared. -/
namespace Lv
open PySem L2 LvI
section
variable (u : ATGs) (a b c d : T) (δ : AS) (s : ST) (Q : AS → ST → Prop)
theorem aTupG_2 : aTupG 2 u (.d (.tup [a, b])) δ s Q = u [.d a, .d b] δ s Q := propext ⟨fun h => h.2, fun h => ⟨rfl, h⟩⟩
theorem aTupG_2l : aTupG 2 u (.d (.lst [a, b])) δ s Q = u [.d a, .d b] δ s Q := propext ⟨fun h => h.2, fun h => ⟨rfl, h⟩⟩
theorem aTupG_3 : aTupG 3 u (.d (.tup [a, b, c])) δ s Q = u [.d a, .d b, .d c] δ s Q := propext ⟨fun h => h.2, fun h => ⟨rfl, h⟩⟩
theorem aTupG_3l : aTupG 3 u (.d (.lst [a, b, c])) δ s Q = u [.d a, .d b, .d c] δ s Q := propext ⟨fun h => h.2, fun h => ⟨rfl, h⟩⟩
theorem aTupG_4 : aTupG 4 u (.d (.tup [a, b, c, d])) δ s Q = u [.d a, .d b, .d c, .d d] δ s Q := propext ⟨fun h => h.2, fun h => ⟨rfl, h⟩⟩
theorem agCons_c (t : ATG) (x : SV) (r : List SV) : agCons t u (x :: r) δ s Q = t x δ s fun δ' s' => u r δ' s' Q := rfl
theorem aTupG_l (n k : Nat) : aTupG n u (.l k) δ s Q = (match s[k]? with
    | some (.tp xs) => xs.length = n ∧ u xs δ s Q
    | some (.lst ts) => ts.length = n ∧ u (ts.map SV.d) δ s Q
    | _ => False) := rfl
end
mutual
/-- plain data, at most n deep -/
def T.ok : Nat → T → Bool
  | _, .non => true
  | _, .bl _ => true
  | _, .int _ => true
  | _, .str x => PyData.strOk x
  | n + 1, .lst xs => T.oks n xs
  | n + 1, .tup xs => T.oks n xs
  | _, _ => false
def T.oks : Nat → List T → Bool
  | _, [] => true
  | n, x :: r => T.ok n x && T.oks n r
end
theorem oks_all : ∀ (n : Nat) (xs : List T), T.oks n xs = xs.all (T.ok n)
  | n, [] => by unfold T.oks; rfl
  | n, x :: r => by unfold T.oks; rw [oks_all n r, List.all_cons]
mutual
theorem ok_py : ∀ (n : Nat) (t : T), T.ok n t = true → t.py.canLay0 = true ∧ t.py.depth ≤ n
  | n, .non, _ => by unfold T.py; exact ⟨rfl, Nat.zero_le _⟩
  | n, .bl _, _ => by unfold T.py; exact ⟨rfl, Nat.zero_le _⟩
  | n, .int _, _ => by unfold T.py; exact ⟨rfl, Nat.zero_le _⟩
  | n, .str x, h => by
    unfold T.ok at h; unfold T.py
    exact ⟨by unfold PyData.canLay0; exact h, Nat.zero_le _⟩
  | n + 1, .lst xs, h => by
    unfold T.ok at h; unfold T.py PyData.canLay0 PyData.depth
    obtain ⟨a, b⟩ := oks_py n xs h
    exact ⟨a, by omega⟩
  | n + 1, .tup xs, h => by
    unfold T.ok at h; unfold T.py PyData.canLay0 PyData.depth
    obtain ⟨a, b⟩ := oks_py n xs h
    exact ⟨a, by omega⟩
  | 0, .lst _, h => by unfold T.ok at h; cases h
  | 0, .tup _, h => by unfold T.ok at h; cases h
  | n, .scr _, h => by unfold T.ok at h; cases h
  | n, .ref _, h => by unfold T.ok at h; cases h
  | n, .ty _, h => by unfold T.ok at h; cases h
theorem oks_py : ∀ (n : Nat) (xs : List T), T.oks n xs = true → PyData.canLayAll0 (T.pys xs) = true ∧ PyData.depthAll (T.pys xs) ≤ n
  | n, [], _ => by unfold T.pys; exact ⟨rfl, Nat.zero_le _⟩
  | n, x :: r, h => by
    unfold T.oks at h
    rw [Bool.and_eq_true] at h
    obtain ⟨a, b⟩ := ok_py n x h.1
    obtain ⟨c, d⟩ := oks_py n r h.2
    unfold T.pys PyData.canLayAll0 PyData.depthAll
    exact ⟨by rw [a, c]; rfl, by omega⟩
end
theorem shaped_ok {n : Nat} {t : T} (h : T.ok n t = true) (hn : n ≤ 64 := by decide) : SeqAt.shaped t.py = true := by
  obtain ⟨a, b⟩ := ok_py n t h
  unfold SeqAt.shaped
  rw [a]
  exact decide_eq_true (by omega)
theorem eqv_self {n : Nat} {t : T} (h : T.ok n t = true) : PyData.eqv t.py t.py = true := SeqAt.eqv_refl _ (ok_py n t h).1
mutual
/-- no truths within: then == is = -/
def T.nb : T → Bool
  | .non => true
  | .int _ => true
  | .str _ => true
  | .lst xs => T.nbs xs
  | .tup xs => T.nbs xs
  | _ => false
def T.nbs : List T → Bool
  | [] => true
  | x :: r => T.nb x && T.nbs r
end
theorem pyV_d (s : ST) (t : T) : pyV s (.d t) = some t.py := rfl
theorem pyV_l (s : ST) (n : Nat) : pyV s (.l n) = match s[n]? with
    | some (.lst xs) => some (T.lst xs).py
    | some (.tp xs) => (optT (datF 4 s) xs).map fun ts => (T.tup ts).py
    | some (.ll xs) => (optT (datF 4 s) xs).map fun ts => (T.lst ts).py
    | _ => none := by
  show Option.map T.py (match s[n]? with
    | some (.lst xs) => some (T.lst xs)
    | some (.tp xs) => (optT (datF 4 s) xs).map T.tup
    | some (.ll xs) => (optT (datF 4 s) xs).map T.lst
    | _ => none) = _
  cases s[n]? with
  | none => rfl
  | some o => cases o <;> first | rfl | (dsimp only; rw [Option.map_map]; rfl)
theorem oks_ints (n : Nat) (xs : List Int) : T.oks n (xs.map T.int) = true := by
  rw [oks_all, List.all_map]; exact List.all_eq_true.mpr fun x _ => by show T.ok n (.int x) = true; cases n <;> (unfold T.ok; rfl)
theorem ok_ints (n : Nat) (xs : List Int) : T.ok (n + 1) (.lst (xs.map T.int)) = true := by unfold T.ok; exact oks_ints n xs
def tysB : List T → Option (List String)
  | [] => some []
  | .ty b :: r => (tysB r).map (b :: ·)
  | _ => none
theorem tysB_some : ∀ {ts : List T} {bs : List String}, tysB ts = some bs → ts = bs.map T.ty
  | [], bs, h => by cases h; rfl
  | t :: r, bs, h => by
    cases t with
    | ty b =>
      unfold tysB at h
      cases hr : tysB r with
      | none => rw [hr] at h; cases h
      | some cs =>
        rw [hr] at h
        cases h
        rw [tysB_some hr]; rfl
    | _ => unfold tysB at h; cases h
theorem tysB_map : ∀ bs : List String, tysB (bs.map T.ty) = some bs
  | [] => rfl
  | b :: bs => by show (tysB (bs.map T.ty)).map (b :: ·) = _; rw [tysB_map bs]; rfl
/-- isinstance, reckoned out -/
def isiH : ARC := fun xs s Q => match xs with
  | [x, .d (.ty b)] => (match (tyN s x).bind fun a => kitB a b with
    | some r => Q (.d (.bl r)) s
    | none => False)
  | [x, .d (.tup ts)] => (match (tyN s x).bind fun a => (tysB ts).bind fun bs => kitsB a bs with
    | some r => Q (.d (.bl r)) s
    | none => False)
  | _ => False
theorem isiG_eq (xs : List SV) (s : ST) (Q : SV → ST → Prop) : isiG xs s Q = isiH xs s Q := by
  unfold isiG isiH
  split
  · rename_i x b
    (try dsimp only); apply propext
    constructor
    · rintro ⟨a, r, h1, h2, q⟩
      rw [h1]; show match kitB a b with | some r => _ | none => False
      rw [h2]; exact q
    · intro h
      cases h1 : tyN s x with
      | none => rw [h1] at h; exact h.elim
      | some a =>
        rw [h1] at h
        have h : (match kitB a b with | some r => Q (.d (.bl r)) s | none => False) := h
        cases h2 : kitB a b with
        | none => rw [h2] at h; exact h.elim
        | some r => rw [h2] at h; exact ⟨a, r, rfl, h2, h⟩
  · rename_i x ts
    (try dsimp only); apply propext
    constructor
    · rintro ⟨a, bs, r, h1, rfl, h2, q⟩
      rw [h1, tysB_map]; show match kitsB a bs with | some r => _ | none => False
      rw [h2]; exact q
    · intro h
      cases h1 : tyN s x with
      | none => rw [h1] at h; exact h.elim
      | some a =>
        rw [h1] at h
        cases h3 : tysB ts with
        | none => rw [h3] at h; exact h.elim
        | some bs =>
          rw [h3] at h
          have h : (match kitsB a bs with | some r => Q (.d (.bl r)) s | none => False) := h
          cases h2 : kitsB a bs with
          | none => rw [h2] at h; exact h.elim
          | some r => rw [h2] at h; exact ⟨a, bs, r, rfl, tysB_some h3, h2, h⟩
  · rename_i h1 h2
    first
    | rfl
    | (split
       · exact (h1 _ _ rfl).elim
       · exact (h2 _ _ rfl).elim
       · rfl)
mutual
/-- no long lists within -/
def T.sz : T → Bool
  | .lst xs => decide (xs.length ≤ 100000) && T.szs xs
  | .tup xs => decide (xs.length ≤ 100000) && T.szs xs
  | _ => true
def T.szs : List T → Bool
  | [] => true
  | x :: r => T.sz x && T.szs r
end
theorem szs_all : ∀ (xs : List T), T.szs xs = xs.all T.sz
  | [] => by unfold T.szs; rfl
  | x :: r => by unfold T.szs; rw [szs_all r, List.all_cons]
theorem sz_lst {xs : List T} (h : (T.lst xs).sz = true) : xs.length < sizeLine ∧ xs.all T.sz = true := by
  unfold T.sz at h
  rw [Bool.and_eq_true, decide_eq_true_eq, szs_all] at h
  exact ⟨Nat.lt_of_le_of_lt h.1 (by decide), h.2⟩
theorem sz_tup {xs : List T} (h : (T.tup xs).sz = true) : xs.length < sizeLine ∧ xs.all T.sz = true := by
  unfold T.sz at h
  rw [Bool.and_eq_true, decide_eq_true_eq, szs_all] at h
  exact ⟨Nat.lt_of_le_of_lt h.1 (by decide), h.2⟩
theorem sz_lstI {xs : List T} (h : xs.length ≤ 100000) (h2 : ∀ x ∈ xs, T.sz x = true) : (T.lst xs).sz = true := by
  unfold T.sz
  rw [Bool.and_eq_true, decide_eq_true_eq, szs_all]
  exact ⟨h, List.all_eq_true.mpr h2⟩
theorem sz_tupI {xs : List T} (h : xs.length ≤ 100000) (h2 : ∀ x ∈ xs, T.sz x = true) : (T.tup xs).sz = true := by
  unfold T.sz
  rw [Bool.and_eq_true, decide_eq_true_eq, szs_all]
  exact ⟨h, List.all_eq_true.mpr h2⟩
theorem ok_lst {n : Nat} {xs : List T} (h : T.ok n (.lst xs) = true) : ∃ m, n = m + 1 ∧ xs.all (T.ok m) = true := by
  cases n with
  | zero => unfold T.ok at h; cases h
  | succ m => unfold T.ok at h; exact ⟨m, rfl, by rw [← oks_all]; exact h⟩
theorem ok_tup {n : Nat} {xs : List T} (h : T.ok n (.tup xs) = true) : ∃ m, n = m + 1 ∧ xs.all (T.ok m) = true := by
  cases n with
  | zero => unfold T.ok at h; cases h
  | succ m => unfold T.ok at h; exact ⟨m, rfl, by rw [← oks_all]; exact h⟩
theorem ok_lstI {n : Nat} {xs : List T} (h : ∀ x ∈ xs, T.ok n x = true) : T.ok (n + 1) (.lst xs) = true := by
  unfold T.ok; rw [oks_all]; exact List.all_eq_true.mpr h
theorem ok_tupI {n : Nat} {xs : List T} (h : ∀ x ∈ xs, T.ok n x = true) : T.ok (n + 1) (.tup xs) = true := by
  unfold T.ok; rw [oks_all]; exact List.all_eq_true.mpr h
theorem sz_tab : 1 ≤ sizeLine ∧ 2 ≤ sizeLine ∧ 3 ≤ sizeLine ∧ 4 ≤ sizeLine ∧ 5 ≤ sizeLine ∧ 6 ≤ sizeLine ∧ 7 ≤ sizeLine ∧ 8 ≤ sizeLine ∧ 9 ≤ sizeLine ∧ 10 ≤ sizeLine ∧ 11 ≤ sizeLine ∧ 12 ≤ sizeLine := by decide
theorem zpT_self {ts : List T} {i : Nat} {x : T} (h : (zpT ts ts)[i]? = some x) : ∃ t ∈ ts, x = .tup [t, t] := by
  have hi := (List.getElem?_eq_some_iff.mp h).1
  rw [zpT_len, Nat.min_self] at hi
  have e : ts[i]? = some ts[i] := List.getElem?_eq_getElem hi
  rw [zpT_get e e] at h
  exact ⟨ts[i], List.getElem_mem hi, (Option.some.inj h).symm⟩
def wkH (s : ST) (x : SV) (Q : List T → Option Nat → Prop) : Prop := match wkV s x with
  | some (ts, g) => Q ts g
  | none => False
theorem wkH_of (s : ST) (x : SV) (Q : List T → Option Nat → Prop) : (∃ ts g, wkV s x = some (ts, g) ∧ Q ts g) = wkH s x Q := by
  unfold wkH
  apply propext
  cases wkV s x with
  | none => exact ⟨fun ⟨_, _, h, _⟩ => (by cases h), fun (h : False) => h.elim⟩
  | some p => exact ⟨fun ⟨_, _, h, q⟩ => (by cases h; exact q), fun q => ⟨_, _, rfl, q⟩⟩
theorem aSeq_eq (t : ATE) (δ : AS) (s : ST) (Q : List T → (ST → Prop) → ST → Prop) : aSeq t δ s Q = t δ s fun x s1 => wkH s1 x fun ts g => Q ts (grd ts g) s1 := by
  unfold aSeq
  congr 1; funext x s1; exact wkH_of ..
theorem aEnm_eq (t : ATE) (δ : AS) (s : ST) (Q : List T → (ST → Prop) → ST → Prop) : aEnm t δ s Q = t δ s fun x s1 => wkH s1 x fun ts g => Q (enT ts) (grd ts g) s1 := by
  unfold aEnm
  congr 1; funext x s1; exact wkH_of ..
theorem aZip_eq (t u : ATE) (δ : AS) (s : ST) (Q : List T → (ST → Prop) → ST → Prop) : aZip t u δ s Q = t δ s fun x s1 => u δ s1 fun y s2 => wkH s2 x fun ts g => wkH s2 y fun us g' => Q (zpT ts us) (fun s => grd ts g s ∧ grd us g' s) s2 := by
  unfold aZip
  congr 1; funext x s1; congr 1; funext y s2
  rw [← wkH_of]
  apply propext
  constructor
  · rintro ⟨ts, g, us, g', h1, h2, q⟩
    exact ⟨ts, g, h1, by rw [← wkH_of]; exact ⟨us, g', h2, q⟩⟩
  · rintro ⟨ts, g, h1, h⟩
    rw [← wkH_of] at h
    obtain ⟨us, g', h2, q⟩ := h
    exact ⟨ts, g, us, g', h1, h2, q⟩
theorem ixN_nat {n k : Nat} (h : k < n) : ixN n (k : Int) = some k := by
  unfold ixN
  rw [if_pos (Int.natCast_nonneg k), if_pos (by omega)]; rfl
theorem atI_at {α : Type} {xs : List α} {k : Nat} {x : α} (h : xs[k]? = some x) : atI xs (k : Int) = some x := by
  unfold atI; rw [ixN_nat (List.getElem?_eq_some_iff.mp h).1]; exact h
theorem atI_0 {α : Type} (a : α) (r : List α) : atI (a :: r) 0 = some a := atI_at (k := 0) rfl
theorem atI_1 {α : Type} (a b : α) (r : List α) : atI (a :: b :: r) 1 = some b := atI_at (k := 1) rfl
theorem atI_2 {α : Type} (a b c : α) (r : List α) : atI (a :: b :: c :: r) 2 = some c := atI_at (k := 2) rfl
theorem atI_3 {α : Type} (a b c d : α) (r : List α) : atI (a :: b :: c :: d :: r) 3 = some d := atI_at (k := 3) rfl
theorem atI_m1 {α : Type} (xs : List α) (a : α) : atI (xs ++ [a]) (-1) = some a := by
  unfold atI ixN
  rw [if_neg (by decide), if_pos (by rw [List.length_append, List.length_singleton]; omega)]
  show (xs ++ [a])[_]? = _
  rw [show (-1 + ((xs ++ [a]).length : Int)).toNat = xs.length by rw [List.length_append, List.length_singleton]; omega, List.getElem?_append_right (Nat.le_refl _), Nat.sub_self]; rfl
theorem ixN_tab : ixN 1 0 = some 0 ∧ ixN 2 0 = some 0 ∧ ixN 2 1 = some 1 ∧ ixN 3 0 = some 0 ∧ ixN 3 1 = some 1 ∧ ixN 3 2 = some 2 ∧ ixN 4 0 = some 0 ∧ ixN 4 1 = some 1 ∧ ixN 4 2 = some 2 ∧ ixN 4 3 = some 3 ∧ ixN 5 0 = some 0 ∧ ixN 5 1 = some 1 ∧ ixN 5 2 = some 2 ∧ ixN 5 3 = some 3 ∧ ixN 5 4 = some 4 ∧ ixN 6 0 = some 0 ∧ ixN 6 1 = some 1 ∧ ixN 6 2 = some 2 ∧ ixN 6 3 = some 3 ∧ ixN 6 4 = some 4 ∧ ixN 6 5 = some 5 := by decide
theorem eqF_int (a b : Int) : eqF (.int a) (.int b) = decide (a = b) := rfl
/-- index of a number that is there -/
theorem idx_int : ∀ {l : List Int} {m : Int}, m ∈ l → l[l.idxOf m]? = some m ∧ ∀ (k : Nat) z, k < l.idxOf m → l[k]? = some z → z ≠ m
  | a :: r, m, h => by
    by_cases e : a = m
    · subst e
      rw [List.idxOf_cons_self]
      exact ⟨rfl, fun k z hk => absurd hk (Nat.not_lt_zero _)⟩
    · have hm : m ∈ r := by
        rcases List.mem_cons.mp h with h | h
        · exact absurd h.symm e
        · exact h
      obtain ⟨h1, h2⟩ := idx_int hm
      have e' : (a :: r).idxOf m = r.idxOf m + 1 := by rw [List.idxOf_cons, show (a == m) = false from by simpa using e]; rfl
      rw [e']
      refine ⟨by simpa using h1, fun k z hk hz => ?_⟩
      cases k with
      | zero => rw [← Option.some.inj hz]; exact e
      | succ k => exact h2 k z (by omega) hz
theorem idx_ok {l : List Int} {m : Int} (h : m ∈ l) : (l.map T.int)[l.idxOf m]? = some (.int m) ∧ eqF (.int m) (.int m) = true ∧ ∀ (k : Nat) z, k < l.idxOf m → (l.map T.int)[k]? = some z → eqF z (.int m) = false := by
  obtain ⟨h1, h2⟩ := idx_int h
  refine ⟨by rw [List.getElem?_map, h1]; rfl, by rw [eqF_int]; exact decide_eq_true rfl, fun k z hk hz => ?_⟩
  rw [List.getElem?_map] at hz
  cases hq : l[k]? with
  | none => rw [hq] at hz; cases hz
  | some y =>
    rw [hq] at hz
    cases hz
    rw [eqF_int]; exact decide_eq_false (h2 k y hk hq)
theorem flat_ints (l : List Int) : ∀ x ∈ l.map T.int, x.flat = true := fun x hx => by
  obtain ⟨i, _, rfl⟩ := List.mem_map.mp hx
  rfl
theorem Wr.of {K : Fr} {x qual : Str} {st : Stmt} {f : Addr} {od an : Option Addr} {oc kV dc pm cd ct : Value} {sl : Array (Option Value)} (h1 : PySem.W.nsIn K mainGlobals x = some (some (.ref f)))
    (h2 : K.lookup f = some ⟨oc, od, .func (PySem.W.fnOf x qual (defArgs st) (defBody st) (defScope st) .none kV dc pm an cd ct), sl⟩) (h3 : PySem.W.codeIn K cd qual = true) (h4 : PySem.W.keepIn K (.ref f) = true) : Wr K x qual st := ⟨f, od, an, oc, kV, dc, pm, cd, ct, sl, h1, h2, h3, h4⟩
theorem clO_lst (k : Nat) (ts : List T) : clO k (.lst ts) = true := rfl
theorem clO_gone (k : Nat) : clO k .gone = true := rfl
theorem clO_dK (k : Nat) (ts : List (Key × T)) : clO k (.dK ts) = true := rfl
theorem clO_dT (k : Nat) (ts : List (List Key × T)) : clO k (.dT ts) = true := rfl
theorem kit_tab : kitB "NoneType" "bool" = some false ∧ kitB "NoneType" "int" = some false ∧ kitB "NoneType" "str" = some false ∧ kitB "NoneType" "list" = some false ∧ kitB "NoneType" "tuple" = some false ∧ kitB "NoneType" "dict" = some false ∧ kitB "bool" "bool" = some true ∧ kitB "bool" "int" = some true ∧ kitB "bool" "str" = some false ∧ kitB "bool" "list" = some false ∧ kitB "bool" "tuple" = some false ∧ kitB "bool" "dict" = some false ∧ kitB "int" "bool" = some false ∧ kitB "int" "int" = some true ∧ kitB "int" "str" = some false ∧ kitB "int" "list" = some false ∧ kitB "int" "tuple" = some false ∧ kitB "int" "dict" = some false ∧ kitB "str" "bool" = some false ∧ kitB "str" "int" = some false ∧ kitB "str" "str" = some true ∧ kitB "str" "list" = some false ∧ kitB "str" "tuple" = some false ∧ kitB "str" "dict" = some false ∧ kitB "list" "bool" = some false ∧ kitB "list" "int" = some false ∧ kitB "list" "str" = some false ∧ kitB "list" "list" = some true ∧ kitB "list" "tuple" = some false ∧ kitB "list" "dict" = some false ∧ kitB "tuple" "bool" = some false ∧ kitB "tuple" "int" = some false ∧ kitB "tuple" "str" = some false ∧ kitB "tuple" "list" = some false ∧ kitB "tuple" "tuple" = some true ∧ kitB "tuple" "dict" = some false ∧ kitB "dict" "bool" = some false ∧ kitB "dict" "int" = some false ∧ kitB "dict" "str" = some false ∧ kitB "dict" "list" = some false ∧ kitB "dict" "tuple" = some false ∧ kitB "dict" "dict" = some true := by
  decide +kernel
end Lv

/-! Lv13: sorted lists of data. -/
namespace Lv
open PySem L2 LvI
theorem each_rel {K : Fr} {H : Hp} : ∀ {xs : List V} {its : List Value} {ds : List PyData}, Vals xs its → DpAll K H xs ds → PySem.W.EachIs (fun (v : Value) (b : V × PyData) => RelV b.1 v) its (xs.zip ds)
  | _, _, _, .nil, .nil => .nil
  | _, _, _, .cons r t, .cons _ d => .cons r (each_rel t d)
theorem each_rd {K : Fr} {H : Hp} {h : Heap} : ∀ {xs : List V} {its : List Value} {ds : List PyData} {as : List Addr}, Vals xs its → DpAll K H xs ds → ReadsAll h its ds as → PySem.W.EachIs (fun (v : Value) (b : V × PyData) => ∃ as, Reads h v b.2 as) its (xs.zip ds)
  | _, _, _, _, .nil, .nil, _ => .nil
  | _, _, _, _, .cons _ t, .cons _ d, .cons h1 h2 => .cons ⟨_, h1⟩ (each_rd t d h2)
theorem each_vals : ∀ {out : List Value} {bs : List (V × PyData)}, PySem.W.EachIs (fun (v : Value) (b : V × PyData) => RelV b.1 v) out bs → Vals (bs.map (·.1)) out
  | _, _, .nil => .nil
  | _, _, .cons r t => .cons r (each_vals t)
theorem dpall_len {K : Fr} {H : Hp} : ∀ {xs : List V} {ds : List PyData}, DpAll K H xs ds → xs.length = ds.length
  | _, _, .nil => rfl
  | _, _, .cons _ t => by rw [List.length_cons, List.length_cons, dpall_len t]
/-- sorted(xs), xs a list of data that are alike -/
def rSortD (K : Fr) : List V → Hp → VK → Prop := fun vs H Q => ∃ (a : Addr) (xs : List V) (ds : List PyData), vs = [V.ref a] ∧ SqL K H a xs ∧ DpAll K H xs ds ∧ PySem.W.AllAlike ds ∧ PySem.W.Sortable ds ∧ (∀ d ∈ ds, d.depth ≤ 60) ∧
  ∀ p, H p = none → Q (.ref p) (upd H p (.lst (((xs.zip ds).mergeSort (PySem.W.dataLe false fun b => b.2)).map (·.1))))
theorem cr_sortedD {X : Cx} (hu : X.A.units + 64 < cLine) : CallR X (.builtin "sorted") (rSortD X.K) := by
  intro pins s σ H vs us Q I r h
  obtain ⟨a, xs, ds, rfl, hs, hd, hal, hk, hdp, q⟩ := h
  obtain ⟨its, rv, hl, hz⟩ := I.list hs
  obtain ⟨u, rfl, ru⟩ := vals1 r
  obtain rfl : u = Value.ref a := ru
  obtain ⟨as, ra⟩ := Dp.readsAll I ds xs its hd rv
  have hlen := dpall_len hd
  have hm : (xs.zip ds).map (fun b => b.2) = ds := List.map_snd_zip (by omega)
  refine PySem.W.sorted_data (bs := xs.zip ds) (enc := fun b => b.2) (R := fun v b => RelV b.1 v) hl.isList (each_rel rv hd) (each_rd rv hd ra) (by rw [hm]; exact hal) (by rw [hm]; exact hk) (by rw [List.length_zip]; omega) (fun b hb => ?_) fun out ho eo => ?_
  · have := hdp b.2 (by rw [← hm]; exact List.mem_map.mpr ⟨b, hb, rfl⟩)
    omega
  · obtain ⟨n, hn⟩ := PyProof.Rows.sortedAll_at s.heap its out.toArray
    refine ⟨.ref (s.heap.objs.size + 1), upd H (s.heap.objs.size + 1) (.lst (((xs.zip ds).mergeSort (PySem.W.dataLe false fun b => b.2)).map (·.1))), I.laid (t' := s.toks) (fun _ _ => PyProof.Rows.sortedAll_old) (Nat.le_succ _) ⟨?_, out, n, each_vals eo, hn⟩, rfl, q _ (I.hok.fresh (Nat.le_succ _))⟩
    rw [List.length_map, List.length_mergeSort, List.length_zip]
    omega
/-- sorted data -/
def sortT (ts : List T) : List T := ts.mergeSort fun a b => PySem.W.dataLe false T.py a b
theorem fz_pairs {K : Fr} {B : Hp} : ∀ {W : List (V × T)}, (∀ p ∈ W, Fz K B p.1 p.2) → FzAll K B (W.map (·.1)) (W.map (·.2))
  | [], _ => .nil
  | p :: W, h => .cons (h p List.mem_cons_self) (fz_pairs fun q hq => h q (List.mem_cons_of_mem _ hq))
theorem fz_zip {K : Fr} {B : Hp} : ∀ {vs : List V} {ts : List T}, FzAll K B vs ts → ∀ p ∈ vs.zip ts, Fz K B p.1 p.2
  | _, _, .nil, p, h => by cases h
  | _, _, .cons r t, p, h => by
    rcases List.mem_cons.mp h with h | h
    · subst h; exact r
    · exact fz_zip t p h
theorem fz_sort {K : Fr} {B : Hp} {vs : List V} {ts : List T} (f : FzAll K B vs ts) : FzAll K B (((vs.zip (T.pys ts)).mergeSort (PySem.W.dataLe false fun b => b.2)).map (·.1)) (sortT ts) := by
  have e1 : vs.zip (T.pys ts) = (vs.zip ts).map fun p => (p.1, p.2.py) := by
    rw [pys_map, List.zip_map_right]
    rfl
  have e2 : ((vs.zip ts).mergeSort fun a b => PySem.W.dataLe false T.py a.2 b.2).map (fun p => (p.1, p.2.py)) = ((vs.zip ts).map fun p => (p.1, p.2.py)).mergeSort (PySem.W.dataLe false fun b => b.2) := List.map_mergeSort fun a _ b _ => rfl
  have e3 : ((vs.zip ts).mergeSort fun a b => PySem.W.dataLe false T.py a.2 b.2).map (·.2) = sortT ts := by
    unfold sortT
    rw [List.map_mergeSort (s := fun a b => PySem.W.dataLe false T.py a b) fun a _ b _ => rfl, List.map_snd_zip (by rw [f.length]; exact Nat.le_refl _)]
  rw [e1, ← e2, List.map_map, ← e3]
  exact fz_pairs fun p hp => fz_zip f p (List.mem_mergeSort.mp hp)
def sortG : ARC := fun xs s Q => match xs with
  | [x] => ∃ ts, lsV s x = some ts ∧ T.oks 60 ts = true ∧ PySem.W.AllAlike (ts.map T.py) ∧ PySem.W.Sortable (ts.map T.py) ∧ Q (.l s.length) (s ++ [.lst (sortT ts)])
  | _ => False
theorem lr_sort {K : Fr} {M : MP} : LiftC K M (rSortD K) sortG := by
  intro H B φ s x sx Q re rx h Q' f
  unfold sortG at h
  split at h
  · obtain ⟨v, rfl, r⟩ := rsall1 rx
    obtain ⟨ts, h1, h2, h3, h4, q⟩ := h
    obtain ⟨p, vs, rfl, e1, f1⟩ := ls_of re r h1
    obtain ⟨c1, c2⟩ := oks_py 60 ts h2
    rw [← pys_map] at h3 h4
    refine ⟨p, vs, T.pys ts, rfl, SqL.of e1, FzAll.dp re.ex f1 c1, h3, h4, fun d hd => ?_, fun l hl => f.newL re (fz_sort f1) q l hl⟩
    rw [pys_map] at hd
    obtain ⟨t, ht, rfl⟩ := List.mem_map.mp hd
    rw [oks_all] at h2
    exact (ok_py 60 t (List.all_eq_true.mp h2 t ht)).2
  · exact h.elim
/-- a block of a loop whose things stay in the store, slots forgotten -/
def pWip (vs : List Nat) (t : ATS) : ATS := fun A δ s => t { nx := fun δ1 s1 => A.nx (wipeA δ1 vs) s1, rt := A.rt, bk := fun δ1 s1 => A.bk (wipeA δ1 vs) s1, ct := fun δ1 s1 => A.ct (wipeA δ1 vs) s1 } δ s
theorem ap_wip {X : Cx} {M : MP} {st : List Stmt} {t : ATS} (vs : List Nat) (h : APs X M st t) : APs X M st (pWip vs t) := ⟨_, h.pss, fun H B φ σ δ s A re sl q D f => uS_lift (t := t) H B φ σ δ s _ re sl q _ ⟨fin_wip f.nx, f.rt, fin_wip f.bk, fin_wip f.ct⟩⟩
/-- xs.remove(k), k among the numbers -/
def aRem (vo ve : ATE) : ATE := fun δ s Q => vo δ s fun x s1 => isTy s1 x = some "list" ∧ ve δ s1 fun y s2 => match x, y with
  | .l n, .d (.int k) => ∃ ns : List Int, s2[n]? = some (.lst (ns.map T.int)) ∧ k ∈ ns ∧ Q (.d .non) (s2.set n (.lst ((ns.erase k).map T.int)))
  | _, _ => False
theorem takes_no {X : Cx} : Takes X (fun _ _ _ _ => False) := fun _ _ ⟨_, _, _, _, _, _, _, _, _, _, _, _, _, _, _, _, w⟩ => w.elim
section
variable {X : Cx} {M : MP} {e o : Expr} {pos apos : Pos} {vo ve : ATE}
theorem ae_remove (ho : AE X M o vo) (he : AE X M e ve) (hb : HB X o "remove" := by rfl) (hf : HF X [e] pos := by rfl) (hl : (apos.endLine == pos.line) = true := by rfl) (hs : HS1 X e [] := by rfl) (hp : HP1 X [] pos := by rfl) (hc : X.calm = true := by rfl) :
    AE X M (.Call (.Attribute o "remove" apos) [e] [] pos) (aRem vo ve) :=
  .of (pe_remX hc takes_no ho.pe he.pe hb hf hl hs hp) fun H B φ σ δ s Q re sl q Q' f => uE_lift (t := vo) H B φ σ δ s _ re sl q _ fun H1 B1 φ1 s1 v1 x1 g1 re1 r1 ⟨c1, q1⟩ => ⟨isTy_ok re1 r1 c1, uE_lift (t := ve) H1 B1 φ1 σ δ s1 _ re1 (sl.mono g1) q1 _ fun H2 B2 φ2 s2 v2 x2 g2 re2 r2 q2 => by
    dsimp only at q2
    split at q2
    · cases int_of r2
      obtain ⟨ns, h1, h2, q2⟩ := q2
      obtain ⟨p, vs, rfl, hp, e1, hB, f1⟩ := own_of re2 (r1.mono g2) h1
      have e := f1.of_ints
      subst e
      refine ⟨p, ns, _, rfl, rfl, e1, fun _ => ?_, fun h => absurd h2 h⟩
      exact ((f.grow g1).grow g2).setL re2 hp hB (FzAll.ints _) .non q2
    · exact q2.elim⟩
theorem ae_sorted {p : Pos} {t : ATA} (hu : X.A.units + 64 < cLine) (hm : X.mg "sorted" = none) (ha : AA X M [e] t) (hg : Gl X "sorted" := by rfl) (he : starEach [e] X.env = (false, eval e X.env) :: starEach [] X.env := by rfl) :
    AE X M (.Call (.Name "sorted" p) [e] [] pos) (aCall sortG t) := ae_callB (cr_sortedD hu) lr_sort hg hm (by decide +kernel) ha (he := he)
end
end Lv

/-! Lv14: the least of some data. -/
namespace Lv
open PySem L2 LvI
theorem reads_all_toList {h : Heap} {a : List Value} {ds : List PyData} {as : List Addr} (r : ReadsAll h a ds as) : ReadsAll h a.toArray.toList ds as := by rw [List.toList_toArray]; exact r
/-- min of a list of alike data, with its place -/
theorem min_list_at {prog : Program} {w : World} {A : Around} {E : Value → Shared → Prop} {s : Shared} {l : Addr} {vs : Array Value} {x : PyData} {xs : List PyData} {as : List Addr} {Q : Value → Shared → Prop} (hh : A.handled = none) (hl : s.heap.IsList l vs) (hr : ReadsAll s.heap vs.toList (x :: xs) as) (ha : PySem.W.AlikeAll (x :: xs)) (hu : A.units + 1 + PyData.depthAll (x :: xs) < cLine)
    (h : ∀ (i : Nat) v h' tk, vs[i]? = some v → i < (x :: xs).length → (x :: xs).getD i .none = PySem.W.minD x xs → (∀ b o, s.heap.get? b = some o → h'.get? b = some o) → Q v { s with heap := h', toks := tk }) :
    wpAny (model prog w) A (call (.builtin "min") [.ref l]) Q E s := by
  have hn : vs.size = xs.length + 1 := PySem.W.readsAll_len hr
  refine call_min_walkH (PySem.W.iter_listW (A := A.in1) hh hl fun s₂ e W st hfp hw hk => ?_)
  refine ⟨_, _, _, _, _, _, _, s.heap, _, rfl, W, st, hfp, by omega, hw, hk, PySem.W.cmpIn_lt (A := A.in1) hr ha (by show A.units + 1 + _ < _; exact hu), fun v s' hP m => ?_⟩
  obtain ⟨h', tk, rfl, hk'⟩ := PySem.W.moved_old e rfl m
  obtain ⟨bs, r, hi, _, _⟩ := PySem.W.readsAll_atA hr _ v hP
  have e1 : vs.size - 1 = xs.length := by omega
  have e2 := (PySem.W.argBest_fold PySem.W.dataLt PyData.none x xs xs.length (Nat.le_refl _)).2
  rw [List.take_length] at e2
  rw [e1] at hP hi
  exact h _ v h' tk hP hi e2 hk'
def rMinD (K : Fr) : List V → Hp → VK → Prop := fun vs H Q => ∃ (a : Addr) (xs : List V) (d : PyData) (ds : List PyData), vs = [V.ref a] ∧ SqL K H a xs ∧ DpAll K H xs (d :: ds) ∧ PySem.W.AlikeAll (d :: ds) ∧ PyData.depthAll (d :: ds) ≤ 60 ∧
  ∀ (i : Nat) v, xs[i]? = some v → i < (d :: ds).length → (d :: ds).getD i .none = PySem.W.minD d ds → Q v H
theorem cr_minD {X : Cx} (hu : X.A.units + 64 < cLine) (hc : X.calm = true) : CallR X (.builtin "min") (rMinD X.K) := by
  intro pins s σ H vs us Q I r h
  obtain ⟨a, xs, d, ds, rfl, hs, hd, hal, hdp, q⟩ := h
  obtain ⟨its, rv, hl, hz⟩ := I.list hs
  obtain ⟨u, rfl, ru⟩ := vals1 r
  obtain rfl : u = Value.ref a := ru
  obtain ⟨as, ra⟩ := Dp.readsAll I (d :: ds) xs its hd rv
  refine min_list_at (I.ok.hd hc) hl.isList (reads_all_toList ra) hal (by omega) fun i v h' tk hi hlt he hk => ?_
  have hi' : its[i]? = some v := by simpa using hi
  obtain ⟨y, hy, ry⟩ : ∃ y, xs[i]? = some y ∧ RelV y v := by
    have hl2 : xs.length = its.length := rv.length
    have hib := (List.getElem?_eq_some_iff.mp hi').1
    obtain ⟨w, ew, rw'⟩ := rv.get (i := i) (x := xs[i]'(by omega)) (List.getElem?_eq_getElem (by omega))
    rw [hi'] at ew
    cases ew
    exact ⟨_, List.getElem?_eq_getElem (by omega), rw'⟩
  exact ⟨y, H, I.kept hk, ry, q i y hy hlt he⟩
/-- the least of some data: ints, two or a list of them; else a list of alike data -/
def minDG : ARC := fun xs s Q => match xs with
  | [.d (.int i), .d (.int j)] => Q (.d (.int (if j < i then j else i))) s
  | [x] => ∃ t ts, lsV s x = some (t :: ts) ∧ T.oks 59 (t :: ts) = true ∧ PySem.W.AlikeAll ((t :: ts).map T.py) ∧ ∀ y ∈ t :: ts, y.py = PySem.W.minD t.py (ts.map T.py) → Q (.d y) s
  | _ => False
theorem lr_minD {K : Fr} {M : MP} : LiftC K M (fun xs H Q => rMinA K xs H Q ∨ rMinD K xs H Q) minDG := by
  intro H B φ s x sx Q re rx h Q' f
  unfold minDG at h
  split at h
  · obtain ⟨v, w, rfl, r1, r2⟩ := rsall2 rx
    cases int_of r1; cases int_of r2
    exact .inl (.inl ⟨_, _, rfl, f.int re h⟩)
  · obtain ⟨v, rfl, r⟩ := rsall1 rx
    obtain ⟨t, ts, h1, h2, h3, q⟩ := h
    obtain ⟨p, vs, rfl, e1, f1⟩ := ls_of re r h1
    obtain ⟨c1, c2⟩ := oks_py 59 (t :: ts) h2
    have e : T.pys (t :: ts) = t.py :: ts.map T.py := by rw [pys_map]; rfl
    refine .inr ⟨p, vs, t.py, ts.map T.py, rfl, SqL.of e1, by rw [← e]; exact FzAll.dp re.ex f1 c1, h3, by rw [← e]; omega, fun i v hv hi he => ?_⟩
    obtain ⟨y, hy, fy⟩ := f1.get hv
    refine f.now re (.dat fy) (q y (List.mem_of_getElem? hy) ?_)
    rw [← he, ← List.map_cons, List.getD_eq_getElem?_getD, List.getElem?_map, hy]; rfl
  · exact h.elim
section
variable {X : Cx} {M : MP} {e : Expr} {es : List Expr} {pos : Pos}
theorem ae_minD {p : Pos} {t : ATA} (hu : X.A.units + 64 < cLine) (hm : X.mg "min" = none) (ha : AA X M (e :: es) t) (hg : Gl X "min" := by rfl) (hc : X.calm = true := by rfl) (he : starEach (e :: es) X.env = (false, eval e X.env) :: starEach es X.env := by rfl) (hpl : (backTo pos (starEach es X.env)).any (·.1) = false := by rfl) :
    AE X M (.Call (.Name "min" p) (e :: es) [] pos) (aCall minDG t) := ae_callB (CallR.or (cr_minA hc) (cr_minD hu hc)) lr_minD hg hm (by decide +kernel) ha (he := he) (hpl := hpl)
end
end Lv

/-! Lv15: a call to which lists of one's own are handed as data. -/
namespace Lv
open PySem L2 LvI
/-- the arguments as handed: the marked lists as data -/
def viewM (s : ST) : List Bool → List SV → Option (List SV)
  | [], xs => some xs
  | _, [] => some []
  | true :: ms, .l n :: r => (match s[n]? with
    | some (.lst ts) => (viewM s ms r).map (SV.d (.lst ts) :: ·)
    | _ => none)
  | _ :: ms, x :: r => (viewM s ms r).map (x :: ·)
def viewP : List Bool → List SV → List Nat
  | true :: ms, .l n :: r => n :: viewP ms r
  | _ :: ms, _ :: r => viewP ms r
  | _, _ => []
def flatO : LO → Bool
  | .lst ts => ts.all T.flat
  | _ => false
def flatS : SV → Bool
  | .d t => t.flat
  | .l _ => true
section
variable {K : Fr} {M : MP} {H B B' Bc : Hp} {φ φ' : Fi} {s : ST}
theorem Fz.flatB {v : V} {t : T} (h : Fz K B v t) (f : t.flat = true) : Fz K B' v t := by
  cases h with
  | non => exact .non
  | bl b => exact .bl b
  | int i => exact .int i
  | str x => exact .str x
  | _ => cases f
theorem FzAll.flatB : ∀ {vs : List V} {ts : List T}, FzAll K B vs ts → ts.all T.flat = true → FzAll K B' vs ts
  | _, _, .nil, _ => .nil
  | _, _, .cons h r, f => by
    rw [List.all_cons, Bool.and_eq_true] at f
    exact .cons (h.flatB f.1) (FzAll.flatB r f.2)
theorem Ro.flatB {o : LO} {u : Option HO} (h : Ro K B φ o u) (f : flatO o = true) : Ro K B' φ' o u := by
  cases o with
  | lst ts => obtain ⟨vs, h1, h2⟩ := h; exact ⟨vs, h1.flatB f, h2⟩
  | _ => cases f
/-- in W as there, else as here -/
def thaw (W : List Addr) (H B : Hp) : Hp := fun a => if a ∈ W then H a else B a
theorem thaw_in {W : List Addr} {H B : Hp} {a : Addr} (h : a ∈ W) : thaw W H B a = H a := if_pos h
theorem thaw_out {W : List Addr} {H B : Hp} {a : Addr} (h : a ∉ W) : thaw W H B a = B a := if_neg h
theorem thaw_ex {W : List Addr} (e : Ex B H) : Ex B (thaw W H B) := fun a o h => by
  by_cases w : a ∈ W
  · rw [thaw_in w]; exact e a o h
  · rw [thaw_out w]; exact h
theorem viewM_mem (s : ST) : ∀ (ms : List Bool) {xs ys : List SV}, viewM s ms xs = some ys → ∀ n ∈ viewP ms xs, n < s.length := by
  intro ms
  induction ms with
  | nil => intro xs ys h n hn; cases xs <;> cases hn
  | cons m ms ih =>
    intro xs ys h n hn
    cases xs with
    | nil => cases m <;> cases hn
    | cons x xs =>
      have plain : ∀ (hm : (viewM s ms xs).map (x :: ·) = some ys), n ∈ viewP ms xs → n < s.length := fun hm hn => by
        cases e : viewM s ms xs with
        | none => rw [e] at hm; cases hm
        | some zs => exact ih e n hn
      cases m with
      | false => exact plain (by cases x <;> exact h) (by cases x <;> exact hn)
      | true =>
        cases x with
        | d t => exact plain h hn
        | l k =>
          have h : (match s[k]? with | some (.lst ts) => (viewM s ms xs).map (SV.d (.lst ts) :: ·) | _ => none) = some ys := h
          have hn : n ∈ k :: viewP ms xs := hn
          cases hs : s[k]? with
          | none => rw [hs] at h; cases h
          | some o =>
            rcases List.mem_cons.mp hn with rfl | hn
            · exact (List.getElem?_eq_some_iff.mp hs).1
            · rw [hs] at h
              cases o with
              | lst ts =>
                have h : (viewM s ms xs).map (SV.d (.lst ts) :: ·) = some ys := h
                cases e : viewM s ms xs with
                | none => rw [e] at h; cases h
                | some zs => exact ih e n hn
              | _ => cases h
theorem view_rs (re : Re K M H B φ s) (eb : Ex B Bc) : ∀ (ms : List Bool) {vs : List V} {xs ys : List SV}, RsAll K B φ vs xs → viewM s ms xs = some ys → (∀ n ∈ viewP ms xs, ∀ p, φ[n]? = some (one p) → Bc p = H p) → RsAll K Bc φ vs ys := by
  intro ms
  induction ms with
  | nil =>
    intro vs xs ys r h hv
    have e : xs = ys := by
      unfold viewM at h
      exact Option.some.inj h
    subst e
    exact r.mo ⟨eb, fun _ _ h => h⟩
  | cons m ms ih =>
    intro vs xs ys r h hv
    cases r with
    | nil => cases m <;> (unfold viewM at h; cases h; exact .nil)
    | @cons v vs x xs r1 r2 =>
      have plain : ∀ (hm : (viewM s ms xs).map (x :: ·) = some ys) (hv2 : ∀ n ∈ viewP ms xs, ∀ p, φ[n]? = some (one p) → Bc p = H p), RsAll K Bc φ (v :: vs) ys := fun hm hv2 => by
        cases e : viewM s ms xs with
        | none => rw [e] at hm; cases hm
        | some zs => rw [e] at hm; cases hm; exact .cons (r1.mo ⟨eb, fun _ _ h => h⟩) (ih r2 e hv2)
      cases m with
      | false =>
        refine plain ?_ ?_
        · cases x <;> exact h
        · cases x <;> exact hv
      | true =>
        cases x with
        | d t => exact plain h hv
        | l n =>
          have h : (match s[n]? with | some (.lst ts) => (viewM s ms xs).map (SV.d (.lst ts) :: ·) | _ => none) = some ys := h
          have hv : ∀ k ∈ n :: viewP ms xs, ∀ p, φ[k]? = some (one p) → Bc p = H p := hv
          cases hs : s[n]? with
          | none => rw [hs] at h; cases h
          | some o =>
            rw [hs] at h
            cases o with
            | lst ts =>
              obtain ⟨p, us, rfl, hp, e1, hB, f1⟩ := own_of re r1 hs
              have h : (viewM s ms xs).map (SV.d (.lst ts) :: ·) = some ys := h
              cases e : viewM s ms xs with
              | none => rw [e] at h; cases h
              | some zs =>
                rw [e] at h; cases h
                refine .cons (.dat (.lst ?_ (f1.mono eb))) (ih r2 e fun k hk => hv k (List.mem_cons_of_mem _ hk))
                rw [hv n List.mem_cons_self p hp]; exact e1
            | _ => cases h
/-- a call to which the places vw are handed as data -/
theorem lift_view {vs : List V} {ys : List SV} {Q : SV → ST → Prop} {Q' : VK} {E : XK} {sp : ASp} {vw ns : List Nat} {good : SV → ST → Prop} (re : Re K M H B φ s) (hns : argL ys = ns) (hvw : ∀ n ∈ vw, n < s.length) (dis : ∀ n ∈ ns, n ∉ vw)
    (h1 : (ns.all fun n => match s[n]? with | some o => simO o | none => false) = true) (rys : RsAll K (thaw (adr (selF φ vw)) H B) φ vs ys)
    (h2 : sp (ys.map (toC ns)) (ns.map fun n => (s[n]?).getD .gone) fun r s2 => good r s2 ∧ Q (ren ns s.length r) (putAll s ns (s2.map (renO ns s.length)) ++ (s2.drop ns.length).map (renO ns s.length)))
    (back : ∀ H' B' φ' s' v x, Ex (thaw (adr (selF φ vw)) H B) B' → Ex B' H' → good x s' → (Rs K B' φ' v x → Rs K (thaw (adr (selF φ vw)) B B') φ' v x) ∧ ∀ (k : Nat) c o, s'[k]? = some o → Rc K B' H' φ' c o → Rc K (thaw (adr (selF φ vw)) B B') H' φ' c o)
    (f : FinE K M H B φ Q Q') : toSp K sp vs H Q' E := by
  have hL : φ.length = s.length := re.len
  have hvl : ∀ n ∈ vw, n < φ.length := fun n hn => by rw [hL]; exact hvw n hn
  have nd : ns.Nodup := by rw [← hns]; exact argL_nd ys
  have hat : ∀ n ∈ ns, ∃ o, s[n]? = some o ∧ simO o = true := fun n hn => by
    have := List.all_eq_true.mp h1 n hn
    cases hs : s[n]? with
    | none => rw [hs] at this; cases this
    | some o => rw [hs] at this; exact ⟨o, rfl, this⟩
  have hlt : ∀ n ∈ ns, n < φ.length := fun n hn => by
    obtain ⟨o, ho, _⟩ := hat n hn
    rw [hL]; exact (List.getElem?_eq_some_iff.mp ho).1
  have apart : ∀ a, a ∈ adr (selF φ vw) → a ∉ adr (selF φ ns) := fun a h z => by
    obtain ⟨i, c, i1, i2⟩ := adr_of h
    obtain ⟨n, n1, n2⟩ := selF_inv hvl i1
    obtain ⟨j, d, j1, j2⟩ := adr_of z
    obtain ⟨m, m1, m2⟩ := selF_inv hlt j1
    have := adr_nd re.nd n2 m2 i2 j2
    subst this
    exact dis n (List.mem_of_getElem? m1) (List.mem_of_getElem? n1)
  generalize hW : adr (selF φ vw) = W at rys back apart
  have hWal : ∀ a ∈ W, H a ≠ none := fun a ha => re.al a (selF_sub hvl a (by rw [hW]; exact ha))
  have exc : Ex B (thaw W H B) := thaw_ex re.ex
  have exH : Ex (thaw W H B) H := fun a o h => by
    by_cases w : a ∈ W
    · rw [thaw_in w] at h; exact h
    · rw [thaw_out w] at h; exact re.ex a o h
  have rec_ : Re K M0 H (thaw W H B) (selF φ ns) (ns.map fun n => (s[n]?).getD .gone) := by
    refine re.fore nd hlt exH (List.length_map ..) (fun n hn c hc a ha hb => ?_) fun k n c o q1 q2 q3 => ?_
    · have : a ∉ W := fun w => by
        obtain ⟨k, hk⟩ := List.getElem?_of_mem hn
        exact apart a w (adr_mem (by rw [selF_at hlt hk]; exact hc) ha)
      rw [thaw_out this]; exact hb
    · obtain ⟨o', ho', so'⟩ := hat n (List.mem_of_getElem? q1)
      rw [List.getElem?_map, q1] at q3
      have q3 : (s[n]?).getD .gone = o := by simpa using q3
      rw [ho'] at q3
      cases q3
      exact ⟨_, ho', id, fun h => (h.mo ⟨exc, fun _ _ h => h⟩ (fun _ _ => rfl)).sim_ so'⟩
  have rsc : RsAll K (thaw W H B) (selF φ ns) vs (ys.map (toC ns)) := rys.map_to fun v x hx rx => rx.toC hlt fun n e => by rw [← hns]; exact argL_mem (e ▸ hx)
  refine ⟨thaw W H B, selF φ ns, _, _, _, rec_, rsc, h2, fun H' B' φ' s' v x g re' r' q' => ?_⟩
  obtain ⟨gd, q'⟩ := q'
  obtain ⟨bk1, bk2⟩ := back H' B' φ' s' v x g.eb re'.ex gd
  rw [bck_st, ← hL] at q'
  have b2 : ∀ a, thaw W B B' a = if a ∈ W then B a else B' a := fun _ => rfl
  obtain ⟨g2, re2⟩ := re.back nd hlt re' (B2 := thaw W B B') g.pf g.kp g.nf (fun a o h => by
    by_cases w : a ∈ W
    · rw [thaw_in w]; exact h
    · rw [thaw_out w]; exact g.eb a o (by rw [thaw_out w]; exact h)) (fun a o h => by
    by_cases w : a ∈ W
    · rw [thaw_in w] at h; exact g.kp a o (re.ex a o h) (apart a w)
    · rw [thaw_out w] at h; exact re'.ex a o h) (fun a h1 h2 h3 => by
    by_cases w : a ∈ W
    · rw [thaw_in w]; exact .inl h1
    · rw [thaw_out w]; exact g.nb a (by rw [thaw_out w]; exact h1) h2 h3) (fun a h => by
    by_cases w : a ∈ W
    · cases hHp : H a with
      | none => exact absurd hHp (hWal a w)
      | some o => rw [g.eb a o (by rw [thaw_in w]; exact hHp)] at h; cases h
    · rw [thaw_out w]; exact h) (s2 := s'.map (renO ns φ.length)) (List.length_map ..) fun k o' h => by
    rw [List.getElem?_map] at h
    obtain ⟨o, h1, rfl⟩ := Option.map_eq_some_iff.mp h
    exact ⟨o, h1, fun w => by rw [renO_is.1] at w; exact w, fun c _ hc => (bk2 k c o h1 hc).ren nd hlt⟩
  exact f _ _ _ _ _ _ g2 re2 ((bk1 r').ren nd hlt) q'
end
/-- a call, some lists handed as data; what comes back is flat -/
def viewK (ms : List Bool) (sp : ASp) (Q : SV → ST → Prop) (_ : Lk Q) (xs : List SV) (s : ST) : Prop := ∃ ys, viewM s ms xs = some ys ∧ ((argL ys).all fun n => !(viewP ms xs).contains n) = true ∧
  ((argL ys).all fun n => match s[n]? with | some o => simO o | none => false) = true ∧
    sp (ys.map (toC (argL ys))) ((argL ys).map fun n => (s[n]?).getD .gone) fun r s2 => s2.all flatO = true ∧ flatS r = true ∧ Q (ren (argL ys) s.length r) (putAll s (argL ys) (s2.map (renO (argL ys) s.length)) ++ (s2.drop (argL ys).length).map (renO (argL ys) s.length))
theorem viewK_of {ms : List Bool} {sp : ASp} {s : ST} {Q : SV → ST → Prop} {l : Lk Q} {xs ys : List SV} {ns : List Nat} (e0 : viewM s ms xs = some ys) (e : argL ys = ns) (h0 : (ns.all fun n => !(viewP ms xs).contains n) = true) (h1 : (ns.all fun n => match s[n]? with | some o => simO o | none => false) = true)
    (h2 : sp (ys.map (toC ns)) (ns.map fun n => (s[n]?).getD .gone) fun r s2 => s2.all flatO = true ∧ flatS r = true ∧ Q (ren ns s.length r) (putAll s ns (s2.map (renO ns s.length)) ++ (s2.drop ns.length).map (renO ns s.length))) : viewK ms sp Q l xs s := by
  subst e; exact ⟨ys, e0, h0, h1, h2⟩
def aFnV (ms : List Bool) (sp : ASp) (t : ATA) : ATE := fun δ s Q => t δ s fun xs s1 => viewK ms sp Q .mk xs s1
theorem lift_fnV {K : Fr} {M : MP} {H B : Hp} {φ : Fi} {s : ST} {vs : List V} {xs : List SV} {Q : SV → ST → Prop} {Q' : VK} {E : XK} {sp : ASp} {ms : List Bool} {l : Lk Q} (re : Re K M H B φ s) (r : RsAll K B φ vs xs) (h : viewK ms sp Q l xs s) (f : FinE K M H B φ Q Q') : toSp K sp vs H Q' E := by
  obtain ⟨ys, hv, hdis, h1, h2⟩ := h
  have hvw := viewM_mem s ms hv
  refine lift_view (vw := viewP ms xs) (good := fun r s2 => s2.all flatO = true ∧ flatS r = true) re rfl hvw (fun n hn z => ?_) h1 (view_rs re (thaw_ex re.ex) ms r hv fun n hn p hp => ?_) (by simp only [and_assoc]; exact h2) (fun H' B' φ' s' v x e1 e2 gd => ⟨fun rx => ?_, fun k c o ho hc => ?_⟩) f
  · have := List.all_eq_true.mp hdis n hn
    simp [z] at this
  · refine thaw_in ?_
    obtain ⟨k, hk⟩ := List.getElem?_of_mem hn
    exact adr_p (n := k) (c := one p) (by rw [selF_at (fun n hn => by rw [re.len]; exact hvw n hn) hk]; exact hp)
  · cases x with
    | d t => exact Fz.flatB rx gd.2
    | l n => exact rx
  · have hf := List.all_eq_true.mp gd.1 o (List.mem_of_getElem? ho)
    cases hc with
    | gone => cases hf
    | sim h1 h2 h3 => exact .sim h1 h2 (h3.flatB hf)
    | box => cases hf
    | pool => cases hf
section
variable {X : Cx} {M : MP} {e : Expr} {es : List Expr} {pos p : Pos}
theorem ae_calV (ms : List Bool) {k : Nat} {ps : List Str} {sp : ASp} {x : Str} {t : ATA} (C : Cal X.prog X.w X.K X.mg X.base k x ps sp) (hr : RoomG k X.A) (ha : AA X M (e :: es) t)
    (hg : Gl X x := by rfl) (hdb : (x == ("__debug__" : Str)) = false := by decide) (he : starEach (e :: es) X.env = (false, eval e X.env) :: starEach es X.env := by rfl) (hpl : (backTo pos (starEach es X.env)).any (·.1) = false := by rfl) :
    AE X M (.Call (.Name x p) (e :: es) [] pos) (aFnV ms sp t) := by
  obtain ⟨f, fd, F, h1, h2, h3⟩ := C.ex
  exact .of (pe_callG F hr hg h1 h2 (.all h3) ha.pa hdb he hpl) fun H B φ σ δ s Q re sl q Q' f => uA_lift (t := t) H B φ σ δ s _ re sl q _ fun H1 B1 φ1 s1 vs xs g1 re1 r1 hv => by
    exact lift_fnV re1 r1 hv (f.grow g1)
end
end Lv

/-! Lv16: bits, truths of any data. -/
namespace Lv
open PySem L2 LvI
def shlG : AR2 := fun x y s Q => match x, y with
  | .d (.int i), .d (.int j) => CPow i j ∧ Q (.d (.int (i * 2 ^ j.toNat))) s
  | _, _ => False
def shrG : AR2 := fun x y s Q => match x, y with
  | .d (.int i), .d (.int j) => 0 ≤ j ∧ Q (.d (.int (i / 2 ^ j.toNat))) s
  | _, _ => False
/-- n & 1 -/
def oddG : AR2 := fun x y s Q => ∃ n : Nat, x = .d (.int n) ∧ y = .d (.int 1) ∧ Q (.d (.int ((n % 2 : Nat) : Int))) s
section
variable {K : Fr} {M : MP}
end
section
variable {X : Cx} {M : MP} {e a b : Expr} {pos : Pos} {va vb : ATE}
/-- a test by a value's truth -/
def truG (s : ST) : SV → Option Bool
  | .d .non => some false
  | .d (.bl b) => some b
  | .d (.int i) => some (i != 0)
  | .d (.lst ts) => some (!ts.isEmpty)
  | .d (.tup ts) => some (!ts.isEmpty)
  | .l n => (match s[n]? with
    | some (.lst ts) => some (!ts.isEmpty)
    | _ => none)
  | _ => none
def aTru (t : ATE) : ATT := fun δ s Q => t δ s fun x s1 => match truG s1 x with
  | some b => Q b s1
  | none => False
end
end Lv

/-! Lv17: repr, str of data. -/
namespace Lv
open PySem L2 LvI
def rRepr (K : Fr) : List V → Hp → VK → Prop := fun vs H Q => ∃ (x : V) (d : PyData), vs = [x] ∧ Dp K H x d ∧ d.canLay0 = true ∧ d.showable = true ∧ d.depth ≤ 60 ∧ d.shown.length ≤ sizeLine ∧ Q (.str d.shown) H
theorem cr_repr {X : Cx} (hg : X.A.guards = some []) (hu : X.A.units + 64 < cLine) : CallR X (.builtin "repr") (rRepr X.K) := by
  intro pins s σ H vs us Q I r h
  obtain ⟨x, d, rfl, hd, hc, hs, hdp, hz, q⟩ := h
  obtain ⟨u, rfl, ru⟩ := vals1 r
  obtain ⟨as, rd⟩ := Dp.reads I d x u hd ru
  have hn := PyData.noDict_hsm (as := as) (PyData.hasDict_of_canLay d hc)
  have fin : ∀ h' t tk, (∀ b o, s.heap.get? b = some o → h'.get? b = some o) → EP X pins σ Q (.str d.shown t) { s with heap := h', toks := tk } := fun h' t tk hk => ⟨.str _, H, I.kept hk, ⟨_, rfl⟩, q⟩
  cases rd with
  | none => exact PySem.P.repr_of_none (fin _ _ _ fun _ _ e => e)
  | bool => exact PySem.P.repr_of_bool (fin _ _ _ fun _ _ e => e)
  | int => 
    refine PySem.P.repr_of_int ?_ (fin _ _ _ fun _ _ e => e)
    simpa [PyData.showable] using hs
  | str => exact PySem.P.repr_of_str (fin _ _ _ fun _ _ e => e) hz
  | list h1 h2 h3 h4 => exact repr_of_reads' (.list h1 h2 h3 h4) hs hn hg (by omega) (fun _ _ e => e) fin hz
  | tuple h1 h2 h3 h4 => exact repr_of_reads' (.tuple h1 h2 h3 h4) hs hn hg (by omega) (fun _ _ e => e) fin hz
  | dict h1 h2 h3 h4 h5 => exact repr_of_reads' (.dict h1 h2 h3 h4 h5) hs hn hg (by omega) (fun _ _ e => e) fin hz
/-- str(x): a text as it is, else as repr -/
def strD : PyData → Str
  | .str x => x
  | d => d.shown
mutual
/-- small data, at most n deep: what repr can show -/
def T.sm : Nat → T → Bool
  | _, .non => true
  | _, .bl _ => true
  | _, .int i => decide (i.natAbs < 10 ^ 12)
  | _, .str x => PyData.strOk x
  | n + 1, .lst xs => T.sms n xs
  | n + 1, .tup xs => T.sms n xs
  | _, _ => false
def T.sms : Nat → List T → Bool
  | _, [] => true
  | n, x :: r => T.sm n x && T.sms n r
end
theorem sms_all : ∀ (n : Nat) (xs : List T), T.sms n xs = xs.all (T.sm n)
  | n, [] => by unfold T.sms; rfl
  | n, x :: r => by unfold T.sms; rw [sms_all n r, List.all_cons]
theorem log_small {i : Nat} (h : i < 10 ^ 12) : i.log2 < 1920 := by
  by_cases h0 : i = 0
  · subst h0; decide
  · have : i.log2 < 40 := (Nat.log2_lt h0).mpr (Nat.lt_of_lt_of_le h (by decide))
    omega
theorem strOk_lt {x : Str} (h : PyData.strOk x = true) : (x.cps.toList.all fun c => decide (c < 16 ^ 8)) = true := by
  unfold PyData.strOk at h
  rw [List.all_eq_true]
  intro c hc
  have := Array.all_eq_true'.mp h c (by simpa using hc)
  have h2 : c < 0x110000 := by simpa using this
  exact decide_eq_true (Nat.lt_trans h2 (by decide))
mutual
theorem sm_ok : ∀ (n : Nat) (t : T), T.sm n t = true → T.ok n t = true ∧ t.py.showable = true ∧ t.py.leavesShort 13 = true
  | n, .non, _ => by unfold T.py T.ok; exact ⟨rfl, rfl, rfl⟩
  | n, .bl _, _ => by unfold T.py T.ok; exact ⟨rfl, rfl, rfl⟩
  | n, .int i, h => by
    unfold T.sm at h
    have h := of_decide_eq_true h
    unfold T.py T.ok
    refine ⟨rfl, ?_, ?_⟩
    · simp only [PyData.showable, decide_eq_true_eq]; exact log_small h
    · have e : (PyData.shown (.int i)).length ≤ 13 := by
        simp only [PyData.shown]
        have := int_text_length_le10 (k := 12) (by decide) h
        rw [ofString_length]
        exact this
      simp only [PyData.leavesShort]
      exact decide_eq_true e
  | n, .str x, h => by
    unfold T.sm at h
    unfold T.py T.ok
    refine ⟨h, by simp only [PyData.showable], ?_⟩
    simp only [PyData.leavesShort]
    exact strOk_lt h
  | n + 1, .lst xs, h => by
    unfold T.sm at h
    obtain ⟨a, b, c⟩ := sms_ok n xs h
    unfold T.py T.ok
    exact ⟨a, by simp only [PyData.showable]; exact b, by simp only [PyData.leavesShort]; exact c⟩
  | n + 1, .tup xs, h => by
    unfold T.sm at h
    obtain ⟨a, b, c⟩ := sms_ok n xs h
    unfold T.py T.ok
    exact ⟨a, by simp only [PyData.showable]; exact b, by simp only [PyData.leavesShort]; exact c⟩
  | 0, .lst _, h => by unfold T.sm at h; cases h
  | 0, .tup _, h => by unfold T.sm at h; cases h
  | n, .scr _, h => by unfold T.sm at h; cases h
  | n, .ref _, h => by unfold T.sm at h; cases h
  | n, .ty _, h => by unfold T.sm at h; cases h
theorem sms_ok : ∀ (n : Nat) (xs : List T), T.sms n xs = true → T.oks n xs = true ∧ PyData.showableAll (T.pys xs) = true ∧ PyData.leavesShortAll 13 (T.pys xs) = true
  | n, [], _ => by unfold T.pys T.oks; exact ⟨rfl, rfl, rfl⟩
  | n, x :: r, h => by
    unfold T.sms at h
    rw [Bool.and_eq_true] at h
    obtain ⟨a, b, c⟩ := sm_ok n x h.1
    obtain ⟨d, e, f⟩ := sms_ok n r h.2
    unfold T.pys T.oks
    simp only [PyData.showableAll, PyData.leavesShortAll]
    exact ⟨by rw [a, d]; rfl, by rw [b, e]; rfl, by rw [c, f]; rfl⟩
end
/-- how heavy -/
def T.wt (t : T) : Nat := t.py.weight
def wts (ts : List T) : Nat := PyData.weightAll (T.pys ts)
theorem wt_int {i : Int} (h : i.natAbs < 10 ^ 12) : (T.int i).wt ≤ 40 := by
  unfold T.wt T.py
  simp only [PyData.weight]
  split
  · exact Nat.zero_le _
  · rename_i hi
    have h0 : i.natAbs ≠ 0 := fun e => hi (by simpa using Int.natAbs_eq_zero.mp e)
    have : i.natAbs.log2 < 40 := (Nat.log2_lt h0).mpr (Nat.lt_of_lt_of_le h (by decide))
    omega
theorem wt_lst (ts : List T) : (T.lst ts).wt = wts ts := by unfold T.wt T.py; simp only [PyData.weight]; rfl
theorem wt_tup (ts : List T) : (T.tup ts).wt = wts ts := by unfold T.wt T.py; simp only [PyData.weight]; rfl
theorem wts_nil : wts [] = 0 := by unfold wts T.pys; rfl
theorem wts_cons (t : T) (ts : List T) : wts (t :: ts) = t.wt + 1 + wts ts := by unfold wts T.wt; simp only [T.pys, PyData.weightAll]
/-- data by a place -/
def datV (s : ST) (x : SV) : Option T := datF 5 s x
theorem datV_d (s : ST) (t : T) : datV s (.d t) = some t := rfl
theorem datV_l (s : ST) (n : Nat) : datV s (.l n) = match s[n]? with
    | some (.lst xs) => some (.lst xs)
    | some (.tp xs) => (optT (datF 4 s) xs).map T.tup
    | some (.ll xs) => (optT (datF 4 s) xs).map T.lst
    | _ => none := rfl
def T.rep (t : T) : Str := t.py.shown
def reprG : ARC := fun xs s Q => match xs with
  | [x] => ∃ t, datV s x = some t ∧ T.sm 60 t = true ∧ t.wt ≤ 2 ^ 20 ∧ Q (.d (.str t.rep)) s
  | _ => False
def strG : ARC := fun xs s Q => match xs with
  | [x] => ∃ t, datV s x = some t ∧ T.sm 60 t = true ∧ t.wt ≤ 2 ^ 20 ∧ Q (.d (.str (strD t.py))) s
  | _ => False
section
variable {K : Fr} {M : MP}
theorem dat_py {s : ST} {x : SV} {t : T} (h : datV s x = some t) : pyV s x = some t.py := by
  unfold pyV
  unfold datV at h
  rw [h]; rfl
theorem lr_repr : LiftC K M (rRepr K) reprG := by
  intro H B φ s x sx Q re rx h Q' f
  unfold reprG at h
  split at h
  · obtain ⟨v, rfl, r⟩ := rsall1 rx
    obtain ⟨t, h1, h2, h3, q⟩ := h
    obtain ⟨c1, c2, c3⟩ := sm_ok 60 t h2
    obtain ⟨d1, d2⟩ := ok_py 60 t c1
    exact ⟨v, t.py, rfl, py_of re r (dat_py h1) (shaped_ok c1), d1, c2, d2, PyData.shown_fits (B := 13) (by decide) (by decide) c3 h3, f.str re q⟩
  · exact h.elim
end
section
variable {X : Cx} {M : MP} {e : Expr} {pos p : Pos}
theorem ae_repr {t : ATA} (hgd : X.A.guards = some []) (hu : X.A.units + 64 < cLine) (hm : X.mg "repr" = none) (ha : AA X M [e] t) (hg : Gl X "repr" := by rfl) (he : starEach [e] X.env = (false, eval e X.env) :: starEach [] X.env := by rfl) :
    AE X M (.Call (.Name "repr" p) [e] [] pos) (aCall reprG t) := ae_callB (cr_repr hgd hu) lr_repr hg hm (by decide +kernel) ha (he := he)
end
end Lv

/-! Lv18: a, b, c = x, y, z. -/
namespace Lv
open PySem L2 LvI
theorem rsall3 {K : Fr} {B : Hp} {φ : Fi} {vs : List V} {x y z : SV} (h : RsAll K B φ vs [x, y, z]) : ∃ u v w, vs = [u, v, w] ∧ Rs K B φ u x ∧ Rs K B φ v y ∧ Rs K B φ w z := by
  cases h with
  | cons r t =>
    obtain ⟨v, w, rfl, r2, r3⟩ := rsall2 t
    exact ⟨_, _, _, rfl, r, r2, r3⟩
def pPar3 (i j l : Nat) (t : ATA) : ATS := fun A δ s => t δ s fun xs s1 => match xs with
  | [x, y, z] => A.nx (((δ.set i (some x)).set j (some y)).set l (some z)) s1
  | _ => False
section
variable {X : Cx} {M : MP} {pos : Pos}
theorem ap_par3 {i j l : Nat} {x y z : Str} {a b c : Expr} {ta : ATA} {px py pz pt : Pos} {kt k2 pt2} (ha : AA X M [a, b, c] ta)
    (h : ∀ {T : TA}, PA X [a, b, c] T → PS X (.Assign [.Tuple [.Name x px, .Name y py, .Name z pz] kt pt] (.Tuple [a, b, c] k2 pt2) pos) (tPar3 i j l T)) :
    AP X M (.Assign [.Tuple [.Name x px, .Name y py, .Name z pz] kt pt] (.Tuple [a, b, c] k2 pt2) pos) (pPar3 i j l ta) :=
  ⟨_, h ha.pa, fun H B φ σ δ s A re sl q D f => uA_lift (t := ta) H B φ σ δ s _ re sl q _ fun H1 B1 φ1 s1 v x g1 re1 r1 q1 => by
    dsimp only at q1
    split at q1
    · obtain ⟨u, v, w, rfl, r, r2, r3⟩ := rsall3 r1
      exact ⟨_, _, _, rfl, f.nx _ _ _ _ _ _ g1 re1 ((((sl.mono g1).set i r).set j r2).set l r3) q1⟩
    · exact q1.elim⟩
end
end Lv

/-! Kq: keeping the most asks, leg by leg; plain lists. -/
namespace Kq
def hasL (p : Nat × Nat) (i : Nat) : Bool := decide (p.1 ≤ i ∧ i < p.2)
/-- places in order of ends, then of places -/
def lexN (a b : Nat × Nat) : Bool := decide (a.1 < b.1 ∨ (a.1 = b.1 ∧ a.2 ≤ b.2))
theorem lex_total (a b : Nat × Nat) : (lexN a b || lexN b a) = true := by
  unfold lexN
  rw [Bool.or_eq_true, decide_eq_true_eq, decide_eq_true_eq]
  omega
theorem lex_trans (a b c : Nat × Nat) (h : lexN a b = true) (h2 : lexN b c = true) : lexN a c = true := by
  unfold lexN at *
  rw [decide_eq_true_eq] at *
  omega
theorem lex_anti {a b : Nat × Nat} (h : lexN a b = true) (h2 : lexN b a = true) : a = b := by
  unfold lexN at *
  rw [decide_eq_true_eq] at *
  exact Prod.ext (by omega) (by omega)
theorem srt_pw (l : List (Nat × Nat)) : (l.mergeSort lexN).Pairwise fun a b => lexN a b = true := List.pairwise_mergeSort lex_trans lex_total l
def askAt (as : List (Nat × Nat)) (p : Nat) : Nat × Nat := as[p]?.getD (0, 0)
def hereL (as : List (Nat × Nat)) (i : Nat) (kept : List Nat) : List Nat := kept.filter fun p => hasL (askAt as p) i
def srtL (as : List (Nat × Nat)) (i : Nat) (kept : List Nat) : List (Nat × Nat) := ((hereL as i kept).map fun p => ((askAt as p).2, p)).mergeSort lexN
def leftL (as : List (Nat × Nat)) (i m : Nat) (kept : List Nat) : List Nat := ((srtL as i kept).drop m).map Prod.snd
def stepK (as : List (Nat × Nat)) (i m : Nat) (kept : List Nat) : List Nat := kept.filter fun p => !(leftL as i m kept).contains p
def keptN (as : List (Nat × Nat)) (room : List Nat) : Nat → List Nat
  | 0 => List.range as.length
  | n + 1 => stepK as n (room[n]?.getD 0) (keptN as room n)
theorem keptN_lt (as : List (Nat × Nat)) (room : List Nat) : ∀ n, ∀ p ∈ keptN as room n, p < as.length
  | 0, p, h => List.mem_range.mp h
  | n + 1, p, h => keptN_lt as room n p (List.mem_filter.mp h).1
theorem keptN_len (as : List (Nat × Nat)) (room : List Nat) : ∀ n, (keptN as room n).length ≤ as.length
  | 0 => by show (List.range _).length ≤ _; rw [List.length_range]; exact Nat.le_refl _
  | n + 1 => Nat.le_trans (List.length_filter_le _ _) (keptN_len as room n)
theorem keptN_pw (as : List (Nat × Nat)) (room : List Nat) : ∀ n, (keptN as room n).Pairwise (· < ·)
  | 0 => List.pairwise_lt_range
  | n + 1 => List.Pairwise.filter _ (keptN_pw as room n)
theorem keptN_nd (as : List (Nat × Nat)) (room : List Nat) (n : Nat) : (keptN as room n).Nodup := (keptN_pw as room n).imp fun h => Nat.ne_of_lt h
theorem keptN_sub (as : List (Nat × Nat)) (room : List Nat) : ∀ n, (keptN as room n).Sublist (List.range as.length)
  | 0 => List.Sublist.refl _
  | n + 1 => (List.filter_sublist).trans (keptN_sub as room n)
section
variable {as : List (Nat × Nat)} {i m : Nat} {kept : List Nat}
theorem srt_perm : (srtL as i kept).Perm ((hereL as i kept).map fun p => ((askAt as p).2, p)) := List.mergeSort_perm _ _
theorem srt_snd : ((srtL as i kept).map Prod.snd).Perm (hereL as i kept) := by
  have := (srt_perm (as := as) (i := i) (kept := kept)).map Prod.snd
  rw [List.map_map] at this
  have e : (Prod.snd ∘ fun p => ((askAt as p).2, p)) = (id : Nat → Nat) := rfl
  rw [e, List.map_id] at this
  exact this
theorem srt_len : (srtL as i kept).length = (hereL as i kept).length := by
  have := (srt_snd (as := as) (i := i) (kept := kept)).length_eq
  rwa [List.length_map] at this
theorem srt_key {q : Nat × Nat} (h : q ∈ srtL as i kept) : q.1 = (askAt as q.2).2 ∧ q.2 ∈ kept ∧ hasL (askAt as q.2) i = true := by
  obtain ⟨p, hp, rfl⟩ := List.mem_map.mp (srt_perm.mem_iff.mp h)
  exact ⟨rfl, (List.mem_filter.mp hp).1, (List.mem_filter.mp hp).2⟩
theorem mem_left {p : Nat} (h : p ∈ leftL as i m kept) : p ∈ kept ∧ hasL (askAt as p) i = true := by
  obtain ⟨q, hq, rfl⟩ := List.mem_map.mp h
  exact (srt_key (List.mem_of_mem_drop hq)).2
/-- what lies on leg i behind the step -/
theorem step_here (hk : kept.Nodup) : (hereL as i (stepK as i m kept)).Perm (((srtL as i kept).take m).map Prod.snd) := by
  have e1 : hereL as i (stepK as i m kept) = (hereL as i kept).filter fun p => !(leftL as i m kept).contains p := by
    unfold hereL stepK
    rw [List.filter_filter, List.filter_filter]
    exact List.filter_congr fun p _ => Bool.and_comm _ _
  have hS : ((srtL as i kept).map Prod.snd).Nodup := (srt_snd.nodup_iff).mpr (hk.filter _)
  have e2 : (srtL as i kept).map Prod.snd = ((srtL as i kept).take m).map Prod.snd ++ leftL as i m kept := by
    unfold leftL
    rw [← List.map_append, List.take_append_drop]
  rw [e1]
  refine (srt_snd.symm.filter _).trans ?_
  rw [e2] at hS ⊢
  obtain ⟨n1, n2, n3⟩ := List.nodup_append.mp hS
  rw [List.filter_append, List.filter_eq_self.mpr fun a ha => ?_, List.filter_eq_nil_iff.mpr fun a ha => ?_, List.append_nil]
  · simp only [Bool.not_eq_true', Bool.not_eq_false]
    exact List.contains_iff_mem.mpr ha
  · rw [Bool.not_eq_true']
    cases h : (leftL as i m kept).contains a with
    | false => rfl
    | true => exact absurd rfl (n3 a ha a (List.contains_iff_mem.mp h))
theorem step_len (hk : kept.Nodup) : (hereL as i (stepK as i m kept)).length = min m (hereL as i kept).length := by
  rw [(step_here hk).length_eq, List.length_map, List.length_take, srt_len]
/-- who is left ends last -/
theorem left_last (hk : kept.Nodup) {p : Nat} (h : p ∈ leftL as i m kept) : (hereL as i (stepK as i m kept)).length = m ∧ ∀ q ∈ hereL as i (stepK as i m kept), (askAt as q).2 ≤ (askAt as p).2 := by
  obtain ⟨x, hx, rfl⟩ := List.mem_map.mp h
  have hl : m < (srtL as i kept).length := by
    have : 0 < ((srtL as i kept).drop m).length := List.length_pos_of_mem hx
    rw [List.length_drop] at this
    omega
  refine ⟨by rw [step_len hk, ← srt_len]; omega, fun q hq => ?_⟩
  obtain ⟨y, hy, rfl⟩ := List.mem_map.mp ((step_here hk).mem_iff.mp hq)
  have pw := srt_pw ((hereL as i kept).map fun p => ((askAt as p).2, p))
  have pw : (srtL as i kept).Pairwise fun a b => lexN a b = true := pw
  rw [← List.take_append_drop m (srtL as i kept)] at pw
  have := (List.pairwise_append.mp pw).2.2 y hy x hx
  rw [← (srt_key (List.mem_of_mem_drop hx)).1, ← (srt_key (List.mem_of_mem_take hy)).1]
  unfold lexN at this
  rw [decide_eq_true_eq] at this
  omega
end
section
variable {as : List (Nat × Nat)} {room : List Nat}
abbrev rm (room : List Nat) (j : Nat) : Nat := room[j]?.getD 0
theorem kept_anti : ∀ {n m : Nat}, n ≤ m → ∀ {p}, p ∈ keptN as room m → p ∈ keptN as room n := by
  intro n m h
  induction h with
  | refl => exact fun h => h
  | step _ ih => exact fun h => ih (List.mem_filter.mp h).1
theorem kept_here {n p : Nat} (h : p ∈ keptN as room n) (h2 : hasL (askAt as p) n = false) : p ∈ keptN as room (n + 1) := by
  refine List.mem_filter.mpr ⟨h, ?_⟩
  rw [Bool.not_eq_true']
  cases hc : (leftL as n (rm room n) (keptN as room n)).contains p with
  | false => rfl
  | true => rw [(mem_left (List.contains_iff_mem.mp hc)).2] at h2; cases h2
/-- who ends stays -/
theorem kept_end {n m p : Nat} (hnm : n ≤ m) (h : p ∈ keptN as room n) (he : (askAt as p).2 ≤ n) : p ∈ keptN as room m := by
  induction hnm with
  | refl => exact h
  | @step k hk ih => exact kept_here ih (by have hk : n ≤ k := hk; unfold hasL; rw [decide_eq_false_iff_not]; omega)
/-- who begins later is there -/
theorem kept_new {p : Nat} (hp : p < as.length) : ∀ {n : Nat}, n ≤ (askAt as p).1 → p ∈ keptN as room n
  | 0, _ => List.mem_range.mpr hp
  | n + 1, h => kept_here (kept_new hp (n := n) (by omega)) (by unfold hasL; rw [decide_eq_false_iff_not]; omega)
/-- no more on a leg than its room -/
theorem kept_room {j n : Nat} (h : j < n) : (hereL as j (keptN as room n)).length ≤ rm room j := by
  induction n with
  | zero => omega
  | succ n ih =>
    by_cases e : j = n
    · subst e
      show (hereL as j (stepK as j (rm room j) (keptN as room j))).length ≤ _
      rw [step_len (keptN_nd as room j)]
      exact Nat.min_le_left _ _
    · refine Nat.le_trans ?_ (ih (by omega))
      exact List.Sublist.length_le (List.Sublist.filter _ List.filter_sublist)
end
/-! ### counting -/
theorem cp_split {α : Type} (l : List α) (P Q : α → Bool) : l.countP P = l.countP (fun a => P a && Q a) + l.countP (fun a => P a && !Q a) := by
  induction l with
  | nil => rfl
  | cons a r ih =>
    rw [List.countP_cons, List.countP_cons, List.countP_cons, ih]
    cases P a <;> cases Q a <;> simp <;> omega
theorem cp_congr {α : Type} {l : List α} {P Q : α → Bool} (h : ∀ a ∈ l, P a = Q a) : l.countP P = l.countP Q := List.countP_congr fun a ha => by rw [h a ha]
/-- misses all legs of J -/
def miss (J : List Nat) (a : Nat × Nat) : Bool := !(J.any fun j => hasL a j)
theorem miss_app (J : List Nat) (k : Nat) (a : Nat × Nat) : miss (J ++ [k]) a = (miss J a && !hasL a k) := by
  unfold miss
  rw [List.any_append]
  simp
theorem miss_lt {J : List Nat} {a : Nat × Nat} (h : ∀ j ∈ J, j < a.1) : miss J a = true := by
  unfold miss
  rw [Bool.not_eq_true', List.any_eq_false]
  intro j hj
  have := h j hj
  unfold hasL
  rw [decide_eq_true_eq]
  omega
def sumJ (room : List Nat) (J : List Nat) : Nat := (J.map (rm room)).sum
section
variable {as : List (Nat × Nat)} {room : List Nat}
abbrev inK (as : List (Nat × Nat)) (room : List Nat) (n p : Nat) : Bool := (keptN as room n).contains p
theorem kept_filter (n : Nat) : keptN as room n = (List.range as.length).filter (inK as room n) := by
  have key : ∀ (l s : List Nat), s.Sublist l → l.Nodup → s = l.filter fun p => s.contains p := by
    intro l s h
    induction h with
    | slnil => intro _; rfl
    | @cons l1 l2 a h ih =>
      intro hn
      obtain ⟨h1, h2⟩ := List.nodup_cons.mp hn
      rw [List.filter_cons, if_neg]
      · exact ih h2
      · intro hc
        exact h1 (h.subset (List.contains_iff_mem.mp hc))
    | @cons_cons l1 l2 a h ih =>
      intro hn
      obtain ⟨h1, h2⟩ := List.nodup_cons.mp hn
      rw [List.filter_cons, if_pos (by rw [List.contains_cons]; simp)]
      congr 1
      rw [ih h2]
      refine List.filter_congr fun p hp => ?_
      rw [← ih h2, List.contains_cons]
      have : (p == a) = false := by
        rw [beq_eq_false_iff_ne]
        rintro rfl
        exact h1 hp
      rw [this, Bool.false_or]
  exact key _ _ (keptN_sub as room n) List.nodup_range
theorem inK_iff {n p : Nat} : inK as room n p = true ↔ p ∈ keptN as room n := List.contains_iff_mem
/-- the count of who ends by n -/
abbrev U (as : List (Nat × Nat)) := List.range as.length
theorem dual_aux (hp : ∀ p, p < as.length → (askAt as p).1 < (askAt as p).2) : ∀ n : Nat, ∃ J : List Nat, J.Pairwise (· < ·) ∧ (∀ j ∈ J, j < n) ∧
    (U as).countP (fun p => inK as room n p && decide ((askAt as p).2 ≤ n)) = sumJ room J + (U as).countP fun p => decide ((askAt as p).2 ≤ n) && miss J (askAt as p) := by
  intro n
  induction n using Nat.strongRecOn with
  | _ n IH =>
    have go : ∀ k, k ≤ n → (∀ p, p < as.length → (askAt as p).2 ≤ n → p ∈ keptN as room k → p ∈ keptN as room n) → ∃ J : List Nat, J.Pairwise (· < ·) ∧ (∀ j ∈ J, j < n) ∧
        (U as).countP (fun p => inK as room n p && decide ((askAt as p).2 ≤ n)) = sumJ room J + (U as).countP fun p => decide ((askAt as p).2 ≤ n) && miss J (askAt as p) := by
      intro k
      induction k with
      | zero =>
        intro _ h
        refine ⟨[], List.Pairwise.nil, fun j hj => (nomatch hj), ?_⟩
        rw [show sumJ room [] = 0 from rfl, Nat.zero_add]
        refine cp_congr fun p hpl => ?_
        have hpl := List.mem_range.mp hpl
        rw [show miss [] (askAt as p) = true from rfl, Bool.and_true]
        by_cases he : (askAt as p).2 ≤ n
        · rw [show inK as room n p = true from inK_iff.mpr (h p hpl he (List.mem_range.mpr hpl)), Bool.true_and]
        · rw [decide_eq_false he, Bool.and_false]
      | succ k ih =>
        intro hk h
        by_cases hd : ∃ p0, p0 < as.length ∧ (askAt as p0).2 ≤ n ∧ p0 ∈ keptN as room k ∧ p0 ∉ keptN as room (k + 1)
        · obtain ⟨p0, h1, h2, h3, h4⟩ := hd
          have hl : p0 ∈ leftL as k (rm room k) (keptN as room k) := by
            refine List.contains_iff_mem.mp ?_
            cases hc : (leftL as k (rm room k) (keptN as room k)).contains p0 with
            | true => rfl
            | false => exact absurd (List.mem_filter.mpr ⟨h3, by rw [show (leftL as k (room[k]?.getD 0) (keptN as room k)).contains p0 = false from hc]; rfl⟩) h4
          obtain ⟨hlen, hlast⟩ := left_last (keptN_nd as room k) hl
          obtain ⟨J, hJ1, hJ2, hJ3⟩ := IH k (by omega)
          refine ⟨J ++ [k], ?_, ?_, ?_⟩
          · refine List.pairwise_append.mpr ⟨hJ1, List.pairwise_singleton _ _, fun a ha b hb => ?_⟩
            rw [List.mem_singleton.mp hb]; exact hJ2 a ha
          · intro j hj
            rcases List.mem_append.mp hj with hj | hj
            · have := hJ2 j hj; omega
            · rw [List.mem_singleton.mp hj]; omega
          · have hs : sumJ room (J ++ [k]) = sumJ room J + rm room k := by
              unfold sumJ
              rw [List.map_append, List.sum_append]; simp
            rw [hs]
            -- left side
            rw [cp_split _ _ (fun p => decide ((askAt as p).2 ≤ k)), cp_split _ (fun p => (inK as room n p && decide ((askAt as p).2 ≤ n)) && !decide ((askAt as p).2 ≤ k)) (fun p => hasL (askAt as p) k)]
            rw [cp_split _ (fun p => decide ((askAt as p).2 ≤ n) && miss (J ++ [k]) (askAt as p)) (fun p => decide ((askAt as p).2 ≤ k))]
            have c1 : (U as).countP (fun p => (inK as room n p && decide ((askAt as p).2 ≤ n)) && decide ((askAt as p).2 ≤ k)) = (U as).countP (fun p => inK as room k p && decide ((askAt as p).2 ≤ k)) := by
              refine cp_congr fun p hpl => ?_
              by_cases he : (askAt as p).2 ≤ k
              · rw [decide_eq_true he, decide_eq_true (show (askAt as p).2 ≤ n by omega), Bool.and_true, Bool.and_true, Bool.and_true]
                rw [Bool.eq_iff_iff, inK_iff, inK_iff]
                exact ⟨kept_anti (by omega), fun h => kept_end (by omega) h he⟩
              · rw [decide_eq_false he, Bool.and_false, Bool.and_false]
            have c2 : (U as).countP (fun p => ((inK as room n p && decide ((askAt as p).2 ≤ n)) && !decide ((askAt as p).2 ≤ k)) && hasL (askAt as p) k) = rm room k := by
              rw [← hlen]
              have e : hereL as k (stepK as k (rm room k) (keptN as room k)) = (U as).filter (fun p => hasL (askAt as p) k && inK as room (k + 1) p) := by
                show hereL as k (keptN as room (k + 1)) = _
                unfold hereL
                conv => lhs; rw [kept_filter (k + 1)]
                rw [List.filter_filter]
              rw [e, ← List.countP_eq_length_filter]
              refine cp_congr fun p hpl => ?_
              have hpl := List.mem_range.mp hpl
              by_cases hh : hasL (askAt as p) k = true
              · have hh2 := hh
                unfold hasL at hh2
                rw [decide_eq_true_eq] at hh2
                rw [hh, Bool.and_true, Bool.true_and, decide_eq_false (show ¬ (askAt as p).2 ≤ k by omega), Bool.not_false, Bool.and_true]
                rw [Bool.eq_iff_iff, Bool.and_eq_true, inK_iff, inK_iff, decide_eq_true_eq]
                constructor
                · rintro ⟨a, _⟩
                  exact kept_anti (by omega) a
                · intro a
                  have hle : (askAt as p).2 ≤ n := by
                    have := hlast p (List.mem_filter.mpr ⟨a, hh⟩)
                    omega
                  exact ⟨h p hpl hle a, hle⟩
              · rw [Bool.not_eq_true] at hh
                rw [hh, Bool.and_false, Bool.false_and]
            have c3 : (U as).countP (fun p => ((inK as room n p && decide ((askAt as p).2 ≤ n)) && !decide ((askAt as p).2 ≤ k)) && !hasL (askAt as p) k) = (U as).countP (fun p => (decide ((askAt as p).2 ≤ n) && miss (J ++ [k]) (askAt as p)) && !decide ((askAt as p).2 ≤ k)) := by
              refine cp_congr fun p hpl => ?_
              have hpl := List.mem_range.mp hpl
              have hpp := hp p hpl
              rw [miss_app]
              by_cases he : (askAt as p).2 ≤ k
              · rw [decide_eq_true he]; simp
              · by_cases hh : hasL (askAt as p) k = true
                · rw [hh]; simp
                · have hb : k < (askAt as p).1 := by
                    unfold hasL at hh
                    rw [decide_eq_true_eq] at hh
                    omega
                  rw [Bool.not_eq_true] at hh
                  rw [hh, decide_eq_false he, miss_lt fun j hj => by have := hJ2 j hj; omega]
                  by_cases hn : (askAt as p).2 ≤ n
                  · rw [decide_eq_true hn, show inK as room n p = true from inK_iff.mpr (h p hpl hn (kept_new hpl (by omega)))]; rfl
                  · rw [decide_eq_false hn]; simp
            have c4 : (U as).countP (fun p => (decide ((askAt as p).2 ≤ n) && miss (J ++ [k]) (askAt as p)) && decide ((askAt as p).2 ≤ k)) = (U as).countP (fun p => decide ((askAt as p).2 ≤ k) && miss J (askAt as p)) := by
              refine cp_congr fun p hpl => ?_
              rw [miss_app]
              by_cases he : (askAt as p).2 ≤ k
              · rw [decide_eq_true he, decide_eq_true (show (askAt as p).2 ≤ n by omega), show hasL (askAt as p) k = false by unfold hasL; rw [decide_eq_false_iff_not]; omega]; simp
              · rw [decide_eq_false he]; simp
            rw [c1, c2, c3, c4, hJ3]
            omega
        · refine ih (by omega) fun p hpl he hk' => h p hpl he ?_
          exact Decidable.byContradiction fun hn => hd ⟨p, hpl, he, hk', hn⟩
    exact go n (Nat.le_refl n) fun p _ _ h => h
end
/-! ### asks themselves -/
theorem askAt_map (as : List (Nat × Nat)) : (List.range as.length).map (askAt as) = as := by
  refine List.ext_getElem? fun i => ?_
  rw [List.getElem?_map]
  by_cases h : i < as.length
  · rw [List.getElem?_range h]
    show some (askAt as i) = _
    unfold askAt
    rw [List.getElem?_eq_getElem h]; rfl
  · rw [List.getElem?_eq_none (by rw [List.length_range]; omega), List.getElem?_eq_none (by omega)]; rfl
theorem cp_asks (as : List (Nat × Nat)) (f : Nat × Nat → Bool) : (List.range as.length).countP (fun p => f (askAt as p)) = as.countP f := by
  have := List.countP_map (p := f) (f := askAt as) (l := List.range as.length)
  rw [askAt_map] at this
  exact this.symm
/-- how many asks have leg i -/
def cntL (as : List (Nat × Nat)) (i : Nat) : Nat := as.countP fun p => hasL p i
def keptA (as : List (Nat × Nat)) (room : List Nat) : List (Nat × Nat) := (keptN as room room.length).map (askAt as)
theorem keptA_sub (as : List (Nat × Nat)) (room : List Nat) : (keptA as room).Sublist as := by
  have := (keptN_sub as room room.length).map (askAt as)
  rwa [askAt_map] at this
theorem keptA_len (as : List (Nat × Nat)) (room : List Nat) : (keptA as room).length = (keptN as room room.length).length := List.length_map ..
theorem keptA_room (as : List (Nat × Nat)) (room : List Nat) {j : Nat} (h : j < room.length) : cntL (keptA as room) j ≤ rm room j := by
  have := kept_room (as := as) (room := room) h
  unfold hereL at this
  rw [← List.countP_eq_length_filter] at this
  unfold cntL keptA
  rw [List.countP_map]
  exact this
/-- the paper -/
theorem dual (as : List (Nat × Nat)) (room : List Nat) (hp : ∀ p ∈ as, p.1 < p.2 ∧ p.2 ≤ room.length) : ∃ J : List Nat, J.Pairwise (· < ·) ∧ (∀ j ∈ J, j < room.length) ∧ (keptA as room).length = sumJ room J + as.countP (miss J) := by
  have hp' : ∀ p, p < as.length → askAt as p ∈ as := fun p h => by
    unfold askAt
    rw [List.getElem?_eq_getElem h]
    exact List.getElem_mem h
  obtain ⟨J, h1, h2, h3⟩ := dual_aux (as := as) (room := room) (fun p h => (hp _ (hp' p h)).1) room.length
  refine ⟨J, h1, h2, ?_⟩
  rw [keptA_len, kept_filter, ← List.countP_eq_length_filter, ← cp_asks]
  rw [cp_congr (Q := fun p => inK as room room.length p && decide ((askAt as p).2 ≤ room.length)) fun p hpl => ?_, h3]
  · congr 1
    refine cp_congr fun p hpl => ?_
    rw [decide_eq_true (hp _ (hp' p (List.mem_range.mp hpl))).2, Bool.true_and]
  · rw [decide_eq_true (hp _ (hp' p (List.mem_range.mp hpl))).2, Bool.and_true]
/-- no choice is greater than a paper -/
theorem weak {as ks : List (Nat × Nat)} {room J : List Nat} (hs : ks.Sublist as) (hr : ∀ j ∈ J, cntL ks j ≤ rm room j) : ks.length ≤ sumJ room J + as.countP (miss J) := by
  have h1 : ks.length = ks.countP (miss J) + ks.countP (fun a => !miss J a) := by
    have := cp_split ks (fun _ => true) (miss J)
    simpa using this
  have h2 : ks.countP (miss J) ≤ as.countP (miss J) := hs.countP_le
  have h3 : ks.countP (fun a => !miss J a) ≤ sumJ room J := by
    clear h1 h2
    induction J with
    | nil => simp [miss]
    | cons j J ih =>
      have e : sumJ room (j :: J) = rm room j + sumJ room J := by unfold sumJ; simp
      rw [e]
      have := cp_split ks (fun a => !miss (j :: J) a) (fun a => hasL a j)
      have a1 : ks.countP (fun a => !miss (j :: J) a && hasL a j) ≤ cntL ks j := List.countP_mono_left fun a _ h => by
        rw [Bool.and_eq_true] at h; exact h.2
      have a2 : ks.countP (fun a => !miss (j :: J) a && !hasL a j) ≤ ks.countP (fun a => !miss J a) := List.countP_mono_left fun a _ h => by
        unfold miss at *
        rw [List.any_cons] at h
        cases h1 : hasL a j <;> simp_all
      have := hr j List.mem_cons_self
      have := ih fun k hk => hr k (List.mem_cons_of_mem _ hk)
      omega
  omega
theorem sumJ_le (as : List (Nat × Nat)) (room : List Nat) (hp : ∀ p ∈ as, p.1 < p.2 ∧ p.2 ≤ room.length) {J : List Nat} (hJ : ∀ j ∈ J, j < room.length) : (keptA as room).length ≤ sumJ room J + as.countP (miss J) :=
  weak (keptA_sub as room) fun j hj => keptA_room as room (hJ j hj)
/-- the last of the first n of a sorted list is the greatest of them -/
theorem top_of {S : List (Nat × Nat)} (h : S.Pairwise fun a b => lexN a b = true) {n : Nat} (hn : n < S.length) : ∀ q ∈ S.take (n + 1), lexN q S[n] = true := by
  intro q hq
  obtain ⟨i, hi, e⟩ := List.mem_iff_getElem.mp hq
  rw [List.length_take] at hi
  rw [List.getElem_take] at e
  subst e
  by_cases hin : i = n
  · subst hin
    unfold lexN
    rw [decide_eq_true_eq]
    omega
  · exact List.pairwise_iff_getElem.mp h i n (by omega) hn (by omega)
/-- of rising places the last one of the greatest end -/
def lastN (e : Nat → Nat) : List Nat → Nat → Nat
  | [], b => b
  | p :: r, b => lastN e r (if e b ≤ e p then p else b)
theorem lastN_ok (e : Nat → Nat) : ∀ (l : List Nat) (b : Nat), (b :: l).Pairwise (· < ·) ∨ (b ∈ l.head? ∧ l.Pairwise (· < ·)) → (lastN e l b = b ∨ lastN e l b ∈ l) ∧ lexN (e b, b) (e (lastN e l b), lastN e l b) = true ∧ ∀ q ∈ l, lexN (e q, q) (e (lastN e l b), lastN e l b) = true
  | [], b, _ => ⟨.inl rfl, by unfold lastN lexN; rw [decide_eq_true_eq]; omega, fun q h => by cases h⟩
  | p :: r, b, h => by
    have hpr : (p :: r).Pairwise (· < ·) := by
      rcases h with h | h
      · exact (List.pairwise_cons.mp h).2
      · exact h.2
    have hbp : b ≤ p := by
      rcases h with h | h
      · exact Nat.le_of_lt ((List.pairwise_cons.mp h).1 p List.mem_cons_self)
      · exact Nat.le_of_eq (Option.some.inj h.1).symm
    have hbr : ∀ q ∈ r, b < q := fun q hq => Nat.lt_of_le_of_lt hbp ((List.pairwise_cons.mp hpr).1 q hq)
    unfold lastN
    by_cases hc : e b ≤ e p
    · rw [if_pos hc]
      obtain ⟨h1, h2, h3⟩ := lastN_ok e r p (.inl hpr)
      refine ⟨.inr ?_, ?_, fun q hq => ?_⟩
      · rcases h1 with h1 | h1
        · rw [h1]; exact List.mem_cons_self
        · exact List.mem_cons_of_mem _ h1
      · refine lex_trans _ _ _ ?_ h2
        unfold lexN
        rw [decide_eq_true_eq]
        show e b < e p ∨ (e b = e p ∧ b ≤ p)
        omega
      · rcases List.mem_cons.mp hq with hq | hq
        · rw [hq]; exact h2
        · exact h3 q hq
    · rw [if_neg hc]
      obtain ⟨h1, h2, h3⟩ := lastN_ok e r b (.inl (List.pairwise_cons.mpr ⟨hbr, (List.pairwise_cons.mp hpr).2⟩))
      refine ⟨?_, h2, fun q hq => ?_⟩
      · rcases h1 with h1 | h1
        · exact .inl h1
        · exact .inr (List.mem_cons_of_mem _ h1)
      · rcases List.mem_cons.mp hq with hq | hq
        · rw [hq]
          refine lex_trans _ _ _ ?_ h2
          unfold lexN
          rw [decide_eq_true_eq]
          show e p < e b ∨ (e p = e b ∧ p ≤ b)
          omega
        · exact h3 q hq
theorem lastN_snoc (e : Nat → Nat) : ∀ (l : List Nat) (b p : Nat), lastN e (l ++ [p]) b = if e (lastN e l b) ≤ e p then p else lastN e l b
  | [], b, p => rfl
  | q :: r, b, p => by
    show lastN e (r ++ [p]) _ = _
    rw [lastN_snoc e r _ p]; rfl
theorem lastN_mem (e : Nat → Nat) : ∀ (l : List Nat) (b : Nat), lastN e l b = b ∨ lastN e l b ∈ l
  | [], b => .inl rfl
  | q :: r, b => by
    show lastN e r _ = b ∨ lastN e r _ ∈ q :: r
    split
    · rcases lastN_mem e r q with h | h
      · exact .inr (by rw [h]; exact List.mem_cons_self)
      · exact .inr (List.mem_cons_of_mem _ h)
    · rcases lastN_mem e r b with h | h
      · exact .inl h
      · exact .inr (List.mem_cons_of_mem _ h)
/-- one taken away -/
theorem step_ok {e : Nat → Nat} {S : List (Nat × Nat)} (hs : S.Pairwise fun a b => lexN a b = true) {l : List Nat} (hl : l.Pairwise (· < ·)) {n : Nat} (hn : n < S.length) (hp : (l.map fun p => (e p, p)).Perm (S.take (n + 1))) {b : Nat} (hb : l.head? = some b) :
    lastN e l b ∈ l ∧ (e (lastN e l b), lastN e l b) = S[n] ∧ ((l.erase (lastN e l b)).map fun p => (e p, p)).Perm (S.take n) := by
  obtain ⟨h1, h2, h3⟩ := lastN_ok e l b (.inr ⟨hb, hl⟩)
  have hbl : b ∈ l := List.mem_of_mem_head? hb
  have hm : lastN e l b ∈ l := by
    rcases h1 with h1 | h1
    · rw [h1]; exact hbl
    · exact h1
  generalize lastN e l b = L at *
  have e1 : lexN (e L, L) S[n] = true := top_of hs hn _ (hp.mem_iff.mp (List.mem_map.mpr ⟨L, hm, rfl⟩))
  have tk : S.take (n + 1) = S.take n ++ [S[n]] := by rw [List.take_succ, List.getElem?_eq_getElem hn]; rfl
  have e2 : lexN S[n] (e L, L) = true := by
    have : S[n] ∈ S.take (n + 1) := by rw [tk]; exact List.mem_append_right _ List.mem_cons_self
    obtain ⟨q, hq, eq⟩ := List.mem_map.mp (hp.mem_iff.mpr this)
    rw [← eq]; exact h3 q hq
  have ek : (e L, L) = S[n] := lex_anti e1 e2
  refine ⟨hm, ek, ?_⟩
  have p1 : (l.map fun p => (e p, p)).Perm ((e L, L) :: (l.erase L).map fun p => (e p, p)) := (List.perm_cons_erase hm).map _
  have p2 : ((e L, L) :: (l.erase L).map fun p => (e p, p)).Perm (S[n] :: S.take n) := (p1.symm.trans hp).trans (by rw [tk]; exact List.perm_append_singleton _ _)
  rw [ek] at p2
  exact List.Perm.cons_inv p2
/-- what is kept when one more is taken away -/
theorem erase_filter {k : List Nat} (hk : k.Nodup) {R : List Nat} {L : Nat} : (k.filter fun p => !R.contains p).erase L = k.filter fun p => !(L :: R).contains p := by
  rw [List.Nodup.erase_eq_filter (hk.filter _), List.filter_filter]
  refine List.filter_congr fun p _ => ?_
  rw [List.contains_cons]
  cases h : p == L <;> cases h2 : R.contains p <;> simp_all
/-- the while of one by one: n are on the leg yet -/
structure Wl (as : List (Nat × Nat)) (z m : Nat) (kept : List Nat) (n : Nat) (h k : List Nat) : Prop where
  le : n ≤ (srtL as z kept).length
  mo : n = (srtL as z kept).length ∨ m ≤ n
  pw : h.Pairwise (· < ·)
  pm : (h.map fun p => ((askAt as p).2, p)).Perm ((srtL as z kept).take n)
  ke : k = kept.filter fun p => !(((srtL as z kept).drop n).map Prod.snd).contains p
section
variable {as : List (Nat × Nat)} {z m : Nat} {kept : List Nat} {n : Nat} {h k : List Nat}
theorem Wl.start (hp : kept.Pairwise (· < ·)) : Wl as z m kept (srtL as z kept).length (hereL as z kept) kept where
  le := Nat.le_refl _
  mo := .inl rfl
  pw := hp.filter _
  pm := by rw [List.take_length]; exact srt_perm.symm
  ke := by rw [List.drop_length]; exact (List.filter_eq_self.mpr fun a _ => rfl).symm
theorem Wl.len (w : Wl as z m kept n h k) : h.length = n := by
  have := w.pm.length_eq
  rw [List.length_map, List.length_take] at this
  have := w.le
  omega
theorem Wl.mem (w : Wl as z m kept n h k) {p : Nat} (hp : p ∈ h) : p ∈ kept := by
  have : ((askAt as p).2, p) ∈ (srtL as z kept).take n := w.pm.mem_iff.mp (List.mem_map.mpr ⟨p, hp, rfl⟩)
  exact (srt_key (List.mem_of_mem_take this)).2.1
theorem Wl.stop (w : Wl as z m kept n h k) (hn : n ≤ m) : k = stepK as z m kept := by
  rw [w.ke]
  unfold stepK leftL
  rcases w.mo with e | e
  · rw [List.drop_of_length_le (i := n) (by omega), List.drop_of_length_le (i := m) (by omega)]
  · rw [show n = m by omega]
theorem Wl.step {b : Nat} (w : Wl as z m kept (n + 1) h k) (hk : kept.Nodup) (hn : m < n + 1) (hb : h.head? = some b) : lastN (fun p => (askAt as p).2) h b ∈ h ∧ lastN (fun p => (askAt as p).2) h b ∈ k ∧
    Wl as z m kept n (h.erase (lastN (fun p => (askAt as p).2) h b)) (k.erase (lastN (fun p => (askAt as p).2) h b)) := by
  have hl : n < (srtL as z kept).length := w.le
  obtain ⟨h1, h2, h3⟩ := step_ok (e := fun p => (askAt as p).2) (srt_pw _) w.pw hl w.pm hb
  generalize lastN (fun p => (askAt as p).2) h b = L at *
  have h2 : ((askAt as L).2, L) = (srtL as z kept)[n] := h2
  have hd : ((srtL as z kept).drop n).map Prod.snd = L :: ((srtL as z kept).drop (n + 1)).map Prod.snd := by
    rw [List.drop_eq_getElem_cons hl, ← h2]; rfl
  have hS : ((srtL as z kept).map Prod.snd).Nodup := (srt_snd.nodup_iff).mpr (hk.filter _)
  have hLk : L ∈ kept := by
    have : (srtL as z kept)[n] ∈ srtL as z kept := List.getElem_mem hl
    rw [← h2] at this
    exact (srt_key this).2.1
  refine ⟨h1, ?_, Nat.le_of_lt hl, .inr (by omega), (w.pw.sublist List.erase_sublist), h3, ?_⟩
  · rw [w.ke]
    refine List.mem_filter.mpr ⟨hLk, ?_⟩
    rw [← List.take_append_drop n (srtL as z kept), List.map_append, hd] at hS
    have := (List.nodup_cons.mp (List.nodup_append.mp hS).2.1).1
    rw [Bool.not_eq_true']
    cases hc : (((srtL as z kept).drop (n + 1)).map Prod.snd).contains L with
    | false => rfl
    | true => exact absurd (List.contains_iff_mem.mp hc) this
  · rw [w.ke, erase_filter hk, hd]
end
theorem cast_erase (l : List Nat) (p : Nat) : (l.map fun i : Nat => (i : Int)).erase (p : Int) = (l.erase p).map fun i : Nat => (i : Int) := by
  induction l with
  | nil => rfl
  | cons a r ih =>
    rw [List.map_cons, List.erase_cons, List.erase_cons, ih]
    by_cases h : a = p
    · subst h; simp
    · rw [if_neg (by rw [beq_iff_eq]; omega), if_neg (by rw [beq_iff_eq]; exact h)]; rfl
end Kq

/-! Kr: the paper, by the least of all. -/
namespace Kr
open Kq
/-- how many asks lie between a and b -/
def within (as : List (Nat × Nat)) (a b : Nat) : Nat := as.countP fun p => decide (a ≤ p.1) && decide (p.2 ≤ b)
/-- what J comes to, of the asks that end by k -/
def val (as : List (Nat × Nat)) (room : List Nat) (k : Nat) (J : List Nat) : Nat := sumJ room J + as.countP fun p => decide (p.2 ≤ k) && miss J p
theorem sumJ_app (room J : List Nat) (k : Nat) : sumJ room (J ++ [k]) = sumJ room J + rm room k := by
  unfold sumJ
  rw [List.map_append, List.sum_append]; simp
/-- one leg more -/
theorem val_snoc {as : List (Nat × Nat)} {room J : List Nat} {j k : Nat} (hp : ∀ p ∈ as, p.1 < p.2) (hJ : ∀ i ∈ J, i < j) (hjk : j < k) : val as room k (J ++ [j] ++ [k]) = val as room j (J ++ [j]) + rm room k + within as (j + 1) k := by
  unfold val within
  rw [sumJ_app room (J ++ [j]) k]
  have := cp_split as (fun p => decide (p.2 ≤ k) && miss (J ++ [j] ++ [k]) p) (fun p => decide (p.2 ≤ j))
  rw [this]
  rw [cp_congr (P := fun p => (decide (p.2 ≤ k) && miss (J ++ [j] ++ [k]) p) && decide (p.2 ≤ j)) (Q := fun p => decide (p.2 ≤ j) && miss (J ++ [j]) p) fun p hm => ?_,
    cp_congr (P := fun p => (decide (p.2 ≤ k) && miss (J ++ [j] ++ [k]) p) && !decide (p.2 ≤ j)) (Q := fun p => decide (j + 1 ≤ p.1) && decide (p.2 ≤ k)) fun p hm => ?_]
  · omega
  · have := hp p hm
    rw [miss_app (J ++ [j]) k p]
    by_cases h1 : p.2 ≤ k
    · rw [decide_eq_true h1, show hasL p k = false by unfold hasL; rw [decide_eq_false_iff_not]; omega]
      by_cases h2 : p.2 ≤ j
      · rw [decide_eq_true h2, decide_eq_false (show ¬ j + 1 ≤ p.1 by omega)]; simp
      · rw [decide_eq_false h2, miss_app]
        by_cases h3 : j + 1 ≤ p.1
        · rw [decide_eq_true h3, miss_lt fun i hi => by have := hJ i hi; omega, show hasL p j = false by unfold hasL; rw [decide_eq_false_iff_not]; omega]; rfl
        · rw [decide_eq_false h3, show hasL p j = true by unfold hasL; rw [decide_eq_true_eq]; omega]; simp
    · rw [decide_eq_false h1]; simp
  · rw [miss_app (J ++ [j]) k p]
    by_cases h2 : p.2 ≤ j
    · rw [decide_eq_true h2, decide_eq_true (show p.2 ≤ k by omega), show hasL p k = false by unfold hasL; rw [decide_eq_false_iff_not]; omega]; simp
    · rw [decide_eq_false h2]; simp
theorem val_one {as : List (Nat × Nat)} {room : List Nat} {k : Nat} (hp : ∀ p ∈ as, p.1 < p.2) : val as room k [k] = 0 + rm room k + within as 0 k := by
  unfold val within
  rw [show sumJ room [k] = rm room k by unfold sumJ; simp]
  rw [cp_congr (P := fun p => decide (p.2 ≤ k) && miss [k] p) (Q := fun p => decide (0 ≤ p.1) && decide (p.2 ≤ k)) fun p hm => ?_]
  · omega
  · by_cases h1 : p.2 ≤ k
    · rw [decide_eq_true h1, decide_eq_true (Nat.zero_le _)]
      have : hasL p k = false := by unfold hasL; rw [decide_eq_false_iff_not]; omega
      unfold miss
      simp [this]
    · rw [decide_eq_false h1]; simp
/-- a line of the table: what it comes to, of all that end there the least -/
structure Row (as : List (Nat × Nat)) (room : List Nat) (k : Nat) (r : Nat × List Nat) : Prop where
  ex : ∃ J, r.2 = J ++ [k] ∧ J.Pairwise (· < ·) ∧ ∀ i ∈ J, i < k
  v : r.1 = val as room k r.2
  least : ∀ J : List Nat, J.Pairwise (· < ·) → (∀ i ∈ J, i < k) → r.1 ≤ val as room k (J ++ [k])
/-- the table up to leg k -/
structure Tab (as : List (Nat × Nat)) (room : List Nat) (k : Nat) (L : List (Nat × List Nat)) : Prop where
  len : L.length = k + 1
  at0 : L[0]? = some (0, [])
  at_ : ∀ i r, L[i + 1]? = some r → Row as room i r
def cand (as : List (Nat × Nat)) (room : List Nat) (k : Nat) (L : List (Nat × List Nat)) : List (Nat × List Nat) := L.mapIdx fun i r => (r.1 + rm room k + within as i k, r.2 ++ [k])
section
variable {as : List (Nat × Nat)} {room : List Nat} {k : Nat} {L : List (Nat × List Nat)}
theorem cand_get (i : Nat) : (cand as room k L)[i]? = L[i]?.map fun r => (r.1 + rm room k + within as i k, r.2 ++ [k]) := by
  unfold cand; rw [List.getElem?_mapIdx]
theorem Tab.cand (t : Tab as room k L) (hp : ∀ p ∈ as, p.1 < p.2) {c : Nat × List Nat} (h : c ∈ cand as room k L) : (∃ J, c.2 = J ++ [k] ∧ J.Pairwise (· < ·) ∧ ∀ i ∈ J, i < k) ∧ c.1 = val as room k c.2 := by
  obtain ⟨i, hi, e⟩ := List.mem_iff_getElem.mp h
  have e2 : (Kr.cand as room k L)[i]? = some c := by rw [List.getElem?_eq_getElem hi, e]
  rw [cand_get] at e2
  cases hr : L[i]? with
  | none => rw [hr] at e2; cases e2
  | some r =>
    rw [hr] at e2
    cases e2
    have hil : i < k + 1 := by rw [← t.len]; exact (List.getElem?_eq_some_iff.mp hr).1
    cases i with
    | zero =>
      rw [t.at0] at hr; cases hr
      exact ⟨⟨[], rfl, List.Pairwise.nil, fun i hi => (nomatch hi)⟩, (val_one hp).symm⟩
    | succ i =>
      obtain ⟨⟨J, h1, h2, h3⟩, hv, _⟩ := t.at_ i r hr
      refine ⟨⟨r.2, rfl, ?_, ?_⟩, ?_⟩
      · rw [h1]
        refine List.pairwise_append.mpr ⟨h2, List.pairwise_singleton _ _, fun a ha b hb => ?_⟩
        rw [List.mem_singleton.mp hb]; exact h3 a ha
      · intro a ha
        rw [h1] at ha
        rcases List.mem_append.mp ha with ha | ha
        · have := h3 a ha; omega
        · rw [List.mem_singleton.mp ha]; omega
      · show r.1 + rm room k + within as (i + 1) k = val as room k (r.2 ++ [k])
        rw [hv, h1, val_snoc hp h3 (by omega)]
theorem Tab.least (t : Tab as room k L) (hp : ∀ p ∈ as, p.1 < p.2) {J : List Nat} (h1 : J.Pairwise (· < ·)) (h2 : ∀ i ∈ J, i < k) : ∃ c ∈ Kr.cand as room k L, c.1 ≤ val as room k (J ++ [k]) := by
  have go : ∀ i r, L[i]? = some r → (r.1 + rm room k + within as i k, r.2 ++ [k]) ∈ Kr.cand as room k L := fun i r hr => by
    refine List.mem_of_getElem? (i := i) ?_
    rw [cand_get, hr]; rfl
  rcases List.eq_nil_or_concat J with rfl | ⟨J', j, rfl⟩
  · refine ⟨_, go 0 _ t.at0, ?_⟩
    rw [List.nil_append, val_one hp]
    exact Nat.le_refl _
  · rw [List.concat_eq_append] at *
    have hj : j < k := h2 j (List.mem_append_right _ List.mem_cons_self)
    have hJ : ∀ i ∈ J', i < j := fun i hi => (List.pairwise_append.mp h1).2.2 i hi j List.mem_cons_self
    have hl : j + 1 < L.length := by rw [t.len]; omega
    have hr : L[j + 1]? = some L[j + 1] := List.getElem?_eq_getElem hl
    refine ⟨_, go (j + 1) _ hr, ?_⟩
    have := (t.at_ j _ hr).least J' (List.pairwise_append.mp h1).1 hJ
    rw [val_snoc hp hJ hj]
    show L[j + 1].1 + rm room k + within as (j + 1) k ≤ _
    omega
theorem Tab.start : Tab as room 0 [(0, [])] := ⟨rfl, rfl, fun i r h => by simp at h⟩
/-- one leg more -/
theorem Tab.step (t : Tab as room k L) (hp : ∀ p ∈ as, p.1 < p.2) {c : Nat × List Nat} (hc : c ∈ Kr.cand as room k L) (hm : ∀ d ∈ Kr.cand as room k L, c.1 ≤ d.1) : Tab as room (k + 1) (L ++ [c]) := by
  refine ⟨by rw [List.length_append, t.len]; rfl, by rw [List.getElem?_append_left (by rw [t.len]; omega)]; exact t.at0, fun i r h => ?_⟩
  by_cases hi : i + 1 < L.length
  · rw [List.getElem?_append_left hi] at h
    exact t.at_ i r h
  · have hl := (List.getElem?_eq_some_iff.mp h).1
    rw [List.length_append, List.length_singleton] at hl
    rw [List.getElem?_append_right (by omega), show i + 1 - L.length = 0 by omega] at h
    have e : c = r := Option.some.inj h
    subst e
    have : i = k := by rw [t.len] at hi hl; omega
    subst this
    obtain ⟨q1, q2⟩ := t.cand hp hc
    refine ⟨q1, q2, fun J h1 h2 => ?_⟩
    obtain ⟨d, hd, hle⟩ := t.least hp h1 h2
    exact Nat.le_trans (hm d hd) hle
end
/-- the paper is as great as what is kept -/
theorem paper_ok {as : List (Nat × Nat)} {room : List Nat} (hp : ∀ p ∈ as, p.1 < p.2 ∧ p.2 ≤ room.length) {r : Nat × List Nat} (h : Row as room room.length r) :
    ∃ J : List Nat, r.2 = J ++ [room.length] ∧ J.Pairwise (· < ·) ∧ (∀ j ∈ J, j < room.length) ∧ sumJ room J + as.countP (miss J) = (keptN as room room.length).length := by
  obtain ⟨⟨J, h1, h2, h3⟩, hv, hl⟩ := h
  have key : ∀ J : List Nat, (∀ j ∈ J, j < room.length) → val as room room.length (J ++ [room.length]) = sumJ room J + as.countP (miss J) := fun J hJ => by
    unfold val
    rw [sumJ_app, show rm room room.length = 0 by unfold rm; rw [List.getElem?_eq_none (Nat.le_refl _)]; rfl]
    rw [cp_congr (Q := miss J) fun p hm => ?_]
    · omega
    · rw [miss_app, decide_eq_true (hp p hm).2, show hasL p room.length = false by unfold hasL; rw [decide_eq_false_iff_not]; have := (hp p hm).2; omega]; simp
  refine ⟨J, h1, h2, h3, ?_⟩
  rw [← keptA_len]
  obtain ⟨J', a1, a2, a3⟩ := dual as room hp
  refine Nat.le_antisymm ?_ (sumJ_le as room hp h3)
  rw [a3, ← key J h3, ← key J' a2, ← h1, ← hv]
  exact hl J' a1 a2
end Kr

/-! Lx: asks, numbers, tables as data. -/
namespace Lv
open PySem L2 LvI Kq Kr
def asT (l : List (Nat × Nat)) : List T := l.map fun p => .tup [.int p.1, .int p.2]
theorem ok_asT (as : List (Nat × Nat)) : T.ok 2 (.lst (asT as)) = true := by
  unfold T.ok
  rw [oks_all]
  unfold asT
  rw [List.all_map]
  exact List.all_eq_true.mpr fun p _ => rfl
theorem asT_get {as : List (Nat × Nat)} {r : Nat} (h : r < as.length) : (asT as)[r]? = some (.tup [.int as[r].1, .int as[r].2]) := by
  unfold asT; rw [List.getElem?_map, List.getElem?_eq_getElem h]; rfl
theorem asT_app (as : List (Nat × Nat)) (p : Nat × Nat) : asT as ++ [.tup [.int p.1, .int p.2]] = asT (as ++ [p]) := by unfold asT; rw [List.map_append]; rfl
theorem asT_len (as : List (Nat × Nat)) : (asT as).length = as.length := by unfold asT; rw [List.length_map]
theorem rgT_lt {a b : Int} {i : Nat} {x : T} (h : (rgT a b)[i]? = some x) : i < (b - a).toNat ∧ x = .int (a + i) := by
  have hi := (List.getElem?_eq_some_iff.mp h).1
  rw [rgT_len] at hi
  rw [rgT_get hi] at h
  exact ⟨hi, (Option.some.inj h).symm⟩
theorem cm_l {i j : Int} (h : -(2 ^ 64) < i ∧ i < 2 ^ 64) : CM i j := .inl (.inl h)
theorem cm_r {i j : Int} (h : -(2 ^ 64) < j ∧ j < 2 ^ 64) : CM i j := .inl (.inr h)
theorem cd_s {i j : Int} (h : 0 < j ∧ j < 1073741824) : CD i j := .inl h
def Bx (β : Int) (o : LO) : Prop := ∃ a m c : Int, o = .lst [.int a, .int m, .int c] ∧ 0 ≤ a ∧ 0 ≤ m ∧ m < 2 ^ 62 ∧ 0 ≤ c ∧ c ≤ β
theorem Bx.mono {β γ : Int} {o : LO} (h : Bx β o) (l : β ≤ γ) : Bx γ o := by
  obtain ⟨a, m, c, e, h1, h2, h3, h4, h5⟩ := h
  exact ⟨a, m, c, e, h1, h2, h3, h4, by omega⟩
theorem Bx.lst {β : Int} {o : LO} (h : Bx β o) : ∃ ts, o = .lst ts := by
  obtain ⟨a, m, c, e, _⟩ := h
  exact ⟨_, e⟩
theorem nat_of {i : Int} (h : 0 ≤ i) : ∃ n : Nat, i = n := ⟨i.toNat, by omega⟩
theorem filt_true {α : Type} (l : List α) : l.filter (fun _ => true) = l := List.filter_eq_self.mpr fun _ _ => rfl
/-- a table of n numbers -/
def tabT (n : Nat) (f : Nat → Nat) : List T := (List.range n).map fun i => .int (f i : Nat)
theorem tab_len (n : Nat) (f : Nat → Nat) : (tabT n f).length = n := by unfold tabT; rw [List.length_map, List.length_range]
theorem tab_get {n : Nat} (f : Nat → Nat) {i : Nat} (h : i < n) : (tabT n f)[i]? = some (.int (f i : Nat)) := by
  unfold tabT; rw [List.getElem?_map, List.getElem?_range h]; rfl
theorem tab_congr {n : Nat} {f g : Nat → Nat} (h : ∀ i, i < n → f i = g i) : tabT n f = tabT n g := by
  unfold tabT
  exact List.map_congr_left fun i hi => by rw [h i (List.mem_range.mp hi)]
theorem tab_set {n : Nat} {f g : Nat → Nat} {k : Nat} (hk : k < n) (h : ∀ i, i ≠ k → f i = g i) : (tabT n f).set k (.int (g k : Nat)) = tabT n g := by
  refine List.ext_getElem? fun i => ?_
  by_cases hi : i < n
  · by_cases e : k = i
    · subst e
      rw [List.getElem?_set_self (by rw [tab_len]; exact hk), tab_get g hk]
    · rw [List.getElem?_set_ne e, tab_get f hi, tab_get g hi, h i (fun z => e z.symm)]
  · rw [List.getElem?_eq_none (by rw [List.length_set, tab_len]; omega), List.getElem?_eq_none (by rw [tab_len]; omega)]
theorem tab_rep (n : Nat) : List.replicate n (T.int 0) = tabT n fun _ => 0 := by
  unfold tabT
  show _ = List.map (fun _ => T.int 0) _
  rw [List.map_const', List.length_range]
/-- how many asks have leg i -/
def cnt (as : List (Nat × Nat)) (i : Nat) : Nat := (as.filter fun p => decide (p.1 ≤ i ∧ i < p.2)).length
theorem cnt_app (as : List (Nat × Nat)) (p : Nat × Nat) (i : Nat) : cnt (as ++ [p]) i = cnt as i + if p.1 ≤ i ∧ i < p.2 then 1 else 0 := by
  unfold cnt
  rw [List.filter_append, List.length_append]
  congr 1
  by_cases h : p.1 ≤ i ∧ i < p.2
  · rw [if_pos h, List.filter_cons_of_pos (by simpa using h)]; rfl
  · rw [if_neg h, List.filter_cons_of_neg (by simpa using h)]; rfl

def lsI (as : List (Nat × Nat)) (n : Nat) : List Int := (List.range n).map fun i => (cnt as i : Int)
theorem tab_lsI (as : List (Nat × Nat)) (n : Nat) : tabT n (cnt as) = (lsI as n).map T.int := by unfold tabT lsI; rw [List.map_map]; rfl
theorem lsI_ne {as : List (Nat × Nat)} {n : Nat} (h : 1 ≤ n) : lsI as n ≠ [] := fun e => by
  have := congrArg List.length e
  unfold lsI at this
  rw [List.length_map, List.length_range] at this
  simp at this
  omega
def fulL (as : List (Nat × Nat)) (n : Nat) : T := .tup [.int ((lsI as n).idxOf (maxL (lsI as n)) : Nat), .int (maxL (lsI as n))]

def fLeg (k : Nat) : T → Bool
  | .tup [.int a, .int b] => decide (a ≤ (k : Int) ∧ (k : Int) < b)
  | _ => false
theorem fLeg_len (as : List (Nat × Nat)) (k : Nat) : (((asT as).filter (fLeg k)).length : Int) = (cnt as k : Nat) := by
  unfold asT cnt
  rw [List.filter_map, List.length_map]
  congr 3
  funext p
  show decide ((p.1 : Int) ≤ k ∧ (k : Int) < p.2) = _
  simp
def natT (l : List Nat) : List T := l.map fun i => .int (i : Nat)
theorem natT_ints (l : List Nat) : natT l = (l.map fun i : Nat => (i : Int)).map T.int := by unfold natT; rw [List.map_map]; rfl
theorem natT_len (l : List Nat) : (natT l).length = l.length := by unfold natT; rw [List.length_map]
theorem natT_get {l : List Nat} {i : Nat} (h : i < l.length) : (natT l)[i]? = some (.int (l[i] : Nat)) := by
  unfold natT; rw [List.getElem?_map, List.getElem?_eq_getElem h]; rfl
theorem natT_at {l : List Nat} {i : Nat} {x : T} (h : (natT l)[i]? = some x) : ∃ n, l[i]? = some n ∧ x = .int (n : Nat) := by
  unfold natT at h
  rw [List.getElem?_map] at h
  cases e : l[i]? with
  | none => rw [e] at h; cases h
  | some n => rw [e] at h; exact ⟨n, rfl, (Option.some.inj h).symm⟩
theorem rg_natT (n : Nat) : rgT 0 (n : Int) = natT (List.range n) := by
  unfold rgT natT
  rw [show ((n : Int) - 0).toNat = n by omega]
  exact List.map_congr_left fun i _ => by show T.int (0 + (i : Int)) = _; rw [Int.zero_add]
theorem natT_app (l : List Nat) (q : Nat) : natT l ++ [.int (q : Nat)] = natT (l ++ [q]) := by unfold natT; rw [List.map_append]; rfl
theorem natT_filter (l : List Nat) (f : T → Bool) : (natT l).filter f = natT (l.filter fun i => f (.int (i : Nat))) := by
  unfold natT; rw [List.filter_map]; rfl
theorem sort_asT (ps : List (Nat × Nat)) : sortT (asT ps) = asT (ps.mergeSort lexN) := by
  unfold sortT asT
  refine (List.map_mergeSort fun a _ b _ => ?_).symm
  show lexN a b = PySem.W.dataLe false T.py (.tup [.int a.1, .int a.2]) (.tup [.int b.1, .int b.2])
  have := congrFun (congrFun (PySem.W.dataLe_ii (β := Nat × Nat) (fun p => (p.1 : Int)) (fun p => (p.2 : Int))) a) b
  have e : PySem.W.dataLe false T.py (.tup [.int a.1, .int a.2]) (.tup [.int b.1, .int b.2]) = PySem.W.dataLe false (fun p : Nat × Nat => PyData.tuple [.int p.1, .int p.2]) a b := by
    rw [PySem.W.dataLe_eq, PySem.W.dataLe_eq]
    simp only [T.py, T.pys]
  rw [e, this]
  unfold lexN
  exact decide_eq_decide.mpr (by omega)
theorem sort_ok (ps : List (Nat × Nat)) : T.oks 60 (asT ps) = true ∧ PySem.W.AllAlike ((asT ps).map T.py) ∧ PySem.W.Sortable ((asT ps).map T.py) := by
  refine ⟨?_, ?_, ?_⟩
  · rw [oks_all]; unfold asT; rw [List.all_map]
    exact List.all_eq_true.mpr fun p _ => rfl
  · unfold asT
    rw [List.map_map]
    exact PySem.W.AllAlike.of fun a b => by simp [T.py, T.pys, PySem.W.alike, PySem.W.alikeAll]
  · unfold asT
    rw [List.map_map]
    exact PySem.W.Sortable.tuples fun a => ⟨.int a.1, [.int a.2], by simp [T.py, T.pys]⟩
theorem tk_app (s : ST) (o : LO) : (s ++ [o]).take s.length = s := List.take_left
theorem ix_app (s : ST) (o : LO) : (s ++ [o])[s.length]? = some o := by rw [List.getElem?_append_right (Nat.le_refl _), Nat.sub_self]; rfl
def fHas (as : List (Nat × Nat)) (i : Nat) : T → Bool
  | .int p => hasL (askAt as p.toNat) i
  | _ => false
def fKey (as : List (Nat × Nat)) : T → T
  | .int p => .tup [.int (askAt as p.toNat).2, .int p]
  | _ => .non
theorem fHas_at (as : List (Nat × Nat)) (i p : Nat) : fHas as i (.int (p : Nat)) = hasL (askAt as p) i := rfl
theorem fKey_at (as : List (Nat × Nat)) (p : Nat) : fKey as (.int (p : Nat)) = .tup [.int (askAt as p).2, .int (p : Nat)] := rfl
def fSnd : T → T
  | .tup [_, x] => x
  | _ => .non
theorem snd_eq (ps : List (Nat × Nat)) : (asT ps).map fSnd = natT (ps.map Prod.snd) := by
  unfold asT natT; rw [List.map_map, List.map_map]; rfl
theorem cut_drop (ts : List T) (m : Nat) : cut ts (some (m : Int)) none = ts.drop m := by
  unfold cut
  rw [HT.sIx_nat, HT.sIx_none]
  by_cases h : m ≤ ts.length
  · rw [Nat.min_eq_left h]
    exact List.take_of_length_le (by rw [List.length_drop]; exact Nat.le_refl _)
  · rw [Nat.min_eq_right (by omega), List.drop_of_length_le (Nat.le_refl _), List.drop_of_length_le (show ts.length ≤ m by omega)]; simp
theorem asT_drop (ps : List (Nat × Nat)) (m : Nat) : (asT ps).drop m = asT (ps.drop m) := by unfold asT; rw [List.map_drop]
theorem inT_nat (p : Nat) (l : List Nat) : inT (.int (p : Nat)) (natT l) = l.contains p := by
  unfold inT inV natT
  rw [List.map_map, List.any_map, List.contains_eq_any_beq]
  congr 1
  funext i
  show ((i : Int) == (p : Int)) = (p == i)
  rw [Bool.eq_iff_iff]
  simp only [beq_iff_eq]
  omega
def fNot (l : List Nat) : T → Bool
  | .int p => !l.contains p.toNat
  | _ => false
theorem fNot_at (l : List Nat) (p : Nat) : fNot l (.int (p : Nat)) = !l.contains p := rfl
theorem natT_flat (l : List Nat) : ∀ x ∈ natT l, x.flat = true := fun x hx => by
  obtain ⟨i, _, rfl⟩ := List.mem_map.mp hx
  rfl
theorem inG_nat {neg : Bool} {p : Nat} {l : List Nat} {s : ST} {Q : SV → ST → Prop} (h : Q (.d (.bl (neg != l.contains p))) s) : inG neg (.d (.int (p : Nat))) (.d (.lst (natT l))) s Q :=
  .inl ⟨_, _, rfl, rfl, rfl, List.all_eq_true.mpr (natT_flat l), by rw [inT_nat]; exact h⟩
theorem map_id' (l : List T) : l.map (fun x => x) = l := by simp
theorem here_eq (as : List (Nat × Nat)) (i : Nat) (kept : List Nat) : ((natT kept).filter (fHas as i)).map (fKey as) = asT ((hereL as i kept).map fun p => ((askAt as p).2, p)) := by
  rw [natT_filter]
  unfold hereL asT natT
  rw [List.map_map, List.map_map]
  rfl
theorem askAt_get {as : List (Nat × Nat)} {p : Nat} (h : p < as.length) : (asT as)[p]? = some (.tup [.int (askAt as p).1, .int (askAt as p).2]) := by
  rw [asT_get h]
  unfold askAt
  rw [List.getElem?_eq_getElem h]
  rfl
theorem len_lt {n : Nat} (h : n ≤ 1000) : n < sizeLine := Nat.lt_of_le_of_lt h (by decide)
def sqL (x : T) (l : List T) : Prop := x = .lst l ∨ x = .tup l
theorem same_nat (l : List Nat) (h : l.length ≤ 1000) : T.ok 3 (.lst (natT l)) = true ∧ T.sz (.lst (natT l)) = true := by
  rw [natT_ints]
  exact ⟨ok_ints 2 _, sz_lstI (by rw [List.length_map, List.length_map]; omega) fun x hx => by obtain ⟨i, _, rfl⟩ := List.mem_map.mp hx; rfl⟩
def fWi (a b : Nat) : T → Bool
  | .tup [.int x, .int y] => decide ((a : Int) ≤ x ∧ y ≤ (b : Int))
  | _ => false
theorem fWi_len (as : List (Nat × Nat)) (a b : Nat) : (((asT as).filter (fWi a b)).length : Int) = (within as a b : Nat) := by
  unfold asT within
  rw [List.filter_map, List.length_map, List.countP_eq_length_filter]
  congr 3
  funext p
  show decide ((a : Int) ≤ p.1 ∧ (p.2 : Int) ≤ b) = _
  simp
/-- a pair as the table has it -/
def encP (p : Nat × List Nat) : PyData := .tuple [.int p.1, .list (p.2.map fun i : Nat => .int i)]
def pT (p : Nat × List Nat) : T := .tup [.int p.1, .lst (natT p.2)]
theorem pT_py (p : Nat × List Nat) : (pT p).py = encP p := by
  unfold pT encP natT
  simp only [T.py, T.pys]
  rw [pys_map, List.map_map]
  congr 3
theorem encP_inj {p q : Nat × List Nat} (h : encP p = encP q) : p = q := by
  unfold encP at h
  injection h with h
  injection h with h1 h
  injection h with h2 _
  injection h1 with h1
  injection h2 with h2
  refine Prod.ext (by omega) ?_
  refine List.map_inj_right (f := fun i : Nat => PyData.int i) (fun a b e => ?_) |>.mp h2
  injection e with e
  omega
theorem alk_ints : ∀ l m : List Nat, PySem.W.alikeAll (l.map fun i : Nat => PyData.int i) (m.map fun i : Nat => PyData.int i) = true
  | [], _ => by simp [PySem.W.alikeAll]
  | _ :: _, [] => by simp [PySem.W.alikeAll]
  | a :: l, b :: m => by
    rw [List.map_cons, List.map_cons]
    simp only [PySem.W.alikeAll, PySem.W.alike, alk_ints l m, Bool.and_self]
theorem alk_enc (p q : Nat × List Nat) : PySem.W.alike (encP p) (encP q) = true := by
  unfold encP
  simp only [PySem.W.alike, PySem.W.alikeAll, alk_ints, Bool.and_self]
theorem enc_lt (p q : Nat × List Nat) : (PySem.W.dataLt (encP p) (encP q) = true → p.1 ≤ q.1) ∧ (PySem.W.dataLt (encP p) (encP q) = false → q.1 ≤ p.1) := by
  unfold encP
  rw [PySem.W.dataLt_pair (by simp [PySem.W.alike]) (by simp only [PySem.W.alike, alk_ints]), PySem.W.dataLt_int]
  by_cases h : (p.1 : Int) = q.1
  · exact ⟨fun _ => by omega, fun _ => by omega⟩
  · rw [if_neg (by simp only [PyData.eqv, beq_iff_eq]; exact h)]
    exact ⟨fun h => by have := of_decide_eq_true h; omega, fun h => by have := of_decide_eq_false h; omega⟩
def minP : List (Nat × List Nat) → Nat × List Nat
  | [] => (0, [])
  | c :: cs => cs.foldl (fun a y => if PySem.W.dataLt (encP y) (encP a) then y else a) c
theorem fold_enc : ∀ (cs : List (Nat × List Nat)) (c : Nat × List Nat), (cs.map encP).foldl (fun a y => if PySem.W.dataLt y a then y else a) (encP c) = encP (cs.foldl (fun a y => if PySem.W.dataLt (encP y) (encP a) then y else a) c)
  | [], c => rfl
  | d :: cs, c => by
    rw [List.map_cons, List.foldl_cons, List.foldl_cons]
    have e : (if PySem.W.dataLt (encP d) (encP c) = true then encP d else encP c) = encP (if PySem.W.dataLt (encP d) (encP c) = true then d else c) := by split <;> rfl
    rw [e]
    exact fold_enc cs _
theorem minP_enc (c : Nat × List Nat) (cs : List (Nat × List Nat)) : PySem.W.minD (encP c) (cs.map encP) = encP (minP (c :: cs)) := fold_enc cs c
theorem fold_min : ∀ (cs : List (Nat × List Nat)) (c : Nat × List Nat), (cs.foldl (fun a y => if PySem.W.dataLt (encP y) (encP a) then y else a) c = c ∨ cs.foldl (fun a y => if PySem.W.dataLt (encP y) (encP a) then y else a) c ∈ cs) ∧
    (cs.foldl (fun a y => if PySem.W.dataLt (encP y) (encP a) then y else a) c).1 ≤ c.1 ∧ ∀ d ∈ cs, (cs.foldl (fun a y => if PySem.W.dataLt (encP y) (encP a) then y else a) c).1 ≤ d.1
  | [], c => ⟨.inl rfl, Nat.le_refl _, fun d h => (nomatch h)⟩
  | x :: cs, c => by
    rw [List.foldl_cons]
    obtain ⟨e1, e2⟩ := enc_lt x c
    cases hx : PySem.W.dataLt (encP x) (encP c) with
    | true =>
      rw [if_pos rfl]
      obtain ⟨h1, h2, h3⟩ := fold_min cs x
      refine ⟨.inr ?_, Nat.le_trans h2 (e1 hx), fun d hd => ?_⟩
      · rcases h1 with h1 | h1
        · rw [h1]; exact List.mem_cons_self
        · exact List.mem_cons_of_mem _ h1
      · rcases List.mem_cons.mp hd with rfl | hd
        · exact h2
        · exact h3 d hd
    | false =>
      rw [if_neg Bool.false_ne_true]
      obtain ⟨h1, h2, h3⟩ := fold_min cs c
      refine ⟨?_, h2, fun d hd => ?_⟩
      · rcases h1 with h1 | h1
        · exact .inl h1
        · exact .inr (List.mem_cons_of_mem _ h1)
      · rcases List.mem_cons.mp hd with rfl | hd
        · exact Nat.le_trans h2 (e2 hx)
        · exact h3 d hd
theorem minP_ok {l : List (Nat × List Nat)} (h : l ≠ []) : minP l ∈ l ∧ ∀ d ∈ l, (minP l).1 ≤ d.1 := by
  cases l with
  | nil => exact absurd rfl h
  | cons c cs =>
    obtain ⟨h1, h2, h3⟩ := fold_min cs c
    refine ⟨?_, fun d hd => ?_⟩
    · rcases h1 with h1 | h1
      · exact List.mem_cons.mpr (.inl h1)
      · exact List.mem_cons_of_mem _ h1
    · rcases List.mem_cons.mp hd with rfl | hd
      · exact h2
      · exact h3 d hd
def tabN (as : List (Nat × Nat)) (room : List Nat) : Nat → List (Nat × List Nat)
  | 0 => [(0, [])]
  | k + 1 => tabN as room k ++ [minP (cand as room k (tabN as room k))]
theorem cand_len (as : List (Nat × Nat)) (room : List Nat) (k : Nat) (L : List (Nat × List Nat)) : (cand as room k L).length = L.length := by unfold cand; rw [List.length_mapIdx]
theorem tabN_len (as : List (Nat × Nat)) (room : List Nat) : ∀ k, (tabN as room k).length = k + 1
  | 0 => rfl
  | k + 1 => by show (tabN as room k ++ _).length = _; rw [List.length_append, tabN_len as room k]; rfl
theorem cand_mem {as : List (Nat × Nat)} {room : List Nat} {k : Nat} {L : List (Nat × List Nat)} {c : Nat × List Nat} (h : c ∈ cand as room k L) : ∃ q ∈ L, c.2 = q.2 ++ [k] := by
  obtain ⟨i, hi, e⟩ := List.mem_iff_getElem.mp h
  have e2 : (cand as room k L)[i]? = some c := by rw [List.getElem?_eq_getElem hi, e]
  rw [cand_get] at e2
  cases hr : L[i]? with
  | none => rw [hr] at e2; cases e2
  | some r => rw [hr] at e2; cases e2; exact ⟨r, List.mem_of_getElem? hr, rfl⟩
theorem minP_cand (as : List (Nat × Nat)) (room : List Nat) (k : Nat) {L : List (Nat × List Nat)} (h : L ≠ []) : minP (cand as room k L) ∈ cand as room k L := (minP_ok fun e => by
  have := congrArg List.length e
  rw [cand_len] at this
  exact h (List.length_eq_zero_iff.mp this)).1
theorem tabN_sz (as : List (Nat × Nat)) (room : List Nat) : ∀ k, ∀ r ∈ tabN as room k, r.2.length ≤ k
  | 0, r, h => by rw [List.mem_singleton.mp h]; exact Nat.le_refl _
  | k + 1, r, h => by
    rcases List.mem_append.mp h with h | h
    · have := tabN_sz as room k r h; omega
    · rw [List.mem_singleton.mp h]
      obtain ⟨q, hq, e⟩ := cand_mem (minP_cand as room k (L := tabN as room k) fun e => by have := congrArg List.length e; rw [tabN_len] at this; cases this)
      rw [e, List.length_append]
      have := tabN_sz as room k q hq
      simp; omega
theorem tabN_ok {as : List (Nat × Nat)} (room : List Nat) (hp : ∀ p ∈ as, p.1 < p.2) : ∀ k, Tab as room k (tabN as room k)
  | 0 => Tab.start
  | k + 1 => by
    have ih := tabN_ok room hp k
    obtain ⟨h1, h2⟩ := minP_ok (l := cand as room k (tabN as room k)) (fun e => by
      have := congrArg List.length e
      rw [cand_len, tabN_len] at this
      cases this)
    exact ih.step hp h1 h2
/-- the paper -/
def papN (as : List (Nat × Nat)) (room : List Nat) : List Nat := (minP (cand as room room.length (tabN as room room.length))).2.dropLast
theorem papN_ok {as : List (Nat × Nat)} {room : List Nat} (hp : ∀ p ∈ as, p.1 < p.2 ∧ p.2 ≤ room.length) : (papN as room).Pairwise (· < ·) ∧ (∀ j ∈ papN as room, j < room.length) ∧ sumJ room (papN as room) + as.countP (miss (papN as room)) = (keptN as room room.length).length := by
  have t := tabN_ok (as := as) room (fun p h => (hp p h).1) (room.length + 1)
  have e : (tabN as room (room.length + 1))[room.length + 1]? = some (minP (cand as room room.length (tabN as room room.length))) := by
    show (tabN as room room.length ++ _)[room.length + 1]? = _
    rw [List.getElem?_append_right (by rw [tabN_len]; omega), tabN_len, Nat.sub_self]; rfl
  obtain ⟨J, h1, h2, h3, h4⟩ := paper_ok hp (t.at_ _ _ e)
  have : papN as room = J := by unfold papN; rw [h1, List.dropLast_concat]
  rw [this]
  exact ⟨h2, h3, h4⟩
theorem cut_last (ts : List T) : cut ts none (some (-1)) = ts.dropLast := by
  unfold cut
  rw [HT.sIx_none, List.drop_zero, Nat.sub_zero, List.dropLast_eq_take]
  congr 1
  unfold HT.sIx
  simp
  omega
theorem natT_dropLast (l : List Nat) : (natT l).dropLast = natT l.dropLast := by unfold natT; rw [List.map_dropLast]
def spT (L : List (Nat × List Nat)) : List T := L.map pT
theorem spT_get {L : List (Nat × List Nat)} {i : Nat} {r : Nat × List Nat} (h : L[i]? = some r) : (spT L)[i]? = some (pT r) := by unfold spT; rw [List.getElem?_map, h]; rfl
theorem spT_app (L : List (Nat × List Nat)) (r : Nat × List Nat) : spT L ++ [.tup [.int r.1, .lst (natT r.2)]] = spT (L ++ [r]) := by unfold spT; rw [List.map_append]; rfl
def fMin : T → T
  | .int p => .int (if p < 60 then p else 60)
  | _ => .non
theorem fMin_all (l : List Nat) : (natT l).map fMin = natT (l.map fun p => min 60 p) := by
  unfold natT
  rw [List.map_map, List.map_map]
  refine List.map_congr_left fun p _ => ?_
  show T.int (if (p : Int) < 60 then (p : Int) else 60) = T.int ((min 60 p : Nat) : Int)
  congr 1
  split <;> omega
theorem natT_rm {room : List Nat} {z : Nat} (h : z < room.length) : (natT room)[z]? = some (.int (rm room z : Nat)) := by
  rw [natT_get h]
  unfold rm
  rw [List.getElem?_eq_getElem h]; rfl
theorem rm_no {room : List Nat} {z : Nat} (h : room.length ≤ z) : rm room z = 0 := by unfold rm; rw [List.getElem?_eq_none h]; rfl
theorem pT_inj {p q : Nat × List Nat} (h : (pT p).py = encP q) : p = q := encP_inj (by rw [← h, pT_py])
theorem spT_ok {L : List (Nat × List Nat)} : T.oks 59 (spT L) = true := by
  rw [oks_all]; unfold spT; rw [List.all_map]
  refine List.all_eq_true.mpr fun r _ => ?_
  show T.ok 59 (.tup [.int r.1, .lst (natT r.2)]) = true
  have := ok_ints 57 (r.2.map fun i : Nat => (i : Int))
  rw [← natT_ints] at this
  simp [T.ok, T.oks] at this ⊢
  exact this
theorem spT_alike {L : List (Nat × List Nat)} : PySem.W.AlikeAll ((spT L).map T.py) := by
  unfold spT
  rw [List.map_map]
  refine ⟨fun x hx y hy => ?_, fun x hx => ?_⟩
  · obtain ⟨p, _, rfl⟩ := List.mem_map.mp hx
    obtain ⟨q, _, rfl⟩ := List.mem_map.mp hy
    show PySem.W.alike (pT p).py (pT q).py = true
    rw [pT_py, pT_py]; exact alk_enc p q
  · obtain ⟨p, _, rfl⟩ := List.mem_map.mp hx
    show (pT p).py ≠ _
    rw [pT_py]
    exact fun h => nomatch h
/-- the least row of a table -/
theorem minDG_of {L : List (Nat × List Nat)} {x : SV} {s : ST} {Q : SV → ST → Prop} (hL : L ≠ []) (hs : lsV s x = some (spT L)) (hQ : Q (.d (pT (minP L))) s) : minDG [x] s Q := by
  cases L with
  | nil => exact absurd rfl hL
  | cons c cs =>
    have go : ∃ t ts, lsV s x = some (t :: ts) ∧ T.oks 59 (t :: ts) = true ∧ PySem.W.AlikeAll ((t :: ts).map T.py) ∧ ∀ y ∈ t :: ts, y.py = PySem.W.minD t.py (ts.map T.py) → Q (.d y) s := by
      refine ⟨pT c, spT cs, hs, spT_ok (L := c :: cs), spT_alike (L := c :: cs), fun y hy he => ?_⟩
      have hy : y ∈ spT (c :: cs) := hy
      obtain ⟨p, _, rfl⟩ := List.mem_map.mp hy
      have e : (spT cs).map T.py = cs.map encP := by
        unfold spT; rw [List.map_map]
        exact List.map_congr_left fun q _ => pT_py q
      rw [e, pT_py c, minP_enc] at he
      rw [pT_inj he]; exact hQ
    unfold minDG
    split
    · rename_i h
      cases h
    · rename_i h
      cases h
      exact go
    · rename_i h1 h2
      exact absurd rfl (h2 _)
theorem spT_len (L : List (Nat × List Nat)) : (spT L).length = L.length := List.length_map ..
/-- x is the data t: as it is, or a list of one's own -/
def isD (x : SV) (s : ST) (t : T) : Prop := (x = .d t ∧ s = []) ∨ ∃ ts, t = .lst ts ∧ x = .l 0 ∧ s = [.lst ts]
/-- truths -/
theorem bls_any (f : T → Bool) (l : List T) : l.map (fun x => T.bl (f x)) = (l.map f).map T.bl := by rw [List.map_map]; rfl
def fIn (a b : Nat) : T → Bool
  | .int i => decide ((a : Int) ≤ i ∧ i < (b : Int))
  | _ => false
theorem fIn_any (J : List Nat) (p : Nat × Nat) : ((natT J).map (fIn p.1 p.2)).any id = !miss J p := by
  unfold natT miss
  rw [List.map_map, List.any_map, Bool.not_not]
  congr 1
  funext j
  show decide ((p.1 : Int) ≤ (j : Int) ∧ (j : Int) < (p.2 : Int)) = hasL p j
  unfold hasL
  simp
def fRm (room : List Nat) : T → Int
  | .int i => (rm room i.toNat : Nat)
  | _ => 0
theorem fRm_at (room : List Nat) (j : Nat) : fRm room (.int (j : Nat)) = (rm room j : Nat) := rfl
theorem fRm_sum (room J : List Nat) : ((natT J).map (fRm room)).sum = (sumJ room J : Nat) := by
  unfold natT sumJ
  rw [List.map_map]
  induction J with
  | nil => rfl
  | cons j J ih =>
    rw [List.map_cons, List.sum_cons, List.map_cons, List.sum_cons, ih]
    show ((rm room j : Nat) : Int) + _ = _
    omega
theorem natT_drop1 (l : List Nat) : cut (natT l) (some 1) none = natT (l.drop 1) := by
  rw [show (1 : Int) = ((1 : Nat) : Int) by rfl, cut_drop]
  unfold natT
  rw [List.map_drop]
theorem fIn_mem (J : List Nat) (p : Nat × Nat) : (true ∈ (natT J).map (fIn p.1 p.2)) ↔ miss J p = false := by
  have := fIn_any J p
  rw [Bool.eq_iff_iff, List.any_eq_true, Bool.not_eq_true'] at this
  rw [← this]
  exact ⟨fun h => ⟨true, h, rfl⟩, fun ⟨b, h, e⟩ => by cases (show b = true from e); exact h⟩
theorem rising_len : ∀ {J : List Nat} {n : Nat}, J.Pairwise (· < ·) → (∀ j ∈ J, j < n) → J.length ≤ n := by
  intro J n h1 h2
  have hs : J.Sublist (List.range n) := by
    have e : J = (List.range n).filter fun i => J.contains i := by
      refine List.Perm.eq_of_pairwise (le := (· < ·)) (fun a b _ _ h h' => absurd h (by omega)) h1 (List.Pairwise.filter _ List.pairwise_lt_range) ?_
      refine (List.perm_ext_iff_of_nodup (h1.imp fun h => Nat.ne_of_lt h) (List.nodup_range.filter _)).mpr fun a => ?_
      rw [List.mem_filter, List.mem_range, List.contains_iff_mem]
      exact ⟨fun h => ⟨h2 a h, h⟩, fun h => h.2⟩
    rw [e]; exact List.filter_sublist
  have := hs.length_le
  rwa [List.length_range] at this
end Lv

/-! Ly: choices and papers as any data. -/
namespace Lv
open PySem L2 LvI Kq Kr
def isNum : T → Bool
  | .int _ => true
  | _ => false
def plT (n : Nat) : T → Bool
  | .int i => decide ((0 : Int) ≤ i ∧ i < (n : Int))
  | _ => false
def ltP : T → Bool
  | .tup [.int a, .int b] => decide (a < b)
  | _ => false
def placesT (n : Nat) : T → Bool
  | .lst ts => ts.all (plT n) && (zpT ts ts.tail).all ltP
  | _ => false
def natOf : T → Nat
  | .int i => i.toNat
  | _ => 0
def natsOf : T → List Nat
  | .lst ts => ts.map natOf
  | _ => []
theorem natsOf_natT (l : List Nat) : natsOf (.lst (natT l)) = l := by
  show (natT l).map natOf = l
  unfold natT
  rw [List.map_map]
  exact List.map_id' l
theorem all_pl {n : Nat} {ts : List T} (h : ts.all (plT n) = true) : ts = natT (ts.map natOf) ∧ ∀ j ∈ ts.map natOf, j < n := by
  induction ts with
  | nil => exact ⟨rfl, fun j h => nomatch h⟩
  | cons t ts ih =>
    rw [List.all_cons, Bool.and_eq_true] at h
    obtain ⟨h1, h2⟩ := h
    obtain ⟨e1, e2⟩ := ih h2
    cases t with
    | int i =>
      have h1 := of_decide_eq_true h1
      refine ⟨?_, fun j hj => ?_⟩
      · rw [List.map_cons]
        conv => lhs; rw [e1]
        show _ = T.int ((i.toNat : Nat) : Int) :: natT (ts.map natOf)
        rw [show ((i.toNat : Nat) : Int) = i by omega]
      · rw [List.map_cons] at hj
        rcases List.mem_cons.mp hj with rfl | hj
        · show i.toNat < n; omega
        · exact e2 j hj
    | _ => cases h1
theorem zp_lt : ∀ (l : List Nat), (zpT (natT l) (natT l).tail).all ltP = true ↔ l.Pairwise (· < ·)
  | [] => ⟨fun _ => List.Pairwise.nil, fun _ => rfl⟩
  | [a] => ⟨fun _ => List.pairwise_singleton _ _, fun _ => rfl⟩
  | a :: b :: r => by
    have ih := zp_lt (b :: r)
    have e : zpT (natT (a :: b :: r)) (natT (a :: b :: r)).tail = .tup [.int a, .int b] :: zpT (natT (b :: r)) (natT (b :: r)).tail := rfl
    rw [e, List.all_cons, Bool.and_eq_true, ih]
    constructor
    · rintro ⟨h1, h2⟩
      have h1 : a < b := by have := of_decide_eq_true h1; omega
      refine List.pairwise_cons.mpr ⟨fun c hc => ?_, h2⟩
      rcases List.mem_cons.mp hc with rfl | hc
      · exact h1
      · exact Nat.lt_trans h1 ((List.pairwise_cons.mp h2).1 c hc)
    · intro h
      obtain ⟨h1, h2⟩ := List.pairwise_cons.mp h
      exact ⟨decide_eq_true (by have := h1 b List.mem_cons_self; omega), h2⟩
theorem placesT_iff {n : Nat} {t : T} : placesT n t = true ↔ ∃ J : List Nat, t = .lst (natT J) ∧ J.Pairwise (· < ·) ∧ ∀ j ∈ J, j < n := by
  constructor
  · intro h
    cases t with
    | lst ts =>
      unfold placesT at h
      rw [Bool.and_eq_true] at h
      obtain ⟨e1, e2⟩ := all_pl h.1
      have h2 := h.2
      rw [e1] at h2
      exact ⟨_, by rw [← e1], (zp_lt _).mp h2, e2⟩
    | _ => cases h
  · rintro ⟨J, rfl, h1, h2⟩
    unfold placesT
    rw [Bool.and_eq_true]
    refine ⟨?_, (zp_lt J).mpr h1⟩
    unfold natT
    rw [List.all_map]
    refine List.all_eq_true.mpr fun j hj => decide_eq_true ⟨by omega, ?_⟩
    have := h2 j hj
    omega
/-- the asks chosen -/
def chosen (as : List (Nat × Nat)) (ks : List Nat) : List (Nat × Nat) := ks.map (askAt as)
def fitN (as : List (Nat × Nat)) (room : List Nat) : Bool := !((List.range room.length).any fun j => decide (rm room j < cntL as j))
def showN (as : List (Nat × Nat)) (room ks J : List Nat) : Bool := fitN (chosen as ks) room && decide (ks.length = sumJ room J + as.countP (miss J))
def showT (as : List (Nat × Nat)) (room : List Nat) : T → Bool
  | .tup [k, l] => placesT as.length k && placesT room.length l && showN as room (natsOf k) (natsOf l)
  | _ => false
theorem showT_pair (as : List (Nat × Nat)) (room K J : List Nat) (h1 : placesT as.length (.lst (natT K)) = true) (h2 : placesT room.length (.lst (natT J)) = true) : showT as room (.tup [.lst (natT K), .lst (natT J)]) = showN as room K J := by
  show (placesT _ _ && placesT _ _ && showN as room (natsOf _) (natsOf _)) = _
  rw [h1, h2, natsOf_natT, natsOf_natT]; rfl
theorem chosen_mem {as : List (Nat × Nat)} {ks : List Nat} (h : ∀ k ∈ ks, k < as.length) {p : Nat × Nat} (hp : p ∈ chosen as ks) : p ∈ as := by
  obtain ⟨k, hk, rfl⟩ := List.mem_map.mp hp
  unfold askAt
  rw [List.getElem?_eq_getElem (h k hk)]
  exact List.getElem_mem _
theorem cnt_cntL (as : List (Nat × Nat)) (i : Nat) : cnt as i = cntL as i := by
  unfold cnt cntL
  rw [List.countP_eq_length_filter]; rfl
mutual
theorem T.ok_mono1 : ∀ (n : Nat) (t : T), T.ok n t = true → T.ok (n + 1) t = true
  | n, .non, _ => by unfold T.ok; rfl
  | n, .bl _, _ => by unfold T.ok; rfl
  | n, .int _, _ => by unfold T.ok; rfl
  | n, .str x, h => by unfold T.ok at h ⊢; exact h
  | n + 1, .lst xs, h => by unfold T.ok at h ⊢; exact T.oks_mono1 n xs h
  | n + 1, .tup xs, h => by unfold T.ok at h ⊢; exact T.oks_mono1 n xs h
  | 0, .lst _, h => by unfold T.ok at h; cases h
  | 0, .tup _, h => by unfold T.ok at h; cases h
  | n, .scr _, h => by unfold T.ok at h; cases h
  | n, .ref _, h => by unfold T.ok at h; cases h
  | n, .ty _, h => by unfold T.ok at h; cases h
theorem T.oks_mono1 : ∀ (n : Nat) (xs : List T), T.oks n xs = true → T.oks (n + 1) xs = true
  | n, [], _ => by unfold T.oks; rfl
  | n, x :: r, h => by
    unfold T.oks at h ⊢
    rw [Bool.and_eq_true] at h ⊢
    exact ⟨T.ok_mono1 n x h.1, T.oks_mono1 n r h.2⟩
end
theorem T.ok_mono {n : Nat} {t : T} (h : T.ok n t = true) : T.ok (n + 1) t = true := T.ok_mono1 n t h
theorem T.ok_up {n m : Nat} {t : T} (h : T.ok n t = true) (hnm : n ≤ m) : T.ok m t = true := by
  induction hnm with
  | refl => exact h
  | step _ ih => exact T.ok_mono ih
theorem ok_natN {n : Nat} (l : List Nat) : T.ok (n + 1) (.lst (natT l)) = true := by rw [natT_ints]; exact ok_ints n _
theorem sz_natT (l : List Nat) (h : l.length ≤ 100000) : (T.lst (natT l)).sz = true := by
  rw [natT_ints]
  exact sz_lstI (by rw [List.length_map, List.length_map]; exact h) fun x hx => by obtain ⟨i, _, rfl⟩ := List.mem_map.mp hx; rfl
theorem ok_pair {n : Nat} {a b : T} (h : T.ok n a = true) (h2 : T.ok n b = true) : T.ok (n + 1) (.tup [a, b]) = true := ok_tupI fun x hx => by
  rcases List.mem_cons.mp hx with rfl | hx
  · exact h
  · rw [List.mem_singleton.mp hx]; exact h2
theorem sz_pair {a b : T} (h : a.sz = true) (h2 : b.sz = true) : (T.tup [a, b]).sz = true := sz_tupI (show 2 ≤ 100000 by decide) fun x hx => by
  rcases List.mem_cons.mp hx with rfl | hx
  · exact h
  · rw [List.mem_singleton.mp hx]; exact h2
/-- what is told is shown -/
theorem told_shown {as : List (Nat × Nat)} {room : List Nat} (hp : ∀ p ∈ as, p.1 < p.2 ∧ p.2 ≤ room.length) : showT as room (.tup [.lst (natT (keptN as room room.length)), .lst (natT (papN as room))]) = true := by
  obtain ⟨o1, o2, o3⟩ := papN_ok (as := as) (room := room) hp
  rw [showT_pair _ _ _ _ (placesT_iff.mpr ⟨_, rfl, keptN_pw as room _, keptN_lt as room _⟩) (placesT_iff.mpr ⟨_, rfl, o1, o2⟩)]
  unfold showN
  rw [Bool.and_eq_true, decide_eq_true_eq]
  refine ⟨?_, o3.symm⟩
  unfold fitN
  rw [Bool.not_eq_true', List.any_eq_false]
  intro j hj
  have := keptA_room as room (List.mem_range.mp hj)
  rw [decide_eq_true_eq]
  show ¬ rm room j < cntL (keptA as room) j
  omega
def fCnt (as : List (Nat × Nat)) : T → T
  | .int i => .int (cnt as i.toNat : Nat)
  | _ => .non
theorem fCnt_at (as : List (Nat × Nat)) (i : Nat) : fCnt as (.int (0 + (i : Int))) = .int (cnt as i : Nat) := by
  show T.int (cnt as (0 + (i : Int)).toNat : Nat) = _
  rw [show (0 + (i : Int)).toNat = i by omega]
theorem fCnt_all (as : List (Nat × Nat)) (n : Nat) : List.map (fCnt as) (rgT 0 n) = (lsI as n).map T.int := by
  rw [← tab_lsI]
  unfold rgT tabT
  rw [List.map_map, show ((n : Int) - 0).toNat = n by omega]
  exact List.map_congr_left fun i _ => fCnt_at as i
theorem lsI_len (as : List (Nat × Nat)) (n : Nat) : (lsI as n).length = n := by unfold lsI; rw [List.length_map, List.length_range]
theorem same_ints (l : List Int) (h : l.length ≤ 1000) : T.ok 3 (.lst (l.map T.int)) = true ∧ T.sz (.lst (l.map T.int)) = true :=
  ⟨ok_ints 2 l, sz_lstI (by rw [List.length_map]; omega) fun x hx => by obtain ⟨i, _, rfl⟩ := List.mem_map.mp hx; rfl⟩
theorem same_ful (as : List (Nat × Nat)) (n : Nat) : T.ok 3 (fulL as n) = true ∧ T.sz (fulL as n) = true :=
  ⟨ok_tupI fun x hx => by
    rcases List.mem_cons.mp hx with rfl | hx
    · rfl
    · rw [List.mem_singleton.mp hx]; rfl, sz_tupI (show 2 ≤ 100000 by decide) fun x hx => by
    rcases List.mem_cons.mp hx with rfl | hx
    · rfl
    · rw [List.mem_singleton.mp hx]; rfl⟩
def fAt (as : List (Nat × Nat)) : T → T
  | .int i => .tup [.int (askAt as i.toNat).1, .int (askAt as i.toNat).2]
  | _ => .non
theorem fAt_all (as : List (Nat × Nat)) (l : List Nat) : (natT l).map (fAt as) = asT (chosen as l) := by
  unfold natT asT chosen
  rw [List.map_map, List.map_map]; rfl
end Lv

/-! Lz: small data, its keeping. -/
namespace Lv
open PySem L2 LvI
mutual
theorem sm_mono : ∀ (n m : Nat) (t : T), n ≤ m → T.sm n t = true → T.sm m t = true
  | n, m, .non, _, _ => by unfold T.sm; rfl
  | n, m, .bl _, _, _ => by unfold T.sm; rfl
  | n, m, .int i, _, h => by unfold T.sm at h ⊢; exact h
  | n, m, .str x, _, h => by unfold T.sm at h ⊢; exact h
  | n + 1, m + 1, .lst xs, l, h => by unfold T.sm at h ⊢; exact sms_mono n m xs (by omega) h
  | n + 1, m + 1, .tup xs, l, h => by unfold T.sm at h ⊢; exact sms_mono n m xs (by omega) h
  | n + 1, 0, .lst xs, l, h => by omega
  | n + 1, 0, .tup xs, l, h => by omega
  | 0, m, .lst _, _, h => by unfold T.sm at h; cases h
  | 0, m, .tup _, _, h => by unfold T.sm at h; cases h
  | n, m, .scr _, _, h => by unfold T.sm at h; cases h
  | n, m, .ref _, _, h => by unfold T.sm at h; cases h
  | n, m, .ty _, _, h => by unfold T.sm at h; cases h
theorem sms_mono : ∀ (n m : Nat) (xs : List T), n ≤ m → T.sms n xs = true → T.sms m xs = true
  | n, m, [], _, _ => by unfold T.sms; rfl
  | n, m, x :: r, l, h => by
    unfold T.sms at h ⊢
    rw [Bool.and_eq_true] at h ⊢
    exact ⟨sm_mono n m x l h.1, sms_mono n m r l h.2⟩
end
theorem sm_lst {n : Nat} {xs : List T} (h : ∀ x ∈ xs, T.sm n x = true) : T.sm (n + 1) (.lst xs) = true := by
  unfold T.sm; rw [sms_all]; exact List.all_eq_true.mpr h
theorem sm_tup {n : Nat} {xs : List T} (h : ∀ x ∈ xs, T.sm n x = true) : T.sm (n + 1) (.tup xs) = true := by
  unfold T.sm; rw [sms_all]; exact List.all_eq_true.mpr h
theorem cut_sub (ts : List T) (a b : Option Int) : (cut ts a b).Sublist ts := by
  unfold cut
  exact (List.take_sublist _ _).trans (List.drop_sublist _ _)
end Lv

/-! Lw1: a comprehension whose iterable changes the store; sizes by weight. -/
namespace Lv
open PySem L2
theorem sm_natT {n : Nat} {l : List Nat} (h : ∀ x ∈ l, x < 10 ^ 12) : T.sm (n + 1) (.lst (natT l)) = true := sm_lst fun x hx => by
  obtain ⟨i, hi, rfl⟩ := List.mem_map.mp hx
  unfold T.sm
  have := h i hi
  exact decide_eq_true (by omega)
theorem wts_natT : ∀ {l : List Nat}, (∀ x ∈ l, x < 10 ^ 12) → wts (natT l) ≤ 41 * l.length
  | [], _ => by rw [show natT [] = [] from rfl, wts_nil]; omega
  | a :: r, h => by
    rw [show natT (a :: r) = .int (a : Nat) :: natT r from rfl, wts_cons, List.length_cons]
    have h1 := wt_int (i := (a : Int)) (by have := h a List.mem_cons_self; omega)
    have h2 := wts_natT (l := r) fun x hx => h x (List.mem_cons_of_mem _ hx)
    omega
end Lv

/-! Lw2: sorted(set(a list of ints)). -/
namespace Lv
open PySem L2 PySem.Spec PyProof.Rows
section
variable {P : Program} {w : World} {A : Around} {E : Value → Shared → Prop} {s : Shared}
end
section
variable {X : Cx} {M : MP} {e : Expr} {pos : Pos} {va : ATE}
def aSortSet (t : ATE) : ATE := fun δ s Q => t δ s fun x s1 => ∃ ns : List Int, lsV s1 x = some (ns.map T.int) ∧ ns.length < 64 ∧ ∀ ms : List Int, ms.Pairwise (· < ·) → (∀ k, k ∈ ms ↔ k ∈ ns) → Q (.l s1.length) (s1 ++ [.lst (ms.map T.int)])
end
end Lv

/-! Lo1: dicts of the store whose values are places or data. -/
namespace Lv
open PySem L2
section
variable {κ : Type} [DecidableEq κ]
def valS (kvs : List (κ × SV)) (k : κ) : Option SV := (kvs.find? fun kv => decide (kv.1 = k)).map (·.2)
def putS (kvs : List (κ × SV)) (k : κ) (x : SV) : List (κ × SV) :=
  if (kvs.any fun kv => decide (kv.1 = k)) = true then kvs.map (fun kv => if kv.1 = k then (kv.1, x) else kv) else kvs ++ [(k, x)]
variable {K : Fr} {B : Hp} {φ : Fi}
theorem RsAll.append {vs ws : List V} {xs ys : List SV} (h : RsAll K B φ vs xs) (g : RsAll K B φ ws ys) : RsAll K B φ (vs ++ ws) (xs ++ ys) := by
  induction h with
  | nil => exact g
  | cons a _ ih => exact .cons a ih
end
/-- keys: whole numbers and texts -/
def keyT : T → Option Key
  | .int i => some (.inl i)
  | .str z => some (.inr z)
  | _ => none
section
variable {X : Cx} {M : MP} {e o f : Expr} {pos apos : Pos} {va vo vk vx : ATE}
def aDic0 : ATE := fun _ s Q => Q (.l s.length) (s ++ [.mK []])
def isMK (s : ST) : SV → Bool
  | .l n => (match s[n]? with | some (.mK _) => true | _ => false)
  | _ => false
/-- what setdefault does to a dict of the store -/
def setdG (x y z : SV) (s : ST) (Q : SV → ST → Prop) : Prop := match x, y with
  | .l n, .d t => ∃ k, keyT t = some k ∧ ∃ kvs, s[n]? = some (.mK kvs) ∧ kvs.length < sizeLine ∧ (∀ v, valS kvs k = some v → Q v s) ∧ (valS kvs k = none → Q z (s.set n (.mK (putS kvs k z))))
  | _, _ => False
def aSetd (to tk tx : ATE) : ATE := fun δ s Q => to δ s fun x s1 => isMK s1 x = true ∧ tk δ s1 fun y s2 => tx δ s2 fun z s3 => setdG x y z s3 Q
end
end Lv

/-! Lo2: what is kept of the store: the first k things, and chosen later ones, in a chosen order. -/
namespace Lv
open PySem L2
def mvN (k : Nat) (ns : List Nat) (n : Nat) : Nat := if n < k then n else k + ns.idxOf n
def mvS (k : Nat) (ns : List Nat) : SV → SV
  | .l n => .l (mvN k ns n)
  | x => x
def mvO (k : Nat) (ns : List Nat) : LO → LO
  | .tp xs => .tp (xs.map (mvS k ns))
  | .ll xs => .ll (xs.map (mvS k ns))
  | .mK kvs => .mK (kvs.map fun p => (p.1, mvS k ns p.2))
  | .mT kvs => .mT (kvs.map fun p => (p.1, mvS k ns p.2))
  | .fK od vs kvs => .fK od vs (kvs.map fun p => (p.1, mvS k ns p.2))
  | .fT od vs kvs => .fT od vs (kvs.map fun p => (p.1, mvS k ns p.2))
  | .ins C j fs => .ins C (mvN k ns j) (fs.map fun p => (p.1, mvS k ns p.2))
  | .own j => .own (mvN k ns j)
  | o => o
def inN (k : Nat) (ns : List Nat) (n : Nat) : Bool := decide (n < k) || ns.contains n
def inS (k : Nat) (ns : List Nat) : SV → Bool
  | .l n => inN k ns n
  | _ => true
def inO (k : Nat) (ns : List Nat) : LO → Bool
  | .tp xs => xs.all (inS k ns)
  | .ll xs => xs.all (inS k ns)
  | .mK kvs => (kvs.map (·.2)).all (inS k ns)
  | .mT kvs => (kvs.map (·.2)).all (inS k ns)
  | .fK _ _ kvs => (kvs.map (·.2)).all (inS k ns)
  | .fT _ _ kvs => (kvs.map (·.2)).all (inS k ns)
  | .ins _ j fs => inN k ns j && (fs.map (·.2)).all (inS k ns)
  | .own j => inN k ns j
  | _ => true
def kpO (s : ST) (n : Nat) : LO := (s[n]?).getD .gone
/-- the choice is one: later things, none twice, and nothing kept leans on what is not kept -/
def selOk (k : Nat) (ns : List Nat) (s : ST) : Bool := ns.all (fun n => decide (k ≤ n) && decide (n < s.length)) && decide ns.Nodup && (s.take k).all (inO k ns) && ns.all fun n => inO k ns (kpO s n)
def selS (k : Nat) (ns : List Nat) (s : ST) : ST := (s.take k).map (mvO k ns) ++ ns.map fun n => mvO k ns (kpO s n)
section
variable {K : Fr} {M : MP} {H B H0 B0 : Hp} {φ φ0 : Fi} {s s0 : ST}
theorem mvO_is {k : Nat} {ns : List Nat} {o : LO} : (mvO k ns o).is = o.is := by cases o <;> rfl
theorem Re.sel (re : Re K M H B φ s) (g : Gr H0 B0 φ0 H B φ) (e0 : Re K M H0 B0 φ0 s0) {ns : List Nat} {k : Nat} (hk : k = φ0.length) (h : selOk k ns s = true) :
    ∃ φ', Gr H0 B0 φ0 H B φ' ∧ Re K M H B φ' (selS k ns s) ∧ ∀ v x, Rs K B φ v x → inS k ns x = true → Rs K B φ' v (mvS k ns x) := by
  unfold selOk at h
  rw [Bool.and_eq_true, Bool.and_eq_true, Bool.and_eq_true] at h
  obtain ⟨⟨⟨h1, h2⟩, h3⟩, h4⟩ := h
  have nd := of_decide_eq_true h2
  have hr : ∀ n ∈ ns, k ≤ n ∧ n < s.length := fun n hn => by
    have := List.all_eq_true.mp h1 n hn
    rw [Bool.and_eq_true] at this
    exact ⟨of_decide_eq_true this.1, of_decide_eq_true this.2⟩
  have lφ := re.len
  have hk2 : k ≤ φ.length := by rw [hk]; exact g.le
  have hlt : ∀ n ∈ ns, n < φ.length := fun n hn => by rw [lφ]; exact (hr n hn).2
  have ltk : (φ.take k).length = k := by rw [List.length_take]; omega
  -- the kept places
  have at1 : ∀ i c, (φ.take k ++ selF φ ns)[i]? = some c → ∃ n, φ[n]? = some c ∧ ((i < k ∧ n = i) ∨ (k ≤ i ∧ ns[i - k]? = some n)) := fun i c hp => by
    by_cases hi : i < k
    · rw [List.getElem?_append_left (by omega), List.getElem?_take_of_lt hi] at hp
      exact ⟨i, hp, .inl ⟨hi, rfl⟩⟩
    · rw [List.getElem?_append_right (by omega), ltk] at hp
      obtain ⟨n, q1, q2⟩ := selF_inv hlt hp
      exact ⟨n, q2, .inr ⟨by omega, q1⟩⟩
  have at2 : ∀ n c, φ[n]? = some c → inN k ns n = true → (φ.take k ++ selF φ ns)[mvN k ns n]? = some c := fun n c hp hn => by
    unfold mvN
    split
    · rename_i hl
      rw [List.getElem?_append_left (by omega), List.getElem?_take_of_lt hl]; exact hp
    · rename_i hge
      have hm : n ∈ ns := by
        unfold inN at hn
        rw [decide_eq_false hge, Bool.false_or] at hn
        exact List.contains_iff_mem.mp hn
      have hx : ns[ns.idxOf n]? = some n := by
        rw [List.getElem?_eq_getElem (List.idxOf_lt_length_of_mem hm)]
        exact congrArg some (List.getElem_idxOf (List.idxOf_lt_length_of_mem hm))
      rw [List.getElem?_append_right (by omega), ltk, Nat.add_sub_cancel_left, selF_at hlt hx]; exact hp
  have at3 : ∀ n p, φ.r n = some p → inN k ns n = true → Fi.r (φ.take k ++ selF φ ns) (mvN k ns n) = some p := fun n p hp hn => by
    obtain ⟨c, h1, rfl⟩ := Fi.r_inv hp
    exact Fi.r_of (at2 n c h1 hn)
  have so : ∀ i o, (selS k ns s)[i]? = some o → ∃ n o', s[n]? = some o' ∧ o = mvO k ns o' ∧ inO k ns o' = true ∧ ((i < k ∧ n = i) ∨ (k ≤ i ∧ ns[i - k]? = some n)) := fun i o ho => by
    have lt : ((s.take k).map (mvO k ns)).length = k := by rw [List.length_map, List.length_take]; omega
    unfold selS at ho
    by_cases hi : i < k
    · rw [List.getElem?_append_left (by omega), List.getElem?_map, List.getElem?_take_of_lt hi] at ho
      have hs : s[i]? = some s[i] := List.getElem?_eq_getElem (by omega)
      rw [hs] at ho
      exact ⟨i, s[i], hs, (Option.some.inj ho).symm, List.all_eq_true.mp h3 _ (List.mem_of_getElem? (by rw [List.getElem?_take_of_lt hi]; exact hs)), .inl ⟨hi, rfl⟩⟩
    · rw [List.getElem?_append_right (by omega), lt, List.getElem?_map] at ho
      cases hq : ns[i - k]? with
      | none => rw [hq] at ho; cases ho
      | some n =>
        rw [hq] at ho
        have hm := List.mem_of_getElem? hq
        have hnl := (hr n hm).2
        have hs : s[n]? = some s[n] := List.getElem?_eq_getElem hnl
        have e : kpO s n = s[n] := by unfold kpO; rw [hs]; rfl
        refine ⟨n, s[n], hs, ?_, ?_, .inr ⟨by omega, rfl⟩⟩
        · rw [← e]; exact (Option.some.inj ho).symm
        · rw [← e]; exact List.all_eq_true.mp h4 n hm
  have uniq : ∀ {i n m}, ((i < k ∧ n = i) ∨ (k ≤ i ∧ ns[i - k]? = some n)) → ((i < k ∧ m = i) ∨ (k ≤ i ∧ ns[i - k]? = some m)) → n = m := fun a b => by
    rcases a with ⟨a1, a2⟩ | ⟨a1, a2⟩ <;> rcases b with ⟨b1, b2⟩ | ⟨b1, b2⟩
    · omega
    · omega
    · omega
    · rw [a2] at b2; exact Option.some.inj b2
  have rs : ∀ v x, Rs K B φ v x → inS k ns x = true → Rs K B (φ.take k ++ selF φ ns) v (mvS k ns x) := fun v x hx hi => by
    cases x with
    | d t => exact hx
    | l n => obtain ⟨p, hp, rfl⟩ := hx; exact ⟨p, at3 n p hp hi, rfl⟩
  have rsa : ∀ {vs xs}, RsAll K B φ vs xs → xs.all (inS k ns) = true → RsAll K B (φ.take k ++ selF φ ns) vs (xs.map (mvS k ns)) := fun hx hi => hx.map_to fun v x m rx => rs v x rx (List.all_eq_true.mp hi x m)
  have g2 : Gr H0 B0 φ0 H B (φ.take k ++ selF φ ns) := ⟨g.eb, ⟨(selF φ ns).map Ce.p, by
    obtain ⟨r, er⟩ := g.pf
    rw [List.map_append, List.map_take, er, hk, ← List.length_map (f := Ce.p), List.take_left]⟩, g.kp, g.nb, fun a ha => by
    obtain ⟨i, c, hi, hc⟩ := adr_of ha
    obtain ⟨n, hn, _⟩ := at1 i c hi
    exact g.nf a (adr_mem hn hc)⟩
  refine ⟨_, g2, ⟨re.ex, ?_, ?_, fun p hp => ?_, fun i c o e1 e2 e3 => ?_, fun i c o e1 e2 => ?_, fun H3 B3 φ3 g3 => e0.pm _ _ _ (g2.trans g3)⟩, rs⟩
  · refine adr_nd_of (fun i c hc => ?_) fun i j c d a q1 q2 q3 q4 => ?_
    · obtain ⟨n, hn, _⟩ := at1 i c hc
      exact ce_nd re.nd hn
    · obtain ⟨n, hn, cn⟩ := at1 i c q1
      obtain ⟨m, hm, cm⟩ := at1 j d q2
      have := adr_nd re.nd hn hm q3 q4
      subst this
      rcases cn with ⟨a1, a2⟩ | ⟨a1, a2⟩ <;> rcases cm with ⟨b1, b2⟩ | ⟨b1, b2⟩
      · omega
      · have := (hr n (List.mem_of_getElem? b2)).1; omega
      · have := (hr n (List.mem_of_getElem? a2)).1; omega
      · obtain ⟨j1, j2⟩ := List.getElem?_eq_some_iff.mp a2
        obtain ⟨k1, k2⟩ := List.getElem?_eq_some_iff.mp b2
        have := (List.getElem_inj nd).mp (j2.trans k2.symm)
        omega
  · unfold selS
    rw [List.length_append, List.length_append, List.length_map, List.length_map, selF_len, ltk, List.length_take]; omega
  · obtain ⟨i, c, hi, hc⟩ := adr_of hp
    obtain ⟨n, hn, _⟩ := at1 i c hi
    exact re.al p (adr_mem hn hc)
  · obtain ⟨n, hn, cn⟩ := at1 i c e1
    obtain ⟨m, o', ho, rfl, _, cm⟩ := so i o e2
    have := uniq cn cm
    subst this
    exact re.fr n c o' hn ho (by rw [← mvO_is (k := k) (ns := ns)]; exact e3)
  · obtain ⟨n, hn, cn⟩ := at1 i c e1
    obtain ⟨m, o', ho, rfl, io, cm⟩ := so i o e2
    have := uniq cn cm
    subst this
    have hob := re.ob n c o' hn ho
    have go : ∀ u, Ro K B φ o' u → Ro K B (φ.take k ++ selF φ ns) (mvO k ns o') u := fun u hob => by
      cases o' with
      | gone => trivial
      | lst _ => exact hob
      | dK _ => exact hob
      | dT _ => exact hob
      | tp xs => obtain ⟨vs, f1, e⟩ := hob; exact ⟨vs, rsa f1 io, e⟩
      | ll xs => obtain ⟨vs, f1, e⟩ := hob; exact ⟨vs, rsa f1 io, e⟩
      | mK kvs =>
        obtain ⟨vs, f1, e⟩ := hob
        obtain ⟨m1, m2⟩ := map_snd (mvS k ns) kvs
        exact ⟨vs, by rw [m1]; exact rsa f1 io, by rw [m2]; exact e⟩
      | mT kvs =>
        obtain ⟨vs, f1, e⟩ := hob
        obtain ⟨m1, m2⟩ := map_snd (mvS k ns) kvs
        exact ⟨vs, by rw [m1]; exact rsa f1 io, by rw [m2]; exact e⟩
      | fK od vs kvs =>
        obtain ⟨f1, e⟩ := hob
        obtain ⟨m1, m2⟩ := map_snd (mvS k ns) kvs
        exact ⟨by rw [m1]; exact rsa f1 io, by rw [m2]; exact e⟩
      | lK od vs kvs => exact hob
      | lT od vs kvs => exact hob
      | fT od vs kvs =>
        obtain ⟨f1, e⟩ := hob
        obtain ⟨m1, m2⟩ := map_snd (mvS k ns) kvs
        exact ⟨by rw [m1]; exact rsa f1 io, by rw [m2]; exact e⟩
      | ins C j fs =>
        obtain ⟨vs, dx, f1, j1, e⟩ := hob
        obtain ⟨m1, m2⟩ := map_snd (mvS k ns) fs
        have io := Bool.and_eq_true_iff.mp io
        exact ⟨vs, dx, by rw [m1]; exact rsa f1 io.2, at3 j dx j1 io.1, by rw [m2]; exact e⟩
      | own j => obtain ⟨x, j1, e⟩ := hob; exact ⟨x, at3 j x j1 io, e⟩
      | box _ => exact hob.elim
      | pool _ _ => exact hob.elim
    have hsm : (mvO k ns o').smp = o'.smp := by cases o' <;> rfl
    cases hob with
    | gone => exact .gone
    | sim w1 w2 w3 => exact .sim (by rw [hsm]; exact w1) w2 (go _ w3)
    | box ψ w1 w2 w3 w4 => exact .box ψ w1 w2 w3 w4
    | pool w1 w2 w3 w4 => exact .pool w1 w2 (w3.shl w1) w4
/-- a value, and what is kept with it -/
def keepC (k : Nat) (Q : SV → ST → Prop) : SV → ST → Prop := fun x s1 => ∃ ns : List Nat, selOk k ns s1 = true ∧ inS k ns x = true ∧ Q (mvS k ns x) (selS k ns s1)
theorem fin_keep {Q : SV → ST → Prop} {Q' : VK} (re : Re K M H B φ s) (f : FinE K M H B φ Q Q') : FinE K M H B φ (keepC s.length Q) Q' := fun H1 B1 φ1 s1 v x g1 re1 r1 ⟨ns, h1, h2, q⟩ => by
  obtain ⟨φ', g2, re2, rs⟩ := re1.sel g1 re re.len.symm h1
  exact f _ _ _ _ _ _ g2 re2 (rs v x r1 h2) q
theorem keepC_of {k : Nat} {Q : SV → ST → Prop} {x : SV} {s1 : ST} (ns : List Nat) (h1 : selOk k ns s1 = true) (h2 : inS k ns x = true) (q : Q (mvS k ns x) (selS k ns s1)) : keepC k Q x s1 := ⟨ns, h1, h2, q⟩
def mvA (k : Nat) (ns : List Nat) : Option SV → Option SV
  | some x => if inS k ns x then some (mvS k ns x) else none
  | none => none
def endK (k : Nat) (vs : List Nat) (Q : AS → ST → Prop) : AS → ST → Prop := fun δ s1 => ∃ ns : List Nat, selOk k ns s1 = true ∧ Q ((wipeA δ vs).map (mvA k ns)) (selS k ns s1)
theorem fin_endK {vs : List Nat} {Q : AS → ST → Prop} {Q' : St → Hp → Prop} (re : Re K M H B φ s) (f : FinG K M H B φ Q Q') : FinG K M H B φ (endK s.length vs Q) Q' := fun H1 B1 φ1 s1 σ δ g1 re1 sl ⟨ns, h1, q⟩ => by
  obtain ⟨φ', g2, re2, rs⟩ := re1.sel g1 re re.len.symm h1
  have sl2 := sl.wipeA vs
  refine f _ _ _ _ _ _ g2 re2 ⟨by rw [List.length_map]; exact sl2.len, fun i x e => ?_⟩ q
  rw [List.getElem?_map] at e
  cases hd : (wipeA δ vs)[i]? with
  | none => rw [hd] at e; cases e
  | some y =>
    rw [hd] at e
    cases y with
    | none => cases e
    | some z =>
      have e : mvA s.length ns (some z) = some x := Option.some.inj e
      unfold mvA at e
      simp only at e
      split at e
      · rename_i hz
        cases e
        obtain ⟨v, e1, r1⟩ := sl2.at_ i z hd
        exact ⟨v, e1, rs v z r1 hz⟩
      · cases e
end
section
variable {X : Cx} {M : MP} {e : Expr} {va : ATE} {st : List Stmt} {t : ATS}
def aKp (t : ATE) : ATE := fun δ s Q => t δ s (keepC s.length Q)
/-- a block of a loop, what is kept is chosen -/
def pBlkK (vs : List Nat) (t : ATS) : ATS := fun A δ s => t { nx := endK s.length vs A.nx, rt := A.rt, bk := endK s.length vs A.bk, ct := endK s.length vs A.ct } δ s
/-- a def's body likewise -/
def pBodyK (t : ATS) : ATS := fun A δ s => t { nx := endK s.length [] A.nx, rt := keepC s.length A.rt } δ s
theorem ap_bodyK (h : APs X M st t) : APs X M st (pBodyK t) := ⟨_, h.pss, fun H B φ σ δ s A re sl q D f => uS_lift (t := t) H B φ σ δ s _ re sl q _ ⟨fin_endK re f.nx, fin_keep re f.rt, fun _ _ _ _ _ _ _ _ _ z => z.elim, fun _ _ _ _ _ _ _ _ _ z => z.elim⟩⟩
end
section
variable {P : Program} {w : World} {K : Fr} {mg : Str → Option Value} {base : Heap}
theorem Df.calK {x qual : Str} {st : Stmt} {ps : List Str} {k : Nat} {sp : ASp} (D : Df K mg x qual st ps) {N : List Str} (S : FnScope N ps (defScope st)) (len : ∀ vs s Q, sp vs s Q → vs.length = ps.length)
    (hbody : ∀ (f : Addr) (cdv : Value) (A : Around) (outer : List Env) (s : Shared) (H : Hp) (E : XK), RoomG k (A.deeper (PyProof.Rows.envOfC qual (defScope st) s.heap.objs.size f cdv)) →
      ∃ t, APs (cxOf (L2.CX P w) P w K mg base N qual (defScope st) f cdv A outer s H E).nox M0 (defBody st) t ∧ ∀ (svs : List SV) (s0 : ST) (Q : SV → ST → Prop), sp svs s0 Q → pBodyK t { nx := fun _ s' => Q (.d .non) s', rt := Q } (slots N svs) s0) : Cal P w K mg base (k + 1) x ps sp := by
  obtain ⟨f, fd, F, h1, h2, h3⟩ := D.ex
  exact ⟨f, fd, fn_lv F S len fun cdv A outer s H E hr svs s0 Q h => (by
    obtain ⟨t, p, q⟩ := hbody f cdv A outer s H E hr
    exact ⟨_, ap_bodyK p, q svs s0 Q h⟩), h1, h2, h3⟩
end
end Lv

/-! Kl: asks laid on berths, one by one (no program in sight). An entry: (berth, begin, end); a triple: (begin, end, place). -/
namespace Kl
abbrev E3 := Nat × Nat × Nat
/-- a berth on which some entry has a leg from a on -/
def busy (L : List E3) (a j : Nat) : Bool := L.any fun e => decide (e.1 = j ∧ a < e.2.2)
def ff (L : List E3) (a : Nat) : Nat → Nat → Nat
  | 0, j => j
  | n + 1, j => if busy L a j then ff L a n (j + 1) else j
/-- the least berth that is free from a on -/
def free (L : List E3) (a : Nat) : Nat := ff L a L.length 0
end Kl

/-! Lr1: triples as data; berths. -/
namespace Lv
open PySem L2 Kl
def lastN (as : List (Nat × Nat)) : Nat := (as.map Prod.snd).foldl max 0
end Lv

/-! Lr2: dicts of places: what is found behind a store; the book of who lies on which berth. -/
namespace Lv
open PySem L2 Kl
section
variable {κ : Type} [DecidableEq κ]
end
end Lv

/-! Lt1: lists of small natural numbers as data. -/
namespace Lv
open PySem L2
/-- a list of small natural numbers -/
def gT (ts : List T) (k : Nat) : Prop := (∀ x ∈ ts, ∃ n : Nat, n < 10 ^ 6 ∧ x = .int (n : Nat)) ∧ ts.length ≤ k
theorem gT.mono {ts : List T} {j k : Nat} (h : gT ts j) (l : j ≤ k) : gT ts k := ⟨h.1, Nat.le_trans h.2 l⟩
theorem gT.sub {ts us : List T} {k : Nat} (h : gT ts k) (m : us.Sublist ts) : gT us k := ⟨fun x hx => h.1 x (m.subset hx), Nat.le_trans m.length_le h.2⟩
theorem gT.app {ts us : List T} {j k : Nat} (h : gT ts j) (g : gT us k) : gT (ts ++ us) (j + k) := ⟨fun x hx => (List.mem_append.mp hx).elim (h.1 x) (g.1 x), by rw [List.length_append]; exact Nat.add_le_add h.2 g.2⟩
theorem gT.cut {ts : List T} {k : Nat} (h : gT ts k) (a b : Option Int) : gT (cut ts a b) k := h.sub (cut_sub ts a b)
theorem gT.one {n : Nat} (h : n < 10 ^ 6) : gT [.int (n : Nat)] 1 := ⟨fun x hx => ⟨n, h, List.mem_singleton.mp hx⟩, Nat.le_refl _⟩
theorem gT.nil : gT [] 0 := ⟨fun x hx => (by cases hx), Nat.le_refl _⟩
theorem gT.ex : ∀ {ts : List T} {k : Nat}, gT ts k → ∃ l : List Nat, ts = natT l
  | [], k, h => ⟨[], rfl⟩
  | x :: r, k, h => by
    obtain ⟨n, _, e⟩ := h.1 x List.mem_cons_self
    obtain ⟨l, e2⟩ := gT.ex (h.sub (List.sublist_cons_self x r))
    exact ⟨n :: l, by rw [e, e2]; rfl⟩
theorem gT.get {ts : List T} {k : Nat} (h : gT ts k) {i : Nat} (hi : i < ts.length) : ∃ n : Nat, n < 10 ^ 6 ∧ atI ts (i : Int) = some (.int (n : Nat)) := by
  obtain ⟨n, h1, h2⟩ := h.1 _ (List.getElem_mem hi)
  exact ⟨n, h1, by rw [← h2]; exact atI_at (List.getElem?_eq_getElem hi)⟩
theorem gT.wts : ∀ {ts : List T} {k : Nat}, gT ts k → wts ts ≤ 41 * k
  | [], k, h => by rw [wts_nil]; omega
  | x :: r, 0, h => absurd h.2 (by simp)
  | x :: r, k + 1, h => by
    obtain ⟨n, hn, e⟩ := h.1 x List.mem_cons_self
    have h2 := gT.wts (ts := r) (k := k) ⟨fun y hy => h.1 y (List.mem_cons_of_mem _ hy), by have := h.2; rw [List.length_cons] at this; omega⟩
    have h1 := wt_int (i := (n : Int)) (by omega)
    rw [wts_cons, e]
    omega
theorem gT.sm {ts : List T} {k : Nat} (h : gT ts k) : ∀ x ∈ ts, T.sm 0 x = true := fun x hx => by
  obtain ⟨n, hn, rfl⟩ := h.1 x hx
  unfold T.sm
  exact decide_eq_true (by omega)
end Lv

/-! Lo3: constants of the module by name, a written dict read by a text, a text so many times. -/
namespace Lv
open PySem L2
/-- x stands for data t -/
structure GT (K : Fr) (mg : Str → Option Value) (x : Str) (t : T) : Prop where
  ex : ∃ (v : V) (u : Value), mg x = some u ∧ RelV v u ∧ ∀ B, Fz K B v t
/-- x stands for a written dict with these entries -/
structure GD (K : Fr) (w : World) (mg : Str → Option Value) (x : Str) (tab : List (Str × T)) : Prop where
  ex : ∃ a : Addr, mg x = some (.ref a) ∧ ∀ p ∈ tab, ∃ v, KDct K w a p.1 v ∧ ∀ B, Fz K B v p.2
section
variable {K : Fr} {w : World} {mg : Str → Option Value} {x : Str}
theorem GT.int {i : Int} {t : Tok} (h : mg x = some (.int i t)) : GT K mg x (.int i) := ⟨.int i, _, h, ⟨t, rfl⟩, fun B => .int i⟩
theorem GT.str {z : Str} {t : Tok} (h : mg x = some (.str z t)) : GT K mg x (.str z) := ⟨.str z, _, h, ⟨t, rfl⟩, fun B => .str z⟩
end
section
variable {X : Cx} {M : MP} {e : Expr} {pos p : Pos} {x : Str} {va vb ve : ATE} {a b : Expr}
/-- an entry of a written dict -/
def aKd (tab : List (Str × T)) (ve : ATE) : ATE := fun δ s Q => ve δ s fun y s1 => ∃ z t, y = .d (.str z) ∧ (z, t) ∈ tab ∧ Q (.d t) s1
/-- a text so many times -/
def mulSG : AR2 := fun x y s Q => match x, y with
  | .d (.str z), .d (.int k) => MulOk z k ∧ Q (.d (.str (Txt.mul z k))) s
  | _, _ => False
end
end Lv
namespace Lv
open PySem L2
/-! what the top has written of constants -/
structure GTk (K : Fr) (x : Str) (t : T) : Prop where
  ex : ∃ (v : V) (u : Value), PySem.W.nsIn K mainGlobals x = some (some u) ∧ RelV v u ∧ ∀ B, Fz K B v t
theorem GTk.int_of {K : Fr} {x : Str} {i : Int} {t : Tok} (h : PySem.W.nsIn K mainGlobals x = some (some (.int i t))) : GTk K x (.int i) := ⟨.int i, _, h, ⟨t, rfl⟩, fun B => .int i⟩
theorem GTk.str_of {K : Fr} {x : Str} {z : Str} {t : Tok} (h : PySem.W.nsIn K mainGlobals x = some (some (.str z t))) : GTk K x (.str z) := ⟨.str z, _, h, ⟨t, rfl⟩, fun B => .str z⟩
theorem GTk.gt {K : Fr} {h : Heap} {mg : Str → Option Value} {x : Str} {t : T} (g : GTk K x t) (X : K.In h) (G : h.Ns mainGlobals mg) : GT K mg x t := by
  obtain ⟨v, u, h1, h2, h3⟩ := g.ex
  exact ⟨v, u, PySem.W.mg_of X G h1, h2, h3⟩
structure GDk (K : Fr) (w : World) (x : Str) (tab : List (Str × T)) : Prop where
  ex : ∃ a : Addr, PySem.W.nsIn K mainGlobals x = some (some (.ref a)) ∧ ∀ p ∈ tab, ∃ v, KDct K w a p.1 v ∧ ∀ B, Fz K B v p.2
theorem GDk.gd {K : Fr} {w : World} {h : Heap} {mg : Str → Option Value} {x : Str} {tab : List (Str × T)} (g : GDk K w x tab) (X : K.In h) (G : h.Ns mainGlobals mg) : GD K w mg x tab := by
  obtain ⟨a, h1, h2⟩ := g.ex
  exact ⟨a, PySem.W.mg_of X G h1, h2⟩
end Lv
namespace Lv
open PySem L2
theorem GDk.of {K : Fr} {w : World} {x : Str} {tab : List (Str × T)} {a : Addr} {es : Array DictEntry} {n : Nat} (h : PySem.W.nsIn K mainGlobals x = some (some (.ref a))) (hl : K.lookup a = some ⟨.type "dict", none, .dict es n, #[]⟩)
    (hk : PySem.W.KeysLit w.params es.toList) (ht : ∀ p ∈ tab, ∃ v u, PySem.W.nsIn K a p.1 = some (some u) ∧ RelV v u ∧ ∀ B, Fz K B v p.2) : GDk K w x tab :=
  ⟨a, h, fun p hp => by
    obtain ⟨v, u, h1, h2, h3⟩ := ht p hp
    exact ⟨v, ⟨es, n, u, hl, hk, h1, h2⟩, h3⟩⟩
end Lv
namespace Lv
theorem tab_nil {α : Type} {P : α → Prop} : ∀ p ∈ ([] : List α), P p := fun p h => by cases h
theorem tab_cons {α : Type} {P : α → Prop} {a : α} {r : List α} (h : P a) (g : ∀ p ∈ r, P p) : ∀ p ∈ a :: r, P p := fun p hp => by
  rcases List.mem_cons.mp hp with rfl | hp
  · exact h
  · exact g p hp
end Lv
namespace Lv
open PySem L2
/-- the entries of a written dict of texts -/
inductive GE (K : Fr) (a : Addr) : List (Str × T) → Prop
  | nil : GE K a []
  | str {k z : Str} {t : Tok} {r : List (Str × T)} : PySem.W.nsIn K a k = some (some (.str z t)) → GE K a r → GE K a ((k, .str z) :: r)
theorem GE.all {K : Fr} {a : Addr} {tab : List (Str × T)} (g : GE K a tab) : ∀ p ∈ tab, ∃ v u, PySem.W.nsIn K a p.1 = some (some u) ∧ RelV v u ∧ ∀ B, Fz K B v p.2 := by
  induction g with
  | nil => exact tab_nil
  | str h _ ih => exact tab_cons ⟨.str _, _, h, ⟨_, rfl⟩, fun B => .str _⟩ ih
end Lv

/-! Lo4: {"a": "b", ..}[e], a display of texts read at once. -/
namespace Lv
open PySem L2
inductive KC : List (Option Expr) → List Expr → List (Str × Str) → Prop
  | nil : KC [] [] []
  | cons {k z : Str} {j j' : Nat} {p p' : Pos} {ks : List (Option Expr)} {vs : List Expr} {tab : List (Str × Str)} : KC ks vs tab → KC (some (.Constant (.str k) j p) :: ks) (.Constant (.str z) j' p' :: vs) ((k, z) :: tab)
theorem KC.all {ks : List (Option Expr)} {vs : List Expr} {tab : List (Str × Str)} (h : KC ks vs tab) : ks.all (·.isSome) = true ∧ ks.length = vs.length ∧ ks.length = tab.length := by
  induction h with
  | nil => exact ⟨rfl, rfl, rfl⟩
  | cons _ ih => exact ⟨ih.1, congrArg Nat.succ ih.2.1, congrArg Nat.succ ih.2.2⟩
abbrev tabK (tab : List (Str × Str)) : List (Key × V) := mergeK [] (tab.map fun q => (Sum.inr q.1, V.str q.2))
section
variable {X : Cx} {M : MP} {e : Expr} {pos dpos : Pos} {ve : ATE} {ks : List (Option Expr)} {vs : List Expr} {tab : List (Str × Str)}
def aDIx (tab : List (Str × Str)) (ve : ATE) : ATE := fun δ s Q => ve δ s fun y s1 => ∃ z t, y = .d (.str z) ∧ valV (tabK tab) (Sum.inr z) = some (V.str t) ∧ Q (.d (.str t)) s1
/-- shut to simp -/
def kdK (tab : List (Str × T)) (Q : SV → ST → Prop) (_ : Lk Q) (y : SV) (s : ST) : Prop := ∃ z t, y = .d (.str z) ∧ (z, t) ∈ tab ∧ Q (.d t) s
theorem aKd_eq (tab : List (Str × T)) (ve : ATE) (δ : AS) (s : ST) (Q : SV → ST → Prop) : aKd tab ve δ s Q = ve δ s fun y s1 => kdK tab Q .mk y s1 := rfl
def dixK (tab : List (Str × Str)) (Q : SV → ST → Prop) (_ : Lk Q) (y : SV) (s : ST) : Prop := ∃ z t, y = .d (.str z) ∧ valV (tabK tab) (Sum.inr z) = some (V.str t) ∧ Q (.d (.str t)) s
theorem aDIx_eq (tab : List (Str × Str)) (ve : ATE) (δ : AS) (s : ST) (Q : SV → ST → Prop) : aDIx tab ve δ s Q = ve δ s fun y s1 => dixK tab Q .mk y s1 := rfl
end
end Lv

/-! Lu1: rooms as texts: berths alone, or two mates with a stroke between. -/
namespace Lv
open PySem L2
/-- a berth alone, or with its mate: true is up -/
abbrev U := Bool × Option Bool
end Lv

/-! Lb1: instances: data by a place, deep; freezing; boxes opened and shut; a call with a chosen part of the store. -/
namespace Lv
open PySem L2 LvI
/-- a pool's list tells just its own lists, in order -/
def pRefs : List T → List (Addr × PRec) → Bool
  | [], [] => true
  | .ref a :: ts, (b, .lst _) :: rs => decide (a = b) && pRefs ts rs
  | _, _ => false
theorem pRefs_len : ∀ {ts : List T} {rs : List (Addr × PRec)}, pRefs ts rs = true → ts.length = rs.length
  | [], [], _ => rfl
  | .ref a :: ts, (b, .lst _) :: rs, h => by
    unfold pRefs at h
    rw [Bool.and_eq_true] at h
    exact congrArg Nat.succ (pRefs_len h.2)
  | [], _ :: _, h => by unfold pRefs at h; cases h
  | t :: ts, [], h => by unfold pRefs at h; cases t <;> cases h
  | t :: ts, (b, .ins _ _ _) :: rs, h => by unfold pRefs at h; cases t <;> cases h
def PRec.dat : PRec → T
  | .lst us => .lst us
  | _ => .non
/-- a pool's dict tells just its own instances, in order -/
def pInss : List T → List (Addr × PRec) → Bool
  | [], [] => true
  | .ref a :: ts, (b, .ins _ _ _) :: rs => decide (a = b) && pInss ts rs
  | _, _ => false
def PRec.obT : PRec → T
  | .ins _ C fs => .obj C (fs.map (·.1)) (fs.map (·.2))
  | _ => .non
/-- a pool's lists in the place of their addresses -/
def lkR : List (Addr × PRec) → Addr → Option (List T)
  | [], _ => none
  | (b, .lst us) :: rs, a => if b = a then some us else lkR rs a
  | (_, .ins _ _ _) :: rs, a => lkR rs a
mutual
def rsvT (rs : List (Addr × PRec)) : T → T
  | .ref a => (match lkR rs a with | some us => .lst us | none => .ref a)
  | .tup ts => .tup (rsvTs rs ts)
  | t => t
def rsvTs (rs : List (Addr × PRec)) : List T → List T
  | [] => []
  | t :: r => rsvT rs t :: rsvTs rs r
end
/-! ### data by a place, deep: only the places that ok tells -/
def deepF (ok : Nat → Bool) : Nat → ST → SV → Option T
  | _, _, .d t => some t
  | 0, _, .l _ => none
  | k + 1, s, .l n => if ok n = true then (match s[n]? with
    | some (.lst xs) => some (.lst xs)
    | some (.tp xs) => (optT (deepF ok k s) xs).map T.tup
    | some (.ll xs) => (optT (deepF ok k s) xs).map T.lst
    | some (.lK _ _ kvs) => some (.dk (kvs.map (·.1)) (kvs.map (·.2)))
    | some (.lT _ _ kvs) => some (.dt (kvs.map (·.1)) (kvs.map (·.2)))
    | some (.fK _ _ kvs) => (optT (deepF ok k s) (kvs.map (·.2))).map (T.dk (kvs.map (·.1)))
    | some (.fT _ _ kvs) => (optT (deepF ok k s) (kvs.map (·.2))).map (T.dt (kvs.map (·.1)))
    | some (.ins C j fs) => (match s[j]? with
      | some (.own m) => if m = n ∧ ok j = true then (optT (deepF ok k s) (fs.map (·.2))).map (T.obj C (fs.map (·.1))) else none
      | _ => none)
    | some (.box st) => deepF (fun _ => true) k st (.l 0)
    | some (.pool (.lst ts) rs) => if pRefs ts rs = true then some (.lst (rs.map fun r => r.2.dat)) else some (.lst (rsvTs rs ts))
    | some (.pool (.lK _ _ kvs) rs) => if pInss (kvs.map (·.2)) rs = true then some (.dk (kvs.map (·.1)) (rs.map fun r => r.2.obT)) else if pRefs (kvs.map (·.2)) rs = true then some (.dk (kvs.map (·.1)) (rs.map fun r => r.2.dat)) else none
    | _ => none) else none
section
variable {K : Fr} {M : MP} {H B B2 : Hp} {φ : Fi} {s : ST}
theorem pRefs_fz (e : Ex B B2) : ∀ {vs : List V} {ts : List T} {rs : List (Addr × PRec)}, FzAll K B vs ts → pRefs ts rs = true → (∀ r ∈ rs, Po K B H r.1 r.2) → (∀ a ∈ poolA rs, B2 a = H a) → FzAll K B2 vs (rs.map fun r => r.2.dat)
  | _, [], [], .nil, _, _, _ => .nil
  | v :: vs, .ref a :: ts, (b, .lst us) :: rs, .cons h q, w, hp, hb => by
    unfold pRefs at w
    rw [Bool.and_eq_true] at w
    have e1 : a = b := of_decide_eq_true w.1
    subst e1
    cases (show Fz K B v (.ref a) from h)
    obtain ⟨ws, f, g⟩ := hp _ List.mem_cons_self
    refine .cons (.lst ((hb a (poolA_mem List.mem_cons_self (by simp [PRec.al]))).trans g) (f.mono e)) (pRefs_fz e q w.2 (fun r hr => hp r (List.mem_cons_of_mem _ hr)) fun x hx => hb x ?_)
    exact List.mem_append_right _ hx
  | _, [], _ :: _, .nil, w, _, _ => by unfold pRefs at w; cases w
  | _, t :: ts, [], .cons _ _, w, _, _ => by unfold pRefs at w; cases t <;> cases w
  | _, t :: ts, (b, .ins _ _ _) :: rs, .cons _ _, w, _, _ => by unfold pRefs at w; cases t <;> cases w
theorem pInss_fz (e : Ex B B2) : ∀ {vs : List V} {ts : List T} {rs : List (Addr × PRec)}, FzAll K B vs ts → pInss ts rs = true → (∀ r ∈ rs, Po K B H r.1 r.2) → (∀ a ∈ poolA rs, B2 a = H a) → FzAll K B2 vs (rs.map fun r => r.2.obT) ∧ ts.length = rs.length
  | _, [], [], .nil, _, _, _ => ⟨.nil, rfl⟩
  | v :: vs, .ref a :: ts, (b, .ins dx C fs) :: rs, .cons h q, w, hp, hb => by
    unfold pInss at w
    rw [Bool.and_eq_true] at w
    have e1 : a = b := of_decide_eq_true w.1
    subst e1
    cases (show Fz K B v (.ref a) from h)
    obtain ⟨ws, f, g1, g2⟩ := hp _ List.mem_cons_self
    obtain ⟨i1, i2⟩ := pInss_fz e q w.2 (fun r hr => hp r (List.mem_cons_of_mem _ hr)) fun x hx => hb x (List.mem_append_right _ hx)
    refine ⟨.cons ?_ i1, congrArg Nat.succ i2⟩
    exact .obj ((hb a (poolA_mem List.mem_cons_self (by simp [PRec.al]))).trans g1) ((hb dx (poolA_mem List.mem_cons_self (by simp [PRec.al]))).trans g2) (f.mono e) (by rw [List.length_map, List.length_map])
  | _, [], _ :: _, .nil, w, _, _ => by unfold pInss at w; cases w
  | _, t :: ts, [], .cons _ _, w, _, _ => by unfold pInss at w; cases t <;> cases w
  | _, t :: ts, (b, .lst _) :: rs, .cons _ _, w, _, _ => by unfold pInss at w; cases t <;> cases w
theorem lkR_mem {a : Addr} {us : List T} : ∀ {rs : List (Addr × PRec)}, lkR rs a = some us → (a, PRec.lst us) ∈ rs
  | [], h => by cases h
  | (b, .lst ws) :: rs, h => by
    unfold lkR at h
    by_cases e : b = a
    · rw [if_pos e] at h; cases h; subst e; exact List.mem_cons_self
    · rw [if_neg e] at h; exact List.mem_cons_of_mem _ (lkR_mem h)
  | (b, .ins _ _ _) :: rs, h => by
    unfold lkR at h
    exact List.mem_cons_of_mem _ (lkR_mem h)
mutual
theorem rsv_fz (e : Ex B B2) {rs : List (Addr × PRec)} (hp : ∀ r ∈ rs, Po K B H r.1 r.2) (hb : ∀ a ∈ poolA rs, B2 a = H a) : ∀ {v : V} {t : T}, Fz K B v t → Fz K B2 v (rsvT rs t)
  | _, _, .non => .non
  | _, _, .bl b => .bl b
  | _, _, .int i => .int i
  | _, _, .str x => .str x
  | _, _, .ref a => by
    unfold rsvT
    cases h : lkR rs a with
    | none => exact .ref a
    | some us =>
      have hm := lkR_mem h
      obtain ⟨ws, f, g⟩ := hp _ hm
      exact .lst ((hb a (poolA_mem hm (by simp [PRec.al]))).trans g) (f.mono e)
  | _, _, .lst h r => by unfold rsvT; exact .lst (e _ _ h) (r.mono e)
  | _, _, .scr h r => by unfold rsvT; exact .scr (ex_l e h) (r.mono e)
  | _, _, .ty n => by unfold rsvT; exact .ty n
  | _, _, .tup h r => by unfold rsvT; exact .tup (h.mono e) (rsvs_fz e hp hb r)
  | _, _, .obj h g r l => by unfold rsvT; exact .obj (e _ _ h) (e _ _ g) (r.mono e) l
  | _, _, .dk h r l => by unfold rsvT; exact .dk (e _ _ h) (r.mono e) l
  | _, _, .dt h r l => by unfold rsvT; exact .dt (e _ _ h) (r.mono e) l
  | _, _, .exc h g r => by unfold rsvT; exact .exc (e _ _ h) (e _ _ g) (r.mono e)
theorem rsvs_fz (e : Ex B B2) {rs : List (Addr × PRec)} (hp : ∀ r ∈ rs, Po K B H r.1 r.2) (hb : ∀ a ∈ poolA rs, B2 a = H a) : ∀ {vs : List V} {ts : List T}, FzAll K B vs ts → FzAll K B2 vs (rsvTs rs ts)
  | _, _, .nil => by unfold rsvTs; exact .nil
  | _, _, .cons h r => by unfold rsvTs; exact .cons (rsv_fz e hp hb h) (rsvs_fz e hp hb r)
end
theorem optT_fz {f : SV → Option T} (hf : ∀ {v : V} {x : SV} {t : T}, Rs K B φ v x → f x = some t → Fz K B2 v t) : ∀ {vs : List V} {xs : List SV} {ts : List T}, RsAll K B φ vs xs → optT f xs = some ts → FzAll K B2 vs ts ∧ xs.length = ts.length
  | _, _, ts, .nil, e => by cases e; exact ⟨.nil, rfl⟩
  | _, x :: xs, ts, .cons h r, e => by
    unfold optT at e
    cases hx : f x with
    | none => rw [hx] at e; cases e
    | some t =>
      rw [hx] at e
      cases hq : optT f xs with
      | none => rw [hq] at e; cases e
      | some us =>
        rw [hq] at e
        cases e
        obtain ⟨h1, h2⟩ := optT_fz hf r hq
        exact ⟨.cons (hf h hx) h1, congrArg Nat.succ h2⟩
theorem deep_fz : ∀ (k : Nat) {φ : Fi} {s : ST} {ok : Nat → Bool} {v : V} {x : SV} {t : T}, Ex B B2 → (∀ (n : Nat) c o, ok n = true → φ[n]? = some c → s[n]? = some o → Rc K B H φ c o ∧ ∀ a ∈ c.al, B2 a = H a) → φ.length = s.length → Rs K B φ v x → deepF ok k s x = some t → Fz K B2 v t := by
  intro k
  induction k with
  | zero =>
    intro φ s ok v x t eb h hl r e
    cases x with
    | d u => cases (show some u = some t from e); exact Fz.mono eb r
    | l n => cases e
  | succ k ih =>
    intro φ s ok v x t eb h hl r e
    cases x with
    | d u => cases (show some u = some t from e); exact Fz.mono eb r
    | l n =>
      unfold deepF at e
      split at e
      · rename_i hok
        obtain ⟨p, hp, rfl⟩ := r
        obtain ⟨c, hc, rfl⟩ := Fi.r_inv hp
        cases hs : s[n]? with
        | none => rw [hs] at e; cases e
        | some o =>
          rw [hs] at e
          obtain ⟨rc, hB⟩ := h n c o hok hc hs
          have hBp := hB c.p (Ce.mem c)
          have rec_ : ∀ {v : V} {x : SV} {t : T}, Rs K B φ v x → deepF ok k s x = some t → Fz K B2 v t := fun r e => ih eb h hl r e
          have smp : ∀ {o' : LO}, o = o' → o'.smp = true → Ro K B φ o' (H c.p) := fun e1 w => by
            subst e1
            exact (rc.simp_ w).2
          cases o with
          | gone => cases e
          | own _ => cases e
          | lst xs =>
            obtain ⟨vs, h1, h2⟩ := smp rfl rfl
            cases (show some (T.lst xs) = some t from e)
            exact .lst (hBp.trans h2) (h1.mono eb)
          | tp xs =>
            obtain ⟨vs, h1, h2⟩ := smp rfl rfl
            obtain ⟨ts, q1, rfl⟩ := Option.map_eq_some_iff.mp (show (optT (deepF ok k s) xs).map T.tup = some t from e)
            exact .tup (.inl (hBp.trans h2)) (optT_fz rec_ h1 q1).1
          | ll xs =>
            obtain ⟨vs, h1, h2⟩ := smp rfl rfl
            obtain ⟨ts, q1, rfl⟩ := Option.map_eq_some_iff.mp (show (optT (deepF ok k s) xs).map T.lst = some t from e)
            exact .lst (hBp.trans h2) (optT_fz rec_ h1 q1).1
          | lK od vs kvs =>
            obtain ⟨h1, h2⟩ := smp rfl rfl
            cases (show some (T.dk _ _) = some t from e)
            exact .dk (hBp.trans h2) (h1.mono eb) (by rw [List.length_map, List.length_map])
          | lT od vs kvs =>
            obtain ⟨h1, h2⟩ := smp rfl rfl
            cases (show some (T.dt _ _) = some t from e)
            exact .dt (hBp.trans h2) (h1.mono eb) (by rw [List.length_map, List.length_map])
          | fK od vs kvs =>
            obtain ⟨h1, h2⟩ := smp rfl rfl
            obtain ⟨ts, q1, rfl⟩ := Option.map_eq_some_iff.mp (show (optT (deepF ok k s) (kvs.map (·.2))).map (T.dk (kvs.map (·.1))) = some t from e)
            obtain ⟨f1, f2⟩ := optT_fz rec_ h1 q1
            exact .dk (hBp.trans h2) f1 (by rw [List.length_map] at f2 ⊢; exact f2)
          | fT od vs kvs =>
            obtain ⟨h1, h2⟩ := smp rfl rfl
            obtain ⟨ts, q1, rfl⟩ := Option.map_eq_some_iff.mp (show (optT (deepF ok k s) (kvs.map (·.2))).map (T.dt (kvs.map (·.1))) = some t from e)
            obtain ⟨f1, f2⟩ := optT_fz rec_ h1 q1
            exact .dt (hBp.trans h2) f1 (by rw [List.length_map] at f2 ⊢; exact f2)
          | dK _ => cases e
          | dT _ => cases e
          | mK _ => cases e
          | mT _ => cases e
          | ins C j fs =>
            obtain ⟨vs, dx, h1, h3, h2⟩ := smp rfl rfl
            have e : (match s[j]? with
              | some (.own m) => if m = n ∧ ok j = true then (optT (deepF ok k s) (fs.map (·.2))).map (T.obj C (fs.map (·.1))) else none
              | _ => none) = some t := e
            cases hj : s[j]? with
            | none => rw [hj] at e; cases e
            | some u =>
              rw [hj] at e
              cases u with
              | own m =>
                have e5 : (if m = n ∧ ok j = true then (optT (deepF ok k s) (fs.map (·.2))).map (T.obj C (fs.map (·.1))) else none) = some t := e
                by_cases hm : m = n ∧ ok j = true
                · rw [if_pos hm] at e5
                  obtain ⟨rfl, hokj⟩ := hm
                  obtain ⟨ts, q1, rfl⟩ := Option.map_eq_some_iff.mp e5
                  obtain ⟨f1, f2⟩ := optT_fz rec_ h1 q1
                  obtain ⟨d, hd, rfl⟩ := Fi.r_inv h3
                  obtain ⟨rd, hBd⟩ := h j d _ hokj hd hj
                  obtain ⟨x, x1, x2⟩ := (rd.simp_ rfl).2
                  rw [hp] at x1
                  cases x1
                  exact .obj (hBp.trans h2) ((hBd d.p (Ce.mem d)).trans x2) f1 (by rw [List.length_map] at f2 ⊢; exact f2)
                · rw [if_neg hm] at e5; cases e5
              | _ => cases e
          | pool o rs =>
            cases o with
            | lst ts =>
              have e : (if pRefs ts rs = true then some (T.lst (rs.map fun r => r.2.dat)) else some (T.lst (rsvTs rs ts))) = some t := e
              by_cases hpr : pRefs ts rs = true
              · rw [if_pos hpr] at e
                cases e
                cases rc with
                | sim w => cases w
                | pool w1 w2 w3 w4 =>
                  obtain ⟨vs, f, g⟩ := w3
                  exact .lst (hBp.trans g) (pRefs_fz eb f hpr w4 fun a ha => hB a (List.mem_cons_of_mem _ (by rw [w2]; exact ha)))
              · rw [if_neg hpr] at e
                cases e
                cases rc with
                | sim w => cases w
                | pool w1 w2 w3 w4 =>
                  obtain ⟨vs, f, g⟩ := w3
                  exact .lst (hBp.trans g) (rsvs_fz eb w4 (fun a ha => hB a (List.mem_cons_of_mem _ (by rw [w2]; exact ha))) f)
            | lK od ws kvs =>
              have e : (if pInss (kvs.map (·.2)) rs = true then some (T.dk (kvs.map (·.1)) (rs.map fun r => r.2.obT)) else if pRefs (kvs.map (·.2)) rs = true then some (T.dk (kvs.map (·.1)) (rs.map fun r => r.2.dat)) else none) = some t := e
              by_cases hpr : pInss (kvs.map (·.2)) rs = true
              · rw [if_pos hpr] at e
                cases e
                cases rc with
                | sim w => cases w
                | pool w1 w2 w3 w4 =>
                  obtain ⟨f, g⟩ := w3
                  obtain ⟨i1, i2⟩ := pInss_fz eb f hpr w4 fun a ha => hB a (List.mem_cons_of_mem _ (by rw [w2]; exact ha))
                  exact .dk (hBp.trans g) i1 (by rw [List.length_map] at i2 ⊢; rw [List.length_map]; exact i2)
              · rw [if_neg hpr] at e
                by_cases hpq : pRefs (kvs.map (·.2)) rs = true
                · rw [if_pos hpq] at e
                  cases e
                  cases rc with
                  | sim w => cases w
                  | pool w1 w2 w3 w4 =>
                    obtain ⟨f, g⟩ := w3
                    have i1 := pRefs_fz eb f hpq w4 fun a ha => hB a (List.mem_cons_of_mem _ (by rw [w2]; exact ha))
                    have i2 := pRefs_len hpq
                    exact .dk (hBp.trans g) i1 (by rw [List.length_map] at i2 ⊢; rw [List.length_map]; exact i2)
                · rw [if_neg hpq] at e; cases e
            | _ => cases e
          | box st =>
            have e : deepF (fun _ => true) k st (.l 0) = some t := e
            cases rc with
            | sim w => cases w
            | box ψ w1 w2 w3 w4 =>
              refine ih (φ := ψ) (s := st) (ok := fun _ => true) eb (fun m d o _ q1 q2 => ⟨w4 m d o q1 q2, fun a ha => hB a (by rw [w1]; exact adr_mem q1 ha)⟩) w2 ?_ e
              cases ψ with
              | nil => cases w1
              | cons d ψ =>
                rw [adr_cons] at w1
                have : c.p = d.p := by
                  have := congrArg List.head? w1
                  exact Option.some.inj this
                exact ⟨c.p, by rw [this]; rfl, rfl⟩
      · cases e
/-- all that is new is data from here on -/
theorem Re.frz {H0 B0 : Hp} {φ0 : Fi} {s0 : ST} (re : Re K M H B φ s) (g : Gr H0 B0 φ0 H B φ) (e0 : Re K M H0 B0 φ0 s0) {k : Nat} (hk : φ0.length ≤ k) (hk2 : k ≤ φ.length) (cl : (s.take k).all (clO k) = true) :
    Gr H0 B0 φ0 H (thaw (adr (φ.drop k)) H B) (φ.take k) ∧ Re K M H (thaw (adr (φ.drop k)) H B) (φ.take k) (s.take k) ∧ ∀ (j : Nat) v x t, Rs K B φ v x → deepF (fun n => decide (k ≤ n)) j s x = some t → Fz K (thaw (adr (φ.drop k)) H B) v t := by
  obtain ⟨g1, re1⟩ := re.take g e0 hk hk2 cl
  have exH : Ex (thaw (adr (φ.drop k)) H B) H := fun a o h => by
    by_cases w : a ∈ adr (φ.drop k)
    · rw [thaw_in w] at h; exact h
    · rw [thaw_out w] at h; exact re.ex a o h
  have eb := thaw_ex (W := adr (φ.drop k)) re.ex
  have sub : ∀ a ∈ adr (φ.drop k), a ∈ adr φ := fun a ha => by
    have e : adr φ = adr (φ.take k) ++ adr (φ.drop k) := by rw [← adr_app, List.take_append_drop]
    rw [e]; exact List.mem_append_right _ ha
  have apart : ∀ a ∈ adr (φ.take k), a ∉ adr (φ.drop k) := fun a ha hb => by
    have e : adr φ = adr (φ.take k) ++ adr (φ.drop k) := by rw [← adr_app, List.take_append_drop]
    have nd := re.nd
    rw [e] at nd
    exact (List.nodup_append.mp nd).2.2 a ha a hb rfl
  have g2 : Gr H0 B0 φ0 H (thaw (adr (φ.drop k)) H B) (φ.take k) := ⟨g1.eb.trans eb, g1.pf, g1.kp, fun a h1 h2 h3 => by
    by_cases w : a ∈ adr (φ.drop k)
    · exact absurd (g.nf a (sub a w)) (fun z => z.elim h3 h2)
    · rw [thaw_out w]; exact g1.nb a h1 h2 h3, g1.nf⟩
  refine ⟨g2, ⟨exH, re1.nd, re1.len, re1.al, fun n c o h1 h2 h3 a ha => ?_, fun n c o h1 h2 => (re1.ob n c o h1 h2).mo ⟨eb, fun _ _ h => h⟩ fun _ _ => rfl, fun H3 B3 φ3 g3 => e0.pm _ _ _ (g2.trans g3)⟩, fun j v x t r e => ?_⟩
  · rw [thaw_out (apart a (adr_mem h1 ha))]; exact re1.fr n c o h1 h2 h3 a ha
  · refine deep_fz j eb (fun n c o hn h1 h2 => ⟨re.ob n c o h1 h2, fun a ha => thaw_in ?_⟩) re.len r e
    have hn := of_decide_eq_true hn
    refine adr_mem (n := n - k) (c := c) ?_ ha
    rw [List.getElem?_drop, show k + (n - k) = n by omega]; exact h1
end
section
variable {X : Cx} {M : MP} {e : Expr} {va : ATE}
def aFrz (t : ATE) : ATE := fun δ s Q => t δ s fun x s1 => (s1.take s.length).all (clO s.length) = true ∧ ∃ u, deepF (fun n => decide (s.length ≤ n)) 9 s1 x = some u ∧ Q (.d u) (s1.take s.length)
end
end Lv

/-! Lb2: attributes, methods, makings. -/
namespace Lv
open PySem L2 LvI
theorem ofS_inj (a b : String) : (Str.ofString a = Str.ofString b) = (a = b) := by
  rw [eq_iff_iff]
  refine ⟨fun h => ?_, fun h => by rw [h]⟩
  rw [Str.ofString_eq_toList, Str.ofString_eq_toList] at h
  injection h with h
  have h : a.toList.map Char.toNat = b.toList.map Char.toNat := by simpa using h
  have e : ∀ {l m : List Char}, l.map Char.toNat = m.map Char.toNat → l = m := by
    intro l
    induction l with
    | nil => intro m h; cases m with
      | nil => rfl
      | cons _ _ => cases h
    | cons x l ih =>
      intro m h
      cases m with
      | nil => cases h
      | cons y m =>
        rw [List.map_cons, List.map_cons] at h
        injection h with h1 h2
        rw [Char.toNat_inj.mp h1, ih h2]
  exact String.toList_inj.mp (e h)
/-- the attribute f is read and set plainly on an instance of the class at C -/
structure AtF (K : Fr) (C : Addr) (f : Str) : Prop where
  c : Cls K C
  n : NoAttr K C f
section
variable {α β : Type}
def lk (f : Str) : List (Str × α) → Option α
  | [] => none
  | (g, x) :: r => if f = g then some x else lk f r
def putA (f : Str) (x : α) : List (Str × α) → List (Str × α)
  | [] => [(f, x)]
  | (g, y) :: r => if g = f then (g, x) :: r else (g, y) :: putA f x r
end
variable {K : Fr} {M : MP} {H H' B B' : Hp} {φ φ' : Fi} {s s' : ST} {Q : SV → ST → Prop} {Q' : VK}
/-! ### records of pools -/
def ceP (r : Addr × PRec) : Ce := ⟨r.1, (r.2.al r.1).tail⟩
theorem ceP_al (r : Addr × PRec) : (ceP r).al = r.2.al r.1 := by obtain ⟨a, r⟩ := r; cases r <;> rfl
theorem poolA_adr (rs : List (Addr × PRec)) : poolA rs = adr (rs.map ceP) := by
  unfold poolA adr
  rw [List.flatMap_map]
  congr 1
  funext r
  exact (ceP_al r).symm
theorem poolA_one {rs : List (Addr × PRec)} (nd : (poolA rs).Nodup) {i j : Nat} {p q : Addr × PRec} {a : Addr} (h1 : rs[i]? = some p) (h2 : rs[j]? = some q) (ha : a ∈ p.2.al p.1) (hb : a ∈ q.2.al q.1) : i = j := by
  rw [poolA_adr] at nd
  refine adr_nd nd (c := ceP p) (d := ceP q) (by rw [List.getElem?_map, h1]; rfl) (by rw [List.getElem?_map, h2]; rfl) (a := a) (by rw [ceP_al]; exact ha) (by rw [ceP_al]; exact hb)
/-- a pool, where it stands -/
theorem Re.poolAt (e : Re K M H B φ s) {n : Nat} {o : LO} {rs : List (Addr × PRec)} (hs : s[n]? = some (.pool o rs)) : ∃ c, φ[n]? = some c ∧ o.shl = true ∧ c.io = poolA rs ∧ Ro K B φ o (H c.p) ∧ (∀ r ∈ rs, Po K B H r.1 r.2) ∧ (c.p :: poolA rs).Nodup ∧ ∀ a ∈ c.p :: poolA rs, B a = none := by
  have hl : n < φ.length := by rw [e.len]; exact (List.getElem?_eq_some_iff.mp hs).1
  have hc : φ[n]? = some φ[n] := List.getElem?_eq_getElem hl
  refine ⟨φ[n], hc, ?_⟩
  cases e.ob n _ _ hc hs with
  | sim w => cases w
  | pool w1 w2 w3 w4 =>
    have hal : (φ[n]).al = (φ[n]).p :: poolA rs := by unfold Ce.al; rw [w2]
    exact ⟨w1, w2, w3, w4, by rw [← hal]; exact ce_nd e.nd hc, fun a ha => by
      have nt : ∃ u, H a = some u ∧ ∀ xs : List V, u ≠ HO.tup xs := by
        rcases List.mem_cons.mp ha with rfl | hm
        · exact w3.mt (by cases o <;> first | rfl | cases w1)
        · obtain ⟨r, hr, hx⟩ := List.mem_flatMap.mp hm
          have hp := w4 r hr
          obtain ⟨b, rc⟩ := r
          cases rc with
          | ins dx C fs =>
            obtain ⟨vs, _, h2, h3⟩ := hp
            have hx : a ∈ [b, dx] := hx
            simp only [List.mem_cons, List.not_mem_nil, or_false] at hx
            rcases hx with rfl | rfl
            · exact ⟨_, h2, fun _ e => by cases e⟩
            · exact ⟨_, h3, fun _ e => by cases e⟩
          | lst ts =>
            obtain ⟨vs, _, h2⟩ := hp
            have hx : a ∈ [b] := hx
            rw [List.mem_singleton.mp hx]
            exact ⟨_, h2, fun _ e => by cases e⟩
      obtain ⟨u, hu, hn⟩ := nt
      exact e.frN hc hs rfl (by rw [hal]; exact ha) hu hn⟩
/-! ### reading an attribute -/
def refF (K : Fr) (f : Str) (a : Addr) (s : ST) (Q : SV → ST → Prop) (n j : Nat) : Prop := match s[n]? with
  | some (.pool _ rs) => (match rs[j]? with
    | some (b, .ins _ C fs) => b = a ∧ AtF K C f ∧ ∃ t, lk f fs = some t ∧ Q (.d t) s
    | _ => False)
  | _ => False
def fldG (K : Fr) (f : Str) : AR1 := fun x s Q => match x with
  | .d (.obj C ns ts) => AtF K C f ∧ ∃ t, lk f (ns.zip ts) = some t ∧ Q (.d t) s
  | .d (.ref a) => ∃ n j, refF K f a s Q n j
  | .l n => (match s[n]? with
    | some (.ins C _ fs) => AtF K C f ∧ ∃ y, lk f fs = some y ∧ Q y s
    | some (.box (.ins C _ fs :: _)) => AtF K C f ∧ ∃ t, lk f fs = some (.d t) ∧ Q (.d t) s
    | _ => False)
  | _ => False
theorem zip_pairs {α β : Type} : ∀ l : List (α × β), (l.map (·.1)).zip (l.map (·.2)) = l
  | [] => rfl
  | p :: r => by rw [List.map_cons, List.map_cons, List.zip_cons_cons, zip_pairs r]
section
variable {X : Cx} {e o : Expr} {f m : Str} {pos pos' : Pos} {va vo : ATE}
end
/-! ### setting an attribute -/
def refS (K : Fr) (f : Str) (a : Addr) (y : SV) (s : ST) (C : ST → Prop) (n j : Nat) : Prop := match s[n]? with
  | some (.pool o rs) => (match rs[j]? with
    | some (b, .ins dx D fs) => b = a ∧ AtF K D f ∧ fs.length < 1000 ∧ ∃ t, y = .d t ∧ C (s.set n (.pool o (rs.set j (b, .ins dx D (putA f t fs)))))
    | _ => False)
  | _ => False
def setG (K : Fr) (f : Str) (y x : SV) (s : ST) (C : ST → Prop) : Prop := match x with
  | .d (.ref a) => ∃ n j, refS K f a y s C n j
  | .l n => (match s[n]? with
    | some (.ins D j fs) => AtF K D f ∧ fs.length < 1000 ∧ C (s.set n (.ins D j (putA f y fs)))
    | some (.box (.ins D j fs :: r)) => AtF K D f ∧ fs.length < 1000 ∧ ∃ t, y = .d t ∧ C (s.set n (.box (.ins D j (putA f (.d t) fs) :: r)))
    | _ => False)
  | _ => False
def pFld (K : Fr) (f : Str) (to tv : ATE) : ATS := fun A δ s => tv δ s fun y s1 => to δ s1 fun x s2 => setG K f y x s2 fun s3 => A.nx δ s3
end Lv

/-! Lb3: calls with a chosen part of the store; with parts of it as data; methods, makings; boxes opened and shut. -/
namespace Lv
open PySem L2 LvI
/-! ### a call to which a chosen part of the store is handed -/
section
variable {K : Fr} {M : MP} {H B : Hp} {φ : Fi} {s : ST}
theorem Rs.sub {ns : List Nat} (hlt : ∀ n ∈ ns, n < φ.length) {v : V} {x : SV} (r : Rs K B φ v x) (h : inS 0 ns x = true) : Rs K B (selF φ ns) v (mvS 0 ns x) := by
  cases x with
  | d t => exact r
  | l n =>
    have hm : n ∈ ns := by
      have h : (decide (n < 0) || ns.contains n) = true := h
      rw [decide_eq_false (Nat.not_lt_zero n), Bool.false_or] at h
      exact List.contains_iff_mem.mp h
    have e : mvS 0 ns (.l n) = .l (ns.idxOf n) := by show SV.l (mvN 0 ns n) = _; unfold mvN; rw [if_neg (Nat.not_lt_zero n), Nat.zero_add]
    have := r.toC hlt (x := .l n) fun m q => by cases q; exact hm
    rw [e]; exact this
theorem mvN_0 (K : Fr) (B : Hp) {ns : List Nat} (hlt : ∀ n ∈ ns, n < φ.length) {j : Nat} {p : Addr} (h : φ.r j = some p) (hj : inN 0 ns j = true) : Fi.r (selF φ ns) (mvN 0 ns j) = some p := by
  have r : Rs K B φ (.ref p) (.l j) := ⟨p, h, rfl⟩
  obtain ⟨q, h1, h2⟩ := r.sub hlt (show inS 0 ns (.l j) = true from hj)
  cases h2
  exact h1
theorem Ro.sub {ns : List Nat} (hlt : ∀ n ∈ ns, n < φ.length) {o : LO} {u : Option HO} (h : Ro K B φ o u) (w : inO 0 ns o = true) : Ro K B (selF φ ns) (mvO 0 ns o) u := by
  have rsa : ∀ {vs xs}, RsAll K B φ vs xs → xs.all (inS 0 ns) = true → RsAll K B (selF φ ns) vs (xs.map (mvS 0 ns)) := fun hx hi => hx.map_to fun v x m rx => rx.sub hlt (List.all_eq_true.mp hi x m)
  cases o with
  | gone => trivial
  | lst _ => exact h
  | dK _ => exact h
  | dT _ => exact h
  | tp xs => obtain ⟨vs, f1, e⟩ := h; exact ⟨vs, rsa f1 w, e⟩
  | ll xs => obtain ⟨vs, f1, e⟩ := h; exact ⟨vs, rsa f1 w, e⟩
  | mK kvs =>
    obtain ⟨vs, f1, e⟩ := h
    obtain ⟨m1, m2⟩ := map_snd (mvS 0 ns) kvs
    exact ⟨vs, by rw [m1]; exact rsa f1 w, by rw [m2]; exact e⟩
  | mT kvs =>
    obtain ⟨vs, f1, e⟩ := h
    obtain ⟨m1, m2⟩ := map_snd (mvS 0 ns) kvs
    exact ⟨vs, by rw [m1]; exact rsa f1 w, by rw [m2]; exact e⟩
  | fK od vs kvs =>
    obtain ⟨f1, e⟩ := h
    obtain ⟨m1, m2⟩ := map_snd (mvS 0 ns) kvs
    exact ⟨by rw [m1]; exact rsa f1 w, by rw [m2]; exact e⟩
  | lK _ _ _ => exact h
  | lT _ _ _ => exact h
  | fT od vs kvs =>
    obtain ⟨f1, e⟩ := h
    obtain ⟨m1, m2⟩ := map_snd (mvS 0 ns) kvs
    exact ⟨by rw [m1]; exact rsa f1 w, by rw [m2]; exact e⟩
  | ins C j fs =>
    obtain ⟨vs, dx, f1, j1, e⟩ := h
    obtain ⟨m1, m2⟩ := map_snd (mvS 0 ns) fs
    have w := Bool.and_eq_true_iff.mp w
    exact ⟨vs, dx, by rw [m1]; exact rsa f1 w.2, mvN_0 K B hlt j1 w.1, by rw [m2]; exact e⟩
  | own j => obtain ⟨x, j1, e⟩ := h; exact ⟨x, mvN_0 K B hlt j1 w, e⟩
  | box _ => exact h.elim
  | pool _ _ => exact h.elim
theorem mvO_smp {k : Nat} {ns : List Nat} {o : LO} : (mvO k ns o).smp = o.smp := by cases o <;> rfl
theorem Rc.sub {ns : List Nat} (hlt : ∀ n ∈ ns, n < φ.length) {o : LO} {c : Ce} (h : Rc K B H φ c o) (w : inO 0 ns o = true) : Rc K B H (selF φ ns) c (mvO 0 ns o) := by
  cases h with
  | gone => exact .gone
  | sim h1 h2 h3 => exact .sim (by rw [mvO_smp]; exact h1) h2 (h3.sub hlt w)
  | box ψ h1 h2 h3 h4 => exact .box ψ h1 h2 h3 h4
  | pool h1 h2 h3 h4 => exact .pool h1 h2 (h3.shl h1) h4
end
def clsd (ns : List Nat) (xs : List SV) (s : ST) : Bool := decide ns.Nodup && ns.all (fun n => decide (n < s.length)) && xs.all (inS 0 ns) && ns.all fun n => inO 0 ns (kpO s n)
def callC (sp : ASp) (Q : SV → ST → Prop) (_ : Lk Q) (xs : List SV) (s : ST) : Prop := ∃ ns : List Nat, clsd ns xs s = true ∧
  sp (xs.map (mvS 0 ns)) (ns.map fun n => mvO 0 ns (kpO s n)) fun r s2 => Q (ren ns s.length r) (putAll s ns (s2.map (renO ns s.length)) ++ (s2.drop ns.length).map (renO ns s.length))
theorem callC_of {sp : ASp} {Q : SV → ST → Prop} {l : Lk Q} {xs : List SV} {s : ST} (ns : List Nat) (h : clsd ns xs s = true)
    (h2 : sp (xs.map (mvS 0 ns)) (ns.map fun n => mvO 0 ns (kpO s n)) fun r s2 => Q (ren ns s.length r) (putAll s ns (s2.map (renO ns s.length)) ++ (s2.drop ns.length).map (renO ns s.length))) : callC sp Q l xs s := ⟨ns, h, h2⟩
theorem lift_fnC {K : Fr} {M : MP} {H B : Hp} {φ : Fi} {s : ST} {vs : List V} {xs : List SV} {Q : SV → ST → Prop} {Q' : VK} {E : XK} {sp : ASp} {l : Lk Q} (re : Re K M H B φ s) (r : RsAll K B φ vs xs) (h : callC sp Q l xs s) (f : FinE K M H B φ Q Q') : toSp K sp vs H Q' E := by
  obtain ⟨ns, h1, h2⟩ := h
  unfold clsd at h1
  simp only [Bool.and_eq_true] at h1
  obtain ⟨⟨⟨nd, hl⟩, hx⟩, hc⟩ := h1
  have nd := of_decide_eq_true nd
  have hL : φ.length = s.length := re.len
  have hls : ∀ n ∈ ns, n < s.length := fun n hn => of_decide_eq_true (List.all_eq_true.mp hl n hn)
  have hlt : ∀ n ∈ ns, n < φ.length := fun n hn => by rw [hL]; exact hls n hn
  have rec_ : Re K M0 H B (selF φ ns) (ns.map fun n => mvO 0 ns (kpO s n)) := by
    refine re.fore nd hlt re.ex (List.length_map ..) (fun _ _ _ _ _ _ h => h) fun k n c o q1 q2 q3 => ?_
    rw [List.getElem?_map, q1] at q3
    have q3 : mvO 0 ns (kpO s n) = o := Option.some.inj q3
    have hm := List.mem_of_getElem? q1
    have e : s[n]? = some (kpO s n) := by unfold kpO; rw [List.getElem?_eq_getElem (hls n hm)]; rfl
    subst q3
    exact ⟨_, e, fun w => by rw [mvO_is] at w; exact w, fun rc => rc.sub hlt (List.all_eq_true.mp hc n hm)⟩
  have rsc : RsAll K B (selF φ ns) vs (xs.map (mvS 0 ns)) := r.map_to fun v x hx' rx => rx.sub hlt (List.all_eq_true.mp hx x hx')
  refine ⟨B, selF φ ns, _, _, _, rec_, rsc, h2, fun H' B' φ' s' v x g re' r' q' => ?_⟩
  rw [bck_st, ← hL] at q'
  obtain ⟨g2, re2⟩ := re.back nd hlt re' g.pf g.kp g.nf g.eb re'.ex g.nb (fun _ h => h) (s2 := s'.map (renO ns φ.length)) (List.length_map ..) fun k o' h => by
    rw [List.getElem?_map] at h
    obtain ⟨o, h1, rfl⟩ := Option.map_eq_some_iff.mp h
    exact ⟨o, h1, fun w => by rw [renO_is.1] at w; exact w, fun c _ hc => hc.ren nd hlt⟩
  exact f _ _ _ _ _ _ g2 re2 (r'.ren nd hlt) q'
/-! ### a call to which parts of the store are handed as data -/
def LO.dct : LO → Bool
  | .dK _ => true
  | .dT _ => true
  | .lK _ _ _ => true
  | .lT _ _ _ => true
  | _ => false
def PRec.isI : PRec → Bool
  | .ins _ _ _ => true
  | _ => false
mutual
/-- nothing in it is a list or a tuple -/
def LO.pv : LO → Bool
  | .ins _ _ _ => true
  | .own _ => true
  | .dK _ => true
  | .dT _ => true
  | .mK _ => true
  | .mT _ => true
  | .fK _ _ _ => true
  | .fT _ _ _ => true
  | .lK _ _ _ => true
  | .lT _ _ _ => true
  | .pool o rs => o.dct && rs.all fun r => r.2.isI
  | .box st => LO.pvs st
  | _ => false
def LO.pvs : List LO → Bool
  | [] => true
  | o :: r => o.pv && LO.pvs r
end
theorem pvs_all : ∀ l : List LO, LO.pvs l = l.all LO.pv
  | [] => by unfold LO.pvs; rfl
  | o :: r => by unfold LO.pvs; rw [pvs_all r, List.all_cons]
mutual
/-- flat data, lists and tuples of such -/
def T.pl : T → Bool
  | .non => true
  | .bl _ => true
  | .int _ => true
  | .str _ => true
  | .lst xs => T.pls xs
  | .tup xs => T.pls xs
  | _ => false
def T.pls : List T → Bool
  | [] => true
  | x :: r => x.pl && T.pls r
end
section
variable {K : Fr} {M : MP} {H B B' : Hp} {φ φ' : Fi} {s : ST} {W : List Addr}
def NoLT (W : List Addr) (H : Hp) : Prop := ∀ a ∈ W, ∀ xs, H a ≠ some (.lst xs) ∧ H a ≠ some (.tup xs)
theorem Rc.pv {c : Ce} {o : LO} (h : Rc K B H φ c o) : o.pv = true → NoLT c.al H := by
  induction h with
  | gone => intro q; unfold LO.pv at q; cases q
  | @sim φ c o h1 h2 h3 =>
    intro q a ha xs
    have : a = c.p := by
      unfold Ce.al at ha
      rw [h2] at ha
      simpa using ha
    subst this
    cases o with
    | ins C j fs => obtain ⟨vs, dx, _, _, e⟩ := h3; rw [e]; exact ⟨nofun, nofun⟩
    | own j => obtain ⟨x, _, e⟩ := h3; rw [e]; exact ⟨nofun, nofun⟩
    | dK _ => obtain ⟨x, _, e⟩ := h3; rw [e]; exact ⟨nofun, nofun⟩
    | dT _ => obtain ⟨x, _, e⟩ := h3; rw [e]; exact ⟨nofun, nofun⟩
    | mK _ => obtain ⟨x, _, e⟩ := h3; rw [e]; exact ⟨nofun, nofun⟩
    | mT _ => obtain ⟨x, _, e⟩ := h3; rw [e]; exact ⟨nofun, nofun⟩
    | fK _ _ _ => obtain ⟨_, e⟩ := h3; rw [e]; exact ⟨nofun, nofun⟩
    | fT _ _ _ => obtain ⟨_, e⟩ := h3; rw [e]; exact ⟨nofun, nofun⟩
    | lK _ _ _ => obtain ⟨_, e⟩ := h3; rw [e]; exact ⟨nofun, nofun⟩
    | lT _ _ _ => obtain ⟨_, e⟩ := h3; rw [e]; exact ⟨nofun, nofun⟩
    | _ => first | (unfold LO.pv at q; cases q) | cases h1
  | @box φ c st ψ h1 h2 h3 h4 ih =>
    intro q a ha xs
    unfold LO.pv at q
    rw [pvs_all] at q
    rw [h1] at ha
    obtain ⟨n, d, n1, n2⟩ := adr_of ha
    have hn : n < st.length := by rw [← h2]; exact (List.getElem?_eq_some_iff.mp n1).1
    have hs : st[n]? = some st[n] := List.getElem?_eq_getElem hn
    exact ih n d _ n1 hs (List.all_eq_true.mp q _ (List.mem_of_getElem? hs)) a n2 xs
  | @pool φ c o rs h1 h2 h3 h4 =>
    intro q a ha xs
    unfold LO.pv at q
    have q := Bool.and_eq_true_iff.mp q
    unfold Ce.al at ha
    rw [h2] at ha
    rcases List.mem_cons.mp ha with rfl | ha
    · cases o with
      | dK _ => obtain ⟨x, _, e⟩ := h3; rw [e]; exact ⟨nofun, nofun⟩
      | dT _ => obtain ⟨x, _, e⟩ := h3; rw [e]; exact ⟨nofun, nofun⟩
      | lK _ _ _ => obtain ⟨_, e⟩ := h3; rw [e]; exact ⟨nofun, nofun⟩
      | lT _ _ _ => obtain ⟨_, e⟩ := h3; rw [e]; exact ⟨nofun, nofun⟩
      | _ => exact absurd q.1 (by simp [LO.dct])
    · obtain ⟨r, hr, hx⟩ := List.mem_flatMap.mp ha
      have hp := h4 r hr
      have hi := List.all_eq_true.mp q.2 r hr
      obtain ⟨b, rc⟩ := r
      cases rc with
      | ins dx C fs =>
        obtain ⟨vs, _, g2, g3⟩ := hp
        have hx : a ∈ [b, dx] := hx
        simp only [List.mem_cons, List.not_mem_nil, or_false] at hx
        rcases hx with rfl | rfl
        · rw [g2]; exact ⟨nofun, nofun⟩
        · rw [g3]; exact ⟨nofun, nofun⟩
      | lst ts => exact absurd hi (by simp [PRec.isI])
end
/-- the arguments: those of the places vw as data -/
def viewX (vw : List Nat) (s : ST) : List SV → Option (List SV)
  | [] => some []
  | .l n :: r => if vw.contains n then (match deepF (fun m => vw.contains m) 9 s (.l n) with
    | some t => (viewX vw s r).map (SV.d t :: ·)
    | none => none) else (viewX vw s r).map (SV.l n :: ·)
  | x :: r => (viewX vw s r).map (x :: ·)
end Lv

/-! Lb4: methods, makings, boxes opened and shut. -/
namespace Lv
open PySem L2 LvI
/-- x is an instance of the class at C, that has no attribute m -/
def isIn (C : Addr) (m : Str) (x : SV) (s : ST) : Prop := match x with
  | .d (.obj D ns ts) => D = C ∧ lk m (ns.zip ts) = none
  | .l n => (match s[n]? with
    | some (.ins D _ fs) => D = C ∧ lk m fs = none
    | some (.box (.ins D _ fs :: _)) => D = C ∧ lk m fs = none
    | _ => False)
  | _ => False
section
variable {K : Fr} {M : MP} {H B : Hp} {φ : Fi} {s : ST}
end
/-- a method keeps its promise -/
structure CalM (P : Program) (w : World) (K : Fr) (mg : Str → Option Value) (base : Heap) (k : Nat) (C : Addr) (m : Str) (ps : List Str) (sp : ASp) : Prop where
  ex : ∃ f fd, FnG P w K mg base k f fd ps (toSp K sp) ∧ Meth K C m f ∧ BindA fd ps
  c : Cls K C
/-- a class's __init__ keeps its promise -/
structure CalI (P : Program) (w : World) (K : Fr) (mg : Str → Option Value) (base : Heap) (k : Nat) (C : Addr) (x : Str) (ps : List Str) (sp : ASp) : Prop where
  ex : ∃ f fd, FnG P w K mg base k f fd ps (toSp K sp) ∧ Mk K C f ∧ BindA fd ps
  m : mg x = some (.ref C)
/-- a call that what stands under it lifts -/
def LiC (K : Fr) (M : MP) (sp : ASp) (cl : (SV → ST → Prop) → List SV → ST → Prop) : Prop := ∀ H B φ s vs xs Q Q', Re K M H B φ s → RsAll K B φ vs xs → cl Q xs s → FinE K M H B φ Q Q' → toSp K sp vs H Q' XN
theorem li_C {K : Fr} {M : MP} {sp : ASp} : LiC K M sp fun Q xs s => callC sp Q .mk xs s := fun _ _ _ _ _ _ _ _ re r h f => lift_fnC re r h f
def aMet (C : Addr) (m : Str) (cl : (SV → ST → Prop) → List SV → ST → Prop) (to : ATE) (ta : ATA) : ATE := fun δ s Q => to δ s fun x s1 => isIn C m x s1 ∧ ta δ s1 fun xs s2 => cl Q (x :: xs) s2
def aCl (cl : (SV → ST → Prop) → List SV → ST → Prop) (ta : ATA) : ATE := fun δ s Q => ta δ s fun xs s2 => cl Q xs s2
section
variable {X : Cx} {M : MP} {e o : Expr} {es : List Expr} {p pos apos : Pos} {x m : Str} {k : Nat} {ps : List Str} {sp : ASp} {C : Addr} {cl : (SV → ST → Prop) → List SV → ST → Prop} {to : ATE} {ta : ATA}
/-- a call of a def, likewise -/
theorem ae_clD (li : LiC X.K M sp cl) (Cc : Cal X.prog X.w X.K X.mg X.base k x ps sp) (hr : RoomG k X.A) (ha : AA X M (e :: es) ta)
    (hg : Gl X x := by rfl) (hdb : (x == ("__debug__" : Str)) = false := by decide) (he : starEach (e :: es) X.env = (false, eval e X.env) :: starEach es X.env := by rfl) (hpl : (backTo pos (starEach es X.env)).any (·.1) = false := by rfl) :
    AE X M (.Call (.Name x p) (e :: es) [] pos) (aCl cl ta) := by
  obtain ⟨f, fd, F, h1, h2, h3⟩ := Cc.ex
  exact .of (pe_callG F hr hg h1 h2 (.all h3) ha.pa hdb he hpl) fun H B φ σ δ s Q re sl q Q' f => uA_lift (t := ta) H B φ σ δ s _ re sl q _ fun H1 B1 φ1 s1 vs xs g1 re1 r1 hv => li _ _ _ _ _ _ _ _ re1 r1 hv (f.grow g1)
/-- C(..): the new instance, its dict behind it -/
def aMk (C : Addr) (sp : ASp) (ta : ATA) : ATE := fun δ s Q => ta δ s fun xs s1 => callC sp (fun r s2 => r = .d .non ∧ Q (.l s1.length) s2) .mk (.l s1.length :: xs) (s1 ++ [.ins C (s1.length + 1) [], .own s1.length])
end
end Lv

/-! Ls1: len(set(a list or a tuple of texts)). -/
namespace Lv
open PySem L2 PySem.Spec PyProof.Rows
/-- how many unlike ones there are -/
def unl : List Str → Nat
  | [] => 0
  | x :: r => unl r + if x ∈ r then 0 else 1
/-- the last ones first -/
def rv (l : List Str) (i : Nat) : List Str := (l.take i).reverse
section
variable {P : Program} {w : World} {A : Around} {E : Value → Shared → Prop} {s : Shared}
end
section
variable {X : Cx} {M : MP} {a : Expr} {pos : Pos} {va : ATE}
def aLenSet (t : ATE) : ATE := fun δ s Q => t δ s fun x s1 => ∃ xs : List Str, sqV s1 x = some (xs.map T.str) ∧ xs.length ≤ 1000 ∧ Q (.d (.int (unl xs.reverse))) s1
end
end Lv

/-! Lb5: defs of classes by their bodies; lists of places; divmod. -/
namespace Lv
open PySem L2 LvI
/-- a method as written -/
structure DfM (K : Fr) (C : Addr) (m qual : Str) (st : Stmt) (ps : List Str) : Prop where
  ex : ∃ f fd, Fun K m qual st f fd ∧ Meth K C m f ∧ BindA fd ps
  c : Cls K C
/-- a class's __init__ as written -/
structure DfI (K : Fr) (mg : Str → Option Value) (C : Addr) (x qual : Str) (st : Stmt) (ps : List Str) : Prop where
  ex : ∃ f fd, Fun K "__init__" qual st f fd ∧ Mk K C f ∧ BindA fd ps
  m : mg x = some (.ref C)
section
variable {P : Program} {w : World} {K : Fr} {mg : Str → Option Value} {base : Heap} {C : Addr}
theorem DfM.cal {m qual : Str} {st : Stmt} {ps : List Str} {k : Nat} {sp : ASp} (D : DfM K C m qual st ps) {N : List Str} (S : FnScope N ps (defScope st)) (len : ∀ vs s Q, sp vs s Q → vs.length = ps.length)
    (hbody : ∀ (f : Addr) (cdv : Value) (A : Around) (outer : List Env) (s : Shared) (H : Hp) (E : XK), RoomG k (A.deeper (PyProof.Rows.envOfC qual (defScope st) s.heap.objs.size f cdv)) →
      ∃ t, APs (cxOf (L2.CX P w) P w K mg base N qual (defScope st) f cdv A outer s H E).nox M0 (defBody st) t ∧ ∀ (svs : List SV) (s0 : ST) (Q : SV → ST → Prop), sp svs s0 Q → pBody t { nx := fun _ s' => Q (.d .non) s', rt := Q } (slots N svs) s0) : CalM P w K mg base (k + 1) C m ps sp := by
  obtain ⟨f, fd, F, h1, h3⟩ := D.ex
  exact ⟨⟨f, fd, fn_body F S len hbody, h1, h3⟩, D.c⟩
theorem DfM.calK {m qual : Str} {st : Stmt} {ps : List Str} {k : Nat} {sp : ASp} (D : DfM K C m qual st ps) {N : List Str} (S : FnScope N ps (defScope st)) (len : ∀ vs s Q, sp vs s Q → vs.length = ps.length)
    (hbody : ∀ (f : Addr) (cdv : Value) (A : Around) (outer : List Env) (s : Shared) (H : Hp) (E : XK), RoomG k (A.deeper (PyProof.Rows.envOfC qual (defScope st) s.heap.objs.size f cdv)) →
      ∃ t, APs (cxOf (L2.CX P w) P w K mg base N qual (defScope st) f cdv A outer s H E).nox M0 (defBody st) t ∧ ∀ (svs : List SV) (s0 : ST) (Q : SV → ST → Prop), sp svs s0 Q → pBodyK t { nx := fun _ s' => Q (.d .non) s', rt := Q } (slots N svs) s0) : CalM P w K mg base (k + 1) C m ps sp := by
  obtain ⟨f, fd, F, h1, h3⟩ := D.ex
  exact ⟨⟨f, fd, fn_lv F S len fun cdv A outer s H E hr svs s0 Q h => (by
    obtain ⟨t, p, q⟩ := hbody f cdv A outer s H E hr
    exact ⟨_, ap_bodyK p, q svs s0 Q h⟩), h1, h3⟩, D.c⟩
theorem DfI.calK {x qual : Str} {st : Stmt} {ps : List Str} {k : Nat} {sp : ASp} (D : DfI K mg C x qual st ps) {N : List Str} (S : FnScope N ps (defScope st)) (len : ∀ vs s Q, sp vs s Q → vs.length = ps.length)
    (hbody : ∀ (f : Addr) (cdv : Value) (A : Around) (outer : List Env) (s : Shared) (H : Hp) (E : XK), RoomG k (A.deeper (PyProof.Rows.envOfC qual (defScope st) s.heap.objs.size f cdv)) →
      ∃ t, APs (cxOf (L2.CX P w) P w K mg base N qual (defScope st) f cdv A outer s H E).nox M0 (defBody st) t ∧ ∀ (svs : List SV) (s0 : ST) (Q : SV → ST → Prop), sp svs s0 Q → pBodyK t { nx := fun _ s' => Q (.d .non) s', rt := Q } (slots N svs) s0) : CalI P w K mg base (k + 1) C x ps sp := by
  obtain ⟨f, fd, F, h1, h3⟩ := D.ex
  exact ⟨⟨f, fd, fn_lv F S len fun cdv A outer s H E hr svs s0 Q h => (by
    obtain ⟨t, p, q⟩ := hbody f cdv A outer s H E hr
    exact ⟨_, ap_bodyK p, q svs s0 Q h⟩), h1, h3⟩, D.m⟩
end
/-! what the top has written of classes -/
structure WrM (K : Fr) (C : Addr) (m qual : Str) (st : Stmt) : Prop where
  ex : ∃ (f : Addr) (od an : Option Addr) (oc kV dc pm cd ct : Value) (sl : Array (Option Value)), PySem.W.findIn K (.ref C) m = some (some (.ref f)) ∧ PySem.W.isFn K (.ref f) = true ∧ PySem.W.keepIn K (.ref f) = true ∧
    K.lookup f = some ⟨oc, od, .func (PySem.W.fnOf m qual (defArgs st) (defBody st) (defScope st) .none kV dc pm an cd ct), sl⟩ ∧ PySem.W.codeIn K cd qual = true
theorem WrM.of {K : Fr} {C : Addr} {m qual : Str} {st : Stmt} {f : Addr} {od an : Option Addr} {oc kV dc pm cd ct : Value} {sl : Array (Option Value)} (h1 : PySem.W.findIn K (.ref C) m = some (some (.ref f))) (h2 : PySem.W.isFn K (.ref f) = true) (h3 : PySem.W.keepIn K (.ref f) = true)
    (h4 : K.lookup f = some ⟨oc, od, .func (PySem.W.fnOf m qual (defArgs st) (defBody st) (defScope st) .none kV dc pm an cd ct), sl⟩) (h5 : PySem.W.codeIn K cd qual = true) : WrM K C m qual st := ⟨f, od, an, oc, kV, dc, pm, cd, ct, sl, h1, h2, h3, h4, h5⟩
theorem Cls.of {K : Fr} {C : Addr} (h1 : PySem.W.plainGet K C Str.empty = true) (h2 : PySem.W.hasDictIn K C = true) (h3 : PySem.W.plainOver K C = true) (h4 : PySem.W.findIn K (.ref C) "__setattr__" = some (some (.builtin "object.__setattr__"))) : Cls K C := ⟨h1, h2, h3, h4⟩
/-! lists of places -/
section
variable {X : Cx} {M : MP} {e : Expr} {es : List Expr} {pos p : Pos} {va : ATE}
def aLstS (t : ATA) : ATE := fun δ s Q => t δ s fun xs s1 => xs.length ≤ sizeLine ∧ Q (.l s1.length) (s1 ++ [.ll xs])
theorem ae_lstS {t : ATA} (h : AA X M es t) : AE X M (.List es pos) (aLstS t) := .of (pe_lst h.pa) fun H B φ σ δ s Q re sl q Q' f => uA_lift (t := t) H B φ σ δ s _ re sl q _ fun H1 B1 φ1 s1 vs xs g1 re1 r1 ⟨q1, q2⟩ => by
  refine ⟨by rw [r1.length]; exact q1, fun p hp => ?_⟩
  obtain ⟨g2, re2⟩ := re1.newL (.lst vs) (.ll xs) hp ⟨vs, r1, rfl⟩
  exact f _ _ _ _ _ _ (g1.trans g2) re2 (.loc (re1.top _)) q2
/-- divmod of whole numbers -/
def dmG : ARC := fun xs s Q => match xs with
  | [.d (.int i), .d (.int j)] => CDiv i j ∧ Q (.d (.tup [.int (i / j), .int (i % j)])) s
  | _ => False
end
end Lv

/-! Lb6: isinstance of own classes. -/
namespace Lv
open PySem L2 LvI
/-- x is an instance of the class at C -/
def isA (C : Addr) (x : SV) (s : ST) : Prop := match x with
  | .d (.obj D ns ts) => D = C
  | .l n => (match s[n]? with
    | some (.ins D _ fs) => D = C
    | some (.box (.ins D _ fs :: _)) => D = C
    | _ => False)
  | _ => False
section
variable {K : Fr} {M : MP} {H B : Hp} {φ : Fi} {s : ST}
end
/-- what isinstance asks of an own class -/
structure IsC (K : Fr) (mg : Str → Option Value) (x : Str) (C : Addr) : Prop where
  m : mg x = some (.ref C)
  c : C8.InsC K C
theorem kit_me {K : Fr} {C : Addr} : PySem.W.kitOne K (.ref C) (.ref C) = some true := by
  unfold PySem.W.kitOne
  rw [if_pos (beq_self_eq_true _)]
theorem IsC.of {K : Fr} {mg : Str → Option Value} {x : Str} {C : Addr} (m : mg x = some (.ref C)) (c : Cls K C) (h1 : PySem.W.findIn K (.ref C) "__class__" = some (some (.builtin "object.__class__")))
    (h2 : PySem.W.specialIn K (.builtin "object.__class__") "__get__" = some (some (.builtin "getset_descriptor.__get__"))) (h3 : PySem.W.takesIn K (.builtin "object.__class__") = some true) (h4 : PySem.W.mroIn K C (.type "object") = some true) : IsC K mg x C := ⟨m, c, h1, h2, h3, h4, kit_me⟩
def isCG (C : Addr) : ARC := fun xs s Q => match xs with
  | [y, .d (.ref D)] => D = C ∧ isA C y s ∧ Q (.d (.bl true)) s
  | _ => False
section
variable {X : Cx} {M : MP} {e e2 : Expr} {pos p : Pos} {x : Str} {C : Addr}
end
end Lv

/-! Lu2: split by one sign. -/
namespace Lv
open PySem L2 LvI
end Lv

/-! Lb7: loops over one's own lists and tuples that hold places. -/
namespace Lv
open PySem L2 LvI
section
variable {K : Fr} {M : MP} {H B : Hp} {φ : Fi} {s : ST}
end
def pForS (te : ATE) (g : ATG) (tb : ATS) : ATS := fun A δ s => te δ s fun x s1 => ∃ n xs o, x = .l n ∧ s1[n]? = some o ∧ (o = .ll xs ∨ o = .tp xs) ∧ ∃ Pv : Nat → AS → ST → Prop, Pv 0 δ s1 ∧ (∀ i δ' s', Pv i δ' s' → s'[n]? = some o) ∧
  (∀ i y δ' s', xs[i]? = some y → Pv i δ' s' → g y δ' s' fun δ2 s2 => tb { A with nx := Pv (i + 1), ct := Pv (i + 1), bk := A.nx } δ2 s2) ∧ (∀ δ' s', Pv xs.length δ' s' → A.nx δ' s')
section
variable {X : Cx} {M : MP} {tg iter : Expr} {body : List Stmt} {pos : Pos} {te : ATE} {g : ATG} {t : ATS} {vs : List Nat}
end
def forSK (te : ATE) (g : ATG) (tb : ATS) (A : AEnds) (_ : Lk (te, g, tb, A)) (δ : AS) (s : ST) : Prop := pForS te g tb A δ s
theorem pForS_eq (te : ATE) (g : ATG) (tb : ATS) (A : AEnds) (δ : AS) (s : ST) : pForS te g tb A δ s = forSK te g tb A .mk δ s := rfl
end Lv

/-! Le1: errors: what leaves a def, raise, classes of errors. -/
namespace Lv
open PySem PySem.Spec PyProof.Rows L2 LvI
/-- an error that leaves a def: its class, what it tells, the store then; in the air of a def: the slots too -/
abbrev EF := Addr → T → ST → Prop
abbrev EA := Addr → T → AS → ST → Prop
theorem Re.m0 {K : Fr} {M : MP} {H B : Hp} {φ : Fi} {s : ST} (re : Re K M H B φ s) : Re K M0 H B φ s := ⟨re.ex, re.nd, re.len, re.al, re.fr, re.ob, fun _ _ _ _ => trivial⟩
/-! ### defs that may let an error out -/
abbrev XSp := List SV → ST → (SV → ST → Prop) → EF → Prop
def toSpX (K : Fr) (sp : XSp) : Sp := fun vs H Q E => ∃ (B : Hp) (φ : Fi) (s : ST) (svs : List SV) (Qa : SV → ST → Prop) (Ea : EF), Re K M0 H B φ s ∧ RsAll K B φ vs svs ∧ sp svs s Qa Ea ∧
  (∀ H' B' φ' s' v x, Gr H B φ H' B' φ' → Re K M0 H' B' φ' s' → Rs K B' φ' v x → Qa x s' → Q v H') ∧
  (∀ H' B' φ' s' C dd v t, Gr H B φ H' B' φ' → Re K M0 H' B' φ' s' → B' dd = some (.xd [("what", v)]) → Fz K B' v t → Ea C t s' → E (.ref C) (some dd) H')
/-- nothing is let out -/
abbrev XSp.no (sp : XSp) : ASp := fun vs s Q => sp vs s Q fun _ _ _ => False
theorem toSpX_no {K : Fr} {sp : XSp} : ∀ vs H Q E, toSp K sp.no vs H Q E → toSpX K sp vs H Q E := fun vs H Q E ⟨B, φ, s, svs, Qa, re, r, h, f⟩ => ⟨B, φ, s, svs, Qa, _, re, r, h, f, fun _ _ _ _ _ _ _ _ _ _ _ _ z => z.elim⟩
/-- what an error leaves behind: all that is new is dropped -/
def eaF (k : Nat) (ER : EF) : EA := fun C t _ s => (s.take k).all (clO k) = true ∧ ER C t (s.take k)
section
variable {P : Program} {w : World} {K : Fr} {mg : Str → Option Value} {base : Heap}
structure CalX (P : Program) (w : World) (K : Fr) (mg : Str → Option Value) (base : Heap) (k : Nat) (x : Str) (ps : List Str) (sp : XSp) : Prop where
  ex : ∃ f fd, FnG P w K mg base k f fd ps (toSpX K sp) ∧ mg x = some (.ref f) ∧ PySem.W.keepIn K (.ref f) = true ∧ BindA fd ps
structure CalMX (P : Program) (w : World) (K : Fr) (mg : Str → Option Value) (base : Heap) (k : Nat) (C : Addr) (m : Str) (ps : List Str) (sp : XSp) : Prop where
  ex : ∃ f fd, FnG P w K mg base k f fd ps (toSpX K sp) ∧ Meth K C m f ∧ BindA fd ps
  c : Cls K C
structure CalIX (P : Program) (w : World) (K : Fr) (mg : Str → Option Value) (base : Heap) (k : Nat) (C : Addr) (x : Str) (ps : List Str) (sp : XSp) : Prop where
  ex : ∃ f fd, FnG P w K mg base k f fd ps (toSpX K sp) ∧ Mk K C f ∧ BindA fd ps
  m : mg x = some (.ref C)
variable {k : Nat} {x m : Str} {ps : List Str} {sp : XSp} {C : Addr}
theorem CalX.no (h : CalX P w K mg base k x ps sp) : Cal P w K mg base k x ps sp.no := by
  obtain ⟨f, fd, F, h1, h2, h3⟩ := h.ex
  exact ⟨⟨f, fd, F.imp toSpX_no, h1, h2, h3⟩⟩
theorem CalMX.no (h : CalMX P w K mg base k C m ps sp) : CalM P w K mg base k C m ps sp.no := by
  obtain ⟨f, fd, F, h1, h2⟩ := h.ex
  exact ⟨⟨f, fd, F.imp toSpX_no, h1, h2⟩, h.c⟩
theorem CalIX.no (h : CalIX P w K mg base k C x ps sp) : CalI P w K mg base k C x ps sp.no := by
  obtain ⟨f, fd, F, h1, h2⟩ := h.ex
  exact ⟨⟨f, fd, F.imp toSpX_no, h1, h2⟩, h.m⟩
end
section
variable {P : Program} {w : World} {K : Fr} {mg : Str → Option Value} {base : Heap} {k : Nat} {x m qual : Str} {N ps : List Str} {sp : XSp} {C : Addr} {st : Stmt}
end
/-! ### classes of errors -/
/-- its instances may be raised, caught, looked at: it stands straight under the one at N -/
structure ErrC (K : Fr) (N C : Addr) : Prop where
  xc : ExcC K C
  mro : ∃ cd, PySem.W.clsIn K C = some cd ∧ cd.mro = .ref C :: .ref N :: PySem.HandSPX.veTail
  wh : PySem.W.findIn K (.ref C) "what" = some none
section
variable {X : Cx} {x : Str} {N C : Addr} {e : Expr} {es : List Expr} {ta : TA} {p p1 p2 pos : Pos}
end
section
variable {P : Program} {w : World} {K : Fr} {mg : Str → Option Value} {base : Heap} {k : Nat} {x qual m : Str} {C N : Addr} {st : Stmt}
end
section
variable {X : Cx} {M : MP} {ER : EA} {x : Str} {N C : Addr} {e : Expr} {es : List Expr} {ta : TA} {p pos pos' : Pos} {k : Nat} {va : ATE}
/-- raise C(e): what is told must be data -/
def pRaise (C : Addr) (ER : EA) (t : ATE) : ATS := fun _ δ s => t δ s fun y s1 => ∃ u, y = .d u ∧ ER C u δ s1
end
end Lv

/-! Le2: calls that may let an error out; errors as data: made, caught, looked at. -/
namespace Lv
open PySem PySem.Spec PyProof.Rows L2 LvI
/-! ### calls -/
def FinX (K : Fr) (M : MP) (H B : Hp) (φ : Fi) (R : EF) (E : XK) : Prop := ∀ H' B' φ' s' C dd v t, Gr H B φ H' B' φ' → Re K M H' B' φ' s' → B' dd = some (.xd [("what", v)]) → Fz K B' v t → R C t s' → E (.ref C) (some dd) H'
theorem FinX.grow {K : Fr} {M : MP} {H B H' B' : Hp} {φ φ' : Fi} {R : EF} {E : XK} (f : FinX K M H B φ R E) (g : Gr H B φ H' B' φ') : FinX K M H' B' φ' R E := fun _ _ _ _ _ _ _ _ g2 re hd fz r => f _ _ _ _ _ _ _ _ (g.trans g2) re hd fz r
/-- a call to which a chosen part of the store is handed -/
def callCX (sp : XSp) (Q : SV → ST → Prop) (R : EF) (_ : Lk (Q, R)) (xs : List SV) (s : ST) : Prop := ∃ ns : List Nat, clsd ns xs s = true ∧
  sp (xs.map (mvS 0 ns)) (ns.map fun n => mvO 0 ns (kpO s n)) (fun r s2 => Q (ren ns s.length r) (putAll s ns (s2.map (renO ns s.length)) ++ (s2.drop ns.length).map (renO ns s.length)))
    (fun C t s2 => R C t (putAll s ns (s2.map (renO ns s.length)) ++ (s2.drop ns.length).map (renO ns s.length)))
def aMetX (C : Addr) (m : Str) (cl : (SV → ST → Prop) → EF → List SV → ST → Prop) (ER : EA) (to : ATE) (ta : ATA) : ATE := fun δ s Q => to δ s fun x s1 => isIn C m x s1 ∧ ta δ s1 fun xs s2 => cl Q (fun C t s3 => ER C t δ s3) (x :: xs) s2
def aClX (cl : (SV → ST → Prop) → EF → List SV → ST → Prop) (ER : EA) (ta : ATA) : ATE := fun δ s Q => ta δ s fun xs s2 => cl Q (fun C t s3 => ER C t δ s3) xs s2
section
variable {X : Cx} {M : MP} {ER : EA} {e o : Expr} {es : List Expr} {p pos apos : Pos} {x m : Str} {k : Nat} {ps : List Str} {sp : XSp} {C : Addr} {cl : (SV → ST → Prop) → EF → List SV → ST → Prop} {to : ATE} {ta : ATA}
/-- C(..): its __init__ may let an error out -/
def aMkX (C : Addr) (sp : XSp) (ER : EA) (ta : ATA) : ATE := fun δ s Q => ta δ s fun xs s1 => callCX sp (fun r s2 => r = .d .non ∧ Q (.l s1.length) s2) (fun C t s3 => ER C t δ s3) .mk (.l s1.length :: xs) (s1 ++ [.ins C (s1.length + 1) [], .own s1.length])
end
/-! ### errors as data -/
section
variable {X : Cx} {pins : List (Addr × Obj)} {σ : L2.St} {H : Hp} {sI s' : Shared} {B : Heap}
end
section
variable {X : Cx} {M : MP} {x : Str} {N C : Addr} {e : Expr} {p pos : Pos} {k : Nat} {va : ATE} {ta : TA}
def aMkE (C : Addr) (t : ATE) : ATE := fun δ s Q => t δ s fun y s1 => ∃ u, y = .d u ∧ Q (.d (.exc C u)) s1
end
/-- x.what of an error -/
def whatG (K : Fr) (N : Addr) : AR1 := fun x s Q => match x with
  | .d (.exc C t) => ErrC K N C ∧ Q (.d t) s
  | _ => False
section
variable {X : Cx} {M : MP} {e : Expr} {te : TE} {N : Addr} {pos : Pos} {va : ATE}
end
/-! ### isinstance of errors -/
/-- the error's class, looked at for the class at D; the builtin ValueError -/
def isE (K : Fr) (N C : Addr) : T → Option Bool
  | .ref D => some (decide (D = C ∨ D = N))
  | .ty n => if n = "ValueError" then some true else none
  | _ => none
/-- what the asked classes must be -/
def ClsE (K : Fr) : T → Prop
  | .ref D => (PySem.W.clsIn K D).isSome = true ∧ PySem.W.typeIn K (.ref D) = some (.type "type")
  | .ty _ => True
  | _ => False
def anyE (K : Fr) (N C : Addr) : List T → Option Bool
  | [] => some false
  | c :: r => match isE K N C c, anyE K N C r with
    | some a, some b => some (a || b)
    | _, _ => none
def isXG (K : Fr) (N : Addr) : ARC := fun xs s Q => match xs with
  | [.d (.exc C _), .d (.tup cs)] => ErrC K N C ∧ (∀ c ∈ cs, ClsE K c) ∧ ∃ b, anyE K N C cs = some b ∧ Q (.d (.bl b)) s
  | [.d (.exc C _), .d c] => ErrC K N C ∧ ClsE K c ∧ ∃ b, isE K N C c = some b ∧ Q (.d (.bl b)) s
  | _ => False
section
variable {X : Cx} {M : MP} {e e2 : Expr} {pos p : Pos} {x : Str} {N D : Addr}
end
end Lv

/-! Le3: try .. except X as e: suite, the error kept as data. -/
namespace Lv
open PySem PySem.Spec PyProof.Rows L2 LvI
section
variable {X : Cx} {pins : List (Addr × Obj)} {σ : L2.St} {H : Hp} {s : Shared}
end
section
variable {X : Cx} {x n : Str} {c : Value} {i : Nat} {body suite : List Stmt} {b₀ : Stmt} {np pos pos' : Pos} {tb : WX → TS} {ts : Addr → TS} {Wout : WX}
end
/-! ### over places and store -/
def endA (i : Nat) (A : AEnds) : AEnds := { nx := fun δ' s' => A.nx (δ'.set i none) s', rt := A.rt, bk := fun δ' s' => A.bk (δ'.set i none) s', ct := fun δ' s' => A.ct (δ'.set i none) s' }
/-- what the clause makes of an error in the body -/
def erT (K : Fr) (N D : Addr) (i k : Nat) (u : ATS) (ERo : EA) (A : AEnds) (_ : Lk (u, ERo, A)) : EA := fun C t δ s => (s.take k).all (clO k) = true ∧ ErrC K N C ∧
  ((D = C ∨ D = N) → u (endA i A) ((δ.map (lowS k)).set i (some (.d (.exc C t)))) (s.take k)) ∧ (¬(D = C ∨ D = N) → ERo C t (δ.map (lowS k)) (s.take k))
def pTry (K : Fr) (N D : Addr) (i : Nat) (b : EA → ATS) (u : ATS) (ERo : EA) : ATS := fun A δ s => b (erT K N D i s.length u ERo A .mk) A δ s
section
variable {X : Cx} {M : MP} {x n : Str} {N D : Addr} {i : Nat} {body suite : List Stmt} {b₀ : Stmt} {np pos pos' : Pos} {b : EA → ATS} {u : ATS} {ERo : EA}
end
theorem erT_eq {K : Fr} {N D : Addr} {i k : Nat} {u : ATS} {ERo : EA} {A : AEnds} {l : Lk (u, ERo, A)} {C : Addr} {t : T} {δ : AS} {s : ST} : erT K N D i k u ERo A l C t δ s = ((s.take k).all (clO k) = true ∧ ErrC K N C ∧
  ((D = C ∨ D = N) → u (endA i A) ((δ.map (lowS k)).set i (some (.d (.exc C t)))) (s.take k)) ∧ (¬(D = C ∨ D = N) → ERo C t (δ.map (lowS k)) (s.take k))) := rfl
/-! what the written part has of classes of errors -/
structure ErrW (K : Fr) (x qual : Str) (N C : Addr) (st : Stmt) : Prop where
  ns : PySem.W.nsIn K mainGlobals x = some (some (.ref C))
  ob : ∃ q Ns bs sn sub ab col dd k0 k1 k2 k3 k5, K.lookup C = some (excClassObj x q C Ns bs (.ref N :: PySem.HandSPX.veTail) true sn sub ab col dd k0 k1 k2 k3 k5 "ValueError.__new__")
  sa : PySem.W.findIn K (.ref C) "__setattr__" = some (some (.builtin "object.__setattr__"))
  sb : PySem.W.subIn K (.ref C) (.type "BaseException") = some true
  ty : PySem.W.typeIn K (.ref C) = some (.type "type")
  kp : PySem.W.keepIn K (.ref C) = true
  ga : PySem.W.findIn K (.ref C) "__getattribute__" = some (some (.builtin "BaseException.__getattribute__"))
  gg : PySem.W.findIn K (.ref C) "__getattr__" = some none
  ca : PySem.W.findIn K (.ref C) "__class__" = some (some (.builtin "object.__class__"))
  cn : PySem.W.specialIn K (.builtin "object.__class__") "__get__" = some (some (.builtin "getset_descriptor.__get__"))
  ct : PySem.W.takesIn K (.builtin "object.__class__") = some true
  mo : PySem.W.mroIn K C (.type "object") = some true
  wh : PySem.W.findIn K (.ref C) "what" = some none
  fn : ∃ (f : Addr) (od an : Option Addr) (oc kV dc pm cd ct : Value) (sl : Array (Option Value)), PySem.W.findIn K (.ref C) "__init__" = some (some (.ref f)) ∧ PySem.W.typeIn K (.ref f) = some (.type "function") ∧
    K.lookup f = some ⟨oc, od, .func (PySem.W.fnOf "__init__" qual (defArgs st) (defBody st) (defScope st) .none kV dc pm an cd ct), sl⟩ ∧ PySem.W.codeIn K cd qual = true
theorem ErrW.of {K : Fr} {x qual : Str} {N C : Addr} {st : Stmt} {q : Str} {Ns : Addr} {bs : List Value} {sn : List Str} {sub : List Value} {ab : Bool} {col : Option Bool} {dd : Option Addr} {k0 k1 k2 k3 k5 : Option Value}
    {f : Addr} {od an : Option Addr} {oc kV dc pm cd ct : Value} {sl : Array (Option Value)} (a1 : PySem.W.nsIn K mainGlobals x = some (some (.ref C)))
    (a2 : K.lookup C = some (excClassObj x q C Ns bs (.ref N :: PySem.HandSPX.veTail) true sn sub ab col dd k0 k1 k2 k3 k5 "ValueError.__new__")) (a3 : PySem.W.findIn K (.ref C) "__setattr__" = some (some (.builtin "object.__setattr__"))) (a4 : PySem.W.subIn K (.ref C) (.type "BaseException") = some true)
    (a5 : PySem.W.typeIn K (.ref C) = some (.type "type")) (a6 : PySem.W.keepIn K (.ref C) = true) (a7 : PySem.W.findIn K (.ref C) "__getattribute__" = some (some (.builtin "BaseException.__getattribute__"))) (a8 : PySem.W.findIn K (.ref C) "__getattr__" = some none)
    (a9 : PySem.W.findIn K (.ref C) "__class__" = some (some (.builtin "object.__class__"))) (b1 : PySem.W.specialIn K (.builtin "object.__class__") "__get__" = some (some (.builtin "getset_descriptor.__get__"))) (b2 : PySem.W.takesIn K (.builtin "object.__class__") = some true)
    (b3 : PySem.W.mroIn K C (.type "object") = some true) (b4 : PySem.W.findIn K (.ref C) "what" = some none) (b5 : PySem.W.findIn K (.ref C) "__init__" = some (some (.ref f))) (b6 : PySem.W.typeIn K (.ref f) = some (.type "function"))
    (b7 : K.lookup f = some ⟨oc, od, .func (PySem.W.fnOf "__init__" qual (defArgs st) (defBody st) (defScope st) .none kV dc pm an cd ct), sl⟩) (b8 : PySem.W.codeIn K cd qual = true) : ErrW K x qual N C st :=
  ⟨a1, ⟨_, _, _, _, _, _, _, _, _, _, _, _, _, a2⟩, a3, a4, a5, a6, a7, a8, a9, b1, b2, b3, b4, ⟨_, _, _, _, _, _, _, _, _, _, b5, b6, b7, b8⟩⟩
section
variable {P : Program} {w : World} {K : Fr} {mg : Str → Option Value} {base h : Heap} {x qual m : Str} {N C : Addr} {st : Stmt}
theorem ErrW.cls (W : ErrW K x qual N C st) : ∃ cd, PySem.W.clsIn K C = some cd ∧ cd.name = x ∧ cd.hasDict = true ∧ cd.mro = .ref C :: .ref N :: PySem.HandSPX.veTail := by
  obtain ⟨q, Ns, bs, sn, sub, ab, col, dd, k0, k1, k2, k3, k5, e⟩ := W.ob
  refine ⟨{ name := x, bases := bs, mro := .ref C :: .ref N :: PySem.HandSPX.veTail, ns := Ns, qualname := q, hasDict := true, slotNames := sn, subclasses := sub, abstract := ab, collection := col, hasDel := false }, ?_, rfl, rfl, rfl⟩
  unfold PySem.W.clsIn
  rw [e] <;> rfl
end
/-- the class over them -/
structure ErrN (K : Fr) (x : Str) (N : Addr) : Prop where
  ns : PySem.W.nsIn K mainGlobals x = some (some (.ref N))
  cl : ∃ cd, PySem.W.clsIn K N = some cd ∧ cd.name = x ∧ cd.hasDict = true
  ty : PySem.W.typeIn K (.ref N) = some (.type "type")
  sb : PySem.W.subIn K (.ref N) (.type "BaseException") = some true
  ga : PySem.W.specialIn K (.ref N) "__getattribute__" = some (some (.builtin "type.__getattribute__"))
  rd : PySem.W.readsIn K N (.type "type") = true
  at_ : PySem.W.findCls K (.ref N) (.type "type") "__init__" = some (.val (.builtin "ValueError.__init__"))
theorem ErrN.of {K : Fr} {x : Str} {N : Addr} {bs mro : List Value} {ns : Addr} {qn : Str} {sn : List Str} {sb : List Value} {ab : Bool} {col : Option Bool} {dl : Bool} (a1 : PySem.W.nsIn K mainGlobals x = some (some (.ref N))) (a2 : PySem.W.clsIn K N = some ⟨x, bs, mro, ns, qn, true, sn, sb, ab, col, dl⟩)
    (a3 : PySem.W.typeIn K (.ref N) = some (.type "type")) (a4 : PySem.W.subIn K (.ref N) (.type "BaseException") = some true) (a5 : PySem.W.specialIn K (.ref N) "__getattribute__" = some (some (.builtin "type.__getattribute__"))) (a6 : PySem.W.readsIn K N (.type "type") = true)
    (a7 : PySem.W.findCls K (.ref N) (.type "type") "__init__" = some (.val (.builtin "ValueError.__init__"))) : ErrN K x N := ⟨a1, ⟨_, a2, rfl, rfl⟩, a3, a4, a5, a6, a7⟩
section
variable {K : Fr} {mg : Str → Option Value} {h : Heap} {x : Str} {N : Addr}
end
theorem clsE_ty {K : Fr} {n : String} : ClsE K (.ty n) = True := rfl
end Lv

/-! Le4: a name's list or dict is data from here on. -/
namespace Lv
open PySem PySem.Spec PyProof.Rows L2 LvI
/-- a thing that may become data as it is -/
def frzT : LO → Option T
  | .lst ts => some (.lst ts)
  | _ => none
def frzD (n : Nat) (t : T) : Option SV → Option SV
  | some (.l m) => if m = n then some (.d t) else some (.l m)
  | x => x
/-- the name at i: its thing becomes data -/
def frzA (i : Nat) (Q : AS → ST → Prop) : AS → ST → Prop := fun δ s => match δ[i]? with
  | some (some (.l n)) => (match s[n]? with
    | some o => (match frzT o with
      | some t => Q (δ.map (frzD n t)) (s.set n .gone)
      | none => False)
    | none => False)
  | _ => False
section
variable {X : Cx} {M : MP} {st : Stmt} {t : ATS}
def pFrzV (i : Nat) (t : ATS) : ATS := fun A δ s => t { A with nx := frzA i A.nx } δ s
end
end Lv

/-! Le5: joins: behind a statement what stands is told anew. -/
namespace Lv
open PySem PySem.Spec PyProof.Rows L2 LvI
section
variable {X : Cx} {M : MP} {st : Stmt} {t : ATS}
def cutK (t : ATS) (A : AEnds) (_ : Lk (t, A)) (δ : AS) (s : ST) : Prop := ∃ I : AS → ST → Prop, t { nx := I, rt := A.rt, bk := A.bk, ct := A.ct } δ s ∧ ∀ δ' s', I δ' s' → A.nx δ' s'
def pCutS (t : ATS) : ATS := fun A δ s => cutK t A .mk δ s
end
end Lv

/-! Lp1: dicts of the store read; things in pools: fields added to, lists grown; comprehensions of things. -/
namespace Lv
open PySem PySem.Spec PyProof.Rows L2 LvI
/-- values that are data -/
def dvs {κ : Type} (kvs : List (κ × T)) : List (κ × SV) := kvs.map fun p => (p.1, SV.d p.2)
theorem dvs_1 {κ : Type} (kvs : List (κ × T)) : (dvs kvs).map (·.1) = kvs.map (·.1) := by unfold dvs; rw [List.map_map]; rfl
theorem dvs_2 {κ : Type} (kvs : List (κ × T)) : (dvs kvs).map (·.2) = (kvs.map (·.2)).map SV.d := by unfold dvs; rw [List.map_map, List.map_map]; rfl
/-! ### dicts by whole numbers and texts -/
def dkS (s : ST) : SV → Option (List (Key × SV))
  | .l n => (match s[n]? with | some (.mK kvs) => some kvs | some (.fK _ _ kvs) => some kvs | some (.dK kvs) => some (dvs kvs) | some (.lK _ _ kvs) => some (dvs kvs) | some (.pool (.dK kvs) _) => some (dvs kvs) | some (.pool (.lK _ _ kvs) _) => some (dvs kvs) | _ => none)
  | .d (.dk ks xs) => some (ks.zip (xs.map SV.d))
  | _ => none
section
variable {K : Fr} {M : MP} {H B : Hp} {φ : Fi} {s : ST}
def dgetK (s : ST) (x y : SV) (P : Option SV → Prop) : Prop := match y with
  | .d t => ∃ kvs k, dkS s x = some kvs ∧ keyT t = some k ∧ P (valS kvs k)
  | _ => False
end
section
variable {X : Cx} {M : MP} {e o i k f value : Expr} {es : List Expr} {pos pos' apos tpos : Pos} {va vo vi vk tv : ATE}
def aDGet (to ti : ATE) : ATE := fun δ s Q => to δ s fun x s1 => ti δ s1 fun y s2 => dgetK s2 x y fun o => ∃ z, o = some z ∧ Q z s2
def aDIn (n : Bool) (ti to : ATE) : ATE := fun δ s Q => ti δ s fun y s1 => to δ s1 fun x s2 => dgetK s2 x y fun o => Q (.d (.bl (n != o.isSome))) s2
def dputK (x y z : SV) (s : ST) (C : ST → Prop) : Prop := match x, y with
  | .l n, .d t => ∃ kvs k, s[n]? = some (.mK kvs) ∧ keyT t = some k ∧ kvs.length < sizeLine ∧ C (s.set n (.mK (putS kvs k z)))
  | _, _ => False
def pDPut (to ti tv : ATE) : ATS := fun A δ s => tv δ s fun z s1 => to δ s1 fun x s2 => ti δ s2 fun y s3 => dputK x y z s3 fun s4 => A.nx δ s4
/-- {k: v} -/
def aDisp1 (tk tv : ATE) : ATE := fun δ s Q => tk δ s fun y s1 => tv δ s1 fun z s2 => match y with
  | .d t => ∃ k, keyT t = some k ∧ Q (.l s2.length) (s2 ++ [.mK [(k, z)]])
  | _ => False
/-- sorted(a dict by whole numbers) -/
def sortDG : ARC := fun xs s Q => match xs with
  | [x] => ∃ (kvs : List (Key × SV)) (ks : List Int), dkS s x = some kvs ∧ kvs.map (·.1) = ks.map Sum.inl ∧ ks.length < 64 ∧ ∀ ys : List Int, ys.Perm ks → ys.Pairwise (· ≤ ·) → Q (.l s.length) (s ++ [.lst (ys.map T.int)])
  | _ => False
/-! ### x.f += whole number, x in a pool -/
def rdR (K : Fr) (f : Str) (a : Addr) (s : ST) (n j : Nat) (D : Addr) (i : Int) : Prop := match s[n]? with
  | some (.pool _ rs) => (match rs[j]? with
    | some (b, .ins _ C fs) => b = a ∧ C = D ∧ AtF K C f ∧ lk f fs = some (.int i)
    | _ => False)
  | _ => False
def wrR (f : Str) (a : Addr) (s : ST) (n j : Nat) (D : Addr) (z : T) (C : ST → Prop) : Prop := match s[n]? with
  | some (.pool o rs) => (match rs[j]? with
    | some (b, .ins dx E fs) => b = a ∧ E = D ∧ fs.length < 1000 ∧ C (s.set n (.pool o (rs.set j (b, .ins dx E (putA f z fs)))))
    | _ => False)
  | _ => False
def augRf (K : Fr) (f : Str) (x : SV) (tv : ATE) (A : AEnds) (δ : AS) (s1 : ST) : Prop := match x with
  | .d (.ref a) => ∃ n j D i, rdR K f a s1 n j D i ∧ tv δ s1 fun y s2 => ∃ k, y = .d (.int k) ∧ wrR f a s2 n j D (.int (i + k)) fun s3 => A.nx δ s3
  | _ => False
def pFldAug (K : Fr) (f : Str) (to tv : ATE) : ATS := fun A δ s => to δ s fun x s1 => augRf K f x tv A δ s1
/-! ### a list of a pool grown -/
def isRL (x : SV) (s : ST) : Prop := match x with
  | .d (.ref a) => ∃ (n j : Nat), (match s[n]? with
    | some (.pool _ rs) => (match rs[j]? with | some (b, .lst _) => b = a | _ => False)
    | _ => False)
  | _ => False
def appRG (x : SV) (xs : List SV) (s : ST) (Q : SV → ST → Prop) : Prop := match x, xs with
  | .d (.ref a), [.d t] => ∃ (n j : Nat), (match s[n]? with
    | some (.pool o rs) => (match rs[j]? with
      | some (b, .lst us) => b = a ∧ us.length < sizeLine ∧ Q (.d .non) (s.set n (.pool o (rs.set j (b, .lst (us ++ [t])))))
      | _ => False)
    | _ => False)
  | _, _ => False
def aMeR (to : ATE) (t : ATA) : ATE := fun δ s Q => to δ s fun x s1 => isRL x s1 ∧ t δ s1 fun xs s2 => appRG x xs s2 Q
end
end Lv

/-! Lp2: comprehensions that make a thing each turn: what they make is a pool. -/
namespace Lv
open PySem PySem.Spec PyProof.Rows L2 LvI
/-- a record without its addresses -/
inductive PSh where
  | ins (C : Addr) (fs : List (Str × T))
  | lst (ts : List T)
def PRec.sh : PRec → PSh
  | .ins _ C fs => .ins C fs
  | .lst ts => .lst ts
/-- at place k a thing of that shape stands, and nothing below leans on what is above -/
def freshP (k : Nat) (y : SV) (s : ST) (sh : PSh) : Prop := y = .l k ∧ (s.take k).all (clO k) = true ∧ match sh with
  | .lst ts => s[k]? = some (.lst ts)
  | .ins C fs => ∃ j, s[k]? = some (.ins C j (fs.map fun f => (f.1, SV.d f.2))) ∧ s[j]? = some (.own k) ∧ k ≤ j
section
variable {K : Fr} {M : MP} {H B : Hp} {φ : Fi} {s : ST}
theorem adr_take_out {k n : Nat} {c : Ce} {a : Addr} (nd : (adr φ).Nodup) (h : φ[n]? = some c) (ha : a ∈ c.al) (hn : k ≤ n) : a ∉ adr (φ.take k) := fun z => by
  obtain ⟨m, d, h1, h2⟩ := adr_of z
  have hm : m < k := by
    have := (List.getElem?_eq_some_iff.mp h1).1
    rw [List.length_take] at this; omega
  rw [List.getElem?_take_of_lt hm] at h1
  have := adr_nd nd h h1 ha h2
  omega
end
theorem Po.al_nt {K : Fr} {B H : Hp} {a : Addr} {r : PRec} (h : Po K B H a r) : ∀ x ∈ r.al a, ∃ u, H x = some u ∧ ∀ xs : List V, u ≠ HO.tup xs := by
  intro x hx
  cases r with
  | ins dx C fs =>
    obtain ⟨vs, _, h2, h3⟩ := h
    have hx : x ∈ [a, dx] := hx
    simp only [List.mem_cons, List.not_mem_nil, or_false] at hx
    rcases hx with rfl | rfl
    · exact ⟨_, h2, fun _ e => by cases e⟩
    · exact ⟨_, h3, fun _ e => by cases e⟩
  | lst ts =>
    obtain ⟨vs, _, h2⟩ := h
    have hx : x ∈ [a] := hx
    rw [List.mem_singleton.mp hx]
    exact ⟨_, h2, fun _ e => by cases e⟩
theorem Po.al_ne {K : Fr} {B H : Hp} {a : Addr} {r : PRec} (h : Po K B H a r) : ∀ x ∈ r.al a, H x ≠ none := by
  intro x hx
  cases r with
  | ins dx C fs =>
    obtain ⟨vs, h1, h2, h3⟩ := h
    have hx : x = a ∨ x = dx := by simpa [PRec.al] using hx
    rcases hx with rfl | rfl
    · rw [h2]; exact nofun
    · rw [h3]; exact nofun
  | lst ts =>
    obtain ⟨vs, h1, h2⟩ := h
    have hx : x = a := by simpa [PRec.al] using hx
    rw [hx, h2]; exact nofun
def aLcP (ti : ATI) (g : ATG) (tt : ATT) (te : ATE) (vs : List Nat) : ATE := fun δ s Q => ti δ s fun items grd s1 => ∃ Pv : Nat → List PSh → ST → Prop, Pv 0 [] s1 ∧ (∀ i acc s', Pv i acc s' → grd s') ∧
  (∀ i x acc s', items[i]? = some x → Pv i acc s' → g (.d x) (wipeA δ vs) s' fun δ2 s2 => tt δ2 s2 fun b s3 => (b = true → te δ2 s3 fun y s4 => ∃ sh, freshP s3.length y s4 sh ∧ acc.length < sizeLine ∧ Pv (i + 1) (acc ++ [sh]) (s4.take s3.length)) ∧ (b = false → Pv (i + 1) acc s3)) ∧
  (∀ acc s' rs, Pv items.length acc s' → rs.map (fun r : Addr × PRec => r.2.sh) = acc → (poolA rs).Nodup → Q (.l s'.length) (s' ++ [.pool (.lst (rs.map fun r => T.ref r.1)) rs]))
structure Bes (K : Fr) (M : MP) (H1 B1 : Hp) (φ1 : Fi) (H B : Hp) (φ : Fi) (Dl : Addr) (rs : List (Addr × PRec)) : Prop where
  po : ∀ r ∈ rs, Po K B H r.1 r.2
  nd : (Dl :: poolA rs).Nodup
  out : ∀ a ∈ poolA rs, a ∉ adr φ ∧ B a = none ∧ (a ∈ adr φ1 ∨ H1 a = none)
theorem Bes.grow {K : Fr} {M : MP} {H1 B1 H B H' B' : Hp} {φ1 φ φ' : Fi} {Dl : Addr} {rs : List (Addr × PRec)} (b : Bes K M H1 B1 φ1 H B φ Dl rs) (g : Gr H B φ H' B' φ') : Bes K M H1 B1 φ1 H' B' φ' Dl rs := by
  have live : ∀ a ∈ poolA rs, H a ≠ none := fun a ha => by
    obtain ⟨r, hr, hx⟩ := List.mem_flatMap.mp ha
    exact (b.po r hr).al_ne a hx
  refine ⟨fun r hr => (b.po r hr).mo g.eb fun x hx => ?_, b.nd, fun a ha => ?_⟩
  · have hxp := poolA_mem hr hx
    cases q : H x with
    | none => exact absurd q (live x hxp)
    | some o => exact g.kp x o q (b.out x hxp).1
  · obtain ⟨o1, o2, o3⟩ := b.out a ha
    obtain ⟨r, hr, hx⟩ := List.mem_flatMap.mp ha
    obtain ⟨u, hu, hn⟩ := (b.po r hr).al_nt a hx
    exact ⟨fun z => (g.nf a z).elim o1 (live a ha), g.nbN o2 hu hn o1, o3⟩
theorem poolA_app (rs : List (Addr × PRec)) (r : Addr × PRec) : poolA (rs ++ [r]) = poolA rs ++ r.2.al r.1 := by
  unfold poolA
  rw [List.flatMap_append]
  simp
section
variable {X : Cx} {M : MP} {pos : Pos}
end
end Lv

/-! Lp3: name = [a thing for ..]; two pools made one. -/
namespace Lv
open PySem PySem.Spec PyProof.Rows L2 LvI
section
variable {X : Cx} {M : MP} {st : Stmt} {t : ATS}
end
section
variable {K : Fr} {M : MP} {H B : Hp} {φ : Fi} {s : ST}
/-- the things of pool m go over to pool n, ahead of its own; of m its list stays -/
def mergeS (s : ST) (n m : Nat) : Option ST := match s[n]?, s[m]? with
  | some (.pool o1 r1), some (.pool o2 r2) => if n = m then none else some ((s.set n (.pool o1 (r2 ++ r1))).set m o2)
  | _, _ => none
theorem shl_smp {o : LO} (h : o.shl = true) : o.smp = true := by cases o <;> first | rfl | cases h
end
section
variable {X : Cx} {M : MP} {st : Stmt} {t : ATS}
/-- behind a statement two pools are made one -/
def pMrg (t : ATS) : ATS := fun A δ s => t { A with nx := fun δ' s' => ∃ n m s2, mergeS s' n m = some s2 ∧ A.nx δ' s2 } δ s
end
end Lv

/-! Lp4: stepping through comprehensions of things; things in pools by their place. -/
namespace Lv
open PySem L2
def lcPK (ti : ATI) (g : ATG) (tt : ATT) (te : ATE) (Q : SV → ST → Prop) (_ : Lk (ti, g, tt, te, Q)) (vs : List Nat) (δ : AS) (s : ST) : Prop := aLcP ti g tt te vs δ s Q
theorem aLcP_eq (ti : ATI) (g : ATG) (tt : ATT) (te : ATE) (Q : SV → ST → Prop) (vs : List Nat) (δ : AS) (s : ST) : aLcP ti g tt te vs δ s Q = lcPK ti g tt te Q .mk vs δ s := rfl
end Lv

/-! Lp5: how often a text stands in a list of texts. -/
namespace Lv
open PySem PySem.Spec PyProof.Rows L2 LvI
/-- xs.count(a text) -/
def cntLG : ARM := fun x xs s Q => match xs with
  | [.d (.str k)] => ∃ ys : List Str, lsV s x = some (ys.map T.str) ∧ Q (.d (.int (ys.count k : Nat))) s
  | _ => False
end Lv

/-! Lp6: {k: v, ..} of several entries. -/
namespace Lv
open PySem PySem.Spec PyProof.Rows L2 LvI
section
variable {κ : Type} [DecidableEq κ]
theorem valS_nil (k : κ) : valS [] k = none := rfl
theorem valS_cons (q : κ) (y : SV) (r : List (κ × SV)) (k : κ) : valS ((q, y) :: r) k = if q = k then some y else valS r k := by
  unfold valS
  by_cases h : q = k
  · rw [if_pos h, List.find?_cons_of_pos (by simpa using h)]; rfl
  · rw [if_neg h, List.find?_cons_of_neg (by simpa using h)]
theorem putS_nil (k : κ) (x : SV) : putS [] k x = [(k, x)] := rfl
theorem putS_cons (q : κ) (y : SV) (r : List (κ × SV)) (k : κ) (x : SV) : putS ((q, y) :: r) k x = if q = k then (q, x) :: r.map (fun kv => if kv.1 = k then (kv.1, x) else kv) else (q, y) :: putS r k x := by
  unfold putS
  by_cases h : q = k
  · rw [if_pos h, if_pos (by simp [h])]; simp [h]
  · rw [if_neg h]
    by_cases g : (r.any fun kv => decide (kv.1 = k)) = true
    · rw [if_pos g, if_pos (by rw [List.any_cons, g]; simp)]; simp [h]
    · rw [if_neg g, if_neg (by rw [List.any_cons]; simpa [h] using g)]; rfl
end
section
variable {X : Cx} {M : MP} {k value : Expr} {pos : Pos} {ks : List (Option Expr)} {vs : List Expr} {vk tv : ATE}
/-- what is laid into a new dict, entry by entry -/
def dispG (s : ST) (Q : SV → ST → Prop) : List (Key × SV) → List SV → Prop
  | acc, [] => Q (.l s.length) (s ++ [.mK acc])
  | acc, .d t :: z :: r => ∃ k, keyT t = some k ∧ dispG s Q (putS acc k z) r
  | _, _ => False
def aDisp (t : ATA) : ATE := fun δ s Q => t δ s fun xs s1 => dispG s1 Q [] xs
end
end Lv

/-! Lp7: dicts whose keys are tuples of whole numbers and texts (a number among them). -/
namespace Lv
open PySem PySem.Spec PyProof.Rows L2 LvI
def tksT : List T → Option (List Key)
  | [] => some []
  | t :: r => (keyT t).bind fun k => (tksT r).map (k :: ·)
def anyI (k : List Key) : Bool := k.any fun x => match x with | .inl _ => true | .inr _ => false
def dtS (s : ST) : SV → Option (List (List Key × SV))
  | .l n => (match s[n]? with | some (.mT kvs) => some kvs | some (.fT _ _ kvs) => some kvs | some (.dT kvs) => some (dvs kvs) | some (.lT _ _ kvs) => some (dvs kvs) | _ => none)
  | .d (.dt ks xs) => some (ks.zip (xs.map SV.d))
  | _ => none
section
variable {K : Fr} {M : MP} {H B : Hp} {φ : Fi} {s : ST}
def dgetT (s : ST) (x y : SV) (P : Option SV → Prop) : Prop := match y with
  | .d (.tup ts) => ∃ kvs k, dtS s x = some kvs ∧ tksT ts = some k ∧ anyI k = true ∧ P (valS kvs k)
  | _ => False
end
section
variable {X : Cx} {M : MP} {e o i k f value : Expr} {es : List Expr} {pos pos' apos tpos : Pos} {va vo vi vk tv : ATE}
def aDic0T : ATE := fun _ s Q => Q (.l s.length) (s ++ [.mT []])
def aDGetT (to ti : ATE) : ATE := fun δ s Q => to δ s fun x s1 => ti δ s1 fun y s2 => dgetT s2 x y fun o => ∃ z, o = some z ∧ Q z s2
def aDInT (n : Bool) (ti to : ATE) : ATE := fun δ s Q => ti δ s fun y s1 => to δ s1 fun x s2 => dgetT s2 x y fun o => Q (.d (.bl (n != o.isSome))) s2
def dputT (x y z : SV) (s : ST) (C : ST → Prop) : Prop := match x, y with
  | .l n, .d (.tup ts) => ∃ kvs k, s[n]? = some (.mT kvs) ∧ tksT ts = some k ∧ anyI k = true ∧ kvs.length < sizeLine ∧ C (s.set n (.mT (putS kvs k z)))
  | _, _ => False
def pDPutT (to ti tv : ATE) : ATS := fun A δ s => tv δ s fun z s1 => to δ s1 fun x s2 => ti δ s2 fun y s3 => dputT x y z s3 fun s4 => A.nx δ s4
end
end Lv

/-! Lq1: loops over dicts: a dict is locked (read, never written) while a loop walks it; a dict compared with {}. -/
namespace Lv
open PySem PySem.Spec PyProof.Rows L2 LvI
/-! ### the lock -/
/-- ends within a lock: what was locked is opened again -/
def lkE (n : Nat) (o1 o2 : LO) (A : AEnds) : AEnds where
  nx δ' s' := s'[n]? = some o1 ∧ A.nx δ' (s'.set n o2)
  rt x s' := s'[n]? = some o1 ∧ A.rt x (s'.set n o2)
  bk δ' s' := s'[n]? = some o1 ∧ A.bk δ' (s'.set n o2)
  ct δ' s' := s'[n]? = some o1 ∧ A.ct δ' (s'.set n o2)
theorem lkE_nx {n : Nat} {o1 o2 : LO} {A : AEnds} {δ' : AS} {s' : ST} : (lkE n o1 o2 A).nx δ' s' = (s'[n]? = some o1 ∧ A.nx δ' (s'.set n o2)) := rfl
theorem lkE_rt {n : Nat} {o1 o2 : LO} {A : AEnds} {x : SV} {s' : ST} : (lkE n o1 o2 A).rt x s' = (s'[n]? = some o1 ∧ A.rt x (s'.set n o2)) := rfl
/-- shut to simp -/
def lockK (t : ATS) (A : AEnds) (_ : Lk (t, A)) (δ : AS) (s : ST) : Prop := ∃ n,
  (∃ kvs, s[n]? = some (.mK kvs) ∧ ∀ od vs, t (lkE n (.fK od vs kvs) (.mK kvs) A) δ (s.set n (.fK od vs kvs))) ∨
  (∃ kvs, s[n]? = some (.mT kvs) ∧ ∀ od vs, t (lkE n (.fT od vs kvs) (.mT kvs) A) δ (s.set n (.fT od vs kvs)))
def pLock (t : ATS) : ATS := fun A δ s => lockK t A .mk δ s
section
variable {X : Cx} {M : MP} {st : Stmt} {t : ATS}
section
variable {K : Fr} {H B H' B' : Hp} {φ φ' : Fi} {s s' : ST}
end
end
/-! ### what is walked -/
def kyT : Key → T
  | .inl i => .int i
  | .inr z => .str z
section
variable {X : Cx} {M : MP} {tg e : Expr} {cpos : Pos} {apos : Pos} {va : ATE} {elts : List Expr} {kk : Nat} {tpos : Pos}
def aDKeys (t : ATE) : ATI := fun δ s Q => t δ s fun x s1 => match x with
  | .l n => (match s1[n]? with
    | some (.fK od vs kvs) => Q (kvs.map fun kv => kyT kv.1) (fun s => s[n]? = some (.fK od vs kvs)) s1
    | _ => False)
  | _ => False
/-- d.items(), the values data -/
def aDItems (t : ATE) : ATI := fun δ s Q => t δ s fun x s1 => match x with
  | .l n => (match s1[n]? with
    | some (.fK od vs kvs) => ∃ ts, dats (kvs.map (·.2)) = some ts ∧ Q (List.zipWith (fun kv t => T.tup [kyT kv.1, t]) kvs ts) (fun s => s[n]? = some (.fK od vs kvs)) s1
    | _ => False)
  | _ => False
end
/-! ### d != {}, d == {} -/
section
variable {X : Cx} {M : MP} {a b e : Expr} {pos dpos : Pos} {va : ATE}
/-- two dicts of the store, the second one empty -/
def mtG (n : Bool) : AR2 := fun x y s Q => match x, y with
  | .l i, .l j => (match s[i]?, s[j]? with
    | some (.mK kvs), some (.mK []) => Q (.d (.bl (n != kvs.isEmpty))) s
    | _, _ => False)
  | _, _ => False
end
/-! ### min, max of two: shut to simp until both are known -/
def minGK (Q : SV → ST → Prop) (_ : Lk Q) (xs : List SV) (s : ST) : Prop := minG xs s Q
def maxGK (Q : SV → ST → Prop) (_ : Lk Q) (xs : List SV) (s : ST) : Prop := maxG xs s Q
theorem minGK_2 {Q : SV → ST → Prop} {l : Lk Q} {i j : Int} {s : ST} : minGK Q l [.d (.int i), .d (.int j)] s = Q (.d (.int (if j < i then j else i))) s := rfl
theorem maxGK_2 {Q : SV → ST → Prop} {l : Lk Q} {i j : Int} {s : ST} : maxGK Q l [.d (.int i), .d (.int j)] s = Q (.d (.int (if j > i then j else i))) s := rfl
def aMinL (t : ATA) : ATE := fun δ s Q => t δ s fun xs s1 => minGK Q .mk xs s1
def aMaxL (t : ATA) : ATE := fun δ s Q => t δ s fun xs s1 => maxGK Q .mk xs s1
end Lv

/-! Ln1: comprehensions over one's own lists and tuples that hold places. -/
namespace Lv
open PySem L2 LvI
def aLcS (ti : ATE) (g : ATG) (tt : ATT) (te : ATE) (vs : List Nat) : ATE := fun δ s Q => ti δ s fun x s1 => ∃ n xs o, x = .l n ∧ s1[n]? = some o ∧ (o = .ll xs ∨ o = .tp xs) ∧ ∃ Pv : Nat → List T → ST → Prop, Pv 0 [] s1 ∧ (∀ i acc s', Pv i acc s' → s'[n]? = some o) ∧
  (∀ i y acc s', xs[i]? = some y → Pv i acc s' → g y (wipeA δ vs) s' fun δ2 s2 => tt δ2 s2 fun b s3 => (b = true → te δ2 s3 fun y s4 => ∃ t, y = .d t ∧ acc.length < sizeLine ∧ Pv (i + 1) (acc ++ [t]) s4) ∧ (b = false → Pv (i + 1) acc s3)) ∧
  (∀ acc s', Pv xs.length acc s' → Q (.l s'.length) (s' ++ [.lst acc]))
section
variable {X : Cx} {M : MP} {pos : Pos}
end
def lcSK (ti : ATE) (g : ATG) (tt : ATT) (te : ATE) (vs : List Nat) (δ : AS) (s : ST) (Q : SV → ST → Prop) (_ : Lk (ti, g, tt, te, Q)) : Prop := aLcS ti g tt te vs δ s Q
theorem aLcS_eq (ti : ATE) (g : ATG) (tt : ATT) (te : ATE) (vs : List Nat) (δ : AS) (s : ST) (Q : SV → ST → Prop) : aLcS ti g tt te vs δ s Q = lcSK ti g tt te vs δ s Q .mk := rfl
end Lv

/-! Ln2: a call to which lists are handed as data; what comes back has no list of data within. -/
namespace Lv
open PySem L2 LvI
mutual
/-- data without lists: numbers, texts, truths, tuples of such -/
def T.nol : T → Bool
  | .non => true
  | .bl _ => true
  | .int _ => true
  | .str _ => true
  | .tup ts => T.nols ts
  | _ => false
def T.nols : List T → Bool
  | [] => true
  | t :: r => T.nol t && T.nols r
end
def flatSD : SV → Bool
  | .d t => t.nol
  | .l _ => true
def flatOD : LO → Bool
  | .lst ts => ts.all T.nol
  | .tp xs => xs.all flatSD
  | .ll xs => xs.all flatSD
  | _ => false
section
variable {K : Fr} {M : MP} {H B B' Bc : Hp} {φ φ' : Fi} {s : ST}
end
/-- a call, some lists handed as data; what comes back has no list of data within -/
def viewDK (ms : List Bool) (sp : ASp) (Q : SV → ST → Prop) (_ : Lk Q) (xs : List SV) (s : ST) : Prop := ∃ ys, viewM s ms xs = some ys ∧ ((argL ys).all fun n => !(viewP ms xs).contains n) = true ∧
  ((argL ys).all fun n => match s[n]? with | some o => simO o | none => false) = true ∧
    sp (ys.map (toC (argL ys))) ((argL ys).map fun n => (s[n]?).getD .gone) fun r s2 => s2.all flatOD = true ∧ flatSD r = true ∧ Q (ren (argL ys) s.length r) (putAll s (argL ys) (s2.map (renO (argL ys) s.length)) ++ (s2.drop (argL ys).length).map (renO (argL ys) s.length))
def aFnVD (ms : List Bool) (sp : ASp) (t : ATA) : ATE := fun δ s Q => t δ s fun xs s1 => viewDK ms sp Q .mk xs s1
section
variable {X : Cx} {M : MP} {e : Expr} {es : List Expr} {pos p : Pos}
end
end Lv

/-! Ln3: how often some data stands in a list of data. -/
namespace Lv
open PySem PySem.Spec PyProof.Rows L2 LvI
def cntDG : ARM := fun x xs s Q => match xs with
  | [.d y] => ∃ ts, lsV s x = some ts ∧ SeqAt.shaped (T.lst ts).py = true ∧ SeqAt.shaped y.py = true ∧ Q (.d (.int ((T.pys ts).countP (fun z => PyData.eqv z y.py) : Nat))) s
  | _ => False
end Lv

/-! Ln4: a loop over two written things. -/
namespace Lv
open PySem PySem.Spec PyProof.Rows L2 LvI
end Lv

/-! Ld0: d.items() of a dict by tuples, which is locked. -/
namespace Lv
open PySem PySem.Spec PyProof.Rows L2 LvI
section
variable {X : Cx} {pins : List (Addr × Obj)} {σ : L2.St} {H : Hp} {s : Shared} {d : Addr} {o : Obj}
end
section
variable {P : Program} {w : World} {K : PySem.W.Frag} {d : Addr} {o : Obj} {es : Array DictEntry} {ep : Nat}
end
section
variable {X : Cx} {e : Expr} {td : TE} {apos cpos : Pos}
end
end Lv

/-! Ld1: None among the parts of a key that is looked up; keys and items of dicts that are data; get. -/
namespace Lv
open PySem PySem.Spec PyProof.Rows L2 LvI
/-! ### None within a key -/
abbrev KeyN := Option Key
section
variable {P : Program} {w : World} {H : Hp} {h : Heap} {a : Addr}
end
/-- all of them are there -/
def allS : List KeyN → Option (List Key)
  | [] => some []
  | none :: _ => none
  | some k :: r => (allS r).map (k :: ·)
section
variable {X : Cx} {pins : List (Addr × Obj)} {σ : L2.St} {H : Hp} {s : Shared} {a : Addr} {y : V} {u : Value} {A : Around} {E : Value → Shared → Prop}
end
section
variable {X : Cx} {M : MP} {i o : Expr} {ty td : TE} {pos : Pos} {vi vo : ATE}
/-- the parts of a key, None among them -/
def tksN : List T → Option (List KeyN)
  | [] => some []
  | .non :: r => (tksN r).map (none :: ·)
  | t :: r => (keyT t).bind fun k => (tksN r).map (some k :: ·)
def anyN (k : List KeyN) : Bool := k.any fun x => match x with | some (.inl _) => true | _ => false
/-- whether a key is there -/
def hasN (kvs : List (List Key × SV)) (ks : List KeyN) : Bool := match allS ks with
  | some k => (valS kvs k).isSome
  | none => false
def dinN (s : ST) (x y : SV) (P : Bool → Prop) : Prop := match y with
  | .d (.tup ts) => ∃ kvs k, dtS s x = some kvs ∧ tksN ts = some k ∧ anyN k = true ∧ P (hasN kvs k)
  | _ => False
def aDInN (n : Bool) (ti to : ATE) : ATE := fun δ s Q => ti δ s fun y s1 => to δ s1 fun x s2 => dinN s2 x y fun o => Q (.d (.bl (n != o))) s2
end
/-! ### get -/
/-- a dict of either kind -/
def isDS (s : ST) (x : SV) : Bool := (dkS s x).isSome || (dtS s x).isSome
/-- read by a key of either kind -/
def dgetA (tk : Bool) (s : ST) (x y : SV) (P : Option SV → Prop) : Prop := if tk then dgetT s x y P else dgetK s x y P
def aGet1 (tk : Bool) (to ti : ATE) : ATE := fun δ s Q => to δ s fun x s1 => isDS s1 x = true ∧ ti δ s1 fun y s2 => dgetA tk s2 x y fun o => Q (o.getD (.d .non)) s2
def aGet2 (tk : Bool) (to ti tz : ATE) : ATE := fun δ s Q => to δ s fun x s1 => isDS s1 x = true ∧ ti δ s1 fun y s2 => tz δ s2 fun z s3 => dgetA tk s3 x y fun o => Q (o.getD z) s3
section
variable {X : Cx} {M : MP} {o e f : Expr} {apos cpos : Pos} {vo ve vf : ATE}
end
/-! ### what is walked -/
/-- a dict that is locked: data, or the store's -/
def lkK (s : ST) : SV → Option (List (Key × T) × Option (Nat × LO))
  | .d (.dk ks ts) => some (ks.zip ts, none)
  | .l n => (match s[n]? with | some (.lK od vs kvs) => some (kvs, some (n, .lK od vs kvs)) | some (.pool (.lK od vs kvs) rs) => some (kvs, some (n, .pool (.lK od vs kvs) rs)) | _ => none)
  | _ => none
def lkT (s : ST) : SV → Option (List (List Key × T) × Option (Nat × LO))
  | .d (.dt ks ts) => some (ks.zip ts, none)
  | .l n => (match s[n]? with | some (.lT od vs kvs) => some (kvs, some (n, .lT od vs kvs)) | _ => none)
  | _ => none
def grL : Option (Nat × LO) → ST → Prop
  | none, _ => True
  | some (n, o), s => s[n]? = some o
section
variable {K : Fr} {M : MP} {H B : Hp} {φ : Lv.Fi} {s : ST}
end
/-- the keys -/
def aKeysD (t : ATE) : ATI := fun δ s Q => t δ s fun x s1 => (∃ kvs g, lkK s1 x = some (kvs, g) ∧ Q (kvs.map fun kv => kyT kv.1) (grL g) s1) ∨ ∃ kvs g, lkT s1 x = some (kvs, g) ∧ Q (kvs.map fun kv => T.tup (kv.1.map kyT)) (grL g) s1
/-- the pairs -/
def aItemsD (t : ATE) : ATI := fun δ s Q => t δ s fun x s1 => (∃ kvs g, lkK s1 x = some (kvs, g) ∧ Q (kvs.map fun kv => T.tup [kyT kv.1, kv.2]) (grL g) s1) ∨ ∃ kvs g, lkT s1 x = some (kvs, g) ∧ Q (kvs.map fun kv => T.tup [.tup (kv.1.map kyT), kv.2]) (grL g) s1
section
variable {X : Cx} {M : MP} {tg e : Expr} {cpos : Pos} {apos : Pos} {va : ATE} {elts : List Expr} {kk : Nat} {tpos : Pos}
end
end Lv

/-! Ld2: locks around expressions and statements; dicts of data written; instances put into a pool's dict. -/
namespace Lv
open PySem PySem.Spec PyProof.Rows L2 LvI
/-! ### locks -/
def lkd : LO → Obj → List V → Option LO
  | .mK kvs, od, vs => some (.fK od vs kvs)
  | .mT kvs, od, vs => some (.fT od vs kvs)
  | .dK kvs, od, vs => some (.lK od vs kvs)
  | .dT kvs, od, vs => some (.lT od vs kvs)
  | .pool (.dK kvs) rs, od, vs => some (.pool (.lK od vs kvs) rs)
  | _, _, _ => none
def lkb : LO → Bool
  | .mK _ => true
  | .mT _ => true
  | .dK _ => true
  | .dT _ => true
  | .pool (.dK _) _ => true
  | _ => false
section
variable {K : Fr} {M : MP} {H B : Hp} {φ : Lv.Fi} {s : ST}
/-- a pool's shell is changed -/
theorem Re.setSh (e : Re K M H B φ s) {n : Nat} {o o2 : LO} {rs : List (Addr × PRec)} {c : Ce} (u : HO) (hs : s[n]? = some (.pool o rs)) (hc : φ[n]? = some c) (w : o2.shl = true) (ho : Ro K B φ o2 (some u)) :
    Gr H B φ (upd H c.p u) B φ ∧ Re K M (upd H c.p u) B φ (s.set n (.pool o2 rs)) := by
  obtain ⟨c', hc', w1, w2, w3, w4, nd, hB⟩ := e.poolAt hs
  rw [hc] at hc'
  cases hc'
  have hBc : B c.p = none := hB c.p List.mem_cons_self
  have g : Gr H B φ (upd H c.p u) B φ := by
    refine ⟨Ex.refl B, ⟨[], by simp⟩, fun b w q hn => ?_, fun a q1 _ _ => .inl q1, fun a z => Or.inl z⟩
    have : b ≠ c.p := fun z => hn (by rw [z]; exact adr_p hc)
    rw [upd_ne this]; exact q
  refine ⟨g, ⟨fun b w q => by rw [upd_ne (ne_of_none q hBc)]; exact e.ex b w q, e.nd, by rw [List.length_set]; exact e.len, fun b z w => ?_, fun m c' w h1 h2 h3 b hb => ?_, fun m c' w' h1 h2 => ?_, fun H' B' φ' g' => e.pm _ _ _ (g.trans g')⟩⟩
  · by_cases hne : b = c.p
    · rw [hne, upd_same] at w; cases w
    · rw [upd_ne hne] at w; exact e.al b z w
  · by_cases hm : n = m
    · subst hm; rw [hc] at h1; cases h1
      exact .inl (hB b (by unfold Ce.al at hb; rw [w2] at hb; exact hb))
    · rw [List.getElem?_set_ne hm] at h2
      exact (e.fr m c' w h1 h2 h3 b hb).imp id fun z => kT_ne z fun y => hm (adr_nd e.nd hc h1 (a := c.p) c.mem (by rw [← y]; exact hb))
  · by_cases hm : n = m
    · subst hm
      rw [hc] at h1; cases h1
      have hl : n < s.length := by rw [← e.len]; exact (List.getElem?_eq_some_iff.mp hc).1
      rw [List.getElem?_set_self hl] at h2
      cases h2
      refine .pool w w2 (by rw [upd_same]; exact ho) fun q hq => (w4 q hq).mo (Ex.refl B) fun x hx => upd_ne fun z => ?_
      have hp := poolA_mem hq hx
      rw [z] at hp
      exact (List.nodup_cons.mp nd).1 hp
    · rw [List.getElem?_set_ne hm] at h2
      exact (e.ob m c' w' h1 h2).mo .refl fun b hb => upd_ne fun z => hm (adr_nd e.nd hc h1 (a := c.p) c.mem (by rw [← z]; exact hb))
end
/-- one place locked -/
def lk1 (n : Nat) (t : ATE) : ATE := fun δ s Q => match s[n]? with
  | some o => lkb o = true ∧ ∀ od vs, (match lkd o od vs with
    | some o1 => t δ (s.set n o1) fun x s1 => s1[n]? = some o1 ∧ Q x (s1.set n o)
    | none => True)
  | none => False
def lkN : List Nat → ATE → ATE
  | [], t => t
  | n :: r, t => lk1 n (lkN r t)
/-- shut to simp -/
def lksK (t : ATE) (Q : SV → ST → Prop) (_ : Lk (t, Q)) (δ : AS) (s : ST) : Prop := ∃ ns, lkN ns t δ s Q
def aLocks (t : ATE) : ATE := fun δ s Q => lksK t Q .mk δ s
/-! statements -/
def sk1 (n : Nat) (t : ATS) : ATS := fun A δ s => match s[n]? with
  | some o => lkb o = true ∧ ∀ od vs, (match lkd o od vs with
    | some o1 => t (lkE n o1 o A) δ (s.set n o1)
    | none => True)
  | none => False
def skN : List Nat → ATS → ATS
  | [], t => t
  | n :: r, t => sk1 n (skN r t)
def sksK (t : ATS) (A : AEnds) (_ : Lk (t, A)) (δ : AS) (s : ST) : Prop := ∃ ns, skN ns t A δ s
def pLocks (t : ATS) : ATS := fun A δ s => sksK t A .mk δ s
/-! ### dicts of data written -/
section
variable {κ : Type} [DecidableEq κ]
def valD (kvs : List (κ × T)) (k : κ) : Option T := (kvs.find? fun kv => decide (kv.1 = k)).map (·.2)
def putD (kvs : List (κ × T)) (k : κ) (x : T) : List (κ × T) :=
  if (kvs.any fun kv => decide (kv.1 = k)) = true then kvs.map (fun kv => if kv.1 = k then (kv.1, x) else kv) else kvs ++ [(k, x)]
theorem valS_dvs (kvs : List (κ × T)) (k : κ) : valS (dvs kvs) k = (valD kvs k).map SV.d := by
  unfold valS valD dvs
  rw [List.find?_map, Option.map_map, Option.map_map]; rfl
theorem zip_dvs (kvs : List (κ × T)) : (kvs.map (·.1)).zip ((kvs.map (·.2)).map SV.d) = dvs kvs := by
  rw [← dvs_1, ← dvs_2, zip_pairs]
theorem zip_dvs3 (kvs : List (κ × T)) : (kvs.map fun x => x.1).zip (kvs.map (SV.d ∘ fun x => x.2)) = dvs kvs := by
  rw [← List.map_map]; exact zip_dvs kvs
theorem zip_dvs2 {ks : List κ} {ts : List T} : ks.zip (ts.map SV.d) = dvs (ks.zip ts) := by
  unfold dvs
  rw [List.zip_map_right]
  rfl
end
def dputD1 (n : Nat) (u : T) (y : SV) (s : ST) (C : ST → Prop) : Prop := match y with
  | .d (.tup ts) => ∃ kvs k, s[n]? = some (.dT kvs) ∧ tksT ts = some k ∧ anyI k = true ∧ kvs.length < sizeLine ∧ C (s.set n (.dT (putD kvs k u)))
  | _ => False
def dputD0 (n : Nat) (u : T) (y : SV) (s : ST) (C : ST → Prop) : Prop := match y with
  | .d t => ∃ kvs k, s[n]? = some (.dK kvs) ∧ keyT t = some k ∧ kvs.length < sizeLine ∧ C (s.set n (.dK (putD kvs k u)))
  | _ => False
def dputD (tk : Bool) (x y z : SV) (s : ST) (C : ST → Prop) : Prop := match x, z with
  | .l n, .d u => if tk then dputD1 n u y s C else dputD0 n u y s C
  | _, _ => False
def pDPutD (tk : Bool) (to ti tv : ATE) : ATS := fun A δ s => tv δ s fun z s1 => to δ s1 fun x s2 => ti δ s2 fun y s3 => dputD tk x y z s3 fun s4 => A.nx δ s4
section
variable {X : Cx} {M : MP} {e o i k f value : Expr} {es : List Expr} {pos pos' apos tpos : Pos} {va vo vi vk tv : ATE}
/-- {}: of data by whole numbers and texts; by tuples; of things -/
def aDicD (o : LO) : ATE := fun _ s Q => Q (.l s.length) (s ++ [o])
end
end Lv

/-! Ld3: a dict of instances (a pool): begun, an instance put in. -/
namespace Lv
open PySem PySem.Spec PyProof.Rows L2 LvI
section
variable {K : Fr} {M : MP} {H B H0 B0 : Hp} {φ φ0 : Lv.Fi} {s s0 : ST}
/-- a place is a pool without things -/
theorem Re.toPool (e : Re K M H B φ s) {n : Nat} {o : LO} (hs : s[n]? = some o) (w : o.shl = true) : Gr H B φ H B φ ∧ Re K M H B φ (s.set n (.pool o [])) := by
  refine ⟨.refl, ⟨e.ex, e.nd, by rw [List.length_set]; exact e.len, e.al, fun m c o' h1 h2 h3 a ha => ?_, fun m c o' h1 h2 => ?_, e.pm⟩⟩
  · by_cases hm : n = m
    · subst hm
      exact e.fr n c o h1 hs (smp_is (shl_smp w)) a ha
    · rw [List.getElem?_set_ne hm] at h2
      exact e.fr m c o' h1 h2 h3 a ha
  · by_cases hm : n = m
    · subst hm
      have hl : n < s.length := (List.getElem?_eq_some_iff.mp hs).1
      rw [List.getElem?_set_self hl] at h2
      cases h2
      obtain ⟨h4, h5⟩ := (e.ob n c o h1 hs).simp_ (shl_smp w)
      exact .pool w (by rw [h4]; rfl) h5 fun r hr => (by cases hr)
    · rw [List.getElem?_set_ne hm] at h2
      exact e.ob m c o' h1 h2
/-- a record comes to a pool, its shell is changed -/
theorem Re.growP (re : Re K M H B φ s) (g : Gr H0 B0 φ0 H B φ) (e0 : Re K M H0 B0 φ0 s0) {n : Nat} {o o2 : LO} {rs : List (Addr × PRec)} {a : Addr} {rec : PRec} {c : Ce} {u : HO} (hs : s[n]? = some (.pool o rs)) (hc : φ[n]? = some c) (w : o2.shl = true) (ho : Ro K B φ o2 (some u))
    (hp : Po K B H a rec) (nd : (rec.al a).Nodup) (out : ∀ x ∈ rec.al a, x ∉ adr φ ∧ B x = none ∧ (x ∈ adr φ0 ∨ H0 x = none)) :
    ∃ φ2, Gr H0 B0 φ0 (upd H c.p u) B φ2 ∧ Re K M (upd H c.p u) B φ2 (s.set n (.pool o2 (rs ++ [(a, rec)]))) ∧ (∀ (m : Nat) q, φ.r m = some q → φ2.r m = some q) := by
  obtain ⟨c', hc', w1, w2, w3, w4, ndc, hB⟩ := re.poolAt hs
  rw [hc] at hc'
  cases hc'
  have hBc : B c.p = none := hB c.p List.mem_cons_self
  have hln : n < φ.length := (List.getElem?_eq_some_iff.mp hc).1
  have hsn : n < s.length := by rw [← re.len]; exact hln
  have app : poolA (rs ++ [(a, rec)]) = poolA rs ++ rec.al a := poolA_app rs (a, rec)
  have cal : c.al = c.p :: poolA rs := by unfold Ce.al; rw [w2]
  obtain ⟨c2, hc2⟩ : ∃ c2 : Ce, c2 = ⟨c.p, poolA (rs ++ [(a, rec)])⟩ := ⟨_, rfl⟩
  have c2p : c2.p = c.p := by rw [hc2]
  have c2al : c2.al = c.al ++ rec.al a := by rw [hc2, cal]; unfold Ce.al; rw [app]; rfl
  have at' : ∀ i e, (φ.set n c2)[i]? = some e → (i = n ∧ e = c2) ∨ (i ≠ n ∧ φ[i]? = some e) := fun i e he => by
    by_cases hin : n = i
    · subst hin
      rw [List.getElem?_set_self hln] at he
      cases he; exact .inl ⟨rfl, rfl⟩
    · rw [List.getElem?_set_ne hin] at he
      exact .inr ⟨fun z => hin z.symm, he⟩
  have was : ∀ i e x, (φ.set n c2)[i]? = some e → x ∈ e.al → (∃ d, φ[i]? = some d ∧ x ∈ d.al) ∨ (i = n ∧ x ∈ rec.al a) := fun i e x he hx => by
    rcases at' i e he with ⟨rfl, rfl⟩ | ⟨_, h⟩
    · rw [c2al] at hx
      rcases List.mem_append.mp hx with hx | hx
      · exact .inl ⟨c, hc, hx⟩
      · exact .inr ⟨rfl, hx⟩
    · exact .inl ⟨e, h, hx⟩
  have adrM : ∀ x ∈ adr (φ.set n c2), x ∈ adr φ ∨ x ∈ rec.al a := fun x hx => by
    obtain ⟨i, e, h1, h2⟩ := adr_of hx
    rcases was i e x h1 h2 with ⟨d, h3, h4⟩ | ⟨_, h3⟩
    · exact .inl (adr_mem h3 h4)
    · exact .inr h3
  have cpφ : c.p ∈ adr φ := adr_p hc
  have ne : ∀ x ∈ rec.al a, x ≠ c.p := fun x hx z => (out x hx).1 (by rw [z]; exact cpφ)
  have pmap : (φ.set n c2).map Ce.p = φ.map Ce.p := by
    refine List.ext_getElem? fun i => ?_
    rw [List.getElem?_map, List.getElem?_map]
    by_cases hin : n = i
    · subst hin
      rw [List.getElem?_set_self hln, hc]
      show some c2.p = some c.p
      rw [c2p]
    · rw [List.getElem?_set_ne hin]
  have rt : ∀ (m : Nat), Fi.r (φ.set n c2) m = φ.r m := fun m => by rw [r_map, r_map, pmap]
  have g2 : Gr H0 B0 φ0 (upd H c.p u) B (φ.set n c2) := by
    refine ⟨g.eb, ?_, fun x o' hx hn => ?_, g.nb, fun x hx => ?_⟩
    · obtain ⟨r, er⟩ := g.pf
      exact ⟨r, by rw [pmap]; exact er⟩
    · have : x ≠ c.p := fun z => by
        rcases g.nf c.p cpφ with h | h
        · exact hn (by rw [z]; exact h)
        · rw [z, h] at hx; cases hx
      rw [upd_ne this]; exact g.kp x o' hx hn
    · rcases adrM x hx with h | h
      · exact g.nf x h
      · exact (out x h).2.2
  have mo : Mo B φ B (φ.set n c2) := ⟨Ex.refl B, fun m q h => by rw [rt]; exact h⟩
  refine ⟨φ.set n c2, g2, ⟨fun b w q => by rw [upd_ne (ne_of_none q hBc)]; exact re.ex b w q, ?_, by rw [List.length_set, List.length_set]; exact re.len, fun x hx z => ?_, fun m c' o' h1 h2 h3 x hx => ?_, fun m c' o' h1 h2 => ?_, fun H' B' φ' g' => e0.pm _ _ _ (g2.trans g')⟩, fun m q h => by rw [rt]; exact h⟩
  · refine adr_nd_of (fun i e he => ?_) fun i j e f x he hf hx hy => ?_
    · rcases at' i e he with ⟨rfl, rfl⟩ | ⟨_, h⟩
      · rw [c2al]
        exact List.nodup_append.mpr ⟨ce_nd re.nd hc, nd, fun x hx y hy z => (out y hy).1 (by rw [← z]; exact adr_mem hc hx)⟩
      · exact ce_nd re.nd h
    · rcases was i e x he hx with ⟨d, h1, h2⟩ | ⟨h1, h2⟩ <;> rcases was j f x hf hy with ⟨d', h3, h4⟩ | ⟨h3, h4⟩
      · exact adr_nd re.nd h1 h3 h2 h4
      · exact absurd (adr_mem h1 h2) (out x h4).1
      · exact absurd (adr_mem h3 h4) (out x h2).1
      · omega
  · by_cases hq : x = c.p
    · subst hq; rw [upd_same] at z; cases z
    · rw [upd_ne hq] at z
      rcases adrM x hx with h | h
      · exact re.al x h z
      · exact hp.al_ne x h z
  · rcases was m c' x h1 hx with ⟨d, h5, h4⟩ | ⟨_, h4⟩
    · by_cases hm : n = m
      · subst hm
        rw [hc] at h5; cases h5
        exact .inl (hB x (by rw [← cal]; exact h4))
      · rw [List.getElem?_set_ne hm] at h2
        exact (re.fr m d o' h5 h2 h3 x h4).imp id fun z => kT_ne z fun y => hm (adr_nd re.nd hc h5 (a := c.p) c.mem (by rw [← y]; exact h4))
    · exact .inl (out x h4).2.1
  · by_cases hm : n = m
    · subst hm
      rw [List.getElem?_set_self hln] at h1
      rw [List.getElem?_set_self hsn] at h2
      cases h1; cases h2
      refine .pool w (by rw [hc2]) (by rw [c2p, upd_same]; exact ho.mo mo) fun r hr => ?_
      rcases List.mem_append.mp hr with hr | hr
      · refine (w4 r hr).mo (Ex.refl B) fun x hx => upd_ne fun z => ?_
        have hpm := poolA_mem hr hx
        rw [z] at hpm
        exact (List.nodup_cons.mp ndc).1 hpm
      · rw [List.mem_singleton.mp hr]
        exact hp.mo (Ex.refl B) fun x hx => upd_ne (ne x hx)
    · rw [List.getElem?_set_ne hm] at h1 h2
      exact (re.ob m c' o' h1 h2).mo mo fun b hb => upd_ne fun z => hm (adr_nd re.nd hc h1 (a := c.p) c.mem (by rw [← z]; exact hb))
end
/-- {}: of instances -/
def aDicP : ATE := fun _ s Q => Q (.l s.length) (s ++ [.pool (.dK []) []])
section
variable {X : Cx} {M : MP} {e o i k f value : Expr} {es : List Expr} {pos pos' apos tpos : Pos} {va vo vi vk tv : ATE}
/-- a fresh instance of data is put into a pool's dict under a new key -/
def dputP (k : Nat) (x y z : SV) (s : ST) (C : ST → Prop) : Prop := match x, y with
  | .l n, .d t => ∃ kvs rs key D fs, n < k ∧ s[n]? = some (.pool (.dK kvs) rs) ∧ keyT t = some key ∧ (kvs.any fun kv => decide (kv.1 = key)) = false ∧ kvs.length < sizeLine ∧ freshP k z s (.ins D fs) ∧
    ∀ a dx, C ((s.take k).set n (.pool (.dK (kvs ++ [(key, .ref a)])) (rs ++ [(a, .ins dx D fs)])))
  | _, _ => False
def pDPutP (to ti tv : ATE) : ATS := fun A δ s => tv δ s fun z s1 => to δ s1 fun x s2 => ti δ s2 fun y s3 => dputP s.length x y z s3 fun s4 => A.nx δ s4
end
end Lv

/-! Ld4: tests a < b < c < d. -/
namespace Lv
open PySem PySem.Spec PyProof.Rows L2 LvI
section
variable {X : Cx} {M : MP} {a b c d : Expr} {pos : Pos} {ta tb tc td : TE}
def blK (Q : Bool → ST → Prop) : SV → ST → Prop := fun z s => match z with
  | .d (.bl k) => Q k s
  | _ => False
def aChain3 (g g' g2 : AR2) (ta tb tc td : ATE) : ATT := fun δ s Q => ta δ s fun x s1 => tb δ s1 fun y s2 => g x y s2 (blK fun k s3 =>
  (k = true → tc δ s3 fun w s4 => g' y w s4 (blK fun k2 s5 => (k2 = true → td δ s5 fun u s6 => g2 w u s6 (blK Q)) ∧ (k2 = false → Q false s5))) ∧ (k = false → Q false s3))
end
end Lv

/-! Ld5: a call to which things that stand in the store, own lists among them, are handed as data; what comes back has no list of data within. -/
namespace Lv
open PySem PySem.Spec PyProof.Rows L2 LvI
def LO.pvl : LO → Bool
  | .lst _ => true
  | .pool o _ => o.shl
  | o => o.pv
theorem pvl_cases {o : LO} (h : o.pvl = true) : o.pv = true ∨ (∃ ts, o = .lst ts) ∨ ∃ o' rs, o = .pool o' rs ∧ o'.shl = true := by
  cases o with
  | lst ts => exact .inr (.inl ⟨ts, rfl⟩)
  | pool o' rs => exact .inr (.inr ⟨o', rs, rfl, h⟩)
  | _ => exact .inl h
end Lv

/-! Ld6: list(d) of a dict by ints and texts. -/
namespace Lv
open PySem PySem.Spec PyProof.Rows L2 LvI
def listKG : ARC := fun xs s Q => match xs with
  | [x] => ∃ kvs : List (Key × SV), dkS s x = some kvs ∧ Q (.l s.length) (s ++ [.lst (kvs.map fun kv => kyT kv.1)])
  | _ => False
section
variable {X : Cx} {M : MP} {e : Expr} {pos : Pos}
end
end Lv

/-! Ld7: xs[a::-1] of a list. -/
namespace Lv
open PySem PySem.Spec PyProof.Rows L2 LvI
/-- what xs[lo::-1] is -/
def pkR {α : Type} (xs : List α) (lo : Option Int) : List α := (sliceRange (sliceBounds lo none (some (-1)) xs.length).1 (sliceBounds lo none (some (-1)) xs.length).2.1 (sliceBounds lo none (some (-1)) xs.length).2.2).filterMap fun x => xs[x]?
section
variable {X : Cx} {M : MP} {e : Expr} {va : ATE} {lo : Option Expr} {tl : ATO}
def aSlR (t : ATE) (tl : ATO) : ATE := fun δ s Q => t δ s fun x s1 => tl δ s1 fun l s2 => ∃ ts, lsV s2 x = some ts ∧ (pkR ts l).length ≤ sizeLine ∧ Q (.l s2.length) (s2 ++ [.lst (pkR ts l)])
end
end Lv

/-! Ld8: d.pop(k), d.pop(k, x) of data dicts. -/
namespace Lv
open PySem PySem.Spec PyProof.Rows L2 LvI
theorem vals1 {x : V} {us : List Value} (h : Vals [x] us) : ∃ u, us = [u] ∧ L2.RelV x u := by
  cases h with
  | cons r h => cases h; exact ⟨_, rfl, r⟩
theorem KT.mo {H H' : Hp} {kvs : List (List L2.Key × V)} {xs : List (List L2.Key × Addr × Value)} (h : KT H kvs xs) (e : ∀ c l, H c = some (.tup l) → H' c = some (.tup l)) : KT H' kvs xs := by
  induction h with
  | nil => exact .nil
  | cons r _ ih => exact .cons ⟨r.1, e _ _ r.2.1, r.2.2⟩ ih
/-! ### readings -/
section
variable {κ : Type} [DecidableEq κ]
def delD (kvs : List (κ × T)) (k : κ) : List (κ × T) := kvs.filter fun kv => decide (kv.1 ≠ k)
end
/-- d.pop(k), k there -/
def dpop1T (x : SV) (xs : List SV) (s : ST) (Q : SV → ST → Prop) : Prop := match x, xs with
  | .l n, [.d (.tup ts)] => ∃ kvs k t, s[n]? = some (.dT kvs) ∧ tksT ts = some k ∧ anyI k = true ∧ valD kvs k = some t ∧ Q (.d t) (s.set n (.dT (delD kvs k)))
  | _, _ => False
/-- d.pop(k, x) -/
def dpop2T (x : SV) (xs : List SV) (s : ST) (Q : SV → ST → Prop) : Prop := match x, xs with
  | .l n, [.d (.tup ts), z] => ∃ kvs k, s[n]? = some (.dT kvs) ∧ tksT ts = some k ∧ anyI k = true ∧ (∀ t, valD kvs k = some t → Q (.d t) (s.set n (.dT (delD kvs k)))) ∧ (valD kvs k = none → Q z s)
  | _, _ => False
section
variable {X : Cx} {M : MP} {o e e2 : Expr} {apos pos cpos : Pos} {vo ve vf : ATE} {t : ATA}
/-- d.pop(k) by a whole number or a text, k there -/
def dpop1K (x y : SV) (s : ST) (Q : SV → ST → Prop) : Prop := match x, y with
  | .l n, .d t => ∃ kvs k u, s[n]? = some (.dK kvs) ∧ keyT t = some k ∧ valD kvs k = some u ∧ Q (.d u) (s.set n (.dK (delD kvs k)))
  | _, _ => False
def aDPop1 (vo ve : ATE) : ATE := fun δ s Q => vo δ s fun x s1 => isDS s1 x = true ∧ ve δ s1 fun y s2 => dpop1K x y s2 Q
end
end Lv

/-! Ld9: <, <=, >, >= of alike data; len(set(a list of ints)). -/
namespace Lv
open PySem PySem.Spec PyProof.Rows L2 LvI
/-- which of the four: swapped, turned about -/
def ltD (sw no : Bool) (a b : PyData) : Bool := no != (if sw then PySem.W.dataLt b a else PySem.W.dataLt a b)
def ltDG (sw no : Bool) : AR2 := fun x y s Q => ∃ a b, pyV s x = some a ∧ pyV s y = some b ∧ SeqAt.shaped a = true ∧ SeqAt.shaped b = true ∧ PySem.W.alike a b = true ∧ a ≠ .none ∧ Q (.d (.bl (ltD sw no a b))) s
/-! len(set(ints)) -/
section
variable {X : Cx} {M : MP} {a : Expr} {pos : Pos} {va : ATE}
def aLenSetI (t : ATE) : ATE := fun δ s Q => t δ s fun x s1 => ∃ ns : List Int, lsV s1 x = some (ns.map T.int) ∧ ns.length ≤ 2000 ∧ ∀ n : Nat, n ≤ ns.length → (n = ns.length ↔ ns.Nodup) → Q (.d (.int (n : Nat))) s1
end
end Lv

/-! Lda: sums and differences of ints and truths. -/
namespace Lv
open PySem PySem.Spec PyProof.Rows L2 LvI
def b2i (b : Bool) : Int := if b = true then 1 else 0
def addBG : AR2 := fun x y s Q => match x, y with
  | .d (.int i), .d (.int j) => Q (.d (.int (i + j))) s
  | .d (.bl b), .d (.int j) => Q (.d (.int (b2i b + j))) s
  | _, _ => False
def subBG : AR2 := fun x y s Q => match x, y with
  | .d (.int i), .d (.int j) => Q (.d (.int (i - j))) s
  | .d (.bl b), .d (.int j) => Q (.d (.int (b2i b - j))) s
  | .d (.int i), .d (.bl b) => Q (.d (.int (i - b2i b))) s
  | _, _ => False
section
variable {K : Fr} {M : MP}
end
section
variable {X : Cx} {M : MP} {e a b : Expr} {pos : Pos} {va vb : ATE}
end
end Lv

/-! Ldb: t[::-1] of a tuple. -/
namespace Lv
open PySem PySem.Spec PyProof.Rows L2 LvI HT
section
variable {prog : Program} {w : World} {A : Around} {E : Value → Shared → Prop} {s : Shared}
end
section
variable {X : Cx} {M : MP} {e : Expr} {va : ATE}
def aRevT (t : ATE) : ATE := fun δ s Q => t δ s fun x s1 => match x with
  | .d (.tup ts) => Q (.d (.tup ts.reverse)) s1
  | _ => False
end
end Lv

/-! Ldc: zip of two lists under one name: the tuple that was given out last may be there still, or gone. -/
namespace Lv
open PySem PySem.Spec PyProof.Rows L2 LvI HT
section
variable {prog : Program} {w : World} {A : Around} {E : Value → Shared → Prop} {s : Shared}
end
variable {K : Fr} {M : MP} {X : Cx} {H B : Hp} {φ : Fi} {s : ST}
def lsZ (s : ST) : SV → Option (List T × Option Nat)
  | .l n => match s[n]? with | some (.lst ts) => some (ts, some n) | _ => none
  | .d (.lst ts) => some (ts, none)
  | _ => none
def aZipN (t u : ATE) : ATI := fun δ s Q => t δ s fun x s1 => u δ s1 fun y s2 => ∃ ts g us g', lsZ s2 x = some (ts, g) ∧ lsZ s2 y = some (us, g') ∧ Q (zpT ts us) (fun s => grd ts g s ∧ grd us g' s) s2
end Lv

/-! Lde: boxes: what stands within one place is opened for an expression and shut behind it; what an expression makes becomes a box. -/
namespace Lv
open PySem L2 PySem.Spec PyProof.Rows LvI
/-- the things within a box, put into the store -/
def opnS (s : ST) (n : Nat) (st : List LO) : ST := putAll s [n] (st.map (renO [n] s.length)) ++ (st.drop 1).map (renO [n] s.length)
def grpOk (n : Nat) (ns : List Nat) (s : ST) : Bool := (n :: ns).all fun m => decide (m < s.length) && ((kpO s m).is && inO 0 (n :: ns) (kpO s m))
def grpO (n : Nat) (ns : List Nat) (s : ST) : LO := .box ((n :: ns).map fun m => mvO 0 (n :: ns) (kpO s m))
def shOk (L n : Nat) (ns : List Nat) (s : ST) : Bool := ((decide (n < L) && ns.all fun m => decide (L ≤ m)) && decide (n :: ns).Nodup) && (grpOk n ns s && (List.range L).all fun i => decide (i = n) || clO L (kpO s i))
def bxOk (L n : Nat) (ns : List Nat) (s : ST) : Bool := ((n :: ns).all (fun m => decide (L ≤ m)) && decide (n :: ns).Nodup) && (grpOk n ns s && (s.take L).all (clO L))
section
variable {K : Fr} {M : MP} {H B H0 B0 : Hp} {φ φ0 : Fi} {s s0 : ST}
/-- some places as one -/
theorem grp_ce (re : Re K M H B φ s) {n : Nat} {ns : List Nat} (nd : (n :: ns).Nodup) (h : grpOk n ns s = true) : ∃ c c' : Ce, φ[n]? = some c ∧ c'.p = c.p ∧ c'.al.Nodup ∧ (∀ a ∈ c'.al, ∃ m d, m ∈ n :: ns ∧ φ[m]? = some d ∧ a ∈ d.al) ∧ (∀ a ∈ c'.al, B a = none ∨ kT H a) ∧ ∀ φ2 : Fi, Rc K B H φ2 c' (grpO n ns s) := by
  have hL : φ.length = s.length := re.len
  have hh : ∀ m ∈ n :: ns, m < s.length ∧ (kpO s m).is = true ∧ inO 0 (n :: ns) (kpO s m) = true := fun m hm => by
    have := List.all_eq_true.mp h m hm
    simp only [Bool.and_eq_true, decide_eq_true_eq] at this
    exact this
  have hlt : ∀ m ∈ n :: ns, m < φ.length := fun m hm => by rw [hL]; exact (hh m hm).1
  obtain ⟨c, hc⟩ : ∃ c, φ[n]? = some c := ⟨_, List.getElem?_eq_getElem (hlt n List.mem_cons_self)⟩
  have es : selF φ (n :: ns) = c :: selF φ ns := by show (φ[n]?).getD (one 0) :: selF φ ns = _; rw [hc]; rfl
  have ea : (⟨c.p, c.io ++ adr (selF φ ns)⟩ : Ce).al = adr (selF φ (n :: ns)) := by rw [es, adr_cons]; rfl
  have src : ∀ a ∈ adr (selF φ (n :: ns)), ∃ m d, m ∈ n :: ns ∧ φ[m]? = some d ∧ a ∈ d.al := fun a ha => by
    obtain ⟨i, d, hi, hd⟩ := adr_of ha
    obtain ⟨m, h1, h2⟩ := selF_inv hlt hi
    exact ⟨m, d, List.mem_of_getElem? h1, h2, hd⟩
  have kp : ∀ m, m < s.length → s[m]? = some (kpO s m) := fun m hm => by unfold kpO; rw [List.getElem?_eq_getElem hm]; rfl
  refine ⟨c, ⟨c.p, c.io ++ adr (selF φ ns)⟩, hc, rfl, by rw [ea]; exact selF_nd hlt nd re.nd, fun a ha => src a (by rw [← ea]; exact ha), fun a ha => ?_, fun φ2 => ?_⟩
  · obtain ⟨m, d, hm, hd, had⟩ := src a (by rw [← ea]; exact ha)
    exact re.fr m d _ hd (kp m (hh m hm).1) (hh m hm).2.1 a had
  · have at_ : ∀ (k : Nat) d o, (selF φ (n :: ns))[k]? = some d → ((n :: ns).map fun m => mvO 0 (n :: ns) (kpO s m))[k]? = some o → ∃ m, m ∈ n :: ns ∧ φ[m]? = some d ∧ o = mvO 0 (n :: ns) (kpO s m) := fun k d o q1 q2 => by
      obtain ⟨m, h1, h2⟩ := selF_inv hlt q1
      rw [List.getElem?_map, h1] at q2
      exact ⟨m, List.mem_of_getElem? h1, h2, (Option.some.inj q2).symm⟩
    refine .box (selF φ (n :: ns)) ea (by rw [selF_len, List.length_map]) (fun k d o q1 q2 => ?_) fun k d o q1 q2 => ?_
    · obtain ⟨m, hm, _, rfl⟩ := at_ k d o q1 q2
      rw [mvO_is]; exact (hh m hm).2.1
    · obtain ⟨m, hm, hd, rfl⟩ := at_ k d o q1 q2
      exact (re.ob m d _ hd (kp m (hh m hm).1)).sub hlt (hh m hm).2.2
def shS (L n : Nat) (ns : List Nat) (s : ST) : ST := (s.take L).set n (grpO n ns s)
theorem Re.shut (re : Re K M H B φ s) (g : Gr H0 B0 φ0 H B φ) (e0 : Re K M H0 B0 φ0 s0) {L n : Nat} {ns : List Nat} (hk : φ0.length ≤ L) (hl : L ≤ s.length) (h : shOk L n ns s = true) :
    ∃ φ', Gr H0 B0 φ0 H B φ' ∧ Re K M H B φ' (shS L n ns s) ∧ ∀ v x, Rs K B φ v x → loV L x = true → Rs K B φ' v x := by
  unfold shOk at h
  simp only [Bool.and_eq_true, decide_eq_true_eq] at h
  obtain ⟨⟨⟨h1, h2⟩, nd⟩, hg, h4⟩ := h
  have h2 : ∀ m ∈ ns, L ≤ m := fun m hm => of_decide_eq_true (List.all_eq_true.mp h2 m hm)
  have h4 : ∀ i, i < L → i ≠ n → clO L (kpO s i) = true := fun i hi hn => by
    have := List.all_eq_true.mp h4 i (List.mem_range.mpr hi)
    rw [decide_eq_false hn, Bool.false_or] at this
    exact this
  have hL : φ.length = s.length := re.len
  obtain ⟨c, c', hc, hp, n1, n2, n3, n4⟩ := grp_ce re nd hg
  have kp : ∀ m, m < s.length → s[m]? = some (kpO s m) := fun m hm => by unfold kpO; rw [List.getElem?_eq_getElem hm]; rfl
  have ltk : (φ.take L).length = L := by rw [List.length_take]; omega
  have sltk : (s.take L).length = L := by rw [List.length_take]; omega
  have at1 : ∀ i d, ((φ.take L).set n c')[i]? = some d → (i = n ∧ d = c') ∨ (i ≠ n ∧ i < L ∧ φ[i]? = some d) := fun i d hi => by
    by_cases e : n = i
    · subst e
      rw [List.getElem?_set_self (by omega)] at hi
      exact .inl ⟨rfl, (Option.some.inj hi).symm⟩
    · rw [List.getElem?_set_ne e] at hi
      have hil := (List.getElem?_eq_some_iff.mp hi).1
      rw [List.getElem?_take_of_lt (by omega)] at hi
      exact .inr ⟨fun z => e z.symm, by omega, hi⟩
  have at2 : ∀ i p, i < L → φ.r i = some p → Fi.r ((φ.take L).set n c') i = some p := fun i p hi hr => by
    obtain ⟨d, h5, rfl⟩ := Fi.r_inv hr
    by_cases e : n = i
    · subst e
      rw [hc] at h5
      cases h5
      rw [← hp]
      exact Fi.r_of (List.getElem?_set_self (by omega))
    · exact Fi.r_of (by rw [List.getElem?_set_ne e, List.getElem?_take_of_lt hi]; exact h5)
  have mem : ∀ a ∈ adr ((φ.take L).set n c'), ∃ (m : Nat) (d : Ce), φ[m]? = some d ∧ a ∈ d.al := fun a ha => by
    obtain ⟨i, d, hi, hd⟩ := adr_of ha
    rcases at1 i d hi with ⟨_, rfl⟩ | ⟨_, _, h5⟩
    · obtain ⟨m, d2, _, h6, h7⟩ := n2 a hd
      exact ⟨m, d2, h6, h7⟩
    · exact ⟨i, d, h5, hd⟩
  have g2 : Gr H0 B0 φ0 H B ((φ.take L).set n c') := by
    refine ⟨g.eb, ?_, g.kp, g.nb, fun a ha => ?_⟩
    · obtain ⟨r, er⟩ := g.pf
      refine ⟨r.take (L - φ0.length), ?_⟩
      have e1 : ((φ.take L).set n c').map Ce.p = (φ.take L).map Ce.p := by
        refine List.ext_getElem? fun i => ?_
        rw [List.getElem?_map, List.getElem?_map]
        by_cases e : n = i
        · subst e
          rw [List.getElem?_set_self (by omega), List.getElem?_take_of_lt h1, hc]
          exact congrArg some hp
        · rw [List.getElem?_set_ne e]
      rw [e1, List.map_take, er, List.take_append, List.length_map]
      rw [List.take_of_length_le (by rw [List.length_map]; exact hk)]
    · obtain ⟨m, d, h5, h6⟩ := mem a ha
      exact g.nf a (adr_mem h5 h6)
  have low : ∀ o u, clO L o = true → Ro K B φ o u → Ro K B ((φ.take L).set n c') o u := fun o u ho hr => (hr.low ho).mo ⟨Ex.refl B, fun m p hm => by
    obtain ⟨d, h5, rfl⟩ := Fi.r_inv hm
    have hil := (List.getElem?_eq_some_iff.mp h5).1
    rw [List.getElem?_take_of_lt (by omega)] at h5
    exact at2 m d.p (by omega) (Fi.r_of h5)⟩
  have sat : ∀ i o, (shS L n ns s)[i]? = some o → (i = n ∧ o = grpO n ns s) ∨ (i ≠ n ∧ i < L ∧ s[i]? = some o) := fun i o hi => by
    unfold shS at hi
    by_cases e : n = i
    · subst e
      rw [List.getElem?_set_self (by omega)] at hi
      exact .inl ⟨rfl, (Option.some.inj hi).symm⟩
    · rw [List.getElem?_set_ne e] at hi
      have hil := (List.getElem?_eq_some_iff.mp hi).1
      rw [List.getElem?_take_of_lt (by omega)] at hi
      exact .inr ⟨fun z => e z.symm, by omega, hi⟩
  refine ⟨_, g2, ⟨re.ex, ?_, ?_, fun a ha => ?_, fun i d o e1 e2 e3 a ha => ?_, fun i d o e1 e2 => ?_, fun H3 B3 φ3 g3 => e0.pm _ _ _ (g2.trans g3)⟩, fun v x hx hl2 => ?_⟩
  · refine adr_nd_of (fun i d hd => ?_) fun i j d e a q1 q2 q3 q4 => ?_
    · rcases at1 i d hd with ⟨_, rfl⟩ | ⟨_, _, h5⟩
      · exact n1
      · exact ce_nd re.nd h5
    · rcases at1 i d q1 with ⟨rfl, rfl⟩ | ⟨i1, i2, i3⟩ <;> rcases at1 j e q2 with ⟨rfl, rfl⟩ | ⟨j1, j2, j3⟩
      · rfl
      · obtain ⟨m, d2, hm, h6, h7⟩ := n2 a q3
        have := adr_nd re.nd h6 j3 h7 q4
        subst this
        rcases List.mem_cons.mp hm with rfl | hm
        · exact absurd rfl j1
        · have := h2 _ hm; omega
      · obtain ⟨m, d2, hm, h6, h7⟩ := n2 a q4
        have := adr_nd re.nd h6 i3 h7 q3
        subst this
        rcases List.mem_cons.mp hm with rfl | hm
        · exact absurd rfl i1
        · have := h2 _ hm; omega
      · exact adr_nd re.nd i3 j3 q3 q4
  · unfold shS
    rw [List.length_set, List.length_set, ltk, sltk]
  · obtain ⟨m, d, h5, h6⟩ := mem a ha
    exact re.al a (adr_mem h5 h6)
  · rcases at1 i d e1 with ⟨rfl, rfl⟩ | ⟨i1, i2, i3⟩
    · exact n3 a ha
    · rcases sat i o e2 with ⟨j1, _⟩ | ⟨_, _, j3⟩
      · exact absurd j1 i1
      · exact re.fr i d o i3 j3 e3 a ha
  · rcases at1 i d e1 with ⟨rfl, rfl⟩ | ⟨i1, i2, i3⟩
    · rcases sat i o e2 with ⟨_, rfl⟩ | ⟨j1, _, _⟩
      · exact n4 _
      · exact absurd rfl j1
    · rcases sat i o e2 with ⟨j1, _⟩ | ⟨_, _, j3⟩
      · exact absurd j1 i1
      · have ho : o = kpO s i := by have := kp i (by omega); rw [j3] at this; exact Option.some.inj this
        exact (re.ob i d o i3 j3).re fun u hr => low o u (by rw [ho]; exact h4 i i2 i1) hr
  · cases x with
    | d t => exact hx
    | l m =>
      obtain ⟨p, h5, h6⟩ := hx
      exact ⟨p, at2 m p (of_decide_eq_true hl2) h5, h6⟩
def bxS (L n : Nat) (ns : List Nat) (s : ST) : ST := s.take L ++ [grpO n ns s]
theorem Re.bx (re : Re K M H B φ s) (g : Gr H0 B0 φ0 H B φ) (e0 : Re K M H0 B0 φ0 s0) {L n : Nat} {ns : List Nat} (hk : φ0.length ≤ L) (hl : L ≤ s.length) (h : bxOk L n ns s = true) :
    ∃ φ', Gr H0 B0 φ0 H B φ' ∧ Re K M H B φ' (bxS L n ns s) ∧ ∀ v, Rs K B φ v (.l n) → Rs K B φ' v (.l L) := by
  unfold bxOk at h
  simp only [Bool.and_eq_true, decide_eq_true_eq] at h
  obtain ⟨⟨h2, nd⟩, hg, h4⟩ := h
  have h2 : ∀ m ∈ n :: ns, L ≤ m := fun m hm => of_decide_eq_true (List.all_eq_true.mp h2 m hm)
  have hL : φ.length = s.length := re.len
  obtain ⟨c, c', hc, hp, n1, n2, n3, n4⟩ := grp_ce re nd hg
  obtain ⟨g1, re1⟩ := re.take g e0 hk (by omega) h4
  have ltk : (φ.take L).length = L := by rw [List.length_take]; omega
  have sltk : (s.take L).length = L := by rw [List.length_take]; omega
  have out : ∀ a ∈ c'.al, a ∉ adr (φ.take L) := fun a ha z => by
    obtain ⟨m, d, hm, h6, h7⟩ := n2 a ha
    exact adr_take_out re.nd h6 h7 (h2 m hm) z
  have nf : ∀ a ∈ c'.al, a ∈ adr φ0 ∨ H0 a = none := fun a ha => by
    obtain ⟨m, d, hm, h6, h7⟩ := n2 a ha
    exact g.nf a (adr_mem h6 h7)
  have al : ∀ a ∈ c'.al, H a ≠ none := fun a ha => by
    obtain ⟨m, d, hm, h6, h7⟩ := n2 a ha
    exact re.al a (adr_mem h6 h7)
  have g2 : Gr H0 B0 φ0 H B (φ.take L ++ [c']) := by
    refine ⟨g1.eb, ?_, g1.kp, g1.nb, fun a ha => ?_⟩
    · obtain ⟨r, er⟩ := g1.pf
      exact ⟨r ++ [c'.p], by rw [List.map_append, er, List.append_assoc]; rfl⟩
    · rw [adr_app] at ha
      rcases List.mem_append.mp ha with ha | ha
      · exact g1.nf a ha
      · exact nf a (by rw [adr_cons] at ha; have : a ∈ c'.al ++ [] := ha; rwa [List.append_nil] at this)
  have ec : adr [c'] = c'.al := by rw [adr_cons]; show c'.al ++ [] = _; rw [List.append_nil]
  have mo : Mo B (φ.take L) B (φ.take L ++ [c']) := ⟨Ex.refl B, fun m p hm => r_app [c'] hm⟩
  refine ⟨_, g2, ⟨re.ex, ?_, ?_, fun a ha => ?_, fun i d o e1 e2 e3 a ha => ?_, fun i d o e1 e2 => ?_, fun H3 B3 φ3 g3 => e0.pm _ _ _ (g2.trans g3)⟩, fun v hv => ?_⟩
  · rw [adr_app, ec]
    exact List.nodup_append.mpr ⟨re1.nd, n1, fun a ha b hb e => out b hb (by rw [← e]; exact ha)⟩
  · unfold bxS
    rw [List.length_append, List.length_append, ltk, sltk]; rfl
  · rw [adr_app, ec] at ha
    rcases List.mem_append.mp ha with ha | ha
    · exact re1.al a ha
    · exact al a ha
  · by_cases hi : i < L
    · unfold bxS at e2
      rw [List.getElem?_append_left (by omega)] at e1 e2
      exact re1.fr i d o e1 e2 e3 a ha
    · have hil := (List.getElem?_eq_some_iff.mp e1).1
      rw [List.length_append, ltk, List.length_singleton] at hil
      have hiL : i = L := by omega
      subst hiL
      rw [List.getElem?_append_right (by omega), ltk, Nat.sub_self] at e1
      have e1 : some c' = some d := e1
      cases e1
      exact n3 a ha
  · by_cases hi : i < L
    · unfold bxS at e2
      rw [List.getElem?_append_left (by omega)] at e1 e2
      exact (re1.ob i d o e1 e2).re fun u hr => hr.mo mo
    · have hil := (List.getElem?_eq_some_iff.mp e1).1
      rw [List.length_append, ltk, List.length_singleton] at hil
      have hiL : i = L := by omega
      subst hiL
      unfold bxS at e2
      rw [List.getElem?_append_right (by omega), ltk, Nat.sub_self] at e1
      rw [List.getElem?_append_right (by omega), sltk, Nat.sub_self] at e2
      have e1 : some c' = some d := e1
      have e2 : some (grpO n ns s) = some o := e2
      cases e1
      cases e2
      exact n4 _
  · obtain ⟨p, h5, h6⟩ := hv
    obtain ⟨d, h7, rfl⟩ := Fi.r_inv h5
    rw [hc] at h7
    cases h7
    refine ⟨c.p, ?_, h6⟩
    rw [← hp]
    exact Fi.r_of (by rw [List.getElem?_append_right (by omega), ltk, Nat.sub_self]; rfl)
end
/-- behind an expression: the box is shut again; what else was made is forgotten -/
def shutC (L n : Nat) (Q : SV → ST → Prop) : SV → ST → Prop := fun x s2 => ∃ ns : List Nat, L ≤ s2.length ∧ shOk L n ns s2 = true ∧ loV L x = true ∧ Q x (shS L n ns s2)
def aOpn (va : ATE) : ATE := fun δ s Q => ∃ n o0 r, s[n]? = some (.box (o0 :: r)) ∧ va δ (opnS s n (o0 :: r)) (shutC s.length n Q)
/-- what an expression makes becomes a box -/
def boxC (L : Nat) (Q : SV → ST → Prop) : SV → ST → Prop := fun x s2 => ∃ (n : Nat) (ns : List Nat), x = .l n ∧ L ≤ s2.length ∧ bxOk L n ns s2 = true ∧ Q (.l L) (bxS L n ns s2)
def aBx (va : ATE) : ATE := fun δ s Q => va δ s (boxC s.length Q)
section
variable {X : Cx} {M : MP} {e : Expr} {va : ATE}
end
end Lv

/-! Ldf: dicts by tuples from pairs: d.update(pairs), dict(pairs); dict(pairs) by texts. -/
namespace Lv
open PySem PySem.Spec PyProof.Rows L2 LvI
section
variable {X : Cx} {pins : List (Addr × Obj)} {σ : L2.St} {H : Hp} {s : Shared}
theorem KT.len {H : Hp} {kvs : List (List Key × V)} {xs : List (List Key × Addr × Value)} (r : KT H kvs xs) : kvs.length = xs.length := Paired.length r
theorem KT.keys {P : Program} {w : World} {H : Hp} {h : Heap} (ok : HOk P w H h) : ∀ {kvs : List (List Key × V)} {xs : List (List Key × Addr × Value)}, KT H kvs xs → ∀ x ∈ xs, H x.2.1 = some (.tup (x.1.map kV))
  | _, _, .nil, x, hx => by cases hx
  | _, _, .cons hp r, x, hx => by
    rcases List.mem_cons.mp hx with rfl | hx
    · rw [← hp.1]; exact hp.2.1
    · exact KT.keys ok r x hx
end
/-! ### over data -/
def putsD {κ : Type} [DecidableEq κ] (kvs ps : List (κ × T)) : List (κ × T) := ps.foldl (fun acc kv => putD acc kv.1 kv.2) kvs
/-- pairs as data: keys that are tuples -/
def prT : List T → Option (List (List Key × T))
  | [] => some []
  | .tup [.tup us, t] :: r => (tksT us).bind fun k => if anyI k = true then (prT r).map ((k, t) :: ·) else none
  | _ => none
/-- keys that are numbers or texts -/
def prK : List T → Option (List (Key × T))
  | [] => some []
  | .tup [u, t] :: r => (keyT u).bind fun k => (prK r).map ((k, t) :: ·)
  | _ => none
section
variable {K : Fr} {M : MP} {H B : Hp} {φ : Fi} {s : ST}
end
/-- d.update(pairs) -/
def updTG (x : SV) (xs : List SV) (s : ST) (Q : SV → ST → Prop) : Prop := match x, xs with
  | .l n, [y] => ∃ kvs ts ps, s[n]? = some (.dT kvs) ∧ lsV s y = some ts ∧ prT ts = some ps ∧ kvs.length + ps.length ≤ sizeLine ∧ Q (.d .non) (s.set n (.dT (putsD kvs ps)))
  | _, _ => False
/-- dict(pairs) -/
def dctTG : ARC := fun xs s Q => match xs with
  | [x] => ∃ ts ps, lsV s x = some ts ∧ prT ts = some ps ∧ Q (.l s.length) (s ++ [.dT (putsD [] ps)])
  | _ => False
def dctKG : ARC := fun xs s Q => match xs with
  | [x] => ∃ ts ps, lsV s x = some ts ∧ prK ts = some ps ∧ Q (.l s.length) (s ++ [.dK (putsD [] ps)])
  | _ => False
section
variable {X : Cx} {M : MP} {e o : Expr} {p apos pos : Pos} {t : ATA} {vo : ATE}
end
end Lv

/-! Ldg: d.update(d2) of dicts with places; text.index(text). -/
namespace Lv
open PySem PySem.Spec PyProof.Rows L2 LvI
def putsS {κ : Type} [DecidableEq κ] (kvs ps : List (κ × SV)) : List (κ × SV) := ps.foldl (fun acc kv => putS acc kv.1 kv.2) kvs
theorem putsS_nil {κ : Type} [DecidableEq κ] (kvs : List (κ × SV)) : putsS kvs [] = kvs := rfl
theorem putsS_cons {κ : Type} [DecidableEq κ] (kvs : List (κ × SV)) (p : κ × SV) (r : List (κ × SV)) : putsS kvs (p :: r) = putsS (putS kvs p.1 p.2) r := rfl
def updKG (x : SV) (xs : List SV) (s : ST) (Q : SV → ST → Prop) : Prop := match x, xs with
  | .l n, [.l m] => ∃ kvs more, n ≠ m ∧ s[n]? = some (.mK kvs) ∧ s[m]? = some (.mK more) ∧ kvs.length + more.length ≤ sizeLine ∧ Q (.d .non) (s.set n (.mK (putsS kvs more)))
  | _, _ => False
/-- a text's first place in a text -/
def sidxG : ARM := fun x xs s Q => match x, xs with
  | .d (.str a), [.d (.str b)] => ∃ i rest, Builtin.Str.occurrences a b 0 a.length 1 = i :: rest ∧ Q (.d (.int (i : Nat))) s
  | _, _ => False
section
variable {X : Cx} {M : MP} {e o : Expr} {p apos pos : Pos} {t : ATA} {vo : ATE}
end
end Lv

/-! Ldh: an expression as a statement, what was made on the way stays. -/
namespace Lv
open PySem PySem.Spec PyProof.Rows L2 LvI
section
variable {X : Cx} {M : MP} {e : Expr} {pos : Pos} {va : ATE}
def pDropA (t : ATE) : ATS := fun A δ s => t δ s fun _ s1 => A.nx δ s1
theorem ap_exprA (h : AE X M e va) (hs : swapsWith e none pos.line X.env = pure false := by rfl) : AP X M (.Expr e pos) (pDropA va) :=
  ⟨_, ps_expr h.pe hs, fun H B φ σ δ s A re sl q D f => uE_lift (t := va) H B φ σ δ s _ re sl q _ fun H1 B1 φ1 s1 v x g1 re1 r1 q1 => f.nx _ _ _ _ _ _ g1 re1 (sl.mono g1) q1⟩
end
end Lv

/-! Ldi: sorted(a dict by texts). -/
namespace Lv
open PySem L2 PySem.Spec PyProof.Rows LvI
section
variable {K : Fr} {M : MP} {X : Cx} {e : Expr} {pos : Pos}
def sortSG : ARC := fun xs s Q => match xs with
  | [x] => ∃ (kvs : List (Key × SV)) (ks : List Str), dkS s x = some kvs ∧ kvs.map (·.1) = ks.map Sum.inr ∧ ks.length < 64 ∧ ∀ ys : List Str, ys.Perm ks → sortedS ys = true → Q (.l s.length) (s ++ [.lst (ys.map T.str)])
  | _ => False
end
end Lv

/-! Ldj: a dict of lists (a pool): a list put in, a list of it read, an item of it written. -/
namespace Lv
open PySem PySem.Spec PyProof.Rows L2 LvI
section
variable {X : Cx} {M : MP} {e o i k f value a b : Expr} {es : List Expr} {pos pos' apos tpos : Pos} {va vb vo vi vk tv : ATE}
/-- a fresh list of data is put into a pool's dict under a new key -/
def dputL (k : Nat) (x y z : SV) (s : ST) (C : ST → Prop) : Prop := match x, y with
  | .l n, .d t => ∃ kvs rs key us, n < k ∧ s[n]? = some (.pool (.dK kvs) rs) ∧ keyT t = some key ∧ (kvs.any fun kv => decide (kv.1 = key)) = false ∧ kvs.length < sizeLine ∧ freshP k z s (.lst us) ∧
    ∀ a, C ((s.take k).set n (.pool (.dK (kvs ++ [(key, .ref a)])) (rs ++ [(a, .lst us)])))
  | _, _ => False
def pDPutL (to ti tv : ATE) : ATS := fun A δ s => tv δ s fun z s1 => to δ s1 fun x s2 => ti δ s2 fun y s3 => dputL s.length x y z s3 fun s4 => A.nx δ s4
/-- x[i] = data, x a list of a pool -/
def setRG (o i x : SV) (s : ST) (Q : ST → Prop) : Prop := match o, i, x with
  | .d (.ref a), .d (.int k), .d t => ∃ (n j : Nat), (match s[n]? with
    | some (.pool o rs) => (match rs[j]? with
      | some (b, .lst us) => b = a ∧ ∃ m, ixN us.length k = some m ∧ Q (s.set n (.pool o (rs.set j (b, .lst (us.set m t)))))
      | _ => False)
    | _ => False)
  | _, _, _ => False
def aSetR (vo vi : ATE) : ATG := fun x δ s Q => vo δ s fun o s1 => vi δ s1 fun i s2 => setRG o i x s2 fun s3 => Q δ s3
end
end Lv

/-! Ldk: sorted(a dict by tuples). -/
namespace Lv
open PySem L2 PySem.Spec PyProof.Rows LvI
def kD (k : List Key) : PyData := .tuple (k.map fun x => match x with | .inl i => .int i | .inr z => .str z)
section
variable {K : Fr} {M : MP} {H B : Hp} {φ : Fi} {s : ST}
/-- sorted(d), d by tuples -/
def sortTG : ARC := fun xs s Q => match xs with
  | [x] => ∃ kvs : List (List Key × SV), dtS s x = some kvs ∧ PySem.W.AllAlike (kvs.map fun kv => kD kv.1) ∧ PySem.W.Sortable (kvs.map fun kv => kD kv.1) ∧ (∀ kv ∈ kvs, (kD kv.1).depth ≤ 60) ∧
    ∀ ks : List (List Key), ks.Perm (kvs.map (·.1)) → Q (.l s.length) (s ++ [.lst (ks.map fun k => T.tup (k.map kyT))])
  | _ => False
end
section
variable {X : Cx} {M : MP} {e : Expr} {pos : Pos}
end
end Lv

/-! Ldl: a slice of a tuple of one's own; a box opened, what is made kept. -/
namespace Lv
open PySem L2 PySem.Spec PyProof.Rows LvI
/-- a slice, not the whole, of a tuple of one's own, of data -/
def slTG : SV → Option Int → Option Int → ST → (SV → ST → Prop) → Prop := fun x lo hi s Q => match x with
  | .d (.tup ts) => Q (.d (.tup (cut ts lo hi))) s
  | .l n => ∃ (xs : List SV) (ts : List T), s[n]? = some (.tp xs) ∧ cut xs lo hi = ts.map SV.d ∧ HT.sIx xs.length xs.length hi < xs.length ∧ Q (.d (.tup ts)) s
  | _ => False
section
variable {X : Cx} {M : MP} {e : Expr} {pos : Pos} {va : ATE} {lo hi : Option Expr} {p2 : Pos} {tl th : ATO}
def aSlT (t : ATE) (tl th : ATO) : ATE := fun δ s Q => t δ s fun x s1 => tl δ s1 fun l s2 => th δ s2 fun u s3 => slTG x l u s3 Q
end
/-- a box opened for an expression; what the expression makes may be kept, in front of the box's things, and the box is shut -/
def aOpnK (va : ATE) : ATE := fun δ s Q => ∃ n o0 r, s[n]? = some (.box (o0 :: r)) ∧ va δ (opnS s n (o0 :: r)) (keepC s.length fun x s2 => ∃ L, s.length ≤ L ∧ shutC L n Q x s2)
section
variable {X : Cx} {M : MP} {e : Expr} {va : ATE}
end
end Lv

/-! Lw4: sorted(set(a list of tuples of whole numbers)), the list of any length, few unlike ones. -/
namespace Lv
open PySem L2 PySem.Spec PyProof.Rows
section
variable {P : Program} {w : World} {A : Around} {E : Value → Shared → Prop} {s : Shared}
end
section
variable {X : Cx} {M : MP} {e : Expr} {pos : Pos} {va : ATE}
end
end Lv

/-! Ldm: sorted(set(a list of texts)), the list of any length, few unlike ones. -/
namespace Lv
open PySem L2 PySem.Spec PyProof.Rows LvI
def txtK : Int × Value → Str
  | (_, .str k _) => k
  | _ => ""
/-- an entry of a set of texts -/
def TxtE (w : World) (e : Int × Value) : Prop := ∃ k tk, e = (hashStr w k, Value.str k tk)
theorem TxtE.key {w : World} {k : Str} {tk : Tok} : txtK (hashStr w k, Value.str k tk) = k := rfl
/-- a set of texts: what it has, in which order it is laid, as far as its walk wants it -/
def SetS (w : World) (h : Heap) (a : Addr) (S : List Str) : Prop :=
  ∃ o es ep t, h.get? a = some o ∧ o.ExactSet ∧ o.data = .set es ep t ∧ (∀ e ∈ es.toList, TxtE w e) ∧ (es.toList.map txtK).Nodup ∧ (∀ k, k ∈ S ↔ k ∈ es.toList.map txtK) ∧
    es.size < scanBound ∧ t.fits es.size = true ∧ Ris t.place.toList ∧ (w.params.followText "set-order" = true ∨ t.led = true)
theorem SetS.at {w : World} {h h' : Heap} {a : Addr} {S : List Str} (R : SetS w h a S) (k : ∀ o, h.get? a = some o → h'.get? a = some o) : SetS w h' a S := by
  obtain ⟨o, es, ep, t, ho, r⟩ := R
  exact ⟨o, es, ep, t, k o ho, r⟩
theorem SetS.congr {w : World} {h : Heap} {a : Addr} {S S' : List Str} (R : SetS w h a S) (e : ∀ k, k ∈ S' ↔ k ∈ S) : SetS w h a S' := by
  obtain ⟨o, es, ep, t, h1, h2, h3, h4, h5, h6, r⟩ := R
  exact ⟨o, es, ep, t, h1, h2, h3, h4, h5, fun k => (e k).trans (h6 k), r⟩
section
variable {P : Program} {w : World} {A : Around} {E : Value → Shared → Prop} {s : Shared} {a : Addr}

end
section
variable {X : Cx} {M : MP} {e : Expr} {pos : Pos} {va : ATE}
def aSortSetS (t : ATE) : ATE := fun δ s Q => t δ s fun x s1 => ∃ xs D : List Str, lsV s1 x = some (xs.map T.str) ∧ (∀ z ∈ xs, z ∈ D) ∧ D.length < 64 ∧ ∀ ys : List Str, sortedS ys = true → ys.Nodup → (∀ k, k ∈ ys ↔ k ∈ xs) → ys.length < 64 → Q (.l s1.length) (s1 ++ [.lst (ys.map T.str)])
end
end Lv

/-! Ldn: of a dict by tuples: its values walked (locked), a list of its keys. -/
namespace Lv
open PySem PySem.Spec PyProof.Rows L2 LvI
section
variable {P : Program} {w : World} {K : PySem.W.Frag} {d : Addr} {o : Obj} {es : Array DictEntry} {ep : Nat} {tg : Expr}
end
section
variable {X : Cx} {e tg : Expr} {td : TE} {apos cpos : Pos}
end
/-- the values of a locked dict by tuples, data -/
def aValsD (t : ATE) : ATI := fun δ s Q => t δ s fun x s1 => ∃ kvs g, lkT s1 x = some (kvs, g) ∧ Q (kvs.map (·.2)) (grL g) s1
section
variable {X : Cx} {M : MP} {tg e : Expr} {cpos : Pos} {apos : Pos} {va : ATE}
end
/-- list(d), d by tuples -/
def listTG : ARC := fun xs s Q => match xs with
  | [x] => ∃ kvs : List (List Key × SV), dtS s x = some kvs ∧ Q (.l s.length) (s ++ [.lst (kvs.map fun kv => T.tup (kv.1.map kyT))])
  | _ => False
section
variable {K : Fr} {M : MP} {X : Cx} {e : Expr} {pos : Pos}
end
end Lv

/-! Ldo: lists of pools: a fresh list goes into a pool; a pool's list lent for an expression or a statement; data appended to a pool's own list. -/
namespace Lv
open PySem PySem.Spec PyProof.Rows L2 LvI
section
variable {K : Fr} {M : MP} {H B H0 B0 : Hp} {φ φ0 : Lv.Fi} {s s0 : ST}
theorem poolA_sub {rs' rs : List (Addr × PRec)} (h : rs'.Sublist rs) : (poolA rs').Sublist (poolA rs) := by
  induction h with
  | slnil => exact List.Sublist.refl _
  | cons a _ ih => exact ih.trans (List.sublist_append_right _ _)
  | cons_cons a _ ih => exact List.Sublist.append (List.Sublist.refl _) ih
theorem Re.subP (re : Re K M H B φ s) (g : Gr H0 B0 φ0 H B φ) (e0 : Re K M H0 B0 φ0 s0) {n : Nat} {o : LO} {rs rs' : List (Addr × PRec)} (hs : s[n]? = some (.pool o rs)) (hm : ∀ r ∈ rs', r ∈ rs) (hn : (poolA rs').Nodup) :
    ∃ φ', Gr H0 B0 φ0 H B φ' ∧ Re K M H B φ' (s.set n (.pool o rs')) ∧ (∀ m : Nat, Fi.r φ' m = Fi.r φ m) ∧ (∀ x ∈ adr φ', x ∈ adr φ) ∧ ∀ x ∈ poolA rs, x ∉ poolA rs' → x ∉ adr φ' := by
  obtain ⟨c, hc, w1, w2, w3, w4, ndc, hB⟩ := re.poolAt hs
  have hln : n < φ.length := (List.getElem?_eq_some_iff.mp hc).1
  have hsn : n < s.length := by rw [← re.len]; exact hln
  have cal : c.al = c.p :: poolA rs := by unfold Ce.al; rw [w2]
  obtain ⟨c2, hc2⟩ : ∃ c2 : Ce, c2 = ⟨c.p, poolA rs'⟩ := ⟨_, rfl⟩
  have c2p : c2.p = c.p := by rw [hc2]
  have c2al : c2.al = c.p :: poolA rs' := by rw [hc2]; rfl
  have sub : ∀ x ∈ poolA rs', x ∈ poolA rs := fun x hx => by
    obtain ⟨r, hr, h⟩ := List.mem_flatMap.mp hx
    exact List.mem_flatMap.mpr ⟨r, hm r hr, h⟩
  have at' : ∀ (i : Nat) (e : Ce), (φ.set n c2)[i]? = some e → (i = n ∧ e = c2) ∨ (i ≠ n ∧ φ[i]? = some e) := fun i e he => by
    by_cases hin : n = i
    · subst hin
      rw [List.getElem?_set_self hln] at he
      cases he; exact .inl ⟨rfl, rfl⟩
    · rw [List.getElem?_set_ne hin] at he
      exact .inr ⟨fun z => hin z.symm, he⟩
  have was : ∀ (i : Nat) (e : Ce) (x : Addr), (φ.set n c2)[i]? = some e → x ∈ e.al → ∃ d : Ce, φ[i]? = some d ∧ x ∈ d.al := fun i e x he hx => by
    rcases at' i e he with ⟨rfl, rfl⟩ | ⟨_, h⟩
    · refine ⟨c, hc, ?_⟩
      rw [c2al] at hx
      rw [cal]
      rcases List.mem_cons.mp hx with hx | hx
      · rw [hx]; exact List.mem_cons_self
      · exact List.mem_cons_of_mem _ (sub x hx)
    · exact ⟨e, h, hx⟩
  have adrM : ∀ x ∈ adr (φ.set n c2), x ∈ adr φ := fun x hx => by
    obtain ⟨i, e, h1, h2⟩ := adr_of hx
    obtain ⟨d, h3, h4⟩ := was i e x h1 h2
    exact adr_mem h3 h4
  have pmap : (φ.set n c2).map Ce.p = φ.map Ce.p := by
    refine List.ext_getElem? fun i => ?_
    rw [List.getElem?_map, List.getElem?_map]
    by_cases hin : n = i
    · subst hin
      rw [List.getElem?_set_self hln, hc]
      show some c2.p = some c.p
      rw [c2p]
    · rw [List.getElem?_set_ne hin]
  have rt : ∀ (m : Nat), Fi.r (φ.set n c2) m = φ.r m := fun m => by rw [r_map, r_map, pmap]
  have g2 : Gr H0 B0 φ0 H B (φ.set n c2) := ⟨g.eb, by obtain ⟨r, er⟩ := g.pf; exact ⟨r, by rw [pmap]; exact er⟩, g.kp, g.nb, fun x hx => g.nf x (adrM x hx)⟩
  have mo : Mo B φ B (φ.set n c2) := ⟨Ex.refl B, fun m q h => by rw [rt]; exact h⟩
  refine ⟨φ.set n c2, g2, ⟨re.ex, ?_, by rw [List.length_set, List.length_set]; exact re.len, fun x hx z => re.al x (adrM x hx) z, fun m c' o' h1 h2 h3 x hx => ?_, fun m c' o' h1 h2 => ?_, fun H' B' φ' g' => e0.pm _ _ _ (g2.trans g')⟩, rt, adrM, fun x hx hx2 hx3 => ?_⟩
  · refine adr_nd_of (fun i e he => ?_) fun i j e f x he hf hx hy => ?_
    · rcases at' i e he with ⟨rfl, rfl⟩ | ⟨_, h⟩
      · rw [c2al]
        exact List.nodup_cons.mpr ⟨fun z => (List.nodup_cons.mp ndc).1 (sub _ z), hn⟩
      · exact ce_nd re.nd h
    · obtain ⟨d, h1, h2⟩ := was i e x he hx
      obtain ⟨d', h3, h4⟩ := was j f x hf hy
      exact adr_nd re.nd h1 h3 h2 h4
  · obtain ⟨d, h5, h4⟩ := was m c' x h1 hx
    by_cases hmn : n = m
    · subst hmn
      rw [hc] at h5; cases h5
      exact .inl (hB x (by rw [← cal]; exact h4))
    · rw [List.getElem?_set_ne hmn] at h2
      exact re.fr m d o' h5 h2 h3 x h4
  · by_cases hmn : n = m
    · subst hmn
      rw [List.getElem?_set_self hln] at h1
      rw [List.getElem?_set_self hsn] at h2
      cases h1; cases h2
      exact .pool w1 (by rw [hc2]) (by rw [c2p]; exact w3.mo mo) fun r hr => w4 r (hm r hr)
    · rw [List.getElem?_set_ne hmn] at h1 h2
      exact (re.ob m c' o' h1 h2).mo mo fun b hb => rfl
  · obtain ⟨i, e, h1, h2⟩ := adr_of hx3
    rcases at' i e h1 with ⟨rfl, rfl⟩ | ⟨hne, h3⟩
    · rw [c2al] at h2
      rcases List.mem_cons.mp h2 with h | h
      · rw [h] at hx; exact (List.nodup_cons.mp ndc).1 hx
      · exact hx2 h
    · exact hne (adr_nd re.nd h3 hc h2 (by rw [cal]; exact List.mem_cons_of_mem _ hx))
/-- a pool's list stands on its own -/
theorem Re.lend (re : Re K M H B φ s) {m j : Nat} {o : LO} {rs : List (Addr × PRec)} {a : Addr} {ts : List T} (hs : s[m]? = some (.pool o rs)) (hj : rs[j]? = some (a, .lst ts)) :
    ∃ φ', Gr H B φ H B φ' ∧ Re K M H B φ' (s.set m (.pool o (rs.eraseIdx j)) ++ [.lst ts]) ∧ Fi.r φ' s.length = some a := by
  obtain ⟨c, hc, w1, w2, w3, w4, ndc, hB⟩ := re.poolAt hs
  have nd := (List.nodup_cons.mp ndc).2
  have sl : (rs.eraseIdx j).Sublist rs := List.eraseIdx_sublist rs j
  obtain ⟨φ1, g1, re1, rt1, sub1, out1⟩ := re.subP .refl re hs (rs' := rs.eraseIdx j) (fun r hr => sl.mem hr) ((poolA_sub sl).nodup nd)
  have haP : a ∈ poolA rs := poolA_mem (List.mem_of_getElem? hj) (by simp [PRec.al])
  have hna : a ∉ poolA (rs.eraseIdx j) := fun z => by
    obtain ⟨r, hr, hx⟩ := List.mem_flatMap.mp z
    obtain ⟨i, hi, hri⟩ := List.mem_eraseIdx_iff_getElem?.mp hr
    exact hi (poolA_one nd hri hj (a := a) hx (by simp [PRec.al]))
  obtain ⟨vs, f1, f2⟩ := w4 _ (List.mem_of_getElem? hj)
  have only : ∀ x ∈ (one a).al, x = a := fun x hx => by simpa [Ce.al] using hx
  obtain ⟨g2, re2⟩ := re1.snoc2 (c := one a) (o := .lst ts) g1 re (fun x hx => by rw [only x hx]; exact .inl (adr_mem hc (List.mem_cons_of_mem _ (by rw [w2]; exact haP))))
    (fun x hx => by rw [only x hx]; exact out1 a haP hna) (by simp [Ce.al]) (fun x hx => by rw [only x hx, f2]; exact nofun) (fun _ x hx => by rw [only x hx]; exact .inl (hB a (List.mem_cons_of_mem _ haP))) (.sim rfl rfl ⟨vs, f1, f2⟩)
  refine ⟨_, g2, re2, ?_⟩
  have hl : φ1.length = s.length := by have := re1.len; rw [List.length_set] at this; exact this
  exact Fi.r_of (c := one a) (by rw [List.getElem?_append_right (by omega), hl, Nat.sub_self]; rfl)
/-- and goes back into it -/
theorem Re.putBack (re : Re K M H B φ s) (g : Gr H0 B0 φ0 H B φ) (e0 : Re K M H0 B0 φ0 s0) {k m j : Nat} {o : LO} {rs : List (Addr × PRec)} {a : Addr} {ts : List T} (hk : φ0.length ≤ k) (hkm : m < k) (hs : s[m]? = some (.pool o rs)) (hl : s[k]? = some (.lst ts)) (ha : Fi.r φ k = some a)
    (cl : (s.take k).all (clO k) = true) : ∃ φ', Gr H0 B0 φ0 H B φ' ∧ Re K M H B φ' ((s.take k).set m (.pool o (rs.take j ++ (a, .lst ts) :: rs.drop j))) ∧ (∀ (n : Nat) p, n < k → Fi.r φ n = some p → Fi.r φ' n = some p) ∧ a ∉ poolA rs := by
  obtain ⟨p, hp, vs, f1, e1⟩ := re.at_ hl
  have epa : p = a := by rw [Fi.r_of hp] at ha; exact Option.some.inj ha
  subst epa
  have hBa : B p = none := re.fr1 hp hl rfl
  have hkl : k ≤ φ.length := Nat.le_of_lt (List.getElem?_eq_some_iff.mp hp).1
  obtain ⟨gt, ret⟩ := re.take g e0 hk hkl cl
  have aout : p ∉ adr (φ.take k) := take_out re.nd hp (Nat.le_refl _) p (Ce.mem _)
  have hst : (s.take k)[m]? = some (.pool o rs) := by rw [List.getElem?_take_of_lt hkm]; exact hs
  obtain ⟨c, hc, w1, w2, w3, w4, ndc, hB⟩ := ret.poolAt hst
  obtain ⟨u, hu⟩ := w3.some (smp_is (shl_smp w1))
  have only : ∀ x ∈ (PRec.lst ts).al p, x = p := fun x hx => by simpa [PRec.al] using hx
  obtain ⟨φ4, g4, re4, rt4⟩ := ret.growP gt e0 (o2 := o) (u := u) (a := p) (rec := .lst ts) hst hc w1 (by rw [← hu]; exact w3) ⟨vs, f1, e1⟩ (by simp [PRec.al]) fun x hx => by
    rw [only x hx]; exact ⟨aout, hBa, g.nf p (adr_p hp)⟩
  have eH : upd H c.p u = H := by
    funext x
    by_cases hx : x = c.p
    · rw [hx, upd_same, hu]
    · rw [upd_ne hx]
  rw [eH] at g4 re4
  have hmt : m < (s.take k).length := (List.getElem?_eq_some_iff.mp hst).1
  have hs4 : ((s.take k).set m (.pool o (rs ++ [(p, .lst ts)])))[m]? = some (.pool o (rs ++ [(p, .lst ts)])) := List.getElem?_set_self hmt
  obtain ⟨_, _, _, _, _, _, nd4, _⟩ := re4.poolAt hs4
  have pm : (rs.take j ++ (p, PRec.lst ts) :: rs.drop j).Perm (rs ++ [(p, .lst ts)]) := by
    refine List.perm_middle.trans ?_
    rw [List.take_append_drop]
    exact (List.perm_append_singleton _ _).symm
  have nd5 : (poolA (rs.take j ++ (p, PRec.lst ts) :: rs.drop j)).Nodup := ((pm.flatMap_right _).nodup_iff).mpr (List.nodup_cons.mp nd4).2
  obtain ⟨φ5, g5, re5, rt5, _, _⟩ := re4.subP g4 e0 hs4 (rs' := rs.take j ++ (p, .lst ts) :: rs.drop j) (fun r hr => pm.mem_iff.mp hr) nd5
  rw [List.set_set] at re5
  refine ⟨φ5, g5, re5, fun n q hn hq => ?_, fun z => aout (adr_mem hc (List.mem_cons_of_mem _ (by rw [w2]; exact z)))⟩
  rw [rt5]
  exact rt4 n q (r_take hq hn)
end
/-! ### lent for an expression -/
def lndQ (m j k : Nat) (a : Addr) (Q : SV → ST → Prop) (_ : Lk Q) : SV → ST → Prop := fun x s2 => ∃ t o rs ts, x = .d t ∧ s2[m]? = some (.pool o rs) ∧ s2[k]? = some (.lst ts) ∧ m < k ∧ (s2.take k).all (clO k) = true ∧ (a ∉ poolA rs → Q (.d t) ((s2.take k).set m (.pool o (rs.take j ++ (a, .lst ts) :: rs.drop j))))
theorem lndQ_of {m j k : Nat} {a : Addr} {Q : SV → ST → Prop} {l : Lk Q} {t : T} {s2 : ST} {o : LO} {rs : List (Addr × PRec)} {ts : List T} (h1 : s2[m]? = some (.pool o rs)) (h2 : s2[k]? = some (.lst ts)) (hk : m < k) (h3 : (s2.take k).all (clO k) = true) (q : a ∉ poolA rs → Q (.d t) ((s2.take k).set m (.pool o (rs.take j ++ (a, .lst ts) :: rs.drop j)))) : lndQ m j k a Q l (.d t) s2 :=
  ⟨t, o, rs, ts, rfl, h1, h2, hk, h3, q⟩
def lndK (i : Nat) (va : ATE) (Q : SV → ST → Prop) (_ : Lk (va, Q)) (δ : AS) (s : ST) : Prop := ∃ (m j : Nat) (a : Addr) (o : LO) (rs : List (Addr × PRec)) (ts : List T), δ[i]? = some (some (.d (.ref a))) ∧ s[m]? = some (.pool o rs) ∧ rs[j]? = some (a, .lst ts) ∧ va (δ.set i (some (.l s.length))) (s.set m (.pool o (rs.eraseIdx j)) ++ [.lst ts]) (lndQ m j s.length a Q .mk)
theorem lndK_of {i : Nat} {va : ATE} {Q : SV → ST → Prop} {l : Lk (va, Q)} {δ : AS} {s : ST} (m j : Nat) {a : Addr} {o : LO} {rs : List (Addr × PRec)} {ts : List T} (h1 : δ[i]? = some (some (.d (.ref a)))) (h2 : s[m]? = some (.pool o rs)) (h3 : rs[j]? = some (a, .lst ts))
    (q : va (δ.set i (some (.l s.length))) (s.set m (.pool o (rs.eraseIdx j)) ++ [.lst ts]) (lndQ m j s.length a Q .mk)) : lndK i va Q l δ s := ⟨m, j, a, o, rs, ts, h1, h2, h3, q⟩
def aLnd (i : Nat) (va : ATE) : ATE := fun δ s Q => lndK i va Q .mk δ s
section
variable {X : Cx} {M : MP} {e : Expr} {va : ATE} {st : Stmt} {t : ATS}
theorem lend_sl {K : Fr} {B : Hp} {φ : Fi} {σ : L2.St} {δ : AS} {i k : Nat} {a : Addr} (sl : Rsl K B φ σ δ) (h : δ[i]? = some (some (.d (.ref a)))) (ha : Fi.r φ k = some a) : Rsl K B φ σ (δ.set i (some (.l k))) := by
  refine ⟨by rw [List.length_set]; exact sl.len, fun j x e => ?_⟩
  by_cases hij : i = j
  · subst hij
    rw [List.getElem?_set_self (List.getElem?_eq_some_iff.mp h).1] at e
    cases e
    obtain ⟨v, hv, r⟩ := sl.at_ i _ h
    cases (show Fz K B v (.ref a) from r)
    exact ⟨_, hv, a, ha, rfl⟩
  · rw [List.getElem?_set_ne hij] at e
    exact sl.at_ j x e
theorem ae_lnd (i : Nat) (ha : AE X M e va) : AE X M e (aLnd i va) := .of ha.pe fun H B φ σ δ s Q re sl q Q' f => by
  obtain ⟨m, j, a, o, rs, ts, h1, h2, h3, q⟩ := q
  obtain ⟨φ1, g1, re1, ra⟩ := re.lend h2 h3
  exact uE_lift (t := va) H B φ1 σ _ _ _ re1 (lend_sl (sl.mono g1) h1 ra) q _ fun H2 B2 φ2 s2 v x g2 re2 r2 ⟨t, o2, rs2, ts2, ex, k1, k2, hk, k3, q2⟩ => by
    subst ex
    obtain ⟨φ3, g3, re3, rt3, hna⟩ := re2.putBack (j := j) (g1.trans g2) re (Nat.le_of_eq re.len) hk k1 k2 (g2.get ra) k3
    exact f _ _ _ _ _ _ g3 re3 (.dat (show Fz X.K B2 v t from r2)) (q2 hna)
/-! ### lent for a statement -/
def bkD (k : Nat) (a : Addr) : Option SV → Option SV
  | some (.l n) => if n = k then some (.d (.ref a)) else some (.l n)
  | x => x
def lowD (k : Nat) : Option SV → Bool
  | some (.l n) => decide (n < k)
  | _ => true
def lndN (m j k : Nat) (a : Addr) (Q : AS → ST → Prop) (_ : Lk Q) : AS → ST → Prop := fun δ s2 => ∃ o rs ts, s2[m]? = some (.pool o rs) ∧ s2[k]? = some (.lst ts) ∧ m < k ∧ (s2.take k).all (clO k) = true ∧ (δ.map (bkD k a)).all (lowD k) = true ∧ (a ∉ poolA rs → Q (δ.map (bkD k a)) ((s2.take k).set m (.pool o (rs.take j ++ (a, .lst ts) :: rs.drop j))))
theorem lndN_of {m j k : Nat} {a : Addr} {Q : AS → ST → Prop} {l : Lk Q} {δ : AS} {s2 : ST} {o : LO} {rs : List (Addr × PRec)} {ts : List T} (h1 : s2[m]? = some (.pool o rs)) (h2 : s2[k]? = some (.lst ts)) (hk : m < k) (h3 : (s2.take k).all (clO k) = true) (h4 : (δ.map (bkD k a)).all (lowD k) = true)
    (q : a ∉ poolA rs → Q (δ.map (bkD k a)) ((s2.take k).set m (.pool o (rs.take j ++ (a, .lst ts) :: rs.drop j)))) : lndN m j k a Q l δ s2 := ⟨o, rs, ts, h1, h2, hk, h3, h4, q⟩
theorem fin_lndN {K : Fr} {M : MP} {H B H0 B0 : Hp} {φ φ0 : Fi} {s0 : ST} {m j k : Nat} {a : Addr} {Q : AS → ST → Prop} {Q' : L2.St → Hp → Prop} (re0 : Re K M H0 B0 φ0 s0) (g0 : Gr H0 B0 φ0 H B φ) (hk0 : φ0.length = k) (ra : Fi.r φ k = some a) (f : FinG K M H0 B0 φ0 Q Q') : FinG K M H B φ (lndN m j k a Q .mk) Q' := fun H1 B1 φ1 s1 σ δ g1 re1 sl ⟨o, rs, ts, h1, h2, hk, h3, h4, q⟩ => by
  have ra1 := g1.get ra
  obtain ⟨φ3, g3, re3, rt3, hna⟩ := re1.putBack (j := j) (g0.trans g1) re0 (Nat.le_of_eq hk0) hk h1 h2 ra1 h3
  refine f _ _ _ _ _ _ g3 re3 ⟨by rw [List.length_map]; exact sl.len, fun i x e => ?_⟩ (q hna)
  have hlow := List.all_eq_true.mp h4 _ (List.mem_of_getElem? e)
  rw [List.getElem?_map] at e
  cases hd : δ[i]? with
  | none => rw [hd] at e; cases e
  | some y =>
    rw [hd] at e
    have e : bkD k a y = some x := Option.some.inj e
    cases y with
    | none => cases e
    | some y =>
      obtain ⟨v, hv, r⟩ := sl.at_ i y hd
      cases y with
      | d u => cases e; exact ⟨v, hv, r⟩
      | l n =>
        obtain ⟨p, hp, rfl⟩ := r
        have e : (if n = k then some (SV.d (.ref a)) else some (.l n)) = some x := e
        by_cases hn : n = k
        · rw [if_pos hn] at e
          cases e
          subst hn
          rw [ra1] at hp
          cases hp
          exact ⟨_, hv, Fz.ref a⟩
        · rw [if_neg hn] at e
          cases e
          exact ⟨_, hv, p, rt3 n p (of_decide_eq_true hlow) hp, rfl⟩
theorem fin_lndQ {K : Fr} {M : MP} {H B H0 B0 : Hp} {φ φ0 : Fi} {s0 : ST} {m j k : Nat} {a : Addr} {Q : SV → ST → Prop} {Q' : VK} (re0 : Re K M H0 B0 φ0 s0) (g0 : Gr H0 B0 φ0 H B φ) (hk0 : φ0.length = k) (ra : Fi.r φ k = some a) (f : FinE K M H0 B0 φ0 Q Q') : FinE K M H B φ (lndQ m j k a Q .mk) Q' := fun H1 B1 φ1 s1 v x g1 re1 r1 ⟨t, o, rs, ts, ex, h1, h2, hk, h3, q⟩ => by
  subst ex
  have ra1 := g1.get ra
  obtain ⟨φ3, g3, re3, rt3, hna⟩ := re1.putBack (j := j) (g0.trans g1) re0 (Nat.le_of_eq hk0) hk h1 h2 ra1 h3
  exact f _ _ _ _ _ _ g3 re3 (.dat (show Fz K B1 v t from r1)) (q hna)
def lndP (i : Nat) (t : ATS) (A : AEnds) (_ : Lk (t, A)) (δ : AS) (s : ST) : Prop := ∃ (m j : Nat) (a : Addr) (o : LO) (rs : List (Addr × PRec)) (ts : List T), δ[i]? = some (some (.d (.ref a))) ∧ s[m]? = some (.pool o rs) ∧ rs[j]? = some (a, .lst ts) ∧
  t { nx := lndN m j s.length a A.nx .mk, rt := lndQ m j s.length a A.rt .mk, bk := lndN m j s.length a A.bk .mk, ct := lndN m j s.length a A.ct .mk } (δ.set i (some (.l s.length))) (s.set m (.pool o (rs.eraseIdx j)) ++ [.lst ts])
theorem lndP_of {i : Nat} {A : AEnds} {l : Lk (t, A)} {δ : AS} {s : ST} (m j : Nat) {a : Addr} {o : LO} {rs : List (Addr × PRec)} {ts : List T} (h1 : δ[i]? = some (some (.d (.ref a)))) (h2 : s[m]? = some (.pool o rs)) (h3 : rs[j]? = some (a, .lst ts))
    (q : t { nx := lndN m j s.length a A.nx .mk, rt := lndQ m j s.length a A.rt .mk, bk := lndN m j s.length a A.bk .mk, ct := lndN m j s.length a A.ct .mk } (δ.set i (some (.l s.length))) (s.set m (.pool o (rs.eraseIdx j)) ++ [.lst ts])) : lndP i t A l δ s := ⟨m, j, a, o, rs, ts, h1, h2, h3, q⟩
def pLnd (i : Nat) (t : ATS) : ATS := fun A δ s => lndP i t A .mk δ s
theorem ap_lnd (i : Nat) (h : AP X M st t) : AP X M st (pLnd i t) := ⟨_, h.ps, fun H B φ σ δ s A re sl ⟨m, j, a, o, rs, ts, h1, h2, h3, q⟩ D f => by
  obtain ⟨φ1, g1, re1, ra⟩ := re.lend h2 h3
  exact uS_lift (t := t) H B φ1 σ _ _ _ re1 (lend_sl (sl.mono g1) h1 ra) q D ⟨fin_lndN re g1 re.len ra f.nx, fin_lndQ re g1 re.len ra f.rt, fin_lndN re g1 re.len ra f.bk, fin_lndN re g1 re.len ra f.ct⟩⟩
/-! ### a fresh list goes into a pool -/
def inpQ (k : Nat) (Q : SV → ST → Prop) (_ : Lk Q) : SV → ST → Prop := fun x s1 => ∃ n o rs us, n < k ∧ s1[n]? = some (.pool o rs) ∧ freshP k x s1 (.lst us) ∧ ∀ a, a ∉ poolA rs → Q (.d (.ref a)) ((s1.take k).set n (.pool o (rs ++ [(a, .lst us)])))
def aInp (va : ATE) : ATE := fun δ s Q => va δ s (inpQ s.length Q .mk)
/-- a fresh list of data is a pool from now on -/
def aToP (va : ATE) : ATE := fun δ s Q => va δ s fun x s1 => ∃ n ts, x = .l n ∧ s1[n]? = some (.lst ts) ∧ Q (.l n) (s1.set n (.pool (.lst ts) []))
theorem ae_toP (ha : AE X M e va) : AE X M e (aToP va) := .of ha.pe fun H B φ σ δ s Q re sl q Q' f => uE_lift (t := va) H B φ σ δ s _ re sl q _ fun H1 B1 φ1 s1 v x g1 re1 r1 ⟨n, ts, ex, hs, q1⟩ => by
  subst ex
  obtain ⟨g2, re2⟩ := re1.toPool hs rfl
  exact f _ _ _ _ _ _ (g1.trans g2) re2 r1 q1
/-! ### data appended to a pool's own list -/
def appPG : ARM := fun x xs s Q => match x, xs with
  | .l n, [.d t] => ∃ ts rs, s[n]? = some (.pool (.lst ts) rs) ∧ ts.length < sizeLine ∧ Q (.d .non) (s.set n (.pool (.lst (ts ++ [t])) rs))
  | _, _ => False
theorem lr_appP {K : Fr} : LiftM K M rAppend appPG := by
  intro H B φ s x sx y sy Q re rx ry h Q' f
  unfold appPG at h
  split at h
  · obtain ⟨v, rfl, r⟩ := rsall1 ry
    obtain ⟨ts, rs, h1, h2, q⟩ := h
    obtain ⟨c, hc, w1, w2, ⟨vs, f1, e1⟩, w4, ndc, hB⟩ := re.poolAt h1
    obtain ⟨p, hp, rfl⟩ := rx
    rw [Fi.r_of hc] at hp; cases hp
    obtain ⟨g, re2⟩ := re.setSh (.lst (vs ++ [v])) (o2 := .lst (ts ++ [_])) h1 hc rfl ⟨vs ++ [v], f1.append (.cons r .nil), rfl⟩
    exact ⟨c.p, vs, v, rfl, rfl, e1, by rw [f1.length]; exact h2, f _ _ _ _ _ _ g re2 (.dat .non) q⟩
  · exact h.elim
def isPL (x : SV) (s : ST) : Prop := match x with
  | .l n => (match s[n]? with | some (.pool (.lst _) _) => True | _ => False)
  | _ => False
def aMeP (to : ATE) (t : ATA) : ATE := fun δ s Q => to δ s fun x s1 => isPL x s1 ∧ t δ s1 fun xs s2 => appPG x xs s2 Q
theorem ae_appendP {o : Expr} {vo : ATE} {t : ATA} {pos apos : Pos} (ho : AE X M o vo) (ha : AA X M [e] t) (hb : HB X o "append" := by rfl) (hf : HF X [e] pos := by rfl) (hl : (apos.endLine == pos.line) = true := by rfl) (hs : HS1 X e [] := by rfl) (hp : HP1 X [] pos := by rfl) :
    AE X M (.Call (.Attribute o "append" apos) [e] [] pos) (aMeP vo t) :=
  .of (pe_bm PySem.F.plainAttrs_list PySem.F.slot_list_append PySem.F.type_list_append mt_append ho.pe ha.pa hb hf hl hs hp) fun H B φ σ δ s Q re sl q Q' fn => uE_lift (t := vo) H B φ σ δ s _ re sl q _ fun H1 B1 φ1 s1 v x g1 re1 r1 ⟨q0, q1⟩ => by
    refine ⟨?_, uA_lift (t := t) H1 B1 φ1 σ δ s1 _ re1 (sl.mono g1) q1 _ fun H2 B2 φ2 s2 vs xs g2 re2 r2 q2 => lr_appP H2 B2 φ2 s2 v x vs xs Q re2 (r1.mono g2) r2 q2 Q' (fn.grow (g1.trans g2))⟩
    unfold isPL at q0
    split at q0
    · split at q0
      · rename_i n ts rs hs
        obtain ⟨c, hc, w1, w2, ⟨vs, f1, e1⟩, w4, _⟩ := re1.poolAt hs
        obtain ⟨p, hp, rfl⟩ := r1
        rw [Fi.r_of hc] at hp; cases hp
        exact .inl ⟨rfl, vs, SqL.of e1⟩
      · exact q0.elim
    · exact q0.elim
end
end Lv

/-! Ldp: a call to which things that stand in the store, tuples of one's own with places among them too, are handed as data; what comes back is flat, or tuples of such. -/
namespace Lv
open PySem PySem.Spec PyProof.Rows L2 LvI
/-- flat, or a tuple of such -/
def T.fl1 : T → Bool
  | .tup ts => ts.all T.flat
  | t => t.flat
def flatSE : SV → Bool
  | .d t => t.fl1
  | .l _ => true
def flatOE : LO → Bool
  | .lst ts => ts.all T.fl1
  | .tp xs => xs.all flatSE
  | .ll xs => xs.all flatSE
  | _ => false
def SV.isl : SV → Bool
  | .l _ => true
  | _ => false
/-- what may be seen: a tuple only where a place is in it -/
def LO.pvt : LO → Bool
  | .tp xs => xs.any SV.isl
  | o => o.pvl
/-- no address among these -/
def noR (us : List V) : Prop := ∀ p, V.ref p ∉ us
section
variable {K : Fr} {M : MP} {H B B' : Hp} {φ : Lv.Fi} {s : ST}
theorem flat_nr : ∀ {vs : List V} {ts : List T}, FzAll K B vs ts → ts.all T.flat = true → noR vs
  | _, _, .nil, _, p, hp => by cases hp
  | _, _, .cons (v := v) r q, f, p, hp => by
    rw [List.all_cons, Bool.and_eq_true] at f
    rcases List.mem_cons.mp hp with e | hp
    · subst e
      have f1 := f.1
      cases r <;> simp [T.flat] at f1
    · exact flat_nr q f.2 p hp
theorem Fz.fl1B (hb : ∀ (a : Addr) us, noR us → B a = some (.tup us) → B' a = some (.tup us)) {v : V} {t : T} (h : Fz K B v t) (f : t.fl1 = true) : Fz K B' v t := by
  cases t with
  | tup ts =>
    cases h with
    | tup g r => exact .tup (g.elim (fun g => .inl (hb _ _ (flat_nr r f) g)) .inr) (r.flatB f)
  | _ => exact Fz.flatB h f
theorem FzAll.fl1B (hb : ∀ (a : Addr) us, noR us → B a = some (.tup us) → B' a = some (.tup us)) : ∀ {vs : List V} {ts : List T}, FzAll K B vs ts → ts.all T.fl1 = true → FzAll K B' vs ts
  | _, _, .nil, _ => .nil
  | _, _, .cons h r, f => by
    rw [List.all_cons, Bool.and_eq_true] at f
    exact .cons (h.fl1B hb f.1) (r.fl1B hb f.2)
theorem Rs.fl1B (hb : ∀ (a : Addr) us, noR us → B a = some (.tup us) → B' a = some (.tup us)) {v : V} {x : SV} (h : Rs K B φ v x) (f : flatSE x = true) : Rs K B' φ v x := by
  cases x with
  | d t => exact Fz.fl1B hb h f
  | l n => exact h
theorem RsAll.fl1B (hb : ∀ (a : Addr) us, noR us → B a = some (.tup us) → B' a = some (.tup us)) : ∀ {vs : List V} {xs : List SV}, RsAll K B φ vs xs → xs.all flatSE = true → RsAll K B' φ vs xs
  | _, _, .nil, _ => .nil
  | _, _, .cons h r, f => by
    rw [List.all_cons, Bool.and_eq_true] at f
    exact .cons (h.fl1B hb f.1) (r.fl1B hb f.2)
theorem ro_fl1B (hb : ∀ (a : Addr) (us : List V), noR us → B a = some (.tup us) → B' a = some (.tup us)) {o : LO} {u : Option HO} (h : Ro K B φ o u) (f : flatOE o = true) : Ro K B' φ o u := by
  cases o with
  | lst ts => obtain ⟨vs, h1, h2⟩ := h; exact ⟨vs, h1.fl1B hb f, h2⟩
  | tp xs => obtain ⟨vs, h1, h2⟩ := h; exact ⟨vs, h1.fl1B hb f, h2⟩
  | ll xs => obtain ⟨vs, h1, h2⟩ := h; exact ⟨vs, h1.fl1B hb f, h2⟩
  | _ => cases f
theorem RsAll.hasR : ∀ {vs : List V} {xs : List SV}, RsAll K B φ vs xs → xs.any SV.isl = true → ∃ p, V.ref p ∈ vs
  | _, _, .nil, h => by cases h
  | _, x :: xs, .cons (v := v) r q, h => by
    cases x with
    | l n => obtain ⟨p, _, rfl⟩ := r; exact ⟨p, List.mem_cons_self⟩
    | d t =>
      obtain ⟨p, hp⟩ := q.hasR (show xs.any SV.isl = true by rw [List.any_cons] at h; exact h)
      exact ⟨p, List.mem_cons_of_mem _ hp⟩
end
def callVF (sp : ASp) (Q : SV → ST → Prop) (_ : Lk Q) (xs : List SV) (s : ST) : Prop := ∃ (vw : List Nat) (ys : List SV), (vw.all fun n => decide (n < s.length)) = true ∧ viewX vw s xs = some ys ∧ ((argL ys).all fun n => !vw.contains n) = true ∧
  ((argL ys).all fun n => match s[n]? with | some o => simO o | none => false) = true ∧ (vw.all fun n => (kpO s n).pvt) = true ∧
    sp (ys.map (toC (argL ys))) ((argL ys).map fun n => (s[n]?).getD .gone) fun r s2 => (s2.all flatOE = true ∧ flatSE r = true) ∧ Q (ren (argL ys) s.length r) (putAll s (argL ys) (s2.map (renO (argL ys) s.length)) ++ (s2.drop (argL ys).length).map (renO (argL ys) s.length))
theorem callVF_of {sp : ASp} {Q : SV → ST → Prop} {l : Lk Q} {xs : List SV} {s : ST} (vw : List Nat) (ys : List SV) (ns : List Nat) (h1 : (vw.all fun n => decide (n < s.length)) = true) (h2 : viewX vw s xs = some ys) (e : argL ys = ns) (h3 : (ns.all fun n => !vw.contains n) = true)
    (h4 : (ns.all fun n => match s[n]? with | some o => simO o | none => false) = true) (h5 : (vw.all fun n => (kpO s n).pvt) = true)
    (h6 : sp (ys.map (toC ns)) (ns.map fun n => (s[n]?).getD .gone) fun r s2 => (s2.all flatOE = true ∧ flatSE r = true) ∧ Q (ren ns s.length r) (putAll s ns (s2.map (renO ns s.length)) ++ (s2.drop ns.length).map (renO ns s.length))) : callVF sp Q l xs s := by
  subst e; exact ⟨vw, ys, h1, h2, h3, h4, h5, h6⟩
theorem lift_fnXF {K : Fr} {M : MP} {H B : Hp} {φ : Fi} {s : ST} {vs : List V} {xs : List SV} {Q : SV → ST → Prop} {Q' : VK} {E : XK} {sp : ASp} {l : Lk Q} (re : Re K M H B φ s) (r : RsAll K B φ vs xs) (h : callVF sp Q l xs s) (f : FinE K M H B φ Q Q') : toSp K sp vs H Q' E := by
  obtain ⟨vw, ys, hvw, hv, hdis, h1, hpv, h2⟩ := h
  have hL := re.len
  have hvl : ∀ n ∈ vw, n < s.length := fun n hn => of_decide_eq_true (List.all_eq_true.mp hvw n hn)
  have hvφ : ∀ n ∈ vw, n < φ.length := fun n hn => by rw [hL]; exact hvl n hn
  have atW : ∀ {n : Nat} {c : Ce}, n ∈ vw → φ[n]? = some c → ∀ a ∈ c.al, a ∈ adr (selF φ vw) := fun hn hc a ha => by
    obtain ⟨k, hk⟩ := List.getElem?_of_mem hn
    exact adr_mem (n := k) (by rw [selF_at hvφ hk]; exact hc) ha
  have rys : RsAll K (thaw (adr (selF φ vw)) H B) φ vs ys := by
    clear h2 hdis h1
    have deep : ∀ {v x t}, Rs K B φ v x → deepF (fun m => vw.contains m) 9 s x = some t → Fz K (thaw (adr (selF φ vw)) H B) v t := fun rx e => deep_fz 9 (thaw_ex re.ex) (fun m c o hm q1 q2 => ⟨re.ob m c o q1 q2, fun a ha => thaw_in (atW (List.contains_iff_mem.mp hm) q1 a ha)⟩) hL rx e
    induction r generalizing ys with
    | nil => cases hv; exact .nil
    | @cons v vs x xs r1 r2 ih =>
      have plain : ∀ (hm : (viewX vw s xs).map (x :: ·) = some ys), RsAll K (thaw (adr (selF φ vw)) H B) φ (v :: vs) ys := fun hm => by
        obtain ⟨zs, e, rfl⟩ := Option.map_eq_some_iff.mp hm
        exact .cons (r1.mo ⟨thaw_ex re.ex, fun _ _ h => h⟩) (ih zs e)
      cases x with
      | d t => exact plain hv
      | l n =>
        have hv : (if vw.contains n then (match deepF (fun m => vw.contains m) 9 s (.l n) with
          | some t => (viewX vw s xs).map (SV.d t :: ·)
          | none => none) else (viewX vw s xs).map (SV.l n :: ·)) = some ys := hv
        by_cases hn : vw.contains n = true
        · rw [if_pos hn] at hv
          cases hd : deepF (fun m => vw.contains m) 9 s (.l n) with
          | none => rw [hd] at hv; cases hv
          | some t =>
            rw [hd] at hv
            obtain ⟨zs, e, rfl⟩ := Option.map_eq_some_iff.mp (show (viewX vw s xs).map (SV.d t :: ·) = some ys from hv)
            exact .cons (show Fz K _ v t from deep r1 hd) (ih zs e)
        · rw [if_neg hn] at hv
          exact plain hv
  refine lift_view (vw := vw) (good := fun r s2 => s2.all flatOE = true ∧ flatSE r = true) re rfl hvl (fun n hn z => ?_) h1 rys h2 (fun H' B' φ' s' v x e1 e2 gd => ?_) f
  · have := List.all_eq_true.mp hdis n hn
    simp [z] at this
  · have nW : ∀ a ∈ adr (selF φ vw), ∀ xs, noR xs → B' a ≠ some (.tup xs) := fun a ha xs hnr => by
      obtain ⟨k, c, k1, k2⟩ := adr_of ha
      obtain ⟨n, n1, n2⟩ := selF_inv hvφ k1
      have hm := List.mem_of_getElem? n1
      have es : s[n]? = some (kpO s n) := by unfold kpO; rw [List.getElem?_eq_getElem (hvl n hm)]; rfl
      have hal := re.al a (adr_mem n2 k2)
      have hpt := List.all_eq_true.mp hpv n hm
      have hH : H a ≠ some (.tup xs) := by
        by_cases ht : ∃ ys, kpO s n = .tp ys
        · obtain ⟨ys, ht⟩ := ht
          rw [ht] at es hpt
          obtain ⟨p, hp2, us, f1, e⟩ := re.at_ es
          rw [n2] at hp2
          cases hp2
          have : a = p := by simpa [Ce.al] using k2
          rw [this, e]
          intro z
          cases z
          obtain ⟨q, hq⟩ := f1.hasR hpt
          exact hnr q hq
        · have hpt : (kpO s n).pvl = true := by
            cases ho : kpO s n with
            | tp ys => exact absurd ⟨ys, ho⟩ ht
            | _ => rw [ho] at hpt; exact hpt
          rcases pvl_cases hpt with hp | ⟨ts, hp⟩ | ⟨o', rs, hp, hdc⟩
          · exact ((re.ob n c _ n2 es).pv hp a k2 xs).2
          · rw [hp] at es
            obtain ⟨p, hp2, us, _, e⟩ := re.at_ es
            rw [n2] at hp2
            cases hp2
            have : a = p := by simpa [Ce.al] using k2
            rw [this, e]; nofun
          · rw [hp] at es
            cases re.ob n c _ n2 es with
            | sim w => cases w
            | pool w1 w2 w3 w4 =>
              unfold Ce.al at k2
              rw [w2] at k2
              rcases List.mem_cons.mp k2 with rfl | ha
              · cases o' with
                | lst _ => obtain ⟨x, _, e⟩ := w3; rw [e]; nofun
                | dK _ => obtain ⟨x, _, e⟩ := w3; rw [e]; nofun
                | dT _ => obtain ⟨x, _, e⟩ := w3; rw [e]; nofun
                | lK _ _ _ => obtain ⟨_, e⟩ := w3; rw [e]; nofun
                | lT _ _ _ => obtain ⟨_, e⟩ := w3; rw [e]; nofun
                | _ => exact absurd hdc (by simp [LO.shl])
              · obtain ⟨r, hr, hx⟩ := List.mem_flatMap.mp ha
                obtain ⟨u, e, hu⟩ := (w4 r hr).al_nt a hx
                rw [e]
                exact fun z => hu xs (Option.some.inj z)
      cases hHa : H a with
      | none => exact absurd hHa hal
      | some o =>
        rw [e1 a o (by rw [thaw_in ha]; exact hHa), ← hHa]
        exact hH
    have hb : ∀ (a : Addr) us, noR us → B' a = some (.tup us) → thaw (adr (selF φ vw)) B B' a = some (.tup us) := fun a us hn h => by
      by_cases w : a ∈ adr (selF φ vw)
      · exact absurd h (nW a w us hn)
      · rw [thaw_out w]; exact h
    refine ⟨fun rx => rx.fl1B hb gd.2, fun k c o ho hc => ?_⟩
    have hf := List.all_eq_true.mp gd.1 o (List.mem_of_getElem? ho)
    cases hc with
    | gone => cases hf
    | sim h1 h2 h3 => exact .sim h1 h2 (ro_fl1B hb h3 hf)
    | box => cases hf
    | pool => cases hf
theorem li_VF {K : Fr} {M : MP} {sp : ASp} : LiC K M sp fun Q xs s => callVF sp Q .mk xs s := fun _ _ _ _ _ _ _ _ re r h f => lift_fnXF re r h f
section
variable {K : Fr} {M : MP} {H B H0 B0 : Hp} {φ φ0 : Lv.Fi} {s s0 : ST}
/-- a newer list goes into a pool, what else is newer is dropped -/
theorem Re.takeIn (re : Re K M H B φ s) (g : Gr H0 B0 φ0 H B φ) (e0 : Re K M H0 B0 φ0 s0) {k m n : Nat} {o : LO} {rs : List (Addr × PRec)} {us : List T} (hk : φ0.length ≤ k) (hkm : m < k) (hkn : k ≤ n) (hs : s[m]? = some (.pool o rs)) (hl : s[n]? = some (.lst us))
    (cl : (s.take k).all (clO k) = true) : ∃ a φ', Gr H0 B0 φ0 H B φ' ∧ Re K M H B φ' ((s.take k).set m (.pool o (rs ++ [(a, .lst us)]))) ∧ Fi.r φ n = some a ∧ a ∉ poolA rs ∧ ∀ (q : Nat) p, q < k → Fi.r φ q = some p → Fi.r φ' q = some p := by
  obtain ⟨p, hp, vs, f1, e1⟩ := re.at_ hl
  have hBa : B p = none := re.fr1 hp hl rfl
  have hkl : k ≤ φ.length := Nat.le_of_lt (Nat.lt_of_le_of_lt hkn (List.getElem?_eq_some_iff.mp hp).1)
  obtain ⟨gt, ret⟩ := re.take g e0 hk hkl cl
  have aout : p ∉ adr (φ.take k) := take_out re.nd hp hkn p (Ce.mem _)
  have hst : (s.take k)[m]? = some (.pool o rs) := by rw [List.getElem?_take_of_lt hkm]; exact hs
  obtain ⟨c, hc, w1, w2, w3, w4, ndc, hB⟩ := ret.poolAt hst
  obtain ⟨u, hu⟩ := w3.some (smp_is (shl_smp w1))
  have only : ∀ x ∈ (PRec.lst us).al p, x = p := fun x hx => by simpa [PRec.al] using hx
  obtain ⟨φ4, g4, re4, rt4⟩ := ret.growP gt e0 (o2 := o) (u := u) (a := p) (rec := .lst us) hst hc w1 (by rw [← hu]; exact w3) ⟨vs, f1, e1⟩ (by simp [PRec.al]) fun x hx => by
    rw [only x hx]; exact ⟨aout, hBa, g.nf p (adr_p hp)⟩
  have eH : upd H c.p u = H := by
    funext x
    by_cases hx : x = c.p
    · rw [hx, upd_same, hu]
    · rw [upd_ne hx]
  rw [eH] at g4 re4
  exact ⟨p, φ4, g4, re4, Fi.r_of hp, fun z => aout (adr_mem hc (List.mem_cons_of_mem _ (by rw [w2]; exact z))), fun q p hq h => rt4 q p (r_take h hq)⟩
end
def inpN (i k : Nat) (Q : AS → ST → Prop) (_ : Lk Q) : AS → ST → Prop := fun δ s1 => ∃ m n o rs us, δ[i]? = some (some (.l n)) ∧ k ≤ n ∧ s1[n]? = some (.lst us) ∧ m < k ∧ s1[m]? = some (.pool o rs) ∧ (s1.take k).all (clO k) = true ∧
  ∀ a, (δ.map (bkD n a)).all (lowD k) = true ∧ (a ∉ poolA rs → Q (δ.map (bkD n a)) ((s1.take k).set m (.pool o (rs ++ [(a, .lst us)]))))
theorem inpN_of {i k : Nat} {Q : AS → ST → Prop} {l : Lk Q} {δ : AS} {s1 : ST} (m : Nat) {n : Nat} {o : LO} {rs : List (Addr × PRec)} {us : List T} (h1 : δ[i]? = some (some (.l n))) (h2 : k ≤ n) (h3 : s1[n]? = some (.lst us)) (h4 : m < k) (h5 : s1[m]? = some (.pool o rs)) (h6 : (s1.take k).all (clO k) = true)
    (h7 : ∀ a, (δ.map (bkD n a)).all (lowD k) = true) (q : ∀ a, a ∉ poolA rs → Q (δ.map (bkD n a)) ((s1.take k).set m (.pool o (rs ++ [(a, .lst us)])))) : inpN i k Q l δ s1 := ⟨m, n, o, rs, us, h1, h2, h3, h4, h5, h6, fun a => ⟨h7 a, q a⟩⟩
def pInpS (i : Nat) (t : ATS) : ATS := fun A δ s => t { A with nx := inpN i s.length A.nx .mk } δ s
section
variable {X : Cx} {M : MP} {st : Stmt} {t : ATS}
theorem ap_inpS (i : Nat) (h : AP X M st t) : AP X M st (pInpS i t) := ⟨_, h.ps, fun H B φ σ δ s A re sl q D f => uS_lift (t := t) H B φ σ δ s _ re sl q D ⟨fun H1 B1 φ1 s1 σ1 δ1 g1 re1 sl1 ⟨m, n, o, rs, us, h1, h2, h3, h4, h5, h6, q1⟩ => by
  obtain ⟨a, φ3, g3, re3, ra, hna, rt3⟩ := re1.takeIn g1 re (Nat.le_of_eq re.len) h4 h2 h5 h3 h6
  obtain ⟨hl, q1⟩ := q1 a
  refine f.nx _ _ _ _ _ _ g3 re3 ⟨by rw [List.length_map]; exact sl1.len, fun i x e => ?_⟩ (q1 hna)
  have hlow := List.all_eq_true.mp hl _ (List.mem_of_getElem? e)
  rw [List.getElem?_map] at e
  cases hd : δ1[i]? with
  | none => rw [hd] at e; cases e
  | some y =>
    rw [hd] at e
    have e : bkD n a y = some x := Option.some.inj e
    cases y with
    | none => cases e
    | some y =>
      obtain ⟨v, hv, r⟩ := sl1.at_ i y hd
      cases y with
      | d u => cases e; exact ⟨v, hv, r⟩
      | l j =>
        obtain ⟨p, hp, rfl⟩ := r
        have e : (if j = n then some (SV.d (.ref a)) else some (.l j)) = some x := e
        by_cases hn : j = n
        · rw [if_pos hn] at e
          cases e
          subst hn
          rw [ra] at hp
          cases hp
          exact ⟨_, hv, Fz.ref a⟩
        · rw [if_neg hn] at e
          cases e
          exact ⟨_, hv, p, rt3 j p (of_decide_eq_true hlow) hp, rfl⟩, f.rt, f.bk, f.ct⟩⟩
end
section
variable {X : Cx} {M : MP} {tg e : Expr} {va : ATE}
/-- over a pool's own list of data -/
def aSeqP (t : ATE) : ATI := fun δ s Q => t δ s fun x s1 => ∃ n ts, x = .l n ∧ (∃ rs, s1[n]? = some (.pool (.lst ts) rs)) ∧ Q ts (fun s => ∃ rs, s[n]? = some (.pool (.lst ts) rs)) s1
theorem ai_seqP (h : AE X M e va) : AI X M tg e (aSeqP va) := by
  refine ⟨_, pi_seq h.pe, fun H B φ σ δ s Q re sl q R f => uE_lift (t := va) H B φ σ δ s _ re sl q _ fun H1 B1 φ1 s1 v x g1 re1 r1 ⟨n, ts, ex, gd, q1⟩ => ?_⟩
  subst ex
  obtain ⟨p, hp, rfl⟩ := r1
  have hk : ∀ H2 B2 φ2 s2, Gr H1 B1 φ1 H2 B2 φ2 → Re X.K M H2 B2 φ2 s2 → (∃ rs, s2[n]? = some (.pool (.lst ts) rs)) → ∃ ws, Src.rd X.K (.L p) H2 ws ∧ FzAll X.K B2 ws ts := fun H2 B2 φ2 s2 g2 re2 ⟨rs, hs⟩ => by
    obtain ⟨c, hc, w1, w2, ⟨vs, f1, e1⟩, _⟩ := re2.poolAt hs
    have hp2 := g2.get hp
    rw [Fi.r_of hc] at hp2
    cases hp2
    exact ⟨vs, SqL.of e1, f1⟩
  obtain ⟨ws, hr, fw⟩ := hk _ _ _ _ .refl re1 gd
  refine ⟨.L p, ws, rfl, hr, f _ _ _ _ _ _ _ g1 re1 ⟨fun H => ∃ ws, (Src.L p).rd X.K H ws ∧ ws.length = ts.length, ((Src.L p).itr X.K).yld, ?_, fun H2 B2 φ2 s2 g2 re2 gd2 => ?_, fun i H2 x H3 B2 φ2 s2 g2 re2 gd2 hi y => ?_⟩ q1⟩
  · exact ⟨fun i H hi ⟨ws, h1, h2⟩ => ⟨ws, ws[i]'(by omega), h1, by simp [h2, hi]⟩, fun H ⟨ws, h1, h2⟩ => ⟨ws, h1, by omega⟩, fun i H x H' _ _ y => y⟩
  · obtain ⟨ws, hr, fw⟩ := hk _ _ _ _ g2 re2 gd2
    exact ⟨ws, hr, fw.length⟩
  · obtain ⟨ws, hr, fw⟩ := hk _ _ _ _ g2 re2 gd2
    obtain ⟨rfl, hx⟩ := y
    obtain ⟨t, ht, r⟩ := fw.get (hx ws hr)
    exact ⟨B2, t, ht, .refl, re2, r⟩
end
end Lv

namespace K20
open PySem L2 LvI Lv Kq Kr
section
set_option hygiene false in
local macro_rules | `(tactic| fail "S") => `(tactic| simp -dsimp [↓fldG, ↓setG, ↓pFld, ↓aMet, ↓aMk, ↓aFrz, ↓aCl, ↓isIn, ↓aLstS, ↓dmG, ↓aLenSet, ↓isCG, ↓pBody, ↓ownC, ↓endC, ↓endW, ↓pSeq, ↓pIf, ↓pSet, ↓pAsg, ↓pRet, ↓pRetN, ↓pNext, ↓pDrop, ↓pBlk, ↓pWip, ↓pBrk, ↓pCnt, ↓pPar, ↓pAug, ↓pAugL, ↓ipAddG, ↓aFr, ↓aFrT, ↓aTest, ↓aNot, ↓aOp, ↓aUn, ↓aVar, ↓aC, ↓aSetL, ↓aName, ↓agNil, ↓agCons_c, ↓aTupG_2, ↓aTupG_2l, ↓aTupG_3, ↓aTupG_3l, ↓aTupG_4, ↓aTupG_l, ↓aIfE, ↓aAndV, ↓aOrV, ↓aNotV, ↓aAnd, ↓aOr, ↓aDat, ↓aNil, ↓aCons, ↓aTup, ↓aLst, ↓aSl, ↓aRev, ↓aCall, ↓aMe, ↓aMe0, ↓aLc, ↓aLstRg, ↓ixG, ↓cmpG, ↓isG, ↓modG, ↓fdivG, ↓addG, ↓subG, ↓mulG, ↓negG, ↓absG, ↓lenG, ↓appG, ↓powG, ↓eqG, ↓isiG_eq, ↓isiH, ↓maxG, ↓minG, ↓sumG, ↓allG, ↓anyG, ↓listG, ↓tupleG, ↓intG, ↓slG, ↓idxG, ↓aSeq_eq, ↓aRng1, ↓aRng2, ↓aEnm_eq, ↓aZip_eq, ↓wkH, ↓sortG, ↓aRem, ↓popAtG, ↓revG, ↓clrG, ↓popG, ↓extG, ↓insG, ↓jnG, ↓cntG, ↓splG, ↓aYes, ↓aFn_eq, ↓pFor_eq, ↓pForS_eq, ↓pWhile_eq, ↓aLcI_eq, ↓aChain, ↓aCutT, ↓aCut, ↓aKn, ↓aNo, ↓aPart, ↓aFnV, ↓aTru, ↓shlG, ↓shrG, ↓oddG, ↓reprG, ↓strG, ↓pPar3, ↓aSortSet, ↓pBodyK, ↓pBlkK, ↓aKp, ↓aSetd, ↓setdG, ↓aDic0, ↓aKd_eq, ↓aDIx_eq, ↓mulSG, ↓pCutS, ↓aDisp, ↓dispG, ↓aDic0T, ↓aDGetT, ↓aDInT, ↓pDPutT, ↓dgetT, ↓dputT, ↓pLock, ↓aDKeys, ↓aDItems, ↓mtG, ↓aMinL, ↓aMaxL, ↓listKG, ↓aSlR, ↓aLenSetI, ↓ltDG, ↓aRevT, ↓aZipN, ↓aOpn, ↓opnS, ↓aBx, ↓bxS, ↓shS, ↓grpO, ↓updTG, ↓dctTG, ↓dctKG, ↓updKG, ↓sidxG, ↓pDropA, ↓sortSG, ↓pDPutL, ↓aSetR, ↓sortTG, ↓aSlT, ↓slTG, ↓aOpnK, ↓aSortSetS, ↓aValsD, ↓listTG, ↓pInpS, ↓aSeqP, ↓aLnd, ↓pLnd, ↓aInp, ↓aToP, ↓aMeP, ↓appPG, ↓isPL, ↓addBG, ↓subBG, ↓dpop1T, ↓dpop2T, ↓dpop1K, ↓aDPop1, ↓aDInN, ↓dinN, ↓aGet1, ↓aGet2, ↓dgetA, ↓aKeysD, ↓aItemsD, ↓pDPutD, ↓dputD, ↓dputD1, ↓dputD0, ↓aDicD, ↓aDicP, ↓pDPutP, ↓aLocks, ↓pLocks, ↓lk1, ↓sk1, ↓aChain3, ↓blK, ↓aLcS_eq, ↓aFnVD, ↓cntDG, ↓cntLG, ↓aDGet, ↓aDIn, ↓pDPut, ↓dputK, ↓aDisp1, ↓sortDG, ↓pFldAug, ↓augRf, ↓aMeR, ↓aLcP_eq, ↓pMrg, ↓dgetK, ↓pFrzV, ↓frzA, ↓pRaise, ↓pTry, ↓endA, ↓aMetX, ↓aClX, ↓aMkX, ↓aMkE, ↓whatG, ↓isXG, ↓erT_eq, ↓eaF, lk, isA, putA, ofS_inj, slots, atI_0, atI_1, atI_2, atI_3, ixN_tab, lsV, sqV, dats, clO_lst, clO_gone, clO_dK, clO_dT, lowS, simO, isTy, wipeA, wkV, grd, tyN, toC, argL, ren, renN, renO, putAll, M0, tysB, kitsB, kit_tab, sz_tab, rgT_len, pyV_d, pyV_l, flatO, flatS, T.flat, truG, datV_d, datV_l, optT, datF, selS, mvS, mvN, mvO, kpO, inS, inN, mvA, isMK, keyT, putS_nil, putS_cons, valS_nil, valS_cons, dtS, tksT, anyI, minGK_2, maxGK_2, lkE_nx, lkE_rt, kyT, lsZ, putsS_nil, putsS_cons, bkD, lowD, List.eraseIdx_cons_zero, List.eraseIdx_cons_succ, tksN, hasN, allS, anyN, lkK, lkT, grL, isDS, valS_dvs, zip_dvs, zip_dvs3, zip_dvs2, zip_pairs, lkN, skN, lkd, lkb, lkE_nx, lkE_rt, kyT, dtS, tksT, anyI, flatOD, flatSD, T.nol, T.nols, dkS, freshP, mergeS, frzD, frzT, isE, anyE, clsE_ty])
set_option hygiene false in
local macro_rules | `(tactic| specialize ⟨$[$xs:term],*⟩) => `(tactic| simp -dsimp [↓fldG, ↓setG, ↓pFld, ↓aMet, ↓aMk, ↓aFrz, ↓aCl, ↓isIn, ↓aLstS, ↓dmG, ↓aLenSet, ↓isCG, ↓pBody, ↓ownC, ↓endC, ↓endW, ↓pSeq, ↓pIf, ↓pSet, ↓pAsg, ↓pRet, ↓pRetN, ↓pNext, ↓pDrop, ↓pBlk, ↓pWip, ↓pBrk, ↓pCnt, ↓pPar, ↓pAug, ↓pAugL, ↓ipAddG, ↓aFr, ↓aFrT, ↓aTest, ↓aNot, ↓aOp, ↓aUn, ↓aVar, ↓aC, ↓aSetL, ↓aName, ↓agNil, ↓agCons_c, ↓aTupG_2, ↓aTupG_2l, ↓aTupG_3, ↓aTupG_3l, ↓aTupG_4, ↓aTupG_l, ↓aIfE, ↓aAndV, ↓aOrV, ↓aNotV, ↓aAnd, ↓aOr, ↓aDat, ↓aNil, ↓aCons, ↓aTup, ↓aLst, ↓aSl, ↓aRev, ↓aCall, ↓aMe, ↓aMe0, ↓aLc, ↓aLstRg, ↓ixG, ↓cmpG, ↓isG, ↓modG, ↓fdivG, ↓addG, ↓subG, ↓mulG, ↓negG, ↓absG, ↓lenG, ↓appG, ↓powG, ↓eqG, ↓isiG_eq, ↓isiH, ↓maxG, ↓minG, ↓sumG, ↓allG, ↓anyG, ↓listG, ↓tupleG, ↓intG, ↓slG, ↓idxG, ↓aSeq_eq, ↓aRng1, ↓aRng2, ↓aEnm_eq, ↓aZip_eq, ↓wkH, ↓sortG, ↓aRem, ↓popAtG, ↓revG, ↓clrG, ↓popG, ↓extG, ↓insG, ↓jnG, ↓cntG, ↓splG, ↓aYes, ↓aFn_eq, ↓pFor_eq, ↓pForS_eq, ↓pWhile_eq, ↓aLcI_eq, ↓aChain, ↓aCutT, ↓aCut, ↓aKn, ↓aNo, ↓aPart, ↓aFnV, ↓aTru, ↓shlG, ↓shrG, ↓oddG, ↓reprG, ↓strG, ↓pPar3, ↓aSortSet, ↓pBodyK, ↓pBlkK, ↓aKp, ↓aSetd, ↓setdG, ↓aDic0, ↓aKd_eq, ↓aDIx_eq, ↓mulSG, ↓pCutS, ↓aDisp, ↓dispG, ↓aDic0T, ↓aDGetT, ↓aDInT, ↓pDPutT, ↓dgetT, ↓dputT, ↓pLock, ↓aDKeys, ↓aDItems, ↓mtG, ↓aMinL, ↓aMaxL, ↓listKG, ↓aSlR, ↓aLenSetI, ↓ltDG, ↓aRevT, ↓aZipN, ↓aOpn, ↓opnS, ↓aBx, ↓bxS, ↓shS, ↓grpO, ↓updTG, ↓dctTG, ↓dctKG, ↓updKG, ↓sidxG, ↓pDropA, ↓sortSG, ↓pDPutL, ↓aSetR, ↓sortTG, ↓aSlT, ↓slTG, ↓aOpnK, ↓aSortSetS, ↓aValsD, ↓listTG, ↓pInpS, ↓aSeqP, ↓aLnd, ↓pLnd, ↓aInp, ↓aToP, ↓aMeP, ↓appPG, ↓isPL, ↓addBG, ↓subBG, ↓dpop1T, ↓dpop2T, ↓dpop1K, ↓aDPop1, ↓aDInN, ↓dinN, ↓aGet1, ↓aGet2, ↓dgetA, ↓aKeysD, ↓aItemsD, ↓pDPutD, ↓dputD, ↓dputD1, ↓dputD0, ↓aDicD, ↓aDicP, ↓pDPutP, ↓aLocks, ↓pLocks, ↓lk1, ↓sk1, ↓aChain3, ↓blK, ↓aLcS_eq, ↓aFnVD, ↓cntDG, ↓cntLG, ↓aDGet, ↓aDIn, ↓pDPut, ↓dputK, ↓aDisp1, ↓sortDG, ↓pFldAug, ↓augRf, ↓aMeR, ↓aLcP_eq, ↓pMrg, ↓dgetK, ↓pFrzV, ↓frzA, ↓pRaise, ↓pTry, ↓endA, ↓aMetX, ↓aClX, ↓aMkX, ↓aMkE, ↓whatG, ↓isXG, ↓erT_eq, ↓eaF, lk, isA, putA, ofS_inj, slots, atI_0, atI_1, atI_2, atI_3, ixN_tab, lsV, sqV, dats, clO_lst, clO_gone, clO_dK, clO_dT, lowS, simO, isTy, wipeA, wkV, grd, tyN, toC, argL, ren, renN, renO, putAll, M0, tysB, kitsB, kit_tab, sz_tab, rgT_len, pyV_d, pyV_l, flatO, flatS, T.flat, truG, datV_d, datV_l, optT, datF, selS, mvS, mvN, mvO, kpO, inS, inN, mvA, isMK, keyT, putS_nil, putS_cons, valS_nil, valS_cons, dtS, tksT, anyI, minGK_2, maxGK_2, lkE_nx, lkE_rt, kyT, lsZ, putsS_nil, putsS_cons, bkD, lowD, List.eraseIdx_cons_zero, List.eraseIdx_cons_succ, tksN, hasN, allS, anyN, lkK, lkT, grL, isDS, valS_dvs, zip_dvs, zip_dvs3, zip_dvs2, zip_pairs, lkN, skN, lkd, lkb, lkE_nx, lkE_rt, kyT, dtS, tksT, anyI, flatOD, flatSD, T.nol, T.nols, dkS, freshP, mergeS, frzD, frzT, isE, anyE, clsE_ty, $[$xs:term],*])
def top (i : Nat) : Stmt := PySem.Challenge.pw_nightberths_k20_keeping_again_and_shared.main.body.getD i (.Pass ⟨0, 0, 0, 0⟩)
abbrev s_p_loads : Stmt := top 1
abbrev s_p_fullest : Stmt := top 2
abbrev s_p_is_number : Stmt := top 4
abbrev s_p_is_rising : Stmt := top 5
abbrev s_p_has : Stmt := top 7
abbrev s_p_kept_of : Stmt := top 8
abbrev s_p_count_within : Stmt := top 9
abbrev s_p_paper_of : Stmt := top 10
abbrev s_p_are_places : Stmt := top 11
abbrev s_p_shows_most : Stmt := top 12
abbrev s_cell_at : Stmt := top 14
abbrev s_box : Stmt := top 15
abbrev s_take : Stmt := top 16
abbrev s_stretch : Stmt := top 17
abbrev s_asks : Stmt := top 18
abbrev s_same : Stmt := top 19
abbrev s_counted : Stmt := top 20
abbrev s_rooms : Stmt := top 21
abbrev s_kept : Stmt := top 22
abbrev s_missing : Stmt := top 23
abbrev s_is_rising : Stmt := top 24
abbrev s_put : Stmt := top 25
abbrev s_is_paper : Stmt := top 26
abbrev s_asked : Stmt := top 27
abbrev s_law : Stmt := top 28
abbrev N_p_loads : List Str := ["asks", "legs", "found", "a", "b", "leg"]
theorem sc_p_loads : FnScope N_p_loads ["asks", "legs"] (defScope s_p_loads) := ⟨rfl, rfl, rfl, by decide +kernel, rfl, by decide +kernel, by decide +kernel⟩
abbrev N_p_fullest : List Str := ["asks", "legs", "found", "most"]
theorem sc_p_fullest : FnScope N_p_fullest ["asks", "legs"] (defScope s_p_fullest) := ⟨rfl, rfl, rfl, by decide +kernel, rfl, by decide +kernel, by decide +kernel⟩
abbrev N_p_is_number : List Str := ["thing"]
theorem sc_p_is_number : FnScope N_p_is_number ["thing"] (defScope s_p_is_number) := ⟨rfl, rfl, rfl, by decide +kernel, rfl, by decide +kernel, by decide +kernel⟩
abbrev N_p_is_rising : List Str := ["numbers", "one", "other"]
theorem sc_p_is_rising : FnScope N_p_is_rising ["numbers"] (defScope s_p_is_rising) := ⟨rfl, rfl, rfl, by decide +kernel, rfl, by decide +kernel, by decide +kernel⟩
abbrev N_p_has : List Str := ["ask", "leg"]
theorem sc_p_has : FnScope N_p_has ["ask", "leg"] (defScope s_p_has) := ⟨rfl, rfl, rfl, by decide +kernel, rfl, by decide +kernel, by decide +kernel⟩
abbrev N_p_kept_of : List Str := ["asks", "room", "kept", "leg", "many", "here", "left", "end", "place"]
theorem sc_p_kept_of : FnScope N_p_kept_of ["asks", "room"] (defScope s_p_kept_of) := ⟨rfl, rfl, rfl, by decide +kernel, rfl, by decide +kernel, by decide +kernel⟩
abbrev N_p_count_within : List Str := ["asks", "a", "b", "ask"]
theorem sc_p_count_within : FnScope N_p_count_within ["asks", "a", "b"] (defScope s_p_count_within) := ⟨rfl, rfl, rfl, by decide +kernel, rfl, by decide +kernel, by decide +kernel⟩
abbrev N_p_paper_of : List Str := ["asks", "room", "least", "leg", "own", "some", "last", "total", "legs"]
theorem sc_p_paper_of : FnScope N_p_paper_of ["asks", "room"] (defScope s_p_paper_of) := ⟨rfl, rfl, rfl, by decide +kernel, rfl, by decide +kernel, by decide +kernel⟩
abbrev N_p_are_places : List Str := ["thing", "many", "one"]
theorem sc_p_are_places : FnScope N_p_are_places ["thing", "many"] (defScope s_p_are_places) := ⟨rfl, rfl, rfl, by decide +kernel, rfl, by decide +kernel, by decide +kernel⟩
abbrev N_p_shows_most : List Str := ["asks", "room", "thing", "kept", "legs", "missing", "ask", "load", "many", "leg", "place"]
theorem sc_p_shows_most : FnScope N_p_shows_most ["asks", "room", "thing"] (defScope s_p_shows_most) := ⟨rfl, rfl, rfl, by decide +kernel, rfl, by decide +kernel, by decide +kernel⟩
abbrev N_cell_at : List Str := ["_law_script", "_law_k"]
theorem sc_cell_at : FnScope N_cell_at ["_law_script", "_law_k"] (defScope s_cell_at) := ⟨rfl, rfl, rfl, by decide +kernel, rfl, by decide +kernel, by decide +kernel⟩
abbrev N_box : List Str := ["_law_script", "_law_k", "_law_cell"]
theorem sc_box : FnScope N_box ["_law_script", "_law_k"] (defScope s_box) := ⟨rfl, rfl, rfl, by decide +kernel, rfl, by decide +kernel, by decide +kernel⟩
abbrev N_take : List Str := ["_law_box_here", "_law_many", "_law_found", "_law_once", "_law_twice"]
theorem sc_take : FnScope N_take ["_law_box_here", "_law_many"] (defScope s_take) := ⟨rfl, rfl, rfl, by decide +kernel, rfl, by decide +kernel, by decide +kernel⟩
abbrev N_stretch : List Str := ["_law_box_here", "_law_stops", "_law_a"]
theorem sc_stretch : FnScope N_stretch ["_law_box_here", "_law_stops"] (defScope s_stretch) := ⟨rfl, rfl, rfl, by decide +kernel, rfl, by decide +kernel, by decide +kernel⟩
abbrev N_asks : List Str := ["_law_box_here", "_law_legs", "_law_many", "_law_asks_here", "_law_k"]
theorem sc_asks : FnScope N_asks ["_law_box_here", "_law_legs", "_law_many"] (defScope s_asks) := ⟨rfl, rfl, rfl, by decide +kernel, rfl, by decide +kernel, by decide +kernel⟩
abbrev N_same : List Str := ["_law_found", "_law_due", "_law_one", "_law_other"]
theorem sc_same : FnScope N_same ["_law_found", "_law_due"] (defScope s_same) := ⟨rfl, rfl, rfl, by decide +kernel, rfl, by decide +kernel, by decide +kernel⟩
abbrev N_counted : List Str := ["_law_asks_here", "_law_leg", "_law_ask"]
theorem sc_counted : FnScope N_counted ["_law_asks_here", "_law_leg"] (defScope s_counted) := ⟨rfl, rfl, rfl, by decide +kernel, rfl, by decide +kernel, by decide +kernel⟩
abbrev N_rooms : List Str := ["_law_box_here", "_law_asks_here", "_law_legs", "_law_way", "_law_room", "_law_leg", "_law_near", "_law_one"]
theorem sc_rooms : FnScope N_rooms ["_law_box_here", "_law_asks_here", "_law_legs"] (defScope s_rooms) := ⟨rfl, rfl, rfl, by decide +kernel, rfl, by decide +kernel, by decide +kernel⟩
abbrev N_kept : List Str := ["_law_asks_here", "_law_room", "_law_kept_here", "_law_leg", "_law_many", "_law_here", "_law_last", "_law_place"]
theorem sc_kept : FnScope N_kept ["_law_asks_here", "_law_room"] (defScope s_kept) := ⟨rfl, rfl, rfl, by decide +kernel, rfl, by decide +kernel, by decide +kernel⟩
abbrev N_missing : List Str := ["_law_asks_here", "_law_legs", "_law_found", "_law_a", "_law_b", "_law_leg"]
theorem sc_missing : FnScope N_missing ["_law_asks_here", "_law_legs"] (defScope s_missing) := ⟨rfl, rfl, rfl, by decide +kernel, rfl, by decide +kernel, by decide +kernel⟩
abbrev N_is_rising : List Str := ["_law_thing", "_law_many", "_law_one", "_law_other"]
theorem sc_is_rising : FnScope N_is_rising ["_law_thing", "_law_many"] (defScope s_is_rising) := ⟨rfl, rfl, rfl, by decide +kernel, rfl, by decide +kernel, by decide +kernel⟩
abbrev N_put : List Str := ["_law_box_here", "_law_case", "_law_legs", "_law_asks_here", "_law_room", "_law_way"]
theorem sc_put : FnScope N_put ["_law_box_here", "_law_case", "_law_legs"] (defScope s_put) := ⟨rfl, rfl, rfl, by decide +kernel, rfl, by decide +kernel, by decide +kernel⟩
abbrev N_is_paper : List Str := ["_law_asks_here", "_law_room", "_law_found", "_law_total", "_law_leg"]
theorem sc_is_paper : FnScope N_is_paper ["_law_asks_here", "_law_room", "_law_found"] (defScope s_is_paper) := ⟨rfl, rfl, rfl, by decide +kernel, rfl, by decide +kernel, by decide +kernel⟩
abbrev N_asked : List Str := ["_law_which", "_law_case", "_law_legs", "_law_asks_here", "_law_room", "_law_counts", "_law_found", "_law_fine", "_law_leg"]
theorem sc_asked : FnScope N_asked ["_law_which", "_law_case", "_law_legs"] (defScope s_asked) := ⟨rfl, rfl, rfl, by decide +kernel, rfl, by decide +kernel, by decide +kernel⟩
abbrev N_law : List Str := ["_law_script", "_law_k", "_law_box_here", "_law_legs", "_law_cases", "_law_held", "_law_turn", "_law_asks_here", "_law_case", "_law_seen", "_law_found", "_law_right", "_law_due"]
theorem sc_law : FnScope N_law ["_law_script"] (defScope s_law) := ⟨rfl, rfl, rfl, by decide +kernel, rfl, by decide +kernel, by decide +kernel⟩
structure Tx (mg : Str → Option Value) : Prop where
  m_abs : mg "abs" = none
  m_all : mg "all" = none
  m_any : mg "any" = none
  m_bool : mg "bool" = none
  m_enumerate : mg "enumerate" = none
  m_int : mg "int" = none
  m_isinstance : mg "isinstance" = none
  m_len : mg "len" = none
  m_list : mg "list" = none
  m_max : mg "max" = none
  m_min : mg "min" = none
  m_range : mg "range" = none
  m_repr : mg "repr" = none
  m_sorted : mg "sorted" = none
  m_str : mg "str" = none
  m_sum : mg "sum" = none
  m_tuple : mg "tuple" = none
  m_zip : mg "zip" = none
structure Ds (K : Fr) (mg : Str → Option Value) : Prop where
  d_p_loads : Df K mg "loads" "loads" s_p_loads ["asks", "legs"]
  d_p_fullest : Df K mg "fullest" "fullest" s_p_fullest ["asks", "legs"]
  d_p_is_number : Df K mg "is_number" "is_number" s_p_is_number ["thing"]
  d_p_is_rising : Df K mg "is_rising" "is_rising" s_p_is_rising ["numbers"]
  d_p_has : Df K mg "has" "has" s_p_has ["ask", "leg"]
  d_p_kept_of : Df K mg "kept_of" "kept_of" s_p_kept_of ["asks", "room"]
  d_p_count_within : Df K mg "count_within" "count_within" s_p_count_within ["asks", "a", "b"]
  d_p_paper_of : Df K mg "paper_of" "paper_of" s_p_paper_of ["asks", "room"]
  d_p_are_places : Df K mg "are_places" "are_places" s_p_are_places ["thing", "many"]
  d_p_shows_most : Df K mg "shows_most" "shows_most" s_p_shows_most ["asks", "room", "thing"]
  d_cell_at : Df K mg "_law_cell_at" "_law_cell_at" s_cell_at ["_law_script", "_law_k"]
  d_box : Df K mg "_law_box" "_law_box" s_box ["_law_script", "_law_k"]
  d_take : Df K mg "_law_take" "_law_take" s_take ["_law_box_here", "_law_many"]
  d_stretch : Df K mg "_law_stretch" "_law_stretch" s_stretch ["_law_box_here", "_law_stops"]
  d_asks : Df K mg "_law_asks" "_law_asks" s_asks ["_law_box_here", "_law_legs", "_law_many"]
  d_same : Df K mg "_law_same" "_law_same" s_same ["_law_found", "_law_due"]
  d_counted : Df K mg "_law_counted" "_law_counted" s_counted ["_law_asks_here", "_law_leg"]
  d_rooms : Df K mg "_law_rooms" "_law_rooms" s_rooms ["_law_box_here", "_law_asks_here", "_law_legs"]
  d_kept : Df K mg "_law_kept" "_law_kept" s_kept ["_law_asks_here", "_law_room"]
  d_missing : Df K mg "_law_missing" "_law_missing" s_missing ["_law_asks_here", "_law_legs"]
  d_is_rising : Df K mg "_law_is_rising" "_law_is_rising" s_is_rising ["_law_thing", "_law_many"]
  d_put : Df K mg "_law_put" "_law_put" s_put ["_law_box_here", "_law_case", "_law_legs"]
  d_is_paper : Df K mg "_law_is_paper" "_law_is_paper" s_is_paper ["_law_asks_here", "_law_room", "_law_found"]
  d_asked : Df K mg "_law_asked" "_law_asked" s_asked ["_law_which", "_law_case", "_law_legs"]
  d_law : Df K mg "law" "law" s_law ["_law_script"]
variable {P : Program} {w : World} {K : Fr} {mg : Str → Option Value} {base : Heap}
def sp_take : ASp := fun vs s Q => ∃ (o : LO) (β n : Int), vs = [.l 0, .d (.int n)] ∧ s = [o] ∧ Bx β o ∧ β < 2 ^ 40 ∧ 0 < n ∧ n < 2 ^ 30 ∧ ∀ (r : Nat) ts, (r : Int) < n → Bx (β + 1) (.lst ts) → Q (.d (.int r)) [.lst ts]
theorem len_take : ∀ vs s Q, sp_take vs s Q → vs.length = 2 := fun vs s Q ⟨o, β, n, h, _⟩ => by rw [h]; rfl
theorem ok_take (U : Tx mg) (D : Ds K mg)  : Cal P w K mg base 1 "_law_take" ["_law_box_here", "_law_many"] sp_take := by
  refine Df.cal D.d_take sc_take (len_take) fun f cdv A outer s H E hr => ?_
  have hu : (A.deeper (PyProof.Rows.envOfC "_law_take" (defScope s_take) s.heap.objs.size f cdv)).units + 64 < cLine := by have := hr.un; omega
  have hu5 : (A.deeper (PyProof.Rows.envOfC "_law_take" (defScope s_take) s.heap.objs.size f cdv)).units + 65 < cLine := by have := hr.un; omega
  refine ⟨_, (ap_cons (ap_if (at_c c_gt (ae_ix (ae_v (pv 0)) ae_int) ae_int) (ap_cons (ap_set (i := 2) sc_take.nd (ae_mod (ae_ix (ae_v (pv 0)) ae_int) (ae_v (pv 1))))
      (ap_cons (ap_asg (ae_fdiv (ae_ix (ae_v (pv 0)) ae_int) (ae_v (pv 1))) (ag_sub (ae_v (pv 0)) ae_int))
      (ap_one (ap_ret (ae_v (pv 2)))))) ap_nil)
      (ap_cons (ap_asg (ae_add (ae_ix (ae_v (pv 0)) ae_int) ae_int) (ag_sub (ae_v (pv 0)) ae_int))
      (ap_cons (ap_set (i := 3) sc_take.nd (ae_mod (ae_mul (ae_add (ae_ix (ae_v (pv 0)) ae_int) (ae_mul ae_int (ae_ix (ae_v (pv 0)) ae_int))) (ae_add ae_int (ae_ix (ae_v (pv 0)) ae_int))) ae_int))
      (ap_cons (ap_set (i := 4) sc_take.nd (ae_mod (ae_mul (ae_add (ae_v (pv 3)) (ae_ix (ae_v (pv 0)) ae_int)) (ae_add (ae_mod (ae_v (pv 3)) ae_int) ae_int)) ae_int))
      (ap_one (ap_ret (ae_mod (ae_fdiv (ae_mod (ae_add (ae_mul (ae_v (pv 4)) ae_int) (ae_v (pv 3))) ae_int) ae_int) (ae_v (pv 1))))))))), ?_⟩
  rintro svs s0 Q ⟨o, β, n, rfl, rfl, ⟨a, m, c, rfl, ha, hm, hm2, hc, hc2⟩, hb, hn, hn2, hQ⟩
  fail "S"
  refine ⟨fun h => ⟨hn, cd_s ⟨hn, by omega⟩, ?_⟩, fun h => ?_⟩
  · obtain ⟨r, hr⟩ := nat_of (Int.emod_nonneg a (show n ≠ 0 by omega))
    rw [hr]
    exact hQ r _ (by rw [← hr]; exact Int.emod_lt_of_pos a hn) ⟨_, _, _, rfl, Int.ediv_nonneg ha (by omega), hm, hm2, hc, by omega⟩
  · generalize (m + 48271 * (c + 1)) * (39373 + (c + 1)) = u
    generalize hv : (u % 2147483647 + (c + 1)) * (u % 2147483647 % 40009 + 7) = v
    refine ⟨cm_l (by omega), cm_l (by omega), cm_l (by omega), cm_l (by omega), cd_s (by omega), hn, ?_⟩
    generalize (v % 2147483629 * 48271 + u % 2147483647) % 2147483587 / 64 = x
    obtain ⟨r, hr⟩ := nat_of (Int.emod_nonneg x (show n ≠ 0 by omega))
    rw [hr]
    exact hQ r _ (by rw [← hr]; exact Int.emod_lt_of_pos x hn) ⟨_, _, _, rfl, ha, hm, hm2, by omega, by omega⟩
def sp_cell_at : ASp := fun vs s Q => ∃ (ns : List Int) (k : Nat), vs = [.d (.scr (ns.map .int)), .d (.int k)] ∧ s = [] ∧ ∀ c, Q (.d (.int c)) s
theorem len_cell_at : ∀ vs s Q, sp_cell_at vs s Q → vs.length = 2 := fun vs s Q ⟨o, n, h, _⟩ => by rw [h]; rfl
theorem ok_cell_at (U : Tx mg) (D : Ds K mg)  : Cal P w K mg base 1 "_law_cell_at" ["_law_script", "_law_k"] sp_cell_at := by
  refine Df.cal D.d_cell_at sc_cell_at (len_cell_at) fun f cdv A outer s H E hr => ?_
  have hu : (A.deeper (PyProof.Rows.envOfC "_law_cell_at" (defScope s_cell_at) s.heap.objs.size f cdv)).units + 64 < cLine := by have := hr.un; omega
  have hu5 : (A.deeper (PyProof.Rows.envOfC "_law_cell_at" (defScope s_cell_at) s.heap.objs.size f cdv)).units + 65 < cLine := by have := hr.un; omega
  refine ⟨_, (ap_cons (ap_if (at_c c_lt (ae_v (pv 1)) (ae_len U.m_len (aa_cons (ae_v (pv 0)) aa_nil))) (ap_one (ap_ret (ae_ix (ae_v (pv 0)) (ae_v (pv 1))))) ap_nil)
      (ap_one (ap_ret ae_int))), ?_⟩
  rintro svs s0 Q ⟨ns, k, rfl, rfl, hQ⟩
  fail "S"
  exact ⟨fun h => ⟨_, atI_at (by rw [List.getElem?_map, List.getElem?_eq_getElem h]; rfl), hQ ns[k]⟩, fun h => hQ 0⟩
def sp_box : ASp := fun vs s Q => ∃ (ns : List Int) (k : Nat), vs = [.d (.scr (ns.map .int)), .d (.int k)] ∧ s = [] ∧ k ≤ 1000 ∧ ∀ ts, Bx 0 (.lst ts) → Q (.l 0) [.lst ts]
theorem len_box : ∀ vs s Q, sp_box vs s Q → vs.length = 2 := fun vs s Q ⟨o, n, h, _⟩ => by rw [h]; rfl
theorem ok_box (U : Tx mg) (D : Ds K mg) (C_cell_at : Cal P w K mg base 1 "_law_cell_at" ["_law_script", "_law_k"] sp_cell_at) : Cal P w K mg base 2 "_law_box" ["_law_script", "_law_k"] sp_box := by
  refine Df.cal D.d_box sc_box (len_box) fun f cdv A outer s H E hr => ?_
  have hu : (A.deeper (PyProof.Rows.envOfC "_law_box" (defScope s_box) s.heap.objs.size f cdv)).units + 64 < cLine := by have := hr.un; omega
  have hu5 : (A.deeper (PyProof.Rows.envOfC "_law_box" (defScope s_box) s.heap.objs.size f cdv)).units + 65 < cLine := by have := hr.un; omega
  refine ⟨_, (ap_cons (ap_set (i := 2) sc_box.nd (ae_cal C_cell_at (hr.mono (by omega)) (aa_cons (ae_v (pv 0)) (aa_cons (ae_v (pv 1)) aa_nil))))
      (ap_one (ap_ret (ae_lst (aa_cons (ae_mul (ae_abs U.m_abs (aa_cons (ae_v (pv 2)) aa_nil)) (ae_int_ U.m_int (aa_cons (ae_c c_ge (ae_abs U.m_abs (aa_cons (ae_v (pv 2)) aa_nil)) (ae_pow ae_int ae_int)) aa_nil))) (aa_cons (ae_add (ae_add (ae_mod (ae_v (pv 2)) ae_int) (ae_mul ae_int (ae_v (pv 1)))) ae_int) (aa_cons ae_int aa_nil))))))), ?_⟩
  rintro svs s0 Q ⟨ns, k, rfl, rfl, hk, hQ⟩
  fail "S"
  refine callK_of rfl rfl ⟨ns, k, rfl, rfl, fun c => ?_⟩
  fail "S"
  have s1 : (0 : Int) ≤ (if c < 0 then -c else c) := by split <;> omega
  generalize (if c < 0 then -c else c) = u at s1
  have s2 : (0 : Int) ≤ (if 1000000000000000000 ≤ u then 1 else 0) ∧ (if 1000000000000000000 ≤ u then (1 : Int) else 0) ≤ 1 := by split <;> omega
  generalize (if 1000000000000000000 ≤ u then (1 : Int) else 0) = b at s2
  refine ⟨by unfold CPow; decide, cm_r (by omega), cm_l (by omega), hQ _ ⟨_, _, _, rfl, Int.mul_nonneg s1 s2.1, by omega, by omega, by omega, by omega⟩⟩
def sp_stretch : ASp := fun vs s Q => ∃ (o : LO) (β : Int) (n : Nat), vs = [.l 0, .d (.int n)] ∧ s = [o] ∧ Bx β o ∧ β < 2 ^ 39 ∧ 2 ≤ n ∧ n ≤ 10000 ∧ ∀ (a b : Nat) ts, a < b → b < n → Bx (β + 3) (.lst ts) → Q (.d (.tup [.int a, .int b])) [.lst ts]
theorem len_stretch : ∀ vs s Q, sp_stretch vs s Q → vs.length = 2 := fun vs s Q ⟨o, β, n, h, _⟩ => by rw [h]; rfl
theorem ok_stretch (U : Tx mg) (D : Ds K mg) (C_take : Cal P w K mg base 1 "_law_take" ["_law_box_here", "_law_many"] sp_take) : Cal P w K mg base 2 "_law_stretch" ["_law_box_here", "_law_stops"] sp_stretch := by
  refine Df.cal D.d_stretch sc_stretch (len_stretch) fun f cdv A outer s H E hr => ?_
  have hu : (A.deeper (PyProof.Rows.envOfC "_law_stretch" (defScope s_stretch) s.heap.objs.size f cdv)).units + 64 < cLine := by have := hr.un; omega
  have hu5 : (A.deeper (PyProof.Rows.envOfC "_law_stretch" (defScope s_stretch) s.heap.objs.size f cdv)).units + 65 < cLine := by have := hr.un; omega
  refine ⟨_, (ap_cons (ap_set (i := 2) sc_stretch.nd (ae_cal C_take (hr.mono (by omega)) (aa_cons (ae_v (pv 0)) (aa_cons (ae_sub (ae_v (pv 1)) ae_int) aa_nil))))
      (ap_one (ap_ret (ae_tup (aa_cons (ae_v (pv 2)) (aa_cons (ae_add (ae_add (ae_v (pv 2)) ae_int) (ae_cal C_take (hr.mono (by omega)) (aa_cons (ae_v (pv 0)) (aa_cons (ae_ix (ae_dat (ae_lst (aa_cons (ae_sub (ae_sub (ae_v (pv 1)) ae_int) (ae_v (pv 2))) (aa_cons (ae_min U.m_min (aa_cons ae_int (aa_cons (ae_sub (ae_sub (ae_v (pv 1)) ae_int) (ae_v (pv 2))) aa_nil))) aa_nil)))) (ae_cal C_take (hr.mono (by omega)) (aa_cons (ae_v (pv 0)) (aa_cons ae_int aa_nil)))) aa_nil)))) aa_nil)))))), ?_⟩
  rintro svs s0 Q ⟨o, β, n, rfl, rfl, hB, hb, hn, hn2, hQ⟩
  obtain ⟨ts, rfl⟩ := hB.lst
  fail "S"
  refine callK_of rfl rfl ⟨_, β, (n : Int) - 1, rfl, rfl, hB, by omega, by omega, by omega, fun r ts' hr hB' => ?_⟩
  fail "S"
  refine callK_of rfl rfl ⟨_, β + 1, 2, rfl, rfl, hB', by omega, by omega, by omega, fun r2 ts2 hr2 hB2 => ?_⟩
  fail "S"
  have hz : ∃ z : Int, atI [T.int ((n : Int) - 1 - r), T.int (if (n : Int) - 1 - r < 3 then (n : Int) - 1 - r else 3)] (r2 : Int) = some (T.int z) ∧ 0 < z ∧ z ≤ (n : Int) - 1 - r := by
    have : r2 = 0 ∨ r2 = 1 := by omega
    rcases this with rfl | rfl
    · exact ⟨_, rfl, by omega, by omega⟩
    · refine ⟨_, rfl, ?_, ?_⟩ <;> split <;> omega
  obtain ⟨z, hz, hz1, hz2⟩ := hz
  refine ⟨_, hz, callK_of rfl rfl ⟨_, β + 2, z, rfl, rfl, hB2.mono (by omega), by omega, by omega, by omega, fun r3 ts3 hr3 hB3 => ?_⟩⟩
  fail "S"
  have := hQ r (r + 1 + r3) ts3 (by omega) (by omega) (hB3.mono (by omega))
  simpa using this
def sp_asks : ASp := fun vs s Q => ∃ (o : LO) (β : Int) (n m : Nat), vs = [.l 0, .d (.int n), .d (.int m)] ∧ s = [o] ∧ Bx β o ∧ β < 2 ^ 38 ∧ 1 ≤ n ∧ n ≤ 1000 ∧ m ≤ 100000 ∧
  ∀ (as : List (Nat × Nat)) ts, (∀ p ∈ as, p.1 < p.2 ∧ p.2 ≤ n) → as.length = m → Bx (β + 5 * m) (.lst ts) → Q (.l 1) [.lst ts, .lst (asT as)]
theorem len_asks : ∀ vs s Q, sp_asks vs s Q → vs.length = 3 := fun vs s Q ⟨o, β, n, m, h, _⟩ => by rw [h]; rfl
theorem ok_asks (U : Tx mg) (D : Ds K mg) (C_take : Cal P w K mg base 1 "_law_take" ["_law_box_here", "_law_many"] sp_take) (C_stretch : Cal P w K mg base 2 "_law_stretch" ["_law_box_here", "_law_stops"] sp_stretch) : Cal P w K mg base 3 "_law_asks" ["_law_box_here", "_law_legs", "_law_many"] sp_asks := by
  refine Df.cal D.d_asks sc_asks (len_asks) fun f cdv A outer s H E hr => ?_
  have hu : (A.deeper (PyProof.Rows.envOfC "_law_asks" (defScope s_asks) s.heap.objs.size f cdv)).units + 64 < cLine := by have := hr.un; omega
  have hu5 : (A.deeper (PyProof.Rows.envOfC "_law_asks" (defScope s_asks) s.heap.objs.size f cdv)).units + 65 < cLine := by have := hr.un; omega
  refine ⟨_, (ap_cons (ap_set (i := 3) sc_asks.nd (ae_lst aa_nil))
      (ap_cons (ap_for PassesOwn.never (ai_range1 U.m_range (ae_v (pv 2))) (ag_name (i := 4) sc_asks.nd) (ap_blk [4] (ap_one (ap_if ((aw_and (at_c (c_ne hu) (ae_v (pv 3)) (ae_dat (ae_lst aa_nil))) (aw_and1 (at_c (c_eq hu) (ae_cal C_take (hr.mono (by omega)) (aa_cons (ae_v (pv 0)) (aa_cons ae_int aa_nil))) ae_int)))).at_ (ap_one (ap_expr (ae_append (ae_v (pv 3)) (aa_cons (ae_ix (ae_v (pv 3)) (ae_cal C_take (hr.mono (by omega)) (aa_cons (ae_v (pv 0)) (aa_cons (ae_len U.m_len (aa_cons (ae_v (pv 3)) aa_nil)) aa_nil)))) aa_nil)))) (ap_one (ap_expr (ae_append (ae_v (pv 3)) (aa_cons (ae_cal C_stretch (hr.mono (by omega)) (aa_cons (ae_v (pv 0)) (aa_cons (ae_add (ae_v (pv 1)) ae_int) aa_nil))) aa_nil))))))))
      (ap_one (ap_ret (ae_v (pv 3)))))), ?_⟩
  rintro svs s0 Q ⟨o, β, n, m, rfl, rfl, hB, hb, hn, hn2, hm, hQ⟩
  obtain ⟨ts, rfl⟩ := hB.lst
  fail "S"
  refine pFor_of (Z := List (Nat × Nat) × List T) (rgT 0 m) (fun i z => (∀ p ∈ z.1, p.1 < p.2 ∧ p.2 ≤ n) ∧ z.1.length = i ∧ Bx (β + 5 * i) (.lst z.2))
    (fun _ => [some (.l 0), some (.d (.int n)), some (.d (.int m)), some (.l 1), none]) (fun z => [.lst z.2, .lst (asT z.1)]) ?_ ⟨([], ts), ⟨by simp, rfl, by simpa using hB⟩, rfl, rfl⟩ ?_ ?_
  · intro Q' h
    fail "S"
    exact ⟨by omega, h (fun _ => True) fun _ _ _ => trivial⟩
  · rintro i x ⟨as, us⟩ hx ⟨h1, h2, h3⟩ C hC B R hB hR
    dsimp only at h1 h2 h3 hC ⊢
    obtain ⟨hi, rfl⟩ := rgT_lt hx
    have hsz : as.length < sizeLine := Nat.lt_of_le_of_lt (show as.length ≤ 100000 by omega) (by decide)
    fail "S"
    have done : ∀ (a b : Nat) (γ : Int) us', a < b → b < n + 1 → Bx γ (.lst us') → γ ≤ β + 5 * i + 5 → (asT as).length < sizeLine ∧ C [some (.l 0), some (.d (.int n)), some (.d (.int m)), some (.l 1), none] [.lst us', .lst (asT as ++ [.tup [.int a, .int b]])] := fun a b γ us' h4 h5 h6 h7 =>
      ⟨by rw [asT_len]; exact hsz, by
        rw [asT_app as (a, b)]
        refine hC (as ++ [(a, b)], us') ⟨fun p hp => ?_, by simp [h2], h6.mono (by omega)⟩
        rcases List.mem_append.mp hp with hp | hp
        · exact h1 p hp
        · rw [List.mem_singleton.mp hp]; exact ⟨h4, by show b ≤ n; omega⟩⟩
    refine ⟨shaped_ok (n := 2) (ok_asT as), shaped_ok (n := 2) rfl, fun he => ?_, fun _ => ?_⟩
    · have hne : as ≠ [] := fun e => by subst e; cases he
      have hpos := List.length_pos_iff.mpr hne
      refine callK_of rfl rfl ⟨_, _, 6, rfl, rfl, h3, by omega, by omega, by omega, fun r ts' hr hB' => ?_⟩
      fail "S"
      refine ⟨fun _ => ?_, fun _ => ?_⟩
      · rw [asT_len]
        refine callK_of rfl rfl ⟨_, _, as.length, rfl, rfl, hB', by omega, by omega, by omega, fun r2 ts2 hr2 hB2 => ?_⟩
        have hr3 : r2 < as.length := by omega
        specialize ⟨asT_len⟩
        refine ⟨_, atI_at (asT_get hr3), ?_⟩
        obtain ⟨q1, q2⟩ := h1 _ (List.getElem_mem hr3)
        exact ⟨hsz, (done _ _ _ _ q1 (by omega) hB2 (by omega)).2⟩
      · refine callK_of rfl rfl ⟨_, _, n + 1, rfl, rfl, hB', by omega, by omega, by omega, fun a b ts2 hab hbn hB2 => ?_⟩
        fail "S"
        exact done a b _ _ hab hbn hB2 (by omega)
    · refine callK_of rfl rfl ⟨_, _, n + 1, rfl, rfl, h3, by omega, by omega, by omega, fun a b ts' hab hbn hB' => ?_⟩
      fail "S"
      exact done a b _ _ hab hbn hB' (by omega)
  · rintro ⟨as, us⟩ ⟨h1, h2, h3⟩
    dsimp only at h1 h2 h3 ⊢
    rw [rgT_len] at h2 h3
    fail "S"
    exact hQ as us h1 (by omega) (h3.mono (by omega))

/-- x is the data t: as it is, or a list of one's own -/
def isD (x : SV) (s : ST) (t : T) : Prop := (x = .d t ∧ s = []) ∨ ∃ ts, t = .lst ts ∧ x = .l 0 ∧ s = [.lst ts]
def spS_same (k : Nat) : ASp := fun vs s Q => ∃ (n : Nat) (x : SV) (t : T), k = n + 1 ∧ vs = [x, .d t] ∧ isD x s t ∧ T.ok n t = true ∧ T.sz t = true ∧ Q (.d (.bl true)) s
theorem len_same (k : Nat) : ∀ vs s Q, spS_same k vs s Q → vs.length = 2 := fun vs s Q ⟨n, x, t, _, h, _⟩ => by rw [h]; rfl
theorem st_same (n : Nat) (U : Tx mg) (D : Ds K mg)  (C_same : Cal P w K mg base (n) "_law_same" ["_law_found", "_law_due"] (spS_same n)) : Cal P w K mg base (n + 1) "_law_same" ["_law_found", "_law_due"] (spS_same (n + 1)) := by
  refine Df.cal D.d_same sc_same (len_same (n + 1)) fun f cdv A outer s H E hr => ?_
  have hu : (A.deeper (PyProof.Rows.envOfC "_law_same" (defScope s_same) s.heap.objs.size f cdv)).units + 64 < cLine := by have := hr.un; omega
  have hu5 : (A.deeper (PyProof.Rows.envOfC "_law_same" (defScope s_same) s.heap.objs.size f cdv)).units + 65 < cLine := by have := hr.un; omega
  refine ⟨_, (ap_cons (ap_if (at_val (ae_isi U.m_isinstance (aa_cons (ae_v (pv 1)) (aa_cons (ae_tup (aa_cons (ae_ty U.m_list (by rfl)) (aa_cons (ae_ty U.m_tuple (by rfl)) aa_nil))) aa_nil)))) (ap_cons (ap_if ((aw_or (at_c (c_ne hu) (ae_isi U.m_isinstance (aa_cons (ae_v (pv 0)) (aa_cons (ae_ty U.m_list (by rfl)) aa_nil))) (ae_isi U.m_isinstance (aa_cons (ae_v (pv 1)) (aa_cons (ae_ty U.m_list (by rfl)) aa_nil)))) (aw_or1 (at_c (c_ne hu) (ae_isi U.m_isinstance (aa_cons (ae_v (pv 0)) (aa_cons (ae_ty U.m_tuple (by rfl)) aa_nil))) (ae_isi U.m_isinstance (aa_cons (ae_v (pv 1)) (aa_cons (ae_ty U.m_tuple (by rfl)) aa_nil))))))).at_ (ap_one (ap_ret ae_bl)) ap_nil)
      (ap_one (ap_ret (ae_and (ae_c (c_eq hu) (ae_len U.m_len (aa_cons (ae_v (pv 0)) aa_nil)) (ae_len U.m_len (aa_cons (ae_v (pv 1)) aa_nil))) (ae_one (ae_all U.m_all (aa_cons (ae_dat (ae_lc (own := [("_law_one", 2), ("_law_other", 3)]) sc_same.nd (ai_zip U.m_zip (ae_v (pv 0)) (ae_v (pv 1))) (blkOk_by (own := [("_law_one", 2), ("_law_other", 3)]) (N := N_same) (sc := defScope s_same) (by decide +kernel)) (fun _ _ _ _ _ => (ag_tup (n := 2) rfl (ags_cons (ag_name (i := 2) sc_same.nd) (ags_cons (ag_name (i := 3) sc_same.nd) ags_nil)))) (fun _ _ _ _ _ => ats_nil) (fun _ _ _ _ _ => (ae_cal C_same (hr.mono (by omega)) (aa_cons (ae_v (pv 2)) (aa_cons (ae_v (pv 3)) aa_nil)))))) aa_nil))))))) ap_nil)
      (ap_cons (ap_if ((aw_or (at_c c_is (ae_v (pv 1)) ae_non) (aw_or1 (at_val (ae_isi U.m_isinstance (aa_cons (ae_v (pv 1)) (aa_cons (ae_tup (aa_cons (ae_ty U.m_str (by rfl)) (aa_cons (ae_ty U.m_bool (by rfl)) aa_nil))) aa_nil))))))).at_ (ap_one (ap_ret (ae_and (ae_c (c_eq hu) (ae_v (pv 0)) (ae_v (pv 1))) (ae_one (ae_c (c_eq hu) (ae_isi U.m_isinstance (aa_cons (ae_v (pv 0)) (aa_cons (ae_ty U.m_bool (by rfl)) aa_nil))) (ae_isi U.m_isinstance (aa_cons (ae_v (pv 1)) (aa_cons (ae_ty U.m_bool (by rfl)) aa_nil)))))))) ap_nil)
      (ap_one (ap_ret (ae_and (ae_isi U.m_isinstance (aa_cons (ae_v (pv 0)) (aa_cons (ae_ty U.m_int (by rfl)) aa_nil))) (ae_and (ae_not (ae_isi U.m_isinstance (aa_cons (ae_v (pv 0)) (aa_cons (ae_ty U.m_bool (by rfl)) aa_nil)))) (ae_one (ae_c (c_eq hu) (ae_v (pv 0)) (ae_v (pv 1)))))))))), ?_⟩
  rintro svs s0 Q ⟨k, x, t, hk, rfl, hD, hok, hsz, hQ⟩
  cases t with
  | int i =>
    rcases hD with ⟨rfl, rfl⟩ | ⟨ts, h, _⟩
    · fail "S"
      exact hQ
    · cases h
  | non =>
    rcases hD with ⟨rfl, rfl⟩ | ⟨ts, h, _⟩
    · have e := eqv_self hok
      specialize ⟨e⟩
      exact ⟨shaped_ok (n := 0) rfl, hQ⟩
    · cases h
  | bl b =>
    rcases hD with ⟨rfl, rfl⟩ | ⟨ts, h, _⟩
    · fail "S"
      exact hQ
    · cases h
  | str z =>
    rcases hD with ⟨rfl, rfl⟩ | ⟨ts, h, _⟩
    · fail "S"
      exact hQ
    · cases h
  | lst ts =>
    obtain ⟨m, rfl, ho⟩ := ok_lst hok
    obtain ⟨hl, hz⟩ := sz_lst hsz
    rcases hD with ⟨rfl, rfl⟩ | ⟨ts', h, rfl, rfl⟩
    · fail "S"
      refine lcI_pure (zpT ts ts) (fun _ => true) (fun _ => .bl true) (by rw [zpT_len, Nat.min_self]; exact hl) ?_ ?_ ?_
      · intro Q' h
        fail "S"
        exact h _ (by first | exact ⟨trivial, trivial⟩ | exact ⟨rfl, trivial⟩ | trivial | rfl)
      · intro i x hx acc C hacc hT hF
        obtain ⟨t, ht, rfl⟩ := zpT_self hx
        fail "S"
        refine callK_of rfl rfl ⟨m, .d t, t, by omega, rfl, .inl ⟨rfl, rfl⟩, List.all_eq_true.mp ho t ht, List.all_eq_true.mp hz t ht, ?_⟩
        fail "S"
        exact ⟨hacc, hT rfl⟩
      · fail "S"
        refine ⟨List.replicate (zpT ts ts).length true, by rw [filt_true, List.map_replicate]; exact List.map_const' .., ?_⟩
        simp
        exact hQ
    · cases h
      fail "S"
      refine lcI_pure (zpT ts ts) (fun _ => true) (fun _ => .bl true) (by rw [zpT_len, Nat.min_self]; exact hl) ?_ ?_ ?_
      · intro Q' h
        fail "S"
        exact h _ (by first | exact ⟨trivial, trivial⟩ | exact ⟨rfl, trivial⟩ | trivial | rfl)
      · intro i x hx acc C hacc hT hF
        obtain ⟨t, ht, rfl⟩ := zpT_self hx
        fail "S"
        refine callK_of rfl rfl ⟨m, .d t, t, by omega, rfl, .inl ⟨rfl, rfl⟩, List.all_eq_true.mp ho t ht, List.all_eq_true.mp hz t ht, ?_⟩
        fail "S"
        exact ⟨hacc, hT rfl⟩
      · fail "S"
        refine ⟨List.replicate (zpT ts ts).length true, by rw [filt_true, List.map_replicate]; exact List.map_const' .., ?_⟩
        simp
        exact hQ
  | tup ts =>
    obtain ⟨m, rfl, ho⟩ := ok_tup hok
    obtain ⟨hl, hz⟩ := sz_tup hsz
    rcases hD with ⟨rfl, rfl⟩ | ⟨ts', h, rfl, rfl⟩
    · fail "S"
      refine lcI_pure (zpT ts ts) (fun _ => true) (fun _ => .bl true) (by rw [zpT_len, Nat.min_self]; exact hl) ?_ ?_ ?_
      · intro Q' h
        fail "S"
        exact h _ (by first | exact ⟨trivial, trivial⟩ | exact ⟨rfl, trivial⟩ | trivial | rfl)
      · intro i x hx acc C hacc hT hF
        obtain ⟨t, ht, rfl⟩ := zpT_self hx
        fail "S"
        refine callK_of rfl rfl ⟨m, .d t, t, by omega, rfl, .inl ⟨rfl, rfl⟩, List.all_eq_true.mp ho t ht, List.all_eq_true.mp hz t ht, ?_⟩
        fail "S"
        exact ⟨hacc, hT rfl⟩
      · fail "S"
        refine ⟨List.replicate (zpT ts ts).length true, by rw [filt_true, List.map_replicate]; exact List.map_const' .., ?_⟩
        simp
        exact hQ
    · cases h
  | scr _ => unfold T.ok at hok; cases hok
  | ref _ => unfold T.ok at hok; cases hok
  | ty _ => unfold T.ok at hok; cases hok
  | obj _ _ _ => unfold T.ok at hok; cases hok
  | dk _ _ => unfold T.ok at hok; cases hok
  | dt _ _ => unfold T.ok at hok; cases hok
  | exc _ _ => unfold T.ok at hok; cases hok
theorem ok_same (U : Tx mg) (D : Ds K mg) : Cal P w K mg base 4 "_law_same" ["_law_found", "_law_due"] (spS_same 4) :=
  st_same 3 U D (st_same 2 U D (st_same 1 U D (st_same 0 U D (D.d_same.none fun vs s Q ⟨n, _, _, h, _⟩ => by cases h))))

/-- asks as data -/
def sp_counted : ASp := fun vs s Q => ∃ (as : List (Nat × Nat)) (i : Nat), vs = [.d (.lst (asT as)), .d (.int i)] ∧ s = [] ∧ as.length ≤ 1000 ∧ Q (.d (.int (cnt as i : Nat))) s
theorem len_counted : ∀ vs s Q, sp_counted vs s Q → vs.length = 2 := fun vs s Q ⟨x, as, h, _⟩ => by rw [h]; rfl
theorem ok_counted (U : Tx mg) (D : Ds K mg)  : Cal P w K mg base 1 "_law_counted" ["_law_asks_here", "_law_leg"] sp_counted := by
  refine Df.cal D.d_counted sc_counted (len_counted) fun f cdv A outer s H E hr => ?_
  have hu : (A.deeper (PyProof.Rows.envOfC "_law_counted" (defScope s_counted) s.heap.objs.size f cdv)).units + 64 < cLine := by have := hr.un; omega
  have hu5 : (A.deeper (PyProof.Rows.envOfC "_law_counted" (defScope s_counted) s.heap.objs.size f cdv)).units + 65 < cLine := by have := hr.un; omega
  refine ⟨_, (ap_one (ap_ret (ae_len U.m_len (aa_cons (ae_dat (ae_lc (own := [("_law_ask", 2)]) sc_counted.nd (ai_seq (ae_v (pv 0))) (blkOk_by (own := [("_law_ask", 2)]) (N := N_counted) (sc := defScope s_counted) (by decide +kernel)) (fun _ _ _ _ _ => (ag_name (i := 2) sc_counted.nd)) (fun _ _ _ _ _ => (ats_one (at_chain c_le c_lt (ae_ix (ae_v (pv 2)) ae_int) (ae_v (pv 1)) (ae_ix (ae_v (pv 2)) ae_int)))) (fun _ _ _ _ _ => (ae_v (pv 2))))) aa_nil)))), ?_⟩
  rintro svs s0 Q ⟨as, k, rfl, rfl, hl, hQ⟩
  fail "S"
  refine lcI_pure (asT as) (fLeg k) (fun x => x) (by rw [asT_len]; exact Nat.lt_of_le_of_lt hl (by decide)) ?_ ?_ ?_
  · intro Q' h
    fail "S"
    exact h _ trivial
  · intro i x hx acc C hacc hT hF
    have hi := (List.getElem?_eq_some_iff.mp hx).1
    rw [asT_len] at hi
    rw [asT_get hi] at hx
    cases hx
    generalize as[i] = p at hT hF
    have e : fLeg k (.tup [.int p.1, .int p.2]) = decide (p.1 ≤ k ∧ k < p.2) := by show decide ((p.1 : Int) ≤ k ∧ (k : Int) < p.2) = _; simp
    rw [e] at hT hF
    fail "S"
    by_cases h1 : p.1 ≤ k
    · by_cases h2 : k < p.2
      · have := hT (by simp [h1, h2])
        simp [h1, h2, hacc, this, Nat.not_le.mpr h2, Nat.not_lt.mpr h1]
      · have := hF (by simp [h2])
        simp [h1, h2, this, Nat.not_lt.mp h2]
    · have := hF (by simp [h1])
      simp [h1, this]
  · fail "S"
    rw [fLeg_len]
    exact hQ

def sp_p_has : ASp := fun vs s Q => ∃ (a b i : Nat), vs = [.d (.tup [.int a, .int b]), .d (.int i)] ∧ s = [] ∧ Q (.d (.bl (hasL (a, b) i))) []
theorem len_p_has : ∀ vs s Q, sp_p_has vs s Q → vs.length = 2 := fun vs s Q ⟨a, b, i, h, _⟩ => by rw [h]; rfl
theorem ok_p_has (U : Tx mg) (D : Ds K mg)  : Cal P w K mg base 1 "has" ["ask", "leg"] sp_p_has := by
  refine Df.cal D.d_p_has sc_p_has (len_p_has) fun f cdv A outer s H E hr => ?_
  have hu : (A.deeper (PyProof.Rows.envOfC "has" (defScope s_p_has) s.heap.objs.size f cdv)).units + 64 < cLine := by have := hr.un; omega
  have hu5 : (A.deeper (PyProof.Rows.envOfC "has" (defScope s_p_has) s.heap.objs.size f cdv)).units + 65 < cLine := by have := hr.un; omega
  refine ⟨_, (ap_one (ap_ret (ae_chain c_le c_lt (ae_ix (ae_v (pv 0)) ae_int) (ae_v (pv 1)) (ae_ix (ae_v (pv 0)) ae_int)))), ?_⟩
  rintro svs s0 Q ⟨a, b, i, rfl, rfl, hQ⟩
  fail "S"
  unfold hasL at hQ
  by_cases h1 : a ≤ i
  · by_cases h2 : i < b
    · simp [h1, h2] at hQ ⊢
      exact ⟨hQ, fun h => absurd h (by omega)⟩
    · simp [h1, h2] at hQ ⊢
      exact ⟨hQ, fun _ => hQ⟩
  · simp [h1] at hQ ⊢
    exact fun _ => hQ
def sp_p_kept_of : ASp := fun vs s Q => ∃ (x y : T) (as : List (Nat × Nat)) (room : List Nat), vs = [.d x, .d y] ∧ s = [] ∧ sqL x (asT as) ∧ sqL y (natT room) ∧ as.length ≤ 1000 ∧ room.length ≤ 1000 ∧ (∀ p ∈ as, p.1 < p.2) ∧ Q (.l 0) [.lst (natT (keptN as room room.length))]
theorem len_p_kept_of : ∀ vs s Q, sp_p_kept_of vs s Q → vs.length = 2 := fun vs s Q ⟨x, y, a, i, h, _⟩ => by rw [h]; rfl
theorem ok_p_kept_of (U : Tx mg) (D : Ds K mg) (C_p_has : Cal P w K mg base 1 "has" ["ask", "leg"] sp_p_has) : Cal P w K mg base 2 "kept_of" ["asks", "room"] sp_p_kept_of := by
  refine Df.cal D.d_p_kept_of sc_p_kept_of (len_p_kept_of) fun f cdv A outer s H E hr => ?_
  have hu : (A.deeper (PyProof.Rows.envOfC "kept_of" (defScope s_p_kept_of) s.heap.objs.size f cdv)).units + 64 < cLine := by have := hr.un; omega
  have hu5 : (A.deeper (PyProof.Rows.envOfC "kept_of" (defScope s_p_kept_of) s.heap.objs.size f cdv)).units + 65 < cLine := by have := hr.un; omega
  refine ⟨_, (ap_cons (ap_set (i := 2) sc_p_kept_of.nd (ae_listRg U.m_list U.m_range (ae_len U.m_len (aa_cons (ae_v (pv 0)) aa_nil))))
      (ap_cons (ap_for PassesOwn.never (ai_enum U.m_enumerate (ae_v (pv 1))) (ag_tup (n := 2) rfl (ags_cons (ag_name (i := 3) sc_p_kept_of.nd) (ags_cons (ag_name (i := 4) sc_p_kept_of.nd) ags_nil))) (ap_wip [3, 4, 5, 6, 8, 7] (ap_cons (ap_set (i := 5) sc_p_kept_of.nd (ae_dat (ae_sorted hu U.m_sorted (aa_cons (ae_dat (ae_lc (own := [("place", 8)]) sc_p_kept_of.nd (ai_seq (ae_v (pv 2))) (blkOk_by (own := [("place", 8)]) (N := N_p_kept_of) (sc := defScope s_p_kept_of) (by decide +kernel)) (fun _ _ _ _ _ => (ag_name (i := 8) sc_p_kept_of.nd)) (fun _ _ _ _ _ => (ats_one (at_val (ae_cal C_p_has (hr.mono (by omega)) (aa_cons (ae_ix (ae_v (pv 0)) (ae_v (pv 8))) (aa_cons (ae_v (pv 3)) aa_nil)))))) (fun _ _ _ _ _ => (ae_tup (aa_cons (ae_ix (ae_ix (ae_v (pv 0)) (ae_v (pv 8))) ae_int) (aa_cons (ae_v (pv 8)) aa_nil)))))) aa_nil))))
      (ap_cons (ap_set (i := 6) sc_p_kept_of.nd (ae_dat (ae_lc (own := [("end", 7), ("place", 8)]) sc_p_kept_of.nd (ai_seq (ae_dat (ae_sl (ae_v (pv 5)) (ao_some (ae_v (pv 4))) ao_none))) (blkOk_by (own := [("end", 7), ("place", 8)]) (N := N_p_kept_of) (sc := defScope s_p_kept_of) (by decide +kernel)) (fun _ _ _ _ _ => (ag_tup (n := 2) rfl (ags_cons (ag_name (i := 7) sc_p_kept_of.nd) (ags_cons (ag_name (i := 8) sc_p_kept_of.nd) ags_nil)))) (fun _ _ _ _ _ => ats_nil) (fun _ _ _ _ _ => (ae_v (pv 8))))))
      (ap_one (ap_setLc (i := 2) (own := [("place", 8)]) sc_p_kept_of.nd (ai_seq (ae_v (pv 2))) (blkOk_by (own := [("place", 8)]) (N := N_p_kept_of) (sc := defScope s_p_kept_of) (by decide +kernel)) (fun _ _ _ _ _ => (ag_name (i := 8) sc_p_kept_of.nd)) (fun _ _ _ _ _ => (ats_one (at_c (c_nin hu5) (ae_v (pv 8)) (ae_v (pv 6))))) (fun _ _ _ _ _ => (ae_v (pv 8))) lift_fr (sw_true rfl rfl rfl (by decide +kernel))))))))
      (ap_one (ap_ret (ae_v (pv 2)))))), ?_⟩
  rintro svs s0 Q ⟨x, y, as, room, rfl, rfl, hx, hy, hl, hr2, hp, hQ⟩
  rcases hx with rfl | rfl <;> (
    specialize ⟨asT_len⟩
    refine ⟨RgOk.of_le (by omega) (by omega) (by omega) (by omega), ?_⟩
    refine pFor_of (Z := Nat × Nat × ST) (enT (natT room)) (fun i z => z.1 = i ∧ z.2.2[z.2.1]? = some (.lst (natT (keptN as room i))) ∧ (∀ k, ∀ o ∈ z.2.2, clO k o = true))
      (fun z => [some (.d _), some (.d y), some (.l z.2.1), none, none, none, none, none, none]) (fun z => z.2.2) ?_ ⟨(0, 0, _), ⟨rfl, ?_, ?_⟩, rfl, rfl⟩ ?_ ?_
    · intro Q' h
      rcases hy with rfl | rfl <;> (fail "S"; exact h _ fun _ _ _ => trivial)
    · show some _ = some _
      rw [rg_natT]; rfl
    · intro k o ho
      rw [List.mem_singleton.mp ho]; rfl
    · rintro i w ⟨z, n, st⟩ hw ⟨hz, hn, hc⟩ C hC B R hB hR
      dsimp only at hz hn hc hC ⊢
      subst hz
      have hi := (List.getElem?_eq_some_iff.mp hw).1
      rw [enT_len, natT_len] at hi
      have hm : room[z]? = some room[z] := List.getElem?_eq_getElem hi
      rw [enT_get (natT_get hi)] at hw
      cases hw
      have hkl := keptN_len as room z
      have hkm := keptN_lt as room z
      have hstep : keptN as room (z + 1) = stepK as z room[z] (keptN as room z) := by show stepK as z (room[z]?.getD 0) _ = _; rw [hm]; rfl
      generalize keptN as room z = kept at hn hkl hkm hstep
      generalize room[z] = m at hstep
      specialize ⟨hn, tk_app, ix_app⟩
      refine lcI_pure (natT kept) (fHas as z) (fKey as) (by rw [natT_len]; exact len_lt (by omega)) ?_ ?_ ?_
      · intro Q' h
        specialize ⟨hn⟩
        exact h _ hn
      · intro i x hx acc C2 hacc hT hF
        obtain ⟨p, hp1, rfl⟩ := natT_at hx
        have hpl := hkm p (List.mem_of_getElem? hp1)
        specialize ⟨hn⟩
        refine ⟨_, atI_at (askAt_get hpl), callK_of rfl rfl ⟨_, _, z, rfl, rfl, ?_⟩⟩
        rw [fHas_at, fKey_at] at *
        specialize ⟨hn⟩
        refine ⟨fun hb => ⟨_, atI_at (askAt_get hpl), ?_⟩, fun hb => ?_⟩
        · fail "S"
          exact ⟨hacc, hT hb⟩
        · exact hF hb
      · rw [here_eq]
        specialize ⟨hn, tk_app, ix_app⟩
        have hsz : ((hereL as z kept).map fun p => ((askAt as p).2, p)).length ≤ 1000 := by
          rw [List.length_map]; exact Nat.le_trans (List.length_filter_le _ _) (by omega)
        obtain ⟨s1, s2, s3⟩ := sort_ok ((hereL as z kept).map fun p => ((askAt as p).2, p))
        refine ⟨hc _, s1, s2, s3, hc _, ?_⟩
        rw [sort_asT]
        have hleft : leftL as z m kept = ((((hereL as z kept).map fun p => ((askAt as p).2, p)).mergeSort lexN).drop m).map Prod.snd := rfl
        have hsz2 : (((hereL as z kept).map fun p => ((askAt as p).2, p)).mergeSort lexN).length ≤ 1000 := by rw [List.length_mergeSort]; exact hsz
        generalize ((hereL as z kept).map fun p => ((askAt as p).2, p)).mergeSort lexN = srt at hleft hsz2
        refine lcI_pure (asT (srt.drop m)) (fun _ => true) fSnd (by rw [asT_len, List.length_drop]; exact len_lt (by omega)) ?_ ?_ ?_
        · intro Q' h
          specialize ⟨hn, tk_app, ix_app, cut_drop, asT_drop⟩
          exact ⟨hc _, h _ trivial⟩
        · intro i x hx acc C2 hacc hT hF
          have hi := (List.getElem?_eq_some_iff.mp hx).1
          rw [asT_len] at hi
          rw [asT_get hi] at hx
          cases hx
          generalize (srt.drop m)[i] = q at hT hF
          fail "S"
          exact ⟨hacc, hT rfl⟩
        · rw [filt_true, snd_eq, ← hleft]
          specialize ⟨hn, tk_app, ix_app⟩
          refine ⟨hc _, ?_⟩
          have hst : stepK as z m kept = kept.filter fun p => !(leftL as z m kept).contains p := rfl
          rw [hst] at hstep
          generalize leftL as z m kept = left at hleft hstep
          refine lcI_pure (natT kept) (fNot left) (fun x => x) (by rw [natT_len]; exact len_lt (by omega)) ?_ ?_ ?_
          · intro Q' h
            specialize ⟨hn⟩
            exact h _ hn
          · intro i x hx acc C2 hacc hT hF
            obtain ⟨p, hp1, rfl⟩ := natT_at hx
            fail "S"
            refine inG_nat ?_
            rw [fNot_at] at *
            cases hq : left.contains p with
            | true => exact ⟨fun h => (nomatch h), fun _ => hF (by rw [hq]; rfl)⟩
            | false => exact ⟨fun _ => ⟨hacc, hT (by rw [hq]; rfl)⟩, fun h => (nomatch h)⟩
          · rw [map_id', natT_filter]
            specialize ⟨hn, tk_app, ix_app⟩
            refine ⟨hc _, hC (z + 1, st.length, st ++ [.lst (natT (kept.filter fun i => fNot left (.int (i : Nat))))]) ⟨rfl, ?_, ?_⟩⟩
            · rw [hstep]; exact ix_app ..
            · intro k o ho
              rcases List.mem_append.mp ho with ho | ho
              · exact hc k o ho
              · rw [List.mem_singleton.mp ho]; rfl
    · rintro ⟨z, n, st⟩ ⟨e1, e2, e3⟩
      dsimp only at e1 e2 e3 ⊢
      rw [enT_len, natT_len] at e2
      fail "S"
      exact ⟨_, e2, rfl, hQ⟩)
/-- rooms of legs -/
def sp_rooms : ASp := fun vs s Q => ∃ (o : LO) (β : Int) (as : List (Nat × Nat)) (n : Nat), vs = [.l 0, .d (.lst (asT as)), .d (.int n)] ∧ s = [o] ∧ Bx β o ∧ β < 2 ^ 38 ∧ as.length ≤ 1000 ∧ n ≤ 1000 ∧
  ∀ (room : List Nat) ts, room.length = n → (∀ x ∈ room, x ≤ 60) → Bx (β + 1 + 4 * n) (.lst ts) → Q (.l 1) [.lst ts, .lst (natT room)]
theorem len_rooms : ∀ vs s Q, sp_rooms vs s Q → vs.length = 3 := fun vs s Q ⟨o, β, as, n, h, _⟩ => by rw [h]; rfl
theorem ok_rooms (U : Tx mg) (D : Ds K mg) (C_take : Cal P w K mg base 1 "_law_take" ["_law_box_here", "_law_many"] sp_take) (C_counted : Cal P w K mg base 1 "_law_counted" ["_law_asks_here", "_law_leg"] sp_counted) : Cal P w K mg base 2 "_law_rooms" ["_law_box_here", "_law_asks_here", "_law_legs"] sp_rooms := by
  refine Df.cal D.d_rooms sc_rooms (len_rooms) fun f cdv A outer s H E hr => ?_
  have hu : (A.deeper (PyProof.Rows.envOfC "_law_rooms" (defScope s_rooms) s.heap.objs.size f cdv)).units + 64 < cLine := by have := hr.un; omega
  have hu5 : (A.deeper (PyProof.Rows.envOfC "_law_rooms" (defScope s_rooms) s.heap.objs.size f cdv)).units + 65 < cLine := by have := hr.un; omega
  refine ⟨_, (ap_cons (ap_par (i := 3) (j := 4) sc_rooms.nd (aa_cons (ae_cal C_take (hr.mono (by omega)) (aa_cons (ae_v (pv 0)) (aa_cons ae_int aa_nil))) (aa_cons (ae_lst aa_nil) aa_nil)) (h := fun ha => ps_par rfl sc_rooms.nd rfl rfl (by decide) rfl rfl ha (by rfl)))
      (ap_cons (ap_for PassesOwn.never (ai_range1 U.m_range (ae_v (pv 2))) (ag_name (i := 5) sc_rooms.nd) (ap_blk [5, 6] (ap_cons (ap_set (i := 6) sc_rooms.nd (ae_max U.m_max (aa_cons ae_int (aa_cons (ae_add (ae_sub (ae_cal C_counted (hr.mono (by omega)) (aa_cons (ae_v (pv 1)) (aa_cons (ae_v (pv 5)) aa_nil))) ae_int) (ae_cal C_take (hr.mono (by omega)) (aa_cons (ae_v (pv 0)) (aa_cons ae_int aa_nil)))) aa_nil))))
      (ap_one (ap_expr (ae_append (ae_v (pv 4)) (aa_cons (ae_ix (ae_dat (ae_lst (aa_cons (ae_cal C_take (hr.mono (by omega)) (aa_cons (ae_v (pv 0)) (aa_cons ae_int aa_nil))) (aa_cons (ae_ix (ae_dat (ae_lst (aa_cons ae_int (aa_cons ae_int (aa_cons ae_int aa_nil))))) (ae_cal C_take (hr.mono (by omega)) (aa_cons (ae_v (pv 0)) (aa_cons ae_int aa_nil)))) (aa_cons (ae_v (pv 6)) (aa_cons (ae_cal C_take (hr.mono (by omega)) (aa_cons (ae_v (pv 0)) (aa_cons ae_int aa_nil))) (aa_cons ae_int aa_nil))))))) (ae_v (pv 3))) aa_nil)))))))
      (ap_one (ap_ret (ae_lc (own := [("_law_one", 7)]) sc_rooms.nd (ai_seq (ae_v (pv 4))) (blkOk_by (own := [("_law_one", 7)]) (N := N_rooms) (sc := defScope s_rooms) (by decide +kernel)) (fun _ _ _ _ _ => (ag_name (i := 7) sc_rooms.nd)) (fun _ _ _ _ _ => ats_nil) (fun _ _ _ _ _ => (ae_min U.m_min (aa_cons ae_int (aa_cons (ae_v (pv 7)) aa_nil))))))))), ?_⟩
  rintro svs s0 Q ⟨o, β, as, n, rfl, rfl, hB, hb, hl, hn, hQ⟩
  obtain ⟨ts, rfl⟩ := hB.lst
  fail "S"
  refine callK_of rfl rfl ⟨_, β, 5, rfl, rfl, hB, by omega, by omega, by omega, fun way ts1 hway hB1 => ?_⟩
  fail "S"
  refine pFor_of (Z := List Nat × List T) (rgT 0 n) (fun i z => z.1.length = i ∧ Bx (β + 1 + 4 * i) (.lst z.2))
    (fun _ => [some (.l 0), some (.d (.lst (asT as))), some (.d (.int n)), some (.d (.int way)), some (.l 1), none, none, none]) (fun z => [.lst z.2, .lst (natT z.1)]) ?_ ⟨([], ts1), ⟨rfl, by simpa using hB1⟩, rfl, rfl⟩ ?_ ?_
  · intro Q' h
    fail "S"
    exact ⟨by omega, h _ fun _ _ _ => trivial⟩
  · rintro i x ⟨room, us⟩ hx ⟨h1, h2⟩ C hC B R hB hR
    dsimp only at h1 h2 hC ⊢
    obtain ⟨hi, rfl⟩ := rgT_lt hx
    fail "S"
    refine callK_of rfl rfl ⟨as, i, rfl, rfl, hl, ?_⟩
    fail "S"
    refine callK_of rfl rfl ⟨_, _, 4, rfl, rfl, h2, by omega, by omega, by omega, fun r1 t1 hr1 hB2 => ?_⟩
    fail "S"
    refine callK_of rfl rfl ⟨_, _, 4, rfl, rfl, hB2, by omega, by omega, by omega, fun r2 t2 hr2 hB3 => ?_⟩
    fail "S"
    refine callK_of rfl rfl ⟨_, _, 3, rfl, rfl, hB3, by omega, by omega, by omega, fun r3 t3 hr3 hB4 => ?_⟩
    fail "S"
    have hz : ∃ z : Nat, atI [T.int 0, T.int 2, T.int 5] (r3 : Int) = some (T.int (z : Nat)) := by
      have : r3 = 0 ∨ r3 = 1 ∨ r3 = 2 := by omega
      rcases this with rfl | rfl | rfl
      · exact ⟨0, rfl⟩
      · exact ⟨2, rfl⟩
      · exact ⟨5, rfl⟩
    obtain ⟨z, hz⟩ := hz
    refine ⟨_, hz, ?_⟩
    refine callK_of rfl rfl ⟨_, _, 61, rfl, rfl, hB4, by omega, by omega, by omega, fun r4 t4 hr4 hB5 => ?_⟩
    fail "S"
    refine Exists.elim (?_ : ∃ q : Nat, atI _ (way : Int) = some (T.int (q : Nat))) fun q hq => ⟨_, hq, ?_, ?_⟩
    · have : way = 0 ∨ way = 1 ∨ way = 2 ∨ way = 3 ∨ way = 4 := by omega
      have go : ∀ (l : List T) (k : Nat) (e : Int), l[k]? = some (.int e) → 0 ≤ e → ∃ q : Nat, atI l (k : Int) = some (T.int (q : Nat)) := fun l k e h he => by
        obtain ⟨q, rfl⟩ := nat_of he
        exact ⟨q, atI_at h⟩
      rcases this with rfl | rfl | rfl | rfl | rfl
      · exact go _ 0 _ rfl (by omega)
      · exact go _ 1 _ rfl (by omega)
      · exact go _ 2 _ rfl (by split <;> omega)
      · exact go _ 3 _ rfl (by omega)
      · exact go _ 4 _ rfl (by omega)
    · rw [natT_len]; exact len_lt (by omega)
    · rw [natT_app]
      exact hC (room ++ [q], t4) ⟨by simp [h1], hB5.mono (by omega)⟩
  · rintro ⟨room, us⟩ ⟨h1, h2⟩
    dsimp only at h1 h2 ⊢
    rw [rgT_len] at h1 h2
    fail "S"
    refine lcI_pure (natT room) (fun _ => true) fMin (by rw [natT_len]; exact len_lt (by omega)) ?_ ?_ ?_
    · intro Q' h
      fail "S"
      exact h _ rfl
    · intro i x hx acc C2 hacc hT hF
      obtain ⟨p, hp1, rfl⟩ := natT_at hx
      fail "S"
      exact ⟨hacc, hT rfl⟩
    · rw [filt_true, fMin_all]
      fail "S"
      exact hQ _ us (by rw [List.length_map]; omega) (fun x hx => by obtain ⟨p, _, rfl⟩ := List.mem_map.mp hx; exact Nat.min_le_left 60 p) (h2.mono (by omega))
def sp_kept : ASp := fun vs s Q => ∃ (as : List (Nat × Nat)) (room : List Nat), vs = [.d (.lst (asT as)), .d (.lst (natT room))] ∧ s = [] ∧ as.length ≤ 1000 ∧ room.length ≤ 1000 ∧ (∀ p ∈ as, p.1 < p.2) ∧ Q (.l 0) [.lst (natT (keptN as room room.length))]
theorem len_kept : ∀ vs s Q, sp_kept vs s Q → vs.length = 2 := fun vs s Q ⟨as, room, h, _⟩ => by rw [h]; rfl
theorem ok_kept (U : Tx mg) (D : Ds K mg)  : Cal P w K mg base 1 "_law_kept" ["_law_asks_here", "_law_room"] sp_kept := by
  refine Df.cal D.d_kept sc_kept (len_kept) fun f cdv A outer s H E hr => ?_
  have hu : (A.deeper (PyProof.Rows.envOfC "_law_kept" (defScope s_kept) s.heap.objs.size f cdv)).units + 64 < cLine := by have := hr.un; omega
  have hu5 : (A.deeper (PyProof.Rows.envOfC "_law_kept" (defScope s_kept) s.heap.objs.size f cdv)).units + 65 < cLine := by have := hr.un; omega
  refine ⟨_, (ap_cons (ap_set (i := 2) sc_kept.nd (ae_listRg U.m_list U.m_range (ae_len U.m_len (aa_cons (ae_v (pv 0)) aa_nil))))
      (ap_cons (ap_for PassesOwn.never (ai_enum U.m_enumerate (ae_v (pv 1))) (ag_tup (n := 2) rfl (ags_cons (ag_name (i := 3) sc_kept.nd) (ags_cons (ag_name (i := 4) sc_kept.nd) ags_nil))) (ap_blk [3, 4, 5, 6, 7] (ap_cons (ap_setLc (i := 5) (own := [("_law_place", 7)]) sc_kept.nd (ai_seq (ae_v (pv 2))) (blkOk_by (own := [("_law_place", 7)]) (N := N_kept) (sc := defScope s_kept) (by decide +kernel)) (fun _ _ _ _ _ => (ag_name (i := 7) sc_kept.nd)) (fun _ _ _ _ _ => (ats_one (at_chain c_le c_lt (ae_ix (ae_ix (ae_v (pv 0)) (ae_v (pv 7))) ae_int) (ae_v (pv 3)) (ae_ix (ae_ix (ae_v (pv 0)) (ae_v (pv 7))) ae_int)))) (fun _ _ _ _ _ => (ae_v (pv 7))) lift_fr (sw_true rfl rfl rfl (by decide +kernel)))
      (ap_one (ap_while PassesOwn.never (at_c c_gt (ae_len U.m_len (aa_cons (ae_v (pv 5)) aa_nil)) (ae_v (pv 4))) (ap_blk [6, 7] (ap_cons (ap_set (i := 6) sc_kept.nd (ae_ix (ae_v (pv 5)) ae_int))
      (ap_cons (ap_for PassesOwn.never (ai_seq (ae_v (pv 5))) (ag_name (i := 7) sc_kept.nd) (ap_blk [7] (ap_one (ap_if (at_c c_ge (ae_ix (ae_ix (ae_v (pv 0)) (ae_v (pv 7))) ae_int) (ae_ix (ae_ix (ae_v (pv 0)) (ae_v (pv 6))) ae_int)) (ap_one (ap_set (i := 6) sc_kept.nd (ae_v (pv 7)))) ap_nil))))
      (ap_cons (ap_expr (ae_remove (ae_v (pv 5)) (ae_v (pv 6))))
      (ap_one (ap_expr (ae_remove (ae_v (pv 2)) (ae_v (pv 6))))))))))))))
      (ap_one (ap_ret (ae_v (pv 2)))))), ?_⟩
  rintro svs s0 Q ⟨as, room, rfl, rfl, hl, hr2, hp, hQ⟩
  specialize ⟨asT_len⟩
  refine ⟨RgOk.of_le (by omega) (by omega) (by omega) (by omega), ?_⟩
  rw [rg_natT]
  refine pFor_of (Z := Nat) (enT (natT room)) (fun i z => z = i)
    (fun z => [some (.d (.lst (asT as))), some (.d (.lst (natT room))), some (.l 0), none, none, none, none, none]) (fun z => [.lst (natT (keptN as room z))]) ?_ ⟨0, rfl, rfl, rfl⟩ ?_ ?_
  · intro Q' h
    fail "S"
    exact h _ fun _ _ _ => trivial
  · rintro i w z hw rfl C hC B R hB hR
    have hi := (List.getElem?_eq_some_iff.mp hw).1
    rw [enT_len, natT_len] at hi
    rw [enT_get (natT_get hi)] at hw
    cases hw
    have hm : room[z]? = some room[z] := List.getElem?_eq_getElem hi
    have hkl := keptN_len as room z
    have hkm := keptN_lt as room z
    have hkp := keptN_pw as room z
    have hkn := keptN_nd as room z
    have hstep : keptN as room (z + 1) = stepK as z room[z] (keptN as room z) := by show stepK as z (room[z]?.getD 0) _ = _; rw [hm]; rfl
    have hC := hC (z + 1) rfl
    rw [hstep] at hC
    generalize keptN as room z = kept at hkl hkm hkp hkn hC
    generalize room[z] = m at hC
    clear hstep hm
    fail "S"
    refine lcI_pure (natT kept) (fHas as z) (fun x => x) (by rw [natT_len]; exact len_lt (by omega)) ?_ ?_ ?_
    · intro Q' h
      fail "S"
      exact h _ rfl
    · intro i x hx acc C2 hacc hT hF
      obtain ⟨p, hp1, rfl⟩ := natT_at hx
      have hpl := hkm p (List.mem_of_getElem? hp1)
      rw [fHas_at] at *
      fail "S"
      refine ⟨_, atI_at (askAt_get hpl), ?_⟩
      unfold hasL at hT hF
      fail "S"
      refine ⟨fun h1 => ⟨_, atI_at (askAt_get hpl), ?_⟩, fun h1 => hF (by simp; omega)⟩
      fail "S"
      exact ⟨fun h2 => ⟨hacc, hT (by simp; omega)⟩, fun h2 => hF (by simp; omega)⟩
    · have hfil : (natT kept).filter (fHas as z) = natT (hereL as z kept) := natT_filter ..
      rw [map_id', hfil]
      fail "S"
      refine pWhile_of (Z := List Nat × List Nat) (fun n y => Wl as z m kept n y.1 y.2) (fun y => [some (.d (.lst (asT as))), some (.d (.lst (natT room))), some (.l 0), some (.d (.int z)), some (.d (.int m)), some (.l 1), none, none])
        (fun y => [.lst (natT y.2), .lst (natT y.1)]) ⟨_, (_, _), Wl.start hkp, rfl, rfl⟩ ?_
      rintro n ⟨h, k⟩ hw C3 hC3 B3 R3 hB3 hR3
      dsimp only at hw hC3 ⊢
      have hlen := hw.len
      specialize ⟨natT_len, hlen⟩
      refine ⟨fun hgt => ?_, fun hle => ?_⟩
      · cases n with
        | zero => omega
        | succ n =>
        cases h with
        | nil => cases hlen
        | cons b r =>
        obtain ⟨w1, w2, w3⟩ := hw.step hkn (by omega) rfl
        refine ⟨_, atI_0 .., ?_⟩
        refine pFor_of (Z := Nat) (natT (b :: r)) (fun i L => L = lastN (fun p => (askAt as p).2) ((b :: r).take i) b)
          (fun L => [some (.d (.lst (asT as))), some (.d (.lst (natT room))), some (.l 0), some (.d (.int z)), some (.d (.int m)), some (.l 1), some (.d (.int (L : Nat))), none]) (fun _ => [.lst (natT k), .lst (natT (b :: r))]) ?_ ⟨b, rfl, rfl, rfl⟩ ?_ ?_
        · intro Q' h
          fail "S"
          exact h _ fun _ _ _ => rfl
        · rintro i x L hx rfl C4 hC4 B4 R4 hB4 hR4
          obtain ⟨p, hp1, rfl⟩ := natT_at hx
          have hpl := hkm p (hw.mem (List.mem_of_getElem? hp1))
          have hLl : lastN (fun p => (askAt as p).2) (List.take i (b :: r)) b < as.length := by
            rcases lastN_mem (fun p => (askAt as p).2) (List.take i (b :: r)) b with e | e
            · rw [e]; exact hkm b (hw.mem List.mem_cons_self)
            · exact hkm _ (hw.mem (List.mem_of_mem_take e))
          have tk : (b :: r).take (i + 1) = (b :: r).take i ++ [p] := by rw [List.take_succ, hp1]; rfl
          have hC4 := hC4 _ rfl
          rw [tk, lastN_snoc] at hC4
          generalize lastN (fun p => (askAt as p).2) (List.take i (b :: r)) b = L at hLl hC4
          fail "S"
          refine ⟨_, atI_at (askAt_get hpl), ?_⟩
          fail "S"
          refine ⟨_, atI_at (askAt_get hLl), ?_⟩
          fail "S"
          refine ⟨fun h => ?_, fun h => ?_⟩
          · rw [if_pos h] at hC4; exact hC4
          · rw [if_neg (by omega)] at hC4; exact hC4
        · rintro L rfl
          rw [natT_len, List.take_length]
          fail "S"
          refine ⟨_, natT_ints _, List.mem_map.mpr ⟨_, w1, rfl⟩, _, natT_ints _, List.mem_map.mpr ⟨_, w2, rfl⟩, ?_⟩
          rw [cast_erase, cast_erase, ← natT_ints, ← natT_ints]
          exact hC3 n (_, _) (by omega) w3
      · have := hw.stop (by omega)
        subst this
        refine hB3 _ _ ?_
        fail "S"
        exact hC
  · rintro z rfl
    rw [enT_len, natT_len]
    fail "S"
    exact hQ
def okA (as : List (Nat × Nat)) (n : Nat) : Prop := (∀ p ∈ as, p.1 < p.2 ∧ p.2 ≤ n) ∧ as.length ≤ 1000 ∧ 1 ≤ n ∧ n ≤ 1000
/-- asks handed in as data -/
def sqA (x : SV) (as : List (Nat × Nat)) : Prop := x = .d (.lst (asT as)) ∨ x = .d (.tup (asT as))
def sp_p_loads : ASp := fun vs s Q => ∃ (x : SV) (as : List (Nat × Nat)) (n : Nat), vs = [x, .d (.int n)] ∧ s = [] ∧ sqA x as ∧ okA as n ∧ Q (.l 0) [.lst (tabT n (cnt as))]
theorem len_p_loads : ∀ vs s Q, sp_p_loads vs s Q → vs.length = 2 := fun vs s Q ⟨x, as, n, h, _⟩ => by rw [h]; rfl
theorem ok_p_loads (U : Tx mg) (D : Ds K mg)  : Cal P w K mg base 1 "loads" ["asks", "legs"] sp_p_loads := by
  refine Df.cal D.d_p_loads sc_p_loads (len_p_loads) fun f cdv A outer s H E hr => ?_
  have hu : (A.deeper (PyProof.Rows.envOfC "loads" (defScope s_p_loads) s.heap.objs.size f cdv)).units + 64 < cLine := by have := hr.un; omega
  have hu5 : (A.deeper (PyProof.Rows.envOfC "loads" (defScope s_p_loads) s.heap.objs.size f cdv)).units + 65 < cLine := by have := hr.un; omega
  refine ⟨_, (ap_cons (ap_set (i := 2) sc_p_loads.nd (ae_fr (ae_mul (ae_lst (aa_cons ae_int aa_nil)) (ae_v (pv 1)))))
      (ap_cons (ap_for PassesOwn.never (ai_seq (ae_v (pv 0))) (ag_tup (n := 2) rfl (ags_cons (ag_name (i := 3) sc_p_loads.nd) (ags_cons (ag_name (i := 4) sc_p_loads.nd) ags_nil))) (ap_blk [3, 4, 5] (ap_one (ap_for PassesOwn.never (ai_range2 U.m_range (ae_v (pv 3)) (ae_v (pv 4))) (ag_name (i := 5) sc_p_loads.nd) (ap_blk [5] (ap_one (ap_augL ip_add (ae_v (pv 2)) (ae_v (pv 5)) ae_int)))))))
      (ap_one (ap_ret (ae_v (pv 2)))))), ?_⟩
  rintro svs s0 Q ⟨x, as, n, rfl, rfl, hx, ⟨hp, hl, hn1, hn⟩, hQ⟩
  fail "S"
  refine ⟨by omega, Nat.le_of_lt (Nat.lt_of_le_of_lt hn (by decide)), ?_⟩
  rw [tab_rep n]
  obtain ⟨x, rfl, hx'⟩ : ∃ t, x = .d t ∧ (t = .lst (asT as) ∨ t = .tup (asT as)) := by
    rcases hx with rfl | rfl
    · exact ⟨_, rfl, .inl rfl⟩
    · exact ⟨_, rfl, .inr rfl⟩
  refine pFor_of (Z := Nat) (asT as) (fun i z => z = i) (fun _ => [some (.d x), some (.d (.int n)), some (.l 0), none, none, none]) (fun z => [.lst (tabT n (cnt (as.take z)))]) ?_ ⟨0, rfl, rfl, rfl⟩ ?_ ?_
  · intro Q' h
    rcases hx' with rfl | rfl <;> (fail "S"; exact h _ fun _ _ _ => trivial)
  · rintro i y z hy rfl C hC B R hB hR
    have hi := (List.getElem?_eq_some_iff.mp hy).1
    rw [asT_len] at hi
    rw [asT_get hi] at hy
    cases hy
    obtain ⟨hp1, hp2⟩ := hp _ (List.getElem_mem hi)
    have tk : as.take (z + 1) = as.take z ++ [as[z]] := by rw [List.take_succ, List.getElem?_eq_getElem hi]; rfl
    generalize as[z] = p at hp1 hp2 tk
    fail "S"
    refine pFor_of (Z := Nat) (rgT p.1 p.2) (fun j k => k = j) (fun _ => [some (.d x), some (.d (.int n)), some (.l 0), some (.d (.int p.1)), some (.d (.int p.2)), none])
      (fun j => [.lst (tabT n fun k => cnt (as.take z) k + if p.1 ≤ k ∧ k < p.1 + j then 1 else 0)]) ?_ ⟨0, rfl, rfl, ?_⟩ ?_ ?_
    · intro Q' h
      fail "S"
      exact ⟨⟨by omega, by omega⟩, h _ fun _ _ _ => trivial⟩
    · rw [tab_congr]
      intro k hk
      rw [if_neg (by omega)]; rfl
    · rintro j y k hy rfl C2 hC2 B2 R2 hB2 hR2
      obtain ⟨hj, rfl⟩ := rgT_lt hy
      have hk : p.1 + k < n := by omega
      specialize ⟨tab_len⟩
      refine ⟨p.1 + k, ixN_nat hk, _, tab_get _ hk, ?_⟩
      have := hC2 (k + 1) rfl
      rw [← tab_set (f := fun m => cnt (as.take z) m + if p.1 ≤ m ∧ m < p.1 + k then 1 else 0) hk] at this
      · rw [if_neg (by omega)]
        rw [if_pos (by omega)] at this
        exact this
      · intro i hi
        by_cases hq : p.1 ≤ i ∧ i < p.1 + k
        · rw [if_pos hq, if_pos (by omega)]
        · rw [if_neg hq, if_neg (by omega)]
    · rintro k rfl
      have := hC (z + 1) rfl
      rw [tk] at this
      fail "S"
      rw [tab_congr (g := cnt (as.take z ++ [p]))]
      · exact this
      · intro i hi
        rw [cnt_app, show p.1 + (p.2 - p.1) = p.2 by omega]
  · rintro z rfl
    rw [asT_len, List.take_length]
    fail "S"
    exact hQ

def sp_p_fullest : ASp := fun vs s Q => ∃ (x : SV) (as : List (Nat × Nat)) (n : Nat), vs = [x, .d (.int n)] ∧ s = [] ∧ sqA x as ∧ okA as n ∧ Q (.d (fulL as n)) []
theorem len_p_fullest : ∀ vs s Q, sp_p_fullest vs s Q → vs.length = 2 := fun vs s Q ⟨x, as, n, h, _⟩ => by rw [h]; rfl
theorem ok_p_fullest (U : Tx mg) (D : Ds K mg) (C_p_loads : Cal P w K mg base 1 "loads" ["asks", "legs"] sp_p_loads) : Cal P w K mg base 2 "fullest" ["asks", "legs"] sp_p_fullest := by
  refine Df.cal D.d_p_fullest sc_p_fullest (len_p_fullest) fun f cdv A outer s H E hr => ?_
  have hu : (A.deeper (PyProof.Rows.envOfC "fullest" (defScope s_p_fullest) s.heap.objs.size f cdv)).units + 64 < cLine := by have := hr.un; omega
  have hu5 : (A.deeper (PyProof.Rows.envOfC "fullest" (defScope s_p_fullest) s.heap.objs.size f cdv)).units + 65 < cLine := by have := hr.un; omega
  refine ⟨_, (ap_cons (ap_set (i := 2) sc_p_fullest.nd (ae_cal C_p_loads (hr.mono (by omega)) (aa_cons (ae_v (pv 0)) (aa_cons (ae_v (pv 1)) aa_nil))))
      (ap_cons (ap_set (i := 3) sc_p_fullest.nd (ae_max U.m_max (aa_cons (ae_v (pv 2)) aa_nil)))
      (ap_one (ap_ret (ae_tup (aa_cons (ae_index (ae_v (pv 2)) (aa_cons (ae_v (pv 3)) aa_nil)) (aa_cons (ae_v (pv 3)) aa_nil))))))), ?_⟩
  rintro svs s0 Q ⟨x, as, n, rfl, rfl, hx, ho, hQ⟩
  obtain ⟨x, rfl, hx'⟩ : ∃ t, x = .d t ∧ (t = .lst (asT as) ∨ t = .tup (asT as)) := by
    rcases hx with rfl | rfl
    · exact ⟨_, rfl, .inl rfl⟩
    · exact ⟨_, rfl, .inr rfl⟩
  fail "S"
  refine callK_of rfl rfl ⟨_, as, n, rfl, rfl, hx, ho, ?_⟩
  fail "S"
  obtain ⟨e1, e2, e3⟩ := idx_ok (maxL_mem (lsI_ne (as := as) ho.2.2.1))
  rw [tab_lsI]
  first | exact ⟨_, rfl, lsI_ne ho.2.2.1, rfl, flat_ints _, _, _, e1, e2, e3, hQ⟩ | exact ⟨_, rfl, lsI_ne ho.2.2.1, flat_ints _, _, _, e1, e2, e3, hQ⟩

def sp_p_count_within : ASp := fun vs s Q => ∃ (x : T) (as : List (Nat × Nat)) (a b : Nat), vs = [.d x, .d (.int a), .d (.int b)] ∧ s = [] ∧ sqL x (asT as) ∧ as.length ≤ 1000 ∧ Q (.d (.int (within as a b : Nat))) []
theorem len_p_count_within : ∀ vs s Q, sp_p_count_within vs s Q → vs.length = 3 := fun vs s Q ⟨x, as, a, b, h, _⟩ => by rw [h]; rfl
theorem ok_p_count_within (U : Tx mg) (D : Ds K mg)  : Cal P w K mg base 1 "count_within" ["asks", "a", "b"] sp_p_count_within := by
  refine Df.cal D.d_p_count_within sc_p_count_within (len_p_count_within) fun f cdv A outer s H E hr => ?_
  have hu : (A.deeper (PyProof.Rows.envOfC "count_within" (defScope s_p_count_within) s.heap.objs.size f cdv)).units + 64 < cLine := by have := hr.un; omega
  have hu5 : (A.deeper (PyProof.Rows.envOfC "count_within" (defScope s_p_count_within) s.heap.objs.size f cdv)).units + 65 < cLine := by have := hr.un; omega
  refine ⟨_, (ap_one (ap_ret (ae_len U.m_len (aa_cons (ae_dat (ae_lc (own := [("ask", 3)]) sc_p_count_within.nd (ai_seq (ae_v (pv 0))) (blkOk_by (own := [("ask", 3)]) (N := N_p_count_within) (sc := defScope s_p_count_within) (by decide +kernel)) (fun _ _ _ _ _ => (ag_name (i := 3) sc_p_count_within.nd)) (fun _ _ _ _ _ => (ats_one ((aw_and (at_c c_le (ae_v (pv 1)) (ae_ix (ae_v (pv 3)) ae_int)) (aw_and1 (at_c c_le (ae_ix (ae_v (pv 3)) ae_int) (ae_v (pv 2)))))).at_)) (fun _ _ _ _ _ => (ae_v (pv 3))))) aa_nil)))), ?_⟩
  rintro svs s0 Q ⟨x, as, a, b, rfl, rfl, hx, hl, hQ⟩
  fail "S"
  refine lcI_pure (asT as) (fWi a b) (fun x => x) (by rw [asT_len]; exact len_lt (by omega)) ?_ ?_ ?_
  · intro Q' h
    rcases hx with rfl | rfl <;> (fail "S"; exact h _ trivial)
  · intro i x hx acc C hacc hT hF
    have hi := (List.getElem?_eq_some_iff.mp hx).1
    rw [asT_len] at hi
    rw [asT_get hi] at hx
    cases hx
    generalize as[i] = p at hT hF
    have e : fWi a b (.tup [.int p.1, .int p.2]) = decide (a ≤ p.1 ∧ p.2 ≤ b) := by show decide ((a : Int) ≤ p.1 ∧ (p.2 : Int) ≤ b) = _; simp
    rw [e] at hT hF
    fail "S"
    exact ⟨fun h1 => ⟨fun h2 => ⟨hacc, hT (by simp; omega)⟩, fun h2 => hF (by simp; omega)⟩, fun h1 => hF (by simp; omega)⟩
  · fail "S"
    rw [fWi_len]
    exact hQ

def sp_p_paper_of : ASp := fun vs s Q => ∃ (x y : T) (as : List (Nat × Nat)) (room : List Nat), vs = [.d x, .d y] ∧ s = [] ∧ sqL x (asT as) ∧ sqL y (natT room) ∧ as.length ≤ 1000 ∧ room.length ≤ 900 ∧ (∀ p ∈ as, p.1 < p.2) ∧ Q (.l 0) [.lst (natT (papN as room))]
theorem len_p_paper_of : ∀ vs s Q, sp_p_paper_of vs s Q → vs.length = 2 := fun vs s Q ⟨x, y, a, i, h, _⟩ => by rw [h]; rfl
theorem ok_p_paper_of (U : Tx mg) (D : Ds K mg) (C_p_count_within : Cal P w K mg base 1 "count_within" ["asks", "a", "b"] sp_p_count_within) : Cal P w K mg base 2 "paper_of" ["asks", "room"] sp_p_paper_of := by
  refine Df.cal D.d_p_paper_of sc_p_paper_of (len_p_paper_of) fun f cdv A outer s H E hr => ?_
  have hu : (A.deeper (PyProof.Rows.envOfC "paper_of" (defScope s_p_paper_of) s.heap.objs.size f cdv)).units + 64 < cLine := by have := hr.un; omega
  have hu5 : (A.deeper (PyProof.Rows.envOfC "paper_of" (defScope s_p_paper_of) s.heap.objs.size f cdv)).units + 65 < cLine := by have := hr.un; omega
  refine ⟨_, (ap_cons (ap_set (i := 2) sc_p_paper_of.nd (ae_lst (aa_cons (ae_tup (aa_cons ae_int (aa_cons (ae_dat (ae_lst aa_nil)) aa_nil))) aa_nil)))
      (ap_cons (ap_for PassesOwn.never (ai_range1 U.m_range (ae_add (ae_len U.m_len (aa_cons (ae_v (pv 1)) aa_nil)) ae_int)) (ag_name (i := 3) sc_p_paper_of.nd) (ap_blk [3, 4, 5, 6, 7, 8] (ap_cons (ap_set (i := 4) sc_p_paper_of.nd (ae_cut (ae_if (at_c c_lt (ae_v (pv 3)) (ae_len U.m_len (aa_cons (ae_v (pv 1)) aa_nil))) (ae_ix (ae_v (pv 1)) (ae_v (pv 3))) ae_int)))
      (ap_cons (ap_set (i := 5) sc_p_paper_of.nd (ae_lst aa_nil))
      (ap_cons (ap_for PassesOwn.never (ai_enum U.m_enumerate (ae_v (pv 2))) (ag_tup (n := 2) rfl (ags_cons (ag_name (i := 6) sc_p_paper_of.nd) (ags_cons (ag_tup (n := 2) rfl (ags_cons (ag_name (i := 7) sc_p_paper_of.nd) (ags_cons (ag_name (i := 8) sc_p_paper_of.nd) ags_nil))) ags_nil))) (ap_blk [6, 7, 8] (ap_one (ap_expr (ae_append (ae_v (pv 5)) (aa_cons (ae_tup (aa_cons (ae_add (ae_add (ae_v (pv 7)) (ae_v (pv 4))) (ae_cal C_p_count_within (hr.mono (by omega)) (aa_cons (ae_v (pv 0)) (aa_cons (ae_v (pv 6)) (aa_cons (ae_v (pv 3)) aa_nil))))) (aa_cons (ae_dat (ae_add (ae_v (pv 8)) (ae_lst (aa_cons (ae_v (pv 3)) aa_nil)))) aa_nil))) aa_nil))))))
      (ap_one (ap_expr (ae_append (ae_v (pv 2)) (aa_cons (ae_minD hu U.m_min (aa_cons (ae_v (pv 5)) aa_nil)) aa_nil)))))))))
      (ap_one (ap_ret (ae_sl (ae_ix (ae_ix (ae_v (pv 2)) (ae_neg ae_int)) ae_int) ao_none (ao_some (ae_neg ae_int))))))), ?_⟩
  rintro svs s0 Q ⟨x, y, as, room, rfl, rfl, hx, hy, hl, hr2, hp, hQ⟩
  rcases hy with rfl | rfl <;> (
    specialize ⟨natT_len⟩
    refine pFor_of (Z := Nat) (rgT 0 (room.length + 1 : Nat)) (fun k z => z = k) (fun _ => [some (.d x), some (.d _), some (.l 0), none, none, none, none, none, none]) (fun z => [.lst (spT (tabN as room z))]) ?_ ⟨0, rfl, rfl, rfl⟩ ?_ ?_
    · intro Q' h
      specialize ⟨natT_len⟩
      exact ⟨by omega, by omega, h _ fun _ _ _ => trivial⟩
    · rintro k w z hw rfl C hC B R hB hR
      obtain ⟨hi, rfl⟩ := rgT_lt hw
      have hC := hC (z + 1) rfl
      have hz : z ≤ room.length := by omega
      have ht := tabN_len as room z
      have hsz := tabN_sz as room z
      have hstep : tabN as room (z + 1) = tabN as room z ++ [minP (cand as room z (tabN as room z))] := rfl
      rw [hstep] at hC
      generalize tabN as room z = L at ht hC hsz
      clear hstep
      specialize ⟨natT_len⟩
      refine ⟨.int (rm room z : Nat), ⟨fun h => atI_at (natT_rm h), fun h => by rw [rm_no h]; rfl⟩, ?_⟩
      have hcl := cand_len as room z L
      refine pFor_of (Z := Nat) (enT (spT L)) (fun i y => y = i) (fun _ => [some (.d x), some (.d _), some (.l 0), some (.d (.int z)), some (.d (.int (rm room z : Nat))), some (.l 1), none, none, none]) (fun y => [.lst (spT L), .lst (spT ((cand as room z L).take y))]) ?_ ⟨0, rfl, rfl, rfl⟩ ?_ ?_
      · intro Q' h
        fail "S"
        exact h _ fun _ _ _ => rfl
      · rintro i w y hw rfl C2 hC2 B2 R2 hB2 hR2
        have hi := (List.getElem?_eq_some_iff.mp hw).1
        rw [enT_len, show (spT L).length = L.length from List.length_map ..] at hi
        have hr : L[y]? = some L[y] := List.getElem?_eq_getElem hi
        rw [enT_get (spT_get hr)] at hw
        cases hw
        have tk : (cand as room z L).take (y + 1) = (cand as room z L).take y ++ [(L[y].1 + rm room z + within as y z, L[y].2 ++ [z])] := by
          rw [List.take_succ, cand_get, hr]; rfl
        have hC2 := hC2 (y + 1) rfl
        rw [tk] at hC2
        generalize L[y] = r at hC2 hr
        unfold pT
        fail "S"
        refine callK_of rfl rfl ⟨x, as, y, z, rfl, rfl, hx, hl, ?_⟩
        fail "S"
        rw [natT_app]
        have e := spT_app ((cand as room z L).take y) (r.1 + rm room z + within as y z, r.2 ++ [z])
        rw [← e] at hC2
        have hrz : r.2.length ≤ 900 := by have := hsz r (List.mem_of_getElem? hr); omega
        refine ⟨by rw [natT_len]; exact Nat.le_of_lt (len_lt (n := r.2.length + 1) (by omega)), by rw [spT_len, List.length_take]; exact len_lt (by omega), ?_⟩
        simpa using hC2
      · rintro y rfl
        rw [enT_len, show (spT L).length = L.length from List.length_map .., ← hcl, List.take_length]
        fail "S"
        refine minDG_of (L := cand as room z L) (fun e => by have := congrArg List.length e; rw [hcl, ht] at this; cases this) rfl ?_
        fail "S"
        refine ⟨by rw [spT_len]; exact len_lt (by omega), ?_⟩
        rw [show spT (L ++ [minP (cand as room z L)]) = spT L ++ [pT (minP (cand as room z L))] by unfold spT; rw [List.map_append]; rfl] at hC
        exact hC
    · rintro z rfl
      fail "S"
      have e : tabN as room (room.length + 1) = tabN as room room.length ++ [minP (cand as room room.length (tabN as room room.length))] := rfl
      have e2 : papN as room = (minP (cand as room room.length (tabN as room room.length))).2.dropLast := rfl
      rw [e]
      rw [e2] at hQ
      generalize minP (cand as room room.length (tabN as room room.length)) = r at hQ
      rw [show spT (tabN as room room.length ++ [r]) = spT (tabN as room room.length) ++ [pT r] by unfold spT; rw [List.map_append]; rfl]
      refine ⟨_, atI_m1 .., ?_⟩
      unfold pT
      specialize ⟨cut_last, natT_dropLast⟩
      exact hQ)

def sp_missing : ASp := fun vs s Q => ∃ (x : SV) (as : List (Nat × Nat)) (J : List Nat), vs = [.d (.lst (asT as)), x] ∧ isD x s (.lst (natT J)) ∧ as.length ≤ 1000 ∧ J.length ≤ 1000 ∧ Q (.d (.int (as.countP (miss J) : Nat))) s
theorem len_missing : ∀ vs s Q, sp_missing vs s Q → vs.length = 2 := fun vs s Q ⟨x, a, i, h, _⟩ => by rw [h]; rfl
theorem ok_missing (U : Tx mg) (D : Ds K mg)  : Cal P w K mg base 1 "_law_missing" ["_law_asks_here", "_law_legs"] sp_missing := by
  refine Df.cal D.d_missing sc_missing (len_missing) fun f cdv A outer s H E hr => ?_
  have hu : (A.deeper (PyProof.Rows.envOfC "_law_missing" (defScope s_missing) s.heap.objs.size f cdv)).units + 64 < cLine := by have := hr.un; omega
  have hu5 : (A.deeper (PyProof.Rows.envOfC "_law_missing" (defScope s_missing) s.heap.objs.size f cdv)).units + 65 < cLine := by have := hr.un; omega
  refine ⟨_, (ap_cons (ap_set (i := 2) sc_missing.nd ae_int)
      (ap_cons (ap_for PassesOwn.never (ai_seq (ae_v (pv 0))) (ag_tup (n := 2) rfl (ags_cons (ag_name (i := 3) sc_missing.nd) (ags_cons (ag_name (i := 4) sc_missing.nd) ags_nil))) (ap_blk [3, 4, 5] (ap_one (ap_if (at_not (at_val (ae_any U.m_any (aa_cons (ae_dat (ae_lc (own := [("_law_leg", 5)]) sc_missing.nd (ai_seq (ae_v (pv 1))) (blkOk_by (own := [("_law_leg", 5)]) (N := N_missing) (sc := defScope s_missing) (by decide +kernel)) (fun _ _ _ _ _ => (ag_name (i := 5) sc_missing.nd)) (fun _ _ _ _ _ => ats_nil) (fun _ _ _ _ _ => (ae_chain c_le c_lt (ae_v (pv 3)) (ae_v (pv 5)) (ae_v (pv 4)))))) aa_nil)))) (ap_one (ap_set (i := 2) sc_missing.nd (ae_add (ae_v (pv 2)) ae_int))) ap_nil))))
      (ap_one (ap_ret (ae_v (pv 2)))))), ?_⟩
  rintro svs s0 Q ⟨x, as, J, rfl, hx, hl, hJ, hQ⟩
  fail "S"
  refine pFor_of (Z := Nat) (asT as) (fun i z => z = i) (fun z => [some (.d (.lst (asT as))), some x, some (.d (.int ((as.take z).countP (miss J) : Nat))), none, none, none]) (fun _ => s0) ?_ ⟨0, rfl, rfl, rfl⟩ ?_ ?_
  · intro Q' h
    fail "S"
    exact h _ fun _ _ _ => trivial
  · rintro i w z hw rfl C hC B R hB hR
    have hi := (List.getElem?_eq_some_iff.mp hw).1
    rw [asT_len] at hi
    rw [asT_get hi] at hw
    cases hw
    have hC := hC (z + 1) rfl
    have tk : as.take (z + 1) = as.take z ++ [as[z]] := by rw [List.take_succ, List.getElem?_eq_getElem hi]; rfl
    rw [tk, List.countP_append] at hC
    generalize as[z] = p at hC
    rw [show List.countP (miss J) [p] = if miss J p = true then 1 else 0 by rw [List.countP_cons, List.countP_nil]; simp] at hC
    rcases hx with ⟨rfl, rfl⟩ | ⟨ts, e, rfl, rfl⟩
    · fail "S"
      refine lcI_pure (natT J) (fun _ => true) (fun x => .bl (fIn p.1 p.2 x)) (by rw [natT_len]; exact len_lt (by omega)) ?_ ?_ ?_
      · intro Q' h
        fail "S"
        exact h _ (by first | trivial | rfl)
      · intro i x hx acc C2 hacc hT hF
        obtain ⟨j, hj, rfl⟩ := natT_at hx
        have hT := hT rfl
        rw [show fIn p.1 p.2 (.int (j : Nat)) = decide ((p.1 : Int) ≤ (j : Int) ∧ (j : Int) < (p.2 : Int)) from rfl] at hT
        fail "S"
        exact ⟨fun h1 => ⟨hacc, by rw [show decide ((p.1 : Int) ≤ (j : Int) ∧ (j : Int) < (p.2 : Int)) = decide (j < p.2) by simp [h1]] at hT; exact hT⟩, fun h1 => ⟨hacc, by rw [show decide ((p.1 : Int) ≤ (j : Int) ∧ (j : Int) < (p.2 : Int)) = false by simp; omega] at hT; exact hT⟩⟩
      · rw [filt_true, bls_any]
        fail "S"
        refine ⟨(natT J).map (fIn p.1 p.2), by rw [List.map_map], ?_⟩
        rw [fIn_mem]
        cases hm : miss J p with
        | true =>
          rw [hm] at hC
          exact ⟨fun _ => by simpa using hC, fun h => nomatch h⟩
        | false =>
          rw [hm] at hC
          exact ⟨fun h => absurd rfl h, fun _ => by simpa using hC⟩
    · cases e
      fail "S"
      refine lcI_pure (natT J) (fun _ => true) (fun x => .bl (fIn p.1 p.2 x)) (by rw [natT_len]; exact len_lt (by omega)) ?_ ?_ ?_
      · intro Q' h
        fail "S"
        exact h _ (by first | trivial | rfl)
      · intro i x hx acc C2 hacc hT hF
        obtain ⟨j, hj, rfl⟩ := natT_at hx
        have hT := hT rfl
        rw [show fIn p.1 p.2 (.int (j : Nat)) = decide ((p.1 : Int) ≤ (j : Int) ∧ (j : Int) < (p.2 : Int)) from rfl] at hT
        fail "S"
        exact ⟨fun h1 => ⟨hacc, by rw [show decide ((p.1 : Int) ≤ (j : Int) ∧ (j : Int) < (p.2 : Int)) = decide (j < p.2) by simp [h1]] at hT; exact hT⟩, fun h1 => ⟨hacc, by rw [show decide ((p.1 : Int) ≤ (j : Int) ∧ (j : Int) < (p.2 : Int)) = false by simp; omega] at hT; exact hT⟩⟩
      · rw [filt_true, bls_any]
        fail "S"
        refine ⟨(natT J).map (fIn p.1 p.2), by rw [List.map_map], ?_⟩
        rw [fIn_mem]
        cases hm : miss J p with
        | true =>
          rw [hm] at hC
          exact ⟨fun _ => by simpa using hC, fun h => nomatch h⟩
        | false =>
          rw [hm] at hC
          exact ⟨fun h => absurd rfl h, fun _ => by simpa using hC⟩
  · rintro z rfl
    rw [asT_len, List.take_length]
    rcases hx with ⟨rfl, rfl⟩ | ⟨ts, e, rfl, rfl⟩
    · fail "S"
      exact hQ
    · fail "S"
      exact hQ

/-- plain data for isinstance -/
def pln : T → Bool
  | .scr _ => false
  | .ref _ => false
  | .ty _ => false
  | .obj _ _ _ => false
  | .exc _ _ => false
  | .dk _ _ => false
  | .dt _ _ => false
  | _ => true
theorem ok_pln {n : Nat} {t : T} (h : T.ok n t = true) : pln t = true := by
  cases t <;> first | rfl | (unfold T.ok at h; cases h)
def sp_p_is_number : ASp := fun vs s Q => ∃ t : T, vs = [.d t] ∧ s = [] ∧ pln t = true ∧ Q (.d (.bl (isNum t))) []
theorem len_p_is_number : ∀ vs s Q, sp_p_is_number vs s Q → vs.length = 1 := fun vs s Q ⟨x, h, _⟩ => by rw [h]; rfl
theorem ok_p_is_number (U : Tx mg) (D : Ds K mg)  : Cal P w K mg base 1 "is_number" ["thing"] sp_p_is_number := by
  refine Df.cal D.d_p_is_number sc_p_is_number (len_p_is_number) fun f cdv A outer s H E hr => ?_
  have hu : (A.deeper (PyProof.Rows.envOfC "is_number" (defScope s_p_is_number) s.heap.objs.size f cdv)).units + 64 < cLine := by have := hr.un; omega
  have hu5 : (A.deeper (PyProof.Rows.envOfC "is_number" (defScope s_p_is_number) s.heap.objs.size f cdv)).units + 65 < cLine := by have := hr.un; omega
  refine ⟨_, (ap_one (ap_ret (ae_and (ae_isi U.m_isinstance (aa_cons (ae_v (pv 0)) (aa_cons (ae_ty U.m_int (by rfl)) aa_nil))) (ae_one (ae_not (ae_isi U.m_isinstance (aa_cons (ae_v (pv 0)) (aa_cons (ae_ty U.m_bool (by rfl)) aa_nil)))))))), ?_⟩
  rintro svs s0 Q ⟨t, rfl, rfl, ht, hQ⟩
  cases t <;> first | (cases ht; done) | (fail "S"; exact hQ)

def sp_p_is_rising : ASp := fun vs s Q => ∃ J : List Nat, vs = [.d (.lst (natT J))] ∧ s = [] ∧ J.length < sizeLine ∧ Q (.d (.bl ((zpT (natT J) (natT J).tail).all ltP))) []
theorem len_p_is_rising : ∀ vs s Q, sp_p_is_rising vs s Q → vs.length = 1 := fun vs s Q ⟨x, h, _⟩ => by rw [h]; rfl
theorem ok_p_is_rising (U : Tx mg) (D : Ds K mg)  : Cal P w K mg base 1 "is_rising" ["numbers"] sp_p_is_rising := by
  refine Df.cal D.d_p_is_rising sc_p_is_rising (len_p_is_rising) fun f cdv A outer s H E hr => ?_
  have hu : (A.deeper (PyProof.Rows.envOfC "is_rising" (defScope s_p_is_rising) s.heap.objs.size f cdv)).units + 64 < cLine := by have := hr.un; omega
  have hu5 : (A.deeper (PyProof.Rows.envOfC "is_rising" (defScope s_p_is_rising) s.heap.objs.size f cdv)).units + 65 < cLine := by have := hr.un; omega
  refine ⟨_, (ap_one (ap_ret (ae_all U.m_all (aa_cons (ae_dat (ae_lc (own := [("one", 1), ("other", 2)]) sc_p_is_rising.nd (ai_zip U.m_zip (ae_v (pv 0)) (ae_dat (ae_sl (ae_v (pv 0)) (ao_some ae_int) ao_none))) (blkOk_by (own := [("one", 1), ("other", 2)]) (N := N_p_is_rising) (sc := defScope s_p_is_rising) (by decide +kernel)) (fun _ _ _ _ _ => (ag_tup (n := 2) rfl (ags_cons (ag_name (i := 1) sc_p_is_rising.nd) (ags_cons (ag_name (i := 2) sc_p_is_rising.nd) ags_nil)))) (fun _ _ _ _ _ => ats_nil) (fun _ _ _ _ _ => (ae_c c_lt (ae_v (pv 1)) (ae_v (pv 2)))))) aa_nil)))), ?_⟩
  rintro svs s0 Q ⟨J, rfl, rfl, hJ, hQ⟩
  fail "S"
  refine lcI_pure (zpT (natT J) (natT J.tail)) (fun _ => true) (fun x => .bl (ltP x)) (by rw [zpT_len, natT_len, natT_len]; exact Nat.lt_of_le_of_lt (Nat.min_le_left _ _) hJ) ?_ ?_ ?_
  · intro Q' h
    specialize ⟨natT_drop1⟩
    exact h _ (by first | trivial | rfl)
  · intro i x hx acc C2 hacc hT hF
    have hi := (List.getElem?_eq_some_iff.mp hx).1
    rw [zpT_len, natT_len, natT_len, List.length_tail] at hi
    rw [zpT_get (natT_get (i := i) (by omega)) (natT_get (i := i) (by rw [List.length_tail]; omega))] at hx
    cases hx
    have hT := hT rfl
    rw [show ltP (.tup [.int (J[i]'(by omega) : Nat), .int (J.tail[i]'(by rw [List.length_tail]; omega) : Nat)]) = decide ((J[i]'(by omega) : Int) < (J.tail[i]'(by rw [List.length_tail]; omega) : Nat)) from rfl] at hT
    fail "S"
    simp at hT
    exact ⟨hacc, hT⟩
  · rw [filt_true]
    fail "S"
    refine ⟨(zpT (natT J) (natT J.tail)).map ltP, by rw [List.map_map]; rfl, ?_⟩
    rw [show (natT J).tail = natT J.tail by unfold natT; rw [List.map_tail]] at hQ
    simpa using hQ
def sp_p_are_places : ASp := fun vs s Q => ∃ (t : T) (n : Nat), vs = [.d t, .d (.int n)] ∧ s = [] ∧ T.ok 20 t = true ∧ T.sz t = true ∧ n ≤ 1000 ∧ Q (.d (.bl (placesT n t))) []
theorem len_p_are_places : ∀ vs s Q, sp_p_are_places vs s Q → vs.length = 2 := fun vs s Q ⟨x, n, h, _⟩ => by rw [h]; rfl
theorem ok_p_are_places (U : Tx mg) (D : Ds K mg) (C_p_is_rising : Cal P w K mg base 1 "is_rising" ["numbers"] sp_p_is_rising) (C_p_is_number : Cal P w K mg base 1 "is_number" ["thing"] sp_p_is_number) : Cal P w K mg base 2 "are_places" ["thing", "many"] sp_p_are_places := by
  refine Df.cal D.d_p_are_places sc_p_are_places (len_p_are_places) fun f cdv A outer s H E hr => ?_
  have hu : (A.deeper (PyProof.Rows.envOfC "are_places" (defScope s_p_are_places) s.heap.objs.size f cdv)).units + 64 < cLine := by have := hr.un; omega
  have hu5 : (A.deeper (PyProof.Rows.envOfC "are_places" (defScope s_p_are_places) s.heap.objs.size f cdv)).units + 65 < cLine := by have := hr.un; omega
  refine ⟨_, (ap_cons (ap_if ((aw_or (at_not (at_val (ae_isi U.m_isinstance (aa_cons (ae_v (pv 0)) (aa_cons (ae_ty U.m_list (by rfl)) aa_nil))))) (aw_or1 (at_not (at_val (ae_all U.m_all (aa_cons (ae_dat (ae_lc (own := [("one", 2)]) sc_p_are_places.nd (ai_seq (ae_v (pv 0))) (blkOk_by (own := [("one", 2)]) (N := N_p_are_places) (sc := defScope s_p_are_places) (by decide +kernel)) (fun _ _ _ _ _ => (ag_name (i := 2) sc_p_are_places.nd)) (fun _ _ _ _ _ => ats_nil) (fun _ _ _ _ _ => (ae_and (ae_cal C_p_is_number (hr.mono (by omega)) (aa_cons (ae_v (pv 2)) aa_nil)) (ae_one (ae_chain c_le c_lt ae_int (ae_v (pv 2)) (ae_v (pv 1)))))))) aa_nil))))))).at_ (ap_one (ap_ret ae_bl)) ap_nil)
      (ap_one (ap_ret (ae_cal C_p_is_rising (hr.mono (by omega)) (aa_cons (ae_v (pv 0)) aa_nil))))), ?_⟩
  rintro svs s0 Q ⟨t, n, rfl, rfl, hok, hsz, hn, hQ⟩
  cases t with
  | lst ts =>
    obtain ⟨m, e, ho⟩ := ok_lst hok
    obtain ⟨hl, hz⟩ := sz_lst hsz
    fail "S"
    refine lcI_pure ts (fun _ => true) (fun x => .bl (plT n x)) hl ?_ ?_ ?_
    · intro Q' h
      fail "S"
      exact h _ (by first | trivial | rfl)
    · intro i x hx acc C2 hacc hT hF
      have hT := hT rfl
      have hp := ok_pln (List.all_eq_true.mp ho x (List.mem_of_getElem? hx))
      fail "S"
      refine callK_of rfl rfl ⟨x, rfl, rfl, hp, ?_⟩
      cases x with
      | int k =>
        rw [show plT n (.int k) = decide ((0 : Int) ≤ k ∧ k < (n : Int)) from rfl] at hT
        specialize ⟨isNum⟩
        refine ⟨fun h => ⟨hacc, ?_⟩, fun h => ⟨hacc, ?_⟩⟩
        · rw [show decide ((0 : Int) ≤ k ∧ k < (n : Int)) = decide (k < (n : Int)) by simp [h]] at hT; exact hT
        · rw [show decide ((0 : Int) ≤ k ∧ k < (n : Int)) = false by simp; omega] at hT; exact hT
      | _ => first | (cases hp; done) | (specialize ⟨isNum⟩; exact ⟨hacc, hT⟩)
    · rw [filt_true]
      fail "S"
      refine ⟨ts.map (plT n), by rw [List.map_map]; rfl, fun hf => ?_, fun hf => ?_⟩
      · have e : placesT n (.lst ts) = false := by
          show (ts.all (plT n) && (zpT ts ts.tail).all ltP) = false
          obtain ⟨y, hy, ey⟩ := List.mem_map.mp hf
          rw [show ts.all (plT n) = false from List.all_eq_false.mpr ⟨y, hy, by rw [ey]; exact Bool.false_ne_true⟩, Bool.false_and]
        rw [e] at hQ; exact hQ
      · have h2 : ts.all (plT n) = true := List.all_eq_true.mpr fun y hy => by
          cases h : plT n y with
          | true => rfl
          | false => exact absurd (List.mem_map.mpr ⟨y, hy, h⟩) hf
        obtain ⟨e1, e2⟩ := all_pl h2
        have e3 : placesT n (.lst ts) = (zpT ts ts.tail).all ltP := by show (ts.all (plT n) && _) = _; rw [h2, Bool.true_and]
        rw [e3] at hQ
        have hll : (ts.map natOf).length < sizeLine := by rw [List.length_map]; exact hl
        generalize ts.map natOf = J at e1 hll
        subst e1
        refine callK_of rfl rfl ⟨J, rfl, rfl, hll, ?_⟩
        fail "S"
        exact hQ
  | _ => first | (unfold T.ok at hok; cases hok; done) | (fail "S"; exact hQ)

/-- not two of them -/
theorem pair_or (ts : List T) : (∃ a b, ts = [a, b]) ∨ ts.length ≠ 2 := by
  rcases ts with _ | ⟨a, _ | ⟨b, _ | ⟨c, r⟩⟩⟩
  · exact .inr (by simp)
  · exact .inr (by simp)
  · exact .inl ⟨a, b, rfl⟩
  · exact .inr (by simp)
theorem showT_no (as : List (Nat × Nat)) (room : List Nat) {ts : List T} (h : ts.length ≠ 2) : showT as room (.tup ts) = false := by
  rcases pair_or ts with ⟨a, b, rfl⟩ | h2
  · exact absurd rfl h
  · rcases ts with _ | ⟨a, _ | ⟨b, _ | ⟨c, r⟩⟩⟩
    · rfl
    · rfl
    · exact absurd rfl h
    · rfl
def fOver : T → Bool
  | .tup [.int a, .int b] => decide (b < a)
  | _ => false
def fMiss (J : List Nat) : T → Bool
  | .tup [.int a, .int b] => miss J (a.toNat, b.toNat)
  | _ => false
theorem fMiss_len (as : List (Nat × Nat)) (J : List Nat) : ((((asT as).filter (fMiss J)).map fun x => x).length : Int) = (as.countP (miss J) : Nat) := by
  rw [List.length_map]
  unfold asT
  rw [List.filter_map, List.length_map, List.countP_eq_length_filter]
  rfl
def fHs (p : Nat × Nat) : T → Bool
  | .int i => hasL p i.toNat
  | _ => false
theorem fHs_mem (J : List Nat) (p : Nat × Nat) : (true ∈ (natT J).map (fHs p)) ↔ miss J p = false := by
  unfold natT miss
  rw [List.map_map, Bool.not_eq_false', List.any_eq_true, List.mem_map]
  rfl
theorem over_mem (as : List (Nat × Nat)) (room : List Nat) : (true ∈ (zpT (tabT room.length (cnt as)) (natT room)).map fOver) ↔ fitN as room = false := by
  unfold fitN
  rw [Bool.not_eq_false', List.any_eq_true, List.mem_map]
  have hl : (zpT (tabT room.length (cnt as)) (natT room)).length = room.length := by rw [zpT_len, tab_len, natT_len, Nat.min_self]
  have at_ : ∀ j (h : j < room.length), (zpT (tabT room.length (cnt as)) (natT room))[j]? = some (.tup [.int (cnt as j : Nat), .int (rm room j : Nat)]) := fun j h => zpT_get (tab_get _ h) (natT_rm h)
  constructor
  · rintro ⟨x, hx, ex⟩
    obtain ⟨j, hj, e⟩ := List.mem_iff_getElem.mp hx
    rw [hl] at hj
    have e2 := at_ j hj
    rw [List.getElem?_eq_getElem (by omega), e] at e2
    cases e2
    refine ⟨j, List.mem_range.mpr hj, ?_⟩
    have := of_decide_eq_true ex
    exact decide_eq_true (by rw [← cnt_cntL]; omega)
  · rintro ⟨j, hj, hd⟩
    have hj := List.mem_range.mp hj
    refine ⟨_, List.mem_of_getElem? (at_ j hj), decide_eq_true ?_⟩
    have := of_decide_eq_true hd
    rw [← cnt_cntL] at this
    omega
def sp_p_shows_most : ASp := fun vs s Q => ∃ (x y t : T) (as : List (Nat × Nat)) (room : List Nat), vs = [.d x, .d y, .d t] ∧ s = [] ∧ ((x = .lst (asT as) ∧ y = .lst (natT room)) ∨ (x = .tup (asT as) ∧ y = .tup (natT room))) ∧ T.ok 20 t = true ∧ T.sz t = true ∧ as.length ≤ 900 ∧ room.length ≤ 900 ∧ 1 ≤ room.length ∧
  (∀ p ∈ as, p.1 < p.2 ∧ p.2 ≤ room.length) ∧ Q (.d (.bl (showT as room t))) []
theorem len_p_shows_most : ∀ vs s Q, sp_p_shows_most vs s Q → vs.length = 3 := fun vs s Q ⟨x, y, t, n, _, h, _⟩ => by rw [h]; rfl
theorem ok_p_shows_most (U : Tx mg) (D : Ds K mg) (C_p_are_places : Cal P w K mg base 2 "are_places" ["thing", "many"] sp_p_are_places) (C_p_loads : Cal P w K mg base 1 "loads" ["asks", "legs"] sp_p_loads) (C_p_has : Cal P w K mg base 1 "has" ["ask", "leg"] sp_p_has) : Cal P w K mg base 3 "shows_most" ["asks", "room", "thing"] sp_p_shows_most := by
  refine Df.cal D.d_p_shows_most sc_p_shows_most (len_p_shows_most) fun f cdv A outer s H E hr => ?_
  have hu : (A.deeper (PyProof.Rows.envOfC "shows_most" (defScope s_p_shows_most) s.heap.objs.size f cdv)).units + 64 < cLine := by have := hr.un; omega
  have hu5 : (A.deeper (PyProof.Rows.envOfC "shows_most" (defScope s_p_shows_most) s.heap.objs.size f cdv)).units + 65 < cLine := by have := hr.un; omega
  refine ⟨_, (ap_cons (ap_if ((aw_or (at_not (at_val (ae_isi U.m_isinstance (aa_cons (ae_v (pv 2)) (aa_cons (ae_ty U.m_tuple (by rfl)) aa_nil))))) (aw_or1 (at_c (c_ne hu) (ae_len U.m_len (aa_cons (ae_v (pv 2)) aa_nil)) ae_int)))).at_ (ap_one (ap_ret ae_bl)) ap_nil)
      (ap_cons (ap_asg (ae_v (pv 2)) (ag_tup (n := 2) rfl (ags_cons (ag_name (i := 3) sc_p_shows_most.nd) (ags_cons (ag_name (i := 4) sc_p_shows_most.nd) ags_nil))))
      (ap_cons (ap_if ((aw_or (at_not (at_val (ae_cal C_p_are_places (hr.mono (by omega)) (aa_cons (ae_v (pv 3)) (aa_cons (ae_len U.m_len (aa_cons (ae_v (pv 0)) aa_nil)) aa_nil))))) (aw_or1 (at_not (at_val (ae_cal C_p_are_places (hr.mono (by omega)) (aa_cons (ae_v (pv 4)) (aa_cons (ae_len U.m_len (aa_cons (ae_v (pv 1)) aa_nil)) aa_nil)))))))).at_ (ap_one (ap_ret ae_bl)) ap_nil)
      (ap_cons (ap_if (at_val (ae_any U.m_any (aa_cons (ae_dat (ae_lc (own := [("load", 7), ("many", 8)]) sc_p_shows_most.nd (ai_zip U.m_zip (ae_dat (ae_cal C_p_loads (hr.mono (by omega)) (aa_cons (ae_dat (ae_lc (own := [("place", 10)]) sc_p_shows_most.nd (ai_seq (ae_v (pv 3))) (blkOk_by (own := [("place", 10)]) (N := N_p_shows_most) (sc := defScope s_p_shows_most) (by decide +kernel)) (fun _ _ _ _ _ => (ag_name (i := 10) sc_p_shows_most.nd)) (fun _ _ _ _ _ => ats_nil) (fun _ _ _ _ _ => (ae_ix (ae_v (pv 0)) (ae_v (pv 10)))))) (aa_cons (ae_len U.m_len (aa_cons (ae_v (pv 1)) aa_nil)) aa_nil)))) (ae_v (pv 1))) (blkOk_by (own := [("load", 7), ("many", 8)]) (N := N_p_shows_most) (sc := defScope s_p_shows_most) (by decide +kernel)) (fun _ _ _ _ _ => (ag_tup (n := 2) rfl (ags_cons (ag_name (i := 7) sc_p_shows_most.nd) (ags_cons (ag_name (i := 8) sc_p_shows_most.nd) ags_nil)))) (fun _ _ _ _ _ => ats_nil) (fun _ _ _ _ _ => (ae_c c_gt (ae_v (pv 7)) (ae_v (pv 8)))))) aa_nil))) (ap_one (ap_ret ae_bl)) ap_nil)
      (ap_cons (ap_setLc (i := 5) (own := [("ask", 6)]) sc_p_shows_most.nd (ai_seq (ae_v (pv 0))) (blkOk_by (own := [("ask", 6)]) (N := N_p_shows_most) (sc := defScope s_p_shows_most) (by decide +kernel)) (fun _ _ _ _ _ => (ag_name (i := 6) sc_p_shows_most.nd)) (fun _ _ _ _ _ => (ats_one (at_not (at_val (ae_any U.m_any (aa_cons (ae_dat (ae_lc (own := [("leg", 9)]) sc_p_shows_most.nd (ai_seq (ae_v (pv 4))) (by exact blkOk_by (own := [("leg", 9)]) (N := N_p_shows_most) (by kernel_rfl)) (fun _ _ _ _ _ => (ag_name (i := 9) sc_p_shows_most.nd)) (fun _ _ _ _ _ => ats_nil) (fun _ _ _ _ _ => (ae_cal C_p_has (hr.mono (by omega)) (aa_cons (ae_v (pv 6)) (aa_cons (ae_v (pv 9)) aa_nil)))))) aa_nil)))))) (fun _ _ _ _ _ => (ae_v (pv 6))) lift_fr (sw_true rfl rfl rfl (by decide +kernel)))
      (ap_one (ap_ret (ae_c (c_eq hu) (ae_len U.m_len (aa_cons (ae_v (pv 3)) aa_nil)) (ae_add (ae_sum U.m_sum (aa_cons (ae_dat (ae_lc (own := [("leg", 9)]) sc_p_shows_most.nd (ai_seq (ae_v (pv 4))) (blkOk_by (own := [("leg", 9)]) (N := N_p_shows_most) (sc := defScope s_p_shows_most) (by decide +kernel)) (fun _ _ _ _ _ => (ag_name (i := 9) sc_p_shows_most.nd)) (fun _ _ _ _ _ => ats_nil) (fun _ _ _ _ _ => (ae_ix (ae_v (pv 1)) (ae_v (pv 9)))))) aa_nil)) (ae_len U.m_len (aa_cons (ae_v (pv 5)) aa_nil))))))))))), ?_⟩
  rintro svs s0 Q ⟨x, y, t, as, room, rfl, rfl, hxy, hok, hsz, hl, hr, hr1, hp, hQ⟩
  cases t with
  | tup ts =>
    obtain ⟨m, e, ho⟩ := ok_tup hok
    obtain ⟨hln, hz⟩ := sz_tup hsz
    rcases pair_or ts with ⟨k, l, rfl⟩ | hne
    · cases e
      have hk := List.all_eq_true.mp ho k List.mem_cons_self
      have hl2 := List.all_eq_true.mp ho l (List.mem_cons_of_mem _ List.mem_cons_self)
      have hzk := List.all_eq_true.mp hz k List.mem_cons_self
      have hzl := List.all_eq_true.mp hz l (List.mem_cons_of_mem _ List.mem_cons_self)
      have hsT : showT as room (.tup [k, l]) = (placesT as.length k && placesT room.length l && showN as room (natsOf k) (natsOf l)) := rfl
      rcases hxy with ⟨rfl, rfl⟩ | ⟨rfl, rfl⟩
      · specialize ⟨asT_len, natT_len⟩
        refine callK_of rfl rfl ⟨k, as.length, rfl, rfl, T.ok_mono hk, hzk, by omega, ?_⟩
        cases hpk : placesT as.length k with
        | false =>
          rw [hsT, hpk] at hQ
          fail "S"
          exact hQ
        | true =>
          specialize ⟨asT_len, natT_len⟩
          refine callK_of rfl rfl ⟨l, room.length, rfl, rfl, T.ok_mono hl2, hzl, by omega, ?_⟩
          cases hpl : placesT room.length l with
          | false =>
            rw [hsT, hpk, hpl] at hQ
            fail "S"
            exact hQ
          | true =>
            obtain ⟨K, rfl, hK1, hK2⟩ := placesT_iff.mp hpk
            obtain ⟨J, rfl, hJ1, hJ2⟩ := placesT_iff.mp hpl
            rw [showT_pair _ _ _ _ hpk hpl] at hQ
            have hKl := rising_len hK1 hK2
            have hJl := rising_len hJ1 hJ2
            have hcl : (chosen as K).length = K.length := List.length_map ..
            specialize ⟨asT_len, natT_len⟩
            have hca : okA (chosen as K) room.length := ⟨fun q hq => hp q (chosen_mem hK2 hq), by omega, hr1, by omega⟩
            refine lcI_pure (zpT (tabT room.length (cnt (chosen as K))) (natT room)) (fun _ => true) (fun x => .bl (fOver x)) (by rw [zpT_len, tab_len, natT_len]; exact len_lt (by omega)) ?_ ?_ ?_
            · intro Q' h
              fail "S"
              refine lcI_pure (natT K) (fun _ => true) (fAt as) (by rw [natT_len]; exact len_lt (by omega)) ?_ ?_ ?_
              · intro Q' h
                fail "S"
                exact h _ trivial
              · intro i z hz acc C2 hacc hT hF
                obtain ⟨p, hp1, rfl⟩ := natT_at hz
                have hT := hT rfl
                have hpl2 := hK2 p (List.mem_of_getElem? hp1)
                fail "S"
                exact ⟨_, atI_at (askAt_get hpl2), hacc, hT⟩
              · rw [filt_true, fAt_all]
                specialize ⟨natT_len⟩
                refine callK_of rfl rfl ⟨_, chosen as K, room.length, rfl, rfl, .inl rfl, hca, ?_⟩
                fail "S"
                exact h _ (by first | trivial | exact ⟨trivial, trivial⟩)
            · intro i z hz acc C2 hacc hT hF
              have hi := (List.getElem?_eq_some_iff.mp hz).1
              rw [zpT_len, tab_len, natT_len] at hi
              rw [zpT_get (tab_get _ (by omega)) (natT_rm (by omega))] at hz
              cases hz
              have hT := hT rfl
              rw [show fOver (.tup [.int (cnt (chosen as K) i : Nat), .int (rm room i : Nat)]) = decide (rm room i < cnt (chosen as K) i) by show decide (((rm room i : Nat) : Int) < (cnt (chosen as K) i : Nat)) = _; simp] at hT
              fail "S"
              exact ⟨hacc, hT⟩
            · rw [filt_true]
              fail "S"
              refine ⟨(zpT (tabT room.length (cnt (chosen as K))) (natT room)).map fOver, by rw [List.map_map]; rfl, ?_⟩
              rw [over_mem]
              unfold showN at hQ
              cases hfit : fitN (chosen as K) room with
              | false =>
                rw [hfit] at hQ
                exact ⟨fun _ => hQ, fun h => absurd rfl h⟩
              | true =>
                rw [hfit, Bool.true_and] at hQ
                refine ⟨fun h => (nomatch h), fun _ => ?_⟩
                refine lcI_pure (asT as) (fMiss J) (fun x => x) (by rw [asT_len]; exact len_lt (by omega)) ?_ ?_ ?_
                · intro Q' h
                  fail "S"
                  exact h _ trivial
                · intro i z hz acc C2 hacc hT hF
                  have hi := (List.getElem?_eq_some_iff.mp hz).1
                  rw [asT_len] at hi
                  rw [asT_get hi] at hz
                  cases hz
                  generalize as[i] = p at hT hF
                  have e : fMiss J (.tup [.int p.1, .int p.2]) = miss J p := rfl
                  rw [e] at hT hF
                  fail "S"
                  refine lcI_pure (natT J) (fun _ => true) (fun x => .bl (fHs p x)) (by rw [natT_len]; exact len_lt (by omega)) ?_ ?_ ?_
                  · intro Q' h
                    fail "S"
                    exact h _ trivial
                  · intro i z hz acc C3 hacc hT hF
                    obtain ⟨j, hj, rfl⟩ := natT_at hz
                    have hT := hT rfl
                    fail "S"
                    refine callK_of rfl rfl ⟨p.1, p.2, j, rfl, rfl, ?_⟩
                    fail "S"
                    exact ⟨hacc, hT⟩
                  · rw [filt_true]
                    fail "S"
                    refine ⟨(natT J).map (fHs p), by rw [List.map_map]; rfl, ?_⟩
                    rw [fHs_mem]
                    exact ⟨fun h => ⟨hacc, hT (by simpa using h)⟩, fun h => hF h⟩
                · fail "S"
                  refine lcI_pure (natT J) (fun _ => true) (fun x => .int (fRm room x)) (by rw [natT_len]; exact len_lt (by omega)) ?_ ?_ ?_
                  · intro Q' h
                    fail "S"
                    exact h _ trivial
                  · intro i z hz acc C2 hacc hT hF
                    obtain ⟨j, hj, rfl⟩ := natT_at hz
                    have hjn := hJ2 j (List.mem_of_getElem? hj)
                    have hT := hT rfl
                    rw [fRm_at] at hT
                    fail "S"
                    exact ⟨_, atI_at (natT_rm hjn), hacc, hT⟩
                  · rw [filt_true]
                    fail "S"
                    refine ⟨(natT J).map (fRm room), by rw [List.map_map]; rfl, ?_⟩
                    have hm := fMiss_len as J
                    rw [List.map_id'] at hm
                    rw [fRm_sum, hm, natT_len]
                    have e : decide ((K.length : Int) = (sumJ room J : Nat) + (as.countP (miss J) : Nat)) = decide (K.length = sumJ room J + as.countP (miss J)) := decide_eq_decide.mpr (by omega)
                    rw [e]
                    exact hQ
      · specialize ⟨asT_len, natT_len⟩
        refine callK_of rfl rfl ⟨k, as.length, rfl, rfl, T.ok_mono hk, hzk, by omega, ?_⟩
        cases hpk : placesT as.length k with
        | false =>
          rw [hsT, hpk] at hQ
          fail "S"
          exact hQ
        | true =>
          specialize ⟨asT_len, natT_len⟩
          refine callK_of rfl rfl ⟨l, room.length, rfl, rfl, T.ok_mono hl2, hzl, by omega, ?_⟩
          cases hpl : placesT room.length l with
          | false =>
            rw [hsT, hpk, hpl] at hQ
            fail "S"
            exact hQ
          | true =>
            obtain ⟨K, rfl, hK1, hK2⟩ := placesT_iff.mp hpk
            obtain ⟨J, rfl, hJ1, hJ2⟩ := placesT_iff.mp hpl
            rw [showT_pair _ _ _ _ hpk hpl] at hQ
            have hKl := rising_len hK1 hK2
            have hJl := rising_len hJ1 hJ2
            have hcl : (chosen as K).length = K.length := List.length_map ..
            specialize ⟨asT_len, natT_len⟩
            have hca : okA (chosen as K) room.length := ⟨fun q hq => hp q (chosen_mem hK2 hq), by omega, hr1, by omega⟩
            refine lcI_pure (zpT (tabT room.length (cnt (chosen as K))) (natT room)) (fun _ => true) (fun x => .bl (fOver x)) (by rw [zpT_len, tab_len, natT_len]; exact len_lt (by omega)) ?_ ?_ ?_
            · intro Q' h
              fail "S"
              refine lcI_pure (natT K) (fun _ => true) (fAt as) (by rw [natT_len]; exact len_lt (by omega)) ?_ ?_ ?_
              · intro Q' h
                fail "S"
                exact h _ trivial
              · intro i z hz acc C2 hacc hT hF
                obtain ⟨p, hp1, rfl⟩ := natT_at hz
                have hT := hT rfl
                have hpl2 := hK2 p (List.mem_of_getElem? hp1)
                fail "S"
                exact ⟨_, atI_at (askAt_get hpl2), hacc, hT⟩
              · rw [filt_true, fAt_all]
                specialize ⟨natT_len⟩
                refine callK_of rfl rfl ⟨_, chosen as K, room.length, rfl, rfl, .inl rfl, hca, ?_⟩
                fail "S"
                exact h _ (by first | trivial | exact ⟨trivial, trivial⟩)
            · intro i z hz acc C2 hacc hT hF
              have hi := (List.getElem?_eq_some_iff.mp hz).1
              rw [zpT_len, tab_len, natT_len] at hi
              rw [zpT_get (tab_get _ (by omega)) (natT_rm (by omega))] at hz
              cases hz
              have hT := hT rfl
              rw [show fOver (.tup [.int (cnt (chosen as K) i : Nat), .int (rm room i : Nat)]) = decide (rm room i < cnt (chosen as K) i) by show decide (((rm room i : Nat) : Int) < (cnt (chosen as K) i : Nat)) = _; simp] at hT
              fail "S"
              exact ⟨hacc, hT⟩
            · rw [filt_true]
              fail "S"
              refine ⟨(zpT (tabT room.length (cnt (chosen as K))) (natT room)).map fOver, by rw [List.map_map]; rfl, ?_⟩
              rw [over_mem]
              unfold showN at hQ
              cases hfit : fitN (chosen as K) room with
              | false =>
                rw [hfit] at hQ
                exact ⟨fun _ => hQ, fun h => absurd rfl h⟩
              | true =>
                rw [hfit, Bool.true_and] at hQ
                refine ⟨fun h => (nomatch h), fun _ => ?_⟩
                refine lcI_pure (asT as) (fMiss J) (fun x => x) (by rw [asT_len]; exact len_lt (by omega)) ?_ ?_ ?_
                · intro Q' h
                  fail "S"
                  exact h _ trivial
                · intro i z hz acc C2 hacc hT hF
                  have hi := (List.getElem?_eq_some_iff.mp hz).1
                  rw [asT_len] at hi
                  rw [asT_get hi] at hz
                  cases hz
                  generalize as[i] = p at hT hF
                  have e : fMiss J (.tup [.int p.1, .int p.2]) = miss J p := rfl
                  rw [e] at hT hF
                  fail "S"
                  refine lcI_pure (natT J) (fun _ => true) (fun x => .bl (fHs p x)) (by rw [natT_len]; exact len_lt (by omega)) ?_ ?_ ?_
                  · intro Q' h
                    fail "S"
                    exact h _ trivial
                  · intro i z hz acc C3 hacc hT hF
                    obtain ⟨j, hj, rfl⟩ := natT_at hz
                    have hT := hT rfl
                    fail "S"
                    refine callK_of rfl rfl ⟨p.1, p.2, j, rfl, rfl, ?_⟩
                    fail "S"
                    exact ⟨hacc, hT⟩
                  · rw [filt_true]
                    fail "S"
                    refine ⟨(natT J).map (fHs p), by rw [List.map_map]; rfl, ?_⟩
                    rw [fHs_mem]
                    exact ⟨fun h => ⟨hacc, hT (by simpa using h)⟩, fun h => hF h⟩
                · fail "S"
                  refine lcI_pure (natT J) (fun _ => true) (fun x => .int (fRm room x)) (by rw [natT_len]; exact len_lt (by omega)) ?_ ?_ ?_
                  · intro Q' h
                    fail "S"
                    exact h _ trivial
                  · intro i z hz acc C2 hacc hT hF
                    obtain ⟨j, hj, rfl⟩ := natT_at hz
                    have hjn := hJ2 j (List.mem_of_getElem? hj)
                    have hT := hT rfl
                    rw [fRm_at] at hT
                    fail "S"
                    exact ⟨_, atI_at (natT_rm hjn), hacc, hT⟩
                  · rw [filt_true]
                    fail "S"
                    refine ⟨(natT J).map (fRm room), by rw [List.map_map]; rfl, ?_⟩
                    have hm := fMiss_len as J
                    rw [List.map_id'] at hm
                    rw [fRm_sum, hm, natT_len]
                    have e : decide ((K.length : Int) = (sumJ room J : Nat) + (as.countP (miss J) : Nat)) = decide (K.length = sumJ room J + as.countP (miss J)) := decide_eq_decide.mpr (by omega)
                    rw [e]
                    exact hQ
    · rw [showT_no as room hne] at hQ
      fail "S"
      exact ⟨fun _ => hQ, fun h => absurd (by omega) hne⟩
  | _ => first | (unfold T.ok at hok; cases hok; done) | (fail "S"; exact hQ)

def sp_is_rising : ASp := fun vs s Q => ∃ (x : SV) (J : List Nat) (n : Nat), vs = [x, .d (.int n)] ∧ isD x s (.lst (natT J)) ∧ J.length ≤ 1000 ∧ J.Pairwise (· < ·) ∧ (∀ j ∈ J, j < n) ∧ Q (.d (.bl true)) s
theorem len_is_rising : ∀ vs s Q, sp_is_rising vs s Q → vs.length = 2 := fun vs s Q ⟨x, a, i, h, _⟩ => by rw [h]; rfl
theorem ok_is_rising (U : Tx mg) (D : Ds K mg)  : Cal P w K mg base 1 "_law_is_rising" ["_law_thing", "_law_many"] sp_is_rising := by
  refine Df.cal D.d_is_rising sc_is_rising (len_is_rising) fun f cdv A outer s H E hr => ?_
  have hu : (A.deeper (PyProof.Rows.envOfC "_law_is_rising" (defScope s_is_rising) s.heap.objs.size f cdv)).units + 64 < cLine := by have := hr.un; omega
  have hu5 : (A.deeper (PyProof.Rows.envOfC "_law_is_rising" (defScope s_is_rising) s.heap.objs.size f cdv)).units + 65 < cLine := by have := hr.un; omega
  refine ⟨_, (ap_cons (ap_if (at_not (at_val (ae_isi U.m_isinstance (aa_cons (ae_v (pv 0)) (aa_cons (ae_ty U.m_list (by rfl)) aa_nil))))) (ap_one (ap_ret ae_bl)) ap_nil)
      (ap_cons (ap_if (at_not (at_val (ae_all U.m_all (aa_cons (ae_dat (ae_lc (own := [("_law_one", 2)]) sc_is_rising.nd (ai_seq (ae_v (pv 0))) (blkOk_by (own := [("_law_one", 2)]) (N := N_is_rising) (sc := defScope s_is_rising) (by decide +kernel)) (fun _ _ _ _ _ => (ag_name (i := 2) sc_is_rising.nd)) (fun _ _ _ _ _ => ats_nil) (fun _ _ _ _ _ => (ae_and (ae_isi U.m_isinstance (aa_cons (ae_v (pv 2)) (aa_cons (ae_ty U.m_int (by rfl)) aa_nil))) (ae_and (ae_not (ae_isi U.m_isinstance (aa_cons (ae_v (pv 2)) (aa_cons (ae_ty U.m_bool (by rfl)) aa_nil)))) (ae_one (ae_chain c_le c_lt ae_int (ae_v (pv 2)) (ae_v (pv 1))))))))) aa_nil)))) (ap_one (ap_ret ae_bl)) ap_nil)
      (ap_one (ap_ret (ae_all U.m_all (aa_cons (ae_dat (ae_lc (own := [("_law_one", 2), ("_law_other", 3)]) sc_is_rising.nd (ai_zip U.m_zip (ae_v (pv 0)) (ae_dat (ae_sl (ae_v (pv 0)) (ao_some ae_int) ao_none))) (blkOk_by (own := [("_law_one", 2), ("_law_other", 3)]) (N := N_is_rising) (sc := defScope s_is_rising) (by decide +kernel)) (fun _ _ _ _ _ => (ag_tup (n := 2) rfl (ags_cons (ag_name (i := 2) sc_is_rising.nd) (ags_cons (ag_name (i := 3) sc_is_rising.nd) ags_nil)))) (fun _ _ _ _ _ => ats_nil) (fun _ _ _ _ _ => (ae_c c_lt (ae_v (pv 2)) (ae_v (pv 3)))))) aa_nil)))))), ?_⟩
  rintro svs s0 Q ⟨x, J, n, rfl, hx, hl, hp, hn, hQ⟩
  rcases hx with ⟨rfl, rfl⟩ | ⟨ts, e, rfl, rfl⟩
  · fail "S"
    refine lcI_pure (natT J) (fun _ => true) (fun _ => .bl true) (by rw [natT_len]; exact len_lt (by omega)) ?_ ?_ ?_
    · intro Q' h
      fail "S"
      exact h _ (by first | trivial | rfl)
    · intro i x hx acc C2 hacc hT hF
      obtain ⟨j, hj, rfl⟩ := natT_at hx
      have hjn := hn j (List.mem_of_getElem? hj)
      fail "S"
      simp [hjn, hacc, hT]
    · rw [filt_true]
      fail "S"
      refine ⟨List.replicate J.length true, by rw [List.map_const', natT_len, List.map_replicate], ?_⟩
      simp
      refine lcI_pure (zpT (natT J) (natT J.tail)) (fun _ => true) (fun _ => .bl true) (by rw [zpT_len, natT_len, natT_len]; exact len_lt (by omega)) ?_ ?_ ?_
      · intro Q' h
        specialize ⟨natT_drop1⟩
        exact h _ (by first | trivial | rfl)
      · intro i x hx acc C2 hacc hT hF
        have hi := (List.getElem?_eq_some_iff.mp hx).1
        rw [zpT_len, natT_len, natT_len, List.length_tail] at hi
        rw [zpT_get (natT_get (i := i) (by omega)) (natT_get (i := i) (by rw [List.length_tail]; omega))] at hx
        cases hx
        have h2 : J[i]'(by omega) < J[i + 1]'(by omega) := List.pairwise_iff_getElem.mp hp i (i + 1) _ _ (by omega)
        have hT := hT rfl
        fail "S"
        rw [decide_eq_true h2]
        exact ⟨hacc, hT⟩
      · rw [filt_true]
        fail "S"
        refine ⟨List.replicate (zpT (natT J) (natT J.tail)).length true, by rw [List.map_const', List.map_replicate], ?_⟩
        simp
        exact hQ
  · cases e
    fail "S"
    refine lcI_pure (natT J) (fun _ => true) (fun _ => .bl true) (by rw [natT_len]; exact len_lt (by omega)) ?_ ?_ ?_
    · intro Q' h
      fail "S"
      exact h _ (by first | trivial | rfl)
    · intro i x hx acc C2 hacc hT hF
      obtain ⟨j, hj, rfl⟩ := natT_at hx
      have hjn := hn j (List.mem_of_getElem? hj)
      fail "S"
      simp [hjn, hacc, hT]
    · rw [filt_true]
      fail "S"
      refine ⟨List.replicate J.length true, by rw [List.map_const', natT_len, List.map_replicate], ?_⟩
      simp
      refine lcI_pure (zpT (natT J) (natT J.tail)) (fun _ => true) (fun _ => .bl true) (by rw [zpT_len, natT_len, natT_len]; exact len_lt (by omega)) ?_ ?_ ?_
      · intro Q' h
        specialize ⟨natT_drop1⟩
        exact h _ (by first | trivial | rfl)
      · intro i x hx acc C2 hacc hT hF
        have hi := (List.getElem?_eq_some_iff.mp hx).1
        rw [zpT_len, natT_len, natT_len, List.length_tail] at hi
        rw [zpT_get (natT_get (i := i) (by omega)) (natT_get (i := i) (by rw [List.length_tail]; omega))] at hx
        cases hx
        have h2 : J[i]'(by omega) < J[i + 1]'(by omega) := List.pairwise_iff_getElem.mp hp i (i + 1) _ _ (by omega)
        have hT := hT rfl
        fail "S"
        rw [decide_eq_true h2]
        exact ⟨hacc, hT⟩
      · rw [filt_true]
        fail "S"
        refine ⟨List.replicate (zpT (natT J) (natT J.tail)).length true, by rw [List.map_const', List.map_replicate], ?_⟩
        simp
        exact hQ

structure Cs20 (n : Nat) (as : List (Nat × Nat)) (room : List Nat) (b : Nat) : Prop where
  al : as.length ≤ b
  ap : ∀ p ∈ as, p.1 < p.2 ∧ p.2 ≤ n
  rl : room.length = n
  r6 : ∀ x ∈ room, x ≤ 60
def sp_put : ASp := fun vs s Q => ∃ (o : LO) (β : Int) (as : List (Nat × Nat)) (room : List Nat) (n b : Nat), vs = [.l 0, .l 1, .d (.int (n : Nat))] ∧ s = [o, .tp [.l 2, .l 3], .lst (asT as), .lst (natT room)] ∧ Bx β o ∧ β < 2 ^ 37 ∧ 1 ≤ n ∧ n ≤ 12 ∧ Cs20 n as room b ∧ b ≤ 100 ∧
  ∀ as' room' ts, Cs20 n as' room' (b + 1) → Bx (β + 10) (.lst ts) → Q (.d .non) [.lst ts, .tp [.l 2, .l 3], .lst (asT as'), .lst (natT room')]
theorem len_put : ∀ vs s Q, sp_put vs s Q → vs.length = 3 := fun vs s Q ⟨o, β, as, room, n, b, h, _⟩ => by rw [h]; rfl
theorem ok_put (U : Tx mg) (D : Ds K mg) (C_take : Cal P w K mg base 1 "_law_take" ["_law_box_here", "_law_many"] sp_take) (C_stretch : Cal P w K mg base 2 "_law_stretch" ["_law_box_here", "_law_stops"] sp_stretch) : Cal P w K mg base 3 "_law_put" ["_law_box_here", "_law_case", "_law_legs"] sp_put := by
  refine Df.cal D.d_put sc_put (len_put) fun f cdv A outer s H E hr => ?_
  have hu : (A.deeper (PyProof.Rows.envOfC "_law_put" (defScope s_put) s.heap.objs.size f cdv)).units + 64 < cLine := by have := hr.un; omega
  have hu5 : (A.deeper (PyProof.Rows.envOfC "_law_put" (defScope s_put) s.heap.objs.size f cdv)).units + 65 < cLine := by have := hr.un; omega
  refine ⟨_, (ap_cons (ap_asg (ae_v (pv 1)) (ag_tup (n := 2) rfl (ags_cons (ag_name (i := 3) sc_put.nd) (ags_cons (ag_name (i := 4) sc_put.nd) ags_nil))))
      (ap_cons (ap_set (i := 5) sc_put.nd (ae_cal C_take (hr.mono (by omega)) (aa_cons (ae_v (pv 0)) (aa_cons ae_int aa_nil))))
      (ap_one (ap_if (at_c (c_eq hu) (ae_v (pv 5)) ae_int) (ap_one (ap_asg (ae_cal C_take (hr.mono (by omega)) (aa_cons (ae_v (pv 0)) (aa_cons ae_int aa_nil))) (ag_sub (ae_v (pv 4)) (ae_cal C_take (hr.mono (by omega)) (aa_cons (ae_v (pv 0)) (aa_cons (ae_v (pv 2)) aa_nil)))))) (ap_one (ap_if ((aw_or (at_c (c_eq hu) (ae_v (pv 5)) ae_int) (aw_or1 (at_c (c_eq hu) (ae_v (pv 3)) (ae_dat (ae_lst aa_nil)))))).at_ (ap_one (ap_expr (ae_insert (ae_v (pv 3)) (aa_cons (ae_cal C_take (hr.mono (by omega)) (aa_cons (ae_v (pv 0)) (aa_cons (ae_add (ae_len U.m_len (aa_cons (ae_v (pv 3)) aa_nil)) ae_int) aa_nil))) (aa_cons (ae_cal C_stretch (hr.mono (by omega)) (aa_cons (ae_v (pv 0)) (aa_cons (ae_add (ae_v (pv 2)) ae_int) aa_nil))) aa_nil))))) (ap_one (ap_if (at_c (c_eq hu) (ae_v (pv 5)) ae_int) (ap_one (ap_asg (ae_cal C_stretch (hr.mono (by omega)) (aa_cons (ae_v (pv 0)) (aa_cons (ae_add (ae_v (pv 2)) ae_int) aa_nil))) (ag_sub (ae_v (pv 3)) (ae_cal C_take (hr.mono (by omega)) (aa_cons (ae_v (pv 0)) (aa_cons (ae_len U.m_len (aa_cons (ae_v (pv 3)) aa_nil)) aa_nil)))))) (ap_one (ap_expr (ae_popAt (ae_v (pv 3)) (aa_cons (ae_cal C_take (hr.mono (by omega)) (aa_cons (ae_v (pv 0)) (aa_cons (ae_len U.m_len (aa_cons (ae_v (pv 3)) aa_nil)) aa_nil))) aa_nil)))))))))))), ?_⟩
  rintro svs s0 Q ⟨o, β, as, room, n, b, rfl, rfl, hB, hb, hn1, hn2, C, hb2, hQ⟩
  obtain ⟨ts, rfl⟩ := hB.lst
  have ha := C.al
  have hrl := C.rl
  fail "S"
  refine callK_of rfl rfl ⟨_, β, 4, rfl, rfl, hB, by omega, by omega, by omega, fun way ts1 hway hB1 => ?_⟩
  fail "S"
  refine ⟨fun h0 => ?_, fun h0 => ?_⟩
  · refine callK_of rfl rfl ⟨_, _, 5, rfl, rfl, hB1, by omega, by omega, by omega, fun v ts2 hv hB2 => ?_⟩
    fail "S"
    refine callK_of rfl rfl ⟨_, _, (n : Int), rfl, rfl, hB2, by omega, by omega, by omega, fun i ts3 hi hB3 => ?_⟩
    fail "S"
    refine ⟨i, ixN_nat (by rw [natT_len]; omega), rfl, ?_⟩
    have e : (natT room).set i (.int (v : Nat)) = natT (room.set i v) := by unfold natT; rw [List.map_set]
    rw [e]
    exact hQ as (room.set i v) ts3 ⟨by omega, C.ap, by rw [List.length_set]; exact hrl, fun x hx => by
      rcases List.mem_or_eq_of_mem_set hx with hx | rfl
      · exact C.r6 x hx
      · omega⟩ (hB3.mono (by omega))
  · have done : ∀ (i a b' : Nat) (γ : Int) us, i ≤ as.length → a < b' → b' < n + 1 → Bx γ (.lst us) → γ ≤ β + 10 → Q (.d .non) [.lst us, .tp [.l 2, .l 3], .lst ((asT as).take i ++ [.tup [.int (a : Nat), .int (b' : Nat)]] ++ (asT as).drop i), .lst (natT room)] := fun i a b' γ us hi h1 h2 h3 h4 => by
      have e : (asT as).take i ++ [.tup [.int (a : Nat), .int (b' : Nat)]] ++ (asT as).drop i = asT (as.take i ++ [(a, b')] ++ as.drop i) := by unfold asT; rw [List.map_append, List.map_append, List.map_take, List.map_drop]; rfl
      rw [e]
      refine hQ _ room us ⟨?_, fun p hp => ?_, hrl, C.r6⟩ (h3.mono h4)
      · rw [List.length_append, List.length_append, List.length_take, List.length_drop, List.length_singleton]; omega
      · rcases List.mem_append.mp hp with hp | hp
        · rcases List.mem_append.mp hp with hp | hp
          · exact C.ap p (List.mem_of_mem_take hp)
          · rw [List.mem_singleton.mp hp]; exact ⟨h1, by show b' ≤ n; omega⟩
        · exact C.ap p (List.mem_of_mem_drop hp)
    rw [asT_len]
    refine ⟨fun h1 => ?_, fun h1 => ⟨rfl, shaped_ok (n := 2) (ok_asT as), shaped_ok (n := 2) rfl, fun he => ?_, fun hne => ?_⟩⟩
    · skip
      refine callK_of rfl rfl ⟨_, _, ((as.length : Int) + 1), rfl, rfl, hB1, by omega, by omega, by omega, fun i ts2 hi hB2 => ?_⟩
      fail "S"
      refine callK_of rfl rfl ⟨_, _, n + 1, rfl, rfl, hB2, by omega, by omega, by omega, fun a b' ts3 hab hbn hB3 => ?_⟩
      fail "S"
      refine ⟨by rw [asT_len]; exact len_lt (by omega), by omega, rfl, ?_⟩
      have := done i a b' _ ts3 (by omega) hab (by omega) hB3 (by omega)
      rw [List.append_assoc] at this
      exact this
    · skip
      refine callK_of rfl rfl ⟨_, _, ((as.length : Int) + 1), rfl, rfl, hB1, by omega, by omega, by omega, fun i ts2 hi hB2 => ?_⟩
      fail "S"
      refine callK_of rfl rfl ⟨_, _, n + 1, rfl, rfl, hB2, by omega, by omega, by omega, fun a b' ts3 hab hbn hB3 => ?_⟩
      fail "S"
      refine ⟨by rw [asT_len]; exact len_lt (by omega), by omega, rfl, ?_⟩
      have := done i a b' _ ts3 (by omega) hab (by omega) hB3 (by omega)
      rw [List.append_assoc] at this
      exact this
    · have hpos : 0 < as.length := by
        cases as with
        | nil => exact absurd hne (by decide)
        | cons => exact Nat.succ_pos _
      refine ⟨fun h2 => ?_, fun h2 => ?_⟩
      · refine callK_of rfl rfl ⟨_, _, n + 1, rfl, rfl, hB1, by omega, by omega, by omega, fun a b' ts2 hab hbn hB2 => ?_⟩
        specialize ⟨asT_len⟩
        refine callK_of rfl rfl ⟨_, _, (as.length : Int), rfl, rfl, hB2, by omega, by omega, by omega, fun i ts3 hi hB3 => ?_⟩
        fail "S"
        refine ⟨i, ixN_nat (by rw [asT_len]; omega), rfl, ?_⟩
        have e : (asT as).set i (.tup [.int (a : Nat), .int (b' : Nat)]) = asT (as.set i (a, b')) := by unfold asT; rw [List.map_set]
        rw [e]
        refine hQ _ room ts3 ⟨by rw [List.length_set]; omega, fun p hp => ?_, hrl, C.r6⟩ (hB3.mono (by omega))
        rcases List.mem_or_eq_of_mem_set hp with hp | rfl
        · exact C.ap p hp
        · exact ⟨hab, by show b' ≤ n; omega⟩
      · refine callK_of rfl rfl ⟨_, _, (as.length : Int), rfl, rfl, hB1, by omega, by omega, by omega, fun i ts2 hi hB2 => ?_⟩
        fail "S"
        refine ⟨by omega, i, by rw [asT_len]; exact seqIndex_of (by omega) (by omega), ⟨_, asT_get (r := i) (by omega)⟩, rfl, ?_⟩
        have e : (asT as).eraseIdx i = asT (as.eraseIdx i) := by unfold asT; rw [List.eraseIdx_eq_take_drop_succ, List.eraseIdx_eq_take_drop_succ, List.map_append, List.map_take, List.map_drop]
        rw [e]
        exact hQ _ room ts2 ⟨by have := List.length_eraseIdx_le as i; omega, fun p hp => C.ap p (List.mem_of_mem_eraseIdx hp), hrl, C.r6⟩ (hB2.mono (by omega))
def sp_is_paper : ASp := fun vs s Q => ∃ (as : List (Nat × Nat)) (room J : List Nat), vs = [.d (.lst (asT as)), .d (.lst (natT room)), .d (.lst (natT J))] ∧ s = [] ∧ as.length ≤ 900 ∧ room.length ≤ 900 ∧ (∀ p ∈ as, p.1 < p.2) ∧ J.Pairwise (· < ·) ∧ (∀ j ∈ J, j < room.length) ∧ sumJ room J + as.countP (miss J) = (keptN as room room.length).length ∧ Q (.d (.bl true)) []
theorem len_is_paper : ∀ vs s Q, sp_is_paper vs s Q → vs.length = 3 := fun vs s Q ⟨as, room, J, h, _⟩ => by rw [h]; rfl
theorem ok_is_paper (U : Tx mg) (D : Ds K mg) (C_is_rising : Cal P w K mg base 1 "_law_is_rising" ["_law_thing", "_law_many"] sp_is_rising) (C_missing : Cal P w K mg base 1 "_law_missing" ["_law_asks_here", "_law_legs"] sp_missing) (C_kept : Cal P w K mg base 1 "_law_kept" ["_law_asks_here", "_law_room"] sp_kept) : Cal P w K mg base 2 "_law_is_paper" ["_law_asks_here", "_law_room", "_law_found"] sp_is_paper := by
  refine Df.cal D.d_is_paper sc_is_paper (len_is_paper) fun f cdv A outer s H E hr => ?_
  have hu : (A.deeper (PyProof.Rows.envOfC "_law_is_paper" (defScope s_is_paper) s.heap.objs.size f cdv)).units + 64 < cLine := by have := hr.un; omega
  have hu5 : (A.deeper (PyProof.Rows.envOfC "_law_is_paper" (defScope s_is_paper) s.heap.objs.size f cdv)).units + 65 < cLine := by have := hr.un; omega
  refine ⟨_, (ap_cons (ap_if (at_not (at_val (ae_cal C_is_rising (hr.mono (by omega)) (aa_cons (ae_v (pv 2)) (aa_cons (ae_len U.m_len (aa_cons (ae_v (pv 1)) aa_nil)) aa_nil))))) (ap_one (ap_ret ae_bl)) ap_nil)
      (ap_cons (ap_set (i := 3) sc_is_paper.nd (ae_add (ae_sum U.m_sum (aa_cons (ae_dat (ae_lc (own := [("_law_leg", 4)]) sc_is_paper.nd (ai_seq (ae_v (pv 2))) (blkOk_by (own := [("_law_leg", 4)]) (N := N_is_paper) (sc := defScope s_is_paper) (by decide +kernel)) (fun _ _ _ _ _ => (ag_name (i := 4) sc_is_paper.nd)) (fun _ _ _ _ _ => ats_nil) (fun _ _ _ _ _ => (ae_ix (ae_v (pv 1)) (ae_v (pv 4)))))) aa_nil)) (ae_cal C_missing (hr.mono (by omega)) (aa_cons (ae_v (pv 0)) (aa_cons (ae_v (pv 2)) aa_nil)))))
      (ap_one (ap_ret (ae_c (c_eq hu) (ae_v (pv 3)) (ae_len U.m_len (aa_cons (ae_dat (ae_cal C_kept (hr.mono (by omega)) (aa_cons (ae_v (pv 0)) (aa_cons (ae_v (pv 1)) aa_nil)))) aa_nil))))))), ?_⟩
  rintro svs s0 Q ⟨as, room, J, rfl, rfl, hl, hr2, hp, o1, o2, o3, hQ⟩
  have hJl : J.length ≤ 900 := by
    have := rising_len o1 o2
    omega
  specialize ⟨natT_len⟩
  refine callK_of rfl rfl ⟨_, J, room.length, rfl, .inl ⟨rfl, rfl⟩, by omega, o1, o2, ?_⟩
  fail "S"
  refine lcI_pure (natT J) (fun _ => true) (fun x => .int (fRm room x)) (by rw [natT_len]; exact len_lt (by omega)) ?_ ?_ ?_
  · intro Q' h
    fail "S"
    exact h _ (by first | rfl | trivial)
  · intro i x hx acc C2 hacc hT hF
    obtain ⟨j, hj, rfl⟩ := natT_at hx
    have hjn := o2 j (List.mem_of_getElem? hj)
    have hT := hT rfl
    rw [fRm_at] at hT
    fail "S"
    exact ⟨_, atI_at (natT_rm hjn), hacc, hT⟩
  · rw [filt_true]
    fail "S"
    refine ⟨(natT J).map (fRm room), by rw [List.map_map]; rfl, callK_of rfl rfl ⟨_, as, J, rfl, .inl ⟨rfl, rfl⟩, by omega, by omega, ?_⟩⟩
    rw [fRm_sum]
    fail "S"
    refine callK_of rfl rfl ⟨as, room, rfl, rfl, by omega, by omega, hp, ?_⟩
    specialize ⟨natT_len⟩
    rw [show (((keptN as room room.length).length : Nat) : Int) = (sumJ room J : Nat) + (as.countP (miss J) : Nat) by omega, decide_eq_true rfl]
    exact hQ
/-- what is told is small, and like itself -/
structure FoundOk (us : List T) : Prop where
  ok : T.ok 4 (.lst us) = true
  f1 : us.all T.fl1 = true
  le : us.length ≤ 100
theorem flat_fl1 {us : List T} (h : us.all T.flat = true) : us.all T.fl1 = true := List.all_eq_true.mpr fun x hx => by
  have := List.all_eq_true.mp h x hx
  cases x <;> first | exact this | (unfold T.flat at this; cases this)
def sp_asked : ASp := fun vs s Q => ∃ (w n b : Nat) (as : List (Nat × Nat)) (room : List Nat), vs = [.d (.int (w : Nat)), .d (.tup [.lst (asT as), .lst (natT room)]), .d (.int (n : Nat))] ∧ s = [] ∧ w < 5 ∧ 1 ≤ n ∧ n ≤ 12 ∧ b ≤ 90 ∧ Cs20 n as room b ∧
  ∀ us, FoundOk us → Q (.l 1) [.lst us, .tp [.l 0, .d (.bl true)]]
theorem len_asked : ∀ vs s Q, sp_asked vs s Q → vs.length = 3 := fun vs s Q ⟨w, n, b, as, room, h, _⟩ => by rw [h]; rfl
theorem ok_asked (U : Tx mg) (D : Ds K mg) (C_p_paper_of : Cal P w K mg base 2 "paper_of" ["asks", "room"] sp_p_paper_of) (C_is_paper : Cal P w K mg base 2 "_law_is_paper" ["_law_asks_here", "_law_room", "_law_found"] sp_is_paper) (C_counted : Cal P w K mg base 1 "_law_counted" ["_law_asks_here", "_law_leg"] sp_counted) (C_p_loads : Cal P w K mg base 1 "loads" ["asks", "legs"] sp_p_loads) (C_p_fullest : Cal P w K mg base 2 "fullest" ["asks", "legs"] sp_p_fullest) (C_p_kept_of : Cal P w K mg base 2 "kept_of" ["asks", "room"] sp_p_kept_of) (C_same : Cal P w K mg base 4 "_law_same" ["_law_found", "_law_due"] (spS_same 4)) (C_p_shows_most : Cal P w K mg base 3 "shows_most" ["asks", "room", "thing"] sp_p_shows_most) (C_kept : Cal P w K mg base 1 "_law_kept" ["_law_asks_here", "_law_room"] sp_kept) : Cal P w K mg base 5 "_law_asked" ["_law_which", "_law_case", "_law_legs"] sp_asked := by
  refine Df.calK D.d_asked sc_asked (len_asked) fun f cdv A outer s H E hr => ?_
  have hu : (A.deeper (PyProof.Rows.envOfC "_law_asked" (defScope s_asked) s.heap.objs.size f cdv)).units + 64 < cLine := by have := hr.un; omega
  have hu5 : (A.deeper (PyProof.Rows.envOfC "_law_asked" (defScope s_asked) s.heap.objs.size f cdv)).units + 65 < cLine := by have := hr.un; omega
  refine ⟨_, (ap_cons (ap_asg (ae_v (pv 1)) (ag_tup (n := 2) rfl (ags_cons (ag_name (i := 3) sc_asked.nd) (ags_cons (ag_name (i := 4) sc_asked.nd) ags_nil))))
      (ap_cons (ap_setLc (i := 5) (own := [("_law_leg", 8)]) sc_asked.nd (ai_range1 U.m_range (ae_v (pv 2))) (blkOk_by (own := [("_law_leg", 8)]) (N := N_asked) (sc := defScope s_asked) (by decide +kernel)) (fun _ _ _ _ _ => (ag_name (i := 8) sc_asked.nd)) (fun _ _ _ _ _ => ats_nil) (fun _ _ _ _ _ => (ae_cal C_counted (hr.mono (by omega)) (aa_cons (ae_v (pv 3)) (aa_cons (ae_v (pv 8)) aa_nil)))) lift_dat (sw_true rfl rfl rfl (by decide +kernel)))
      (ap_cons (ap_if (at_c (c_eq hu) (ae_v (pv 0)) ae_int) (ap_cons (ap_set (i := 6) sc_asked.nd (ae_cal C_p_loads (hr.mono (by omega)) (aa_cons (ae_v (pv 3)) (aa_cons (ae_v (pv 2)) aa_nil))))
      (ap_one (ap_ret (ae_tup (aa_cons (ae_v (pv 6)) (aa_cons (ae_calV [true, false] C_same (hr.mono (by omega)) (aa_cons (ae_v (pv 6)) (aa_cons (ae_v (pv 5)) aa_nil))) aa_nil)))))) ap_nil)
      (ap_cons (ap_if (at_c (c_eq hu) (ae_v (pv 0)) ae_int) (ap_cons (ap_set (i := 6) sc_asked.nd (ae_cal C_p_fullest (hr.mono (by omega)) (aa_cons (ae_v (pv 3)) (aa_cons (ae_v (pv 2)) aa_nil))))
      (ap_one (ap_ret (ae_tup (aa_cons (ae_lst (aa_cons (ae_v (pv 6)) aa_nil)) (aa_cons (ae_cal C_same (hr.mono (by omega)) (aa_cons (ae_v (pv 6)) (aa_cons (ae_tup (aa_cons (ae_index (ae_v (pv 5)) (aa_cons (ae_max U.m_max (aa_cons (ae_v (pv 5)) aa_nil)) aa_nil)) (aa_cons (ae_max U.m_max (aa_cons (ae_v (pv 5)) aa_nil)) aa_nil))) aa_nil))) aa_nil)))))) ap_nil)
      (ap_cons (ap_if (at_c (c_eq hu) (ae_v (pv 0)) ae_int) (ap_cons (ap_set (i := 6) sc_asked.nd (ae_cal C_p_kept_of (hr.mono (by omega)) (aa_cons (ae_v (pv 3)) (aa_cons (ae_v (pv 4)) aa_nil))))
      (ap_one (ap_ret (ae_tup (aa_cons (ae_v (pv 6)) (aa_cons (ae_calV [true, false] C_same (hr.mono (by omega)) (aa_cons (ae_v (pv 6)) (aa_cons (ae_dat (ae_cal C_kept (hr.mono (by omega)) (aa_cons (ae_v (pv 3)) (aa_cons (ae_v (pv 4)) aa_nil)))) aa_nil))) aa_nil)))))) ap_nil)
      (ap_cons (ap_set (i := 6) sc_asked.nd (ae_cal C_p_paper_of (hr.mono (by omega)) (aa_cons (ae_v (pv 3)) (aa_cons (ae_v (pv 4)) aa_nil))))
      (ap_cons (ap_set (i := 7) sc_asked.nd (ae_calV [false, false, true] C_is_paper (hr.mono (by omega)) (aa_cons (ae_v (pv 3)) (aa_cons (ae_v (pv 4)) (aa_cons (ae_v (pv 6)) aa_nil)))))
      (ap_cons (ap_if ((aw_or (at_c (c_eq hu) (ae_v (pv 0)) ae_int) (aw_or1 (at_not (at_val (ae_v (pv 7))))))).at_ (ap_one (ap_ret (ae_tup (aa_cons (ae_v (pv 6)) (aa_cons (ae_v (pv 7)) aa_nil))))) ap_nil)
      (ap_one (ap_ret (ae_tup (aa_cons (ae_v (pv 6)) (aa_cons (ae_c c_is (ae_cal C_p_shows_most (hr.mono (by omega)) (aa_cons (ae_v (pv 3)) (aa_cons (ae_v (pv 4)) (aa_cons (ae_tup (aa_cons (ae_dat (ae_cal C_kept (hr.mono (by omega)) (aa_cons (ae_v (pv 3)) (aa_cons (ae_v (pv 4)) aa_nil)))) (aa_cons (ae_dat (ae_list U.m_list (aa_cons (ae_v (pv 6)) aa_nil))) aa_nil))) aa_nil)))) ae_bl) aa_nil))))))))))))), ?_⟩
  rintro svs s0 Q ⟨w, n, b, as, room, rfl, rfl, hw, hn1, hn2, hb, C, hQ⟩
  have ha := C.al
  have hrl := C.rl
  have hoA : okA as n := ⟨C.ap, by omega, by omega, by omega⟩
  have hp : ∀ p ∈ as, p.1 < p.2 ∧ p.2 ≤ room.length := fun p h => by rw [hrl]; exact C.ap p h
  have hp1 : ∀ p ∈ as, p.1 < p.2 := fun p h => (C.ap p h).1
  fail "S"
  refine lcI_pure (rgT 0 (n : Nat)) (fun _ => true) (fCnt as) (by rw [rgT_len]; exact len_lt (by omega)) ?_ ?_ ?_
  · intro Q' h
    fail "S"
    exact ⟨by omega, h _ (by first | rfl | trivial)⟩
  · intro i x hx acc C2 hacc hT hF
    obtain ⟨hi, rfl⟩ := rgT_lt hx
    fail "S"
    refine callK_of rfl rfl ⟨as, i, rfl, rfl, by omega, ?_⟩
    have hT := hT rfl
    rw [fCnt_at] at hT
    fail "S"
    exact ⟨hacc, hT⟩
  · rw [filt_true, fCnt_all]
    fail "S"
    have hln : (lsI as n).length = n := lsI_len as n
    have hne := lsI_ne (as := as) hn1
    obtain ⟨q1, q2⟩ := same_ints (lsI as n) (by omega)
    refine ⟨fun h0 => ?_, fun h0 => ⟨fun h1 => ?_, fun h1 => ⟨fun h2 => ?_, fun h2 => ?_⟩⟩⟩
    · refine callK_of rfl rfl ⟨_, as, n, rfl, rfl, .inl rfl, hoA, ?_⟩
      rw [tab_lsI]
      fail "S"
      refine viewK_of rfl rfl rfl rfl ⟨3, .d _, _, rfl, rfl, .inl ⟨rfl, rfl⟩, q1, q2, ?_⟩
      fail "S"
      refine keepC_of [0, 1] rfl rfl ?_
      fail "S"
      exact hQ _ ⟨T.ok_up q1 (by decide), flat_fl1 (List.all_eq_true.mpr fun x hx => by obtain ⟨_, _, rfl⟩ := List.mem_map.mp hx; rfl), by rw [List.length_map]; omega⟩
    · refine callK_of rfl rfl ⟨_, as, n, rfl, rfl, .inl rfl, hoA, ?_⟩
      fail "S"
      obtain ⟨f1, f2⟩ := idx_int (maxL_mem hne)
      obtain ⟨q3, q4⟩ := same_ful as n
      refine ⟨_, rfl, hne, _, _, ⟨_, f1, rfl⟩, decide_eq_true rfl, fun m z' hm x hx hz => by rw [← hz, eqF_int]; exact decide_eq_false (f2 m x hm hx), ?_⟩
      refine ⟨lsI as n, rfl, hne, callK_of rfl rfl ⟨3, .d (fulL as n), _, rfl, rfl, .inl ⟨rfl, rfl⟩, q3, q4, ?_⟩⟩
      fail "S"
      refine keepC_of [0, 1] rfl rfl ?_
      fail "S"
      exact hQ _ ⟨ok_lstI (n := 3) fun x hx => by rw [List.mem_singleton.mp hx]; exact q3, rfl, Nat.le_of_ble_eq_true rfl⟩
    · refine callK_of rfl rfl ⟨_, _, as, room, rfl, rfl, .inl rfl, .inl rfl, by omega, by omega, hp1, ?_⟩
      fail "S"
      have hkl := keptN_len as room room.length
      obtain ⟨q5, q6⟩ := same_nat (keptN as room room.length) (by omega)
      refine callK_of rfl rfl ⟨as, room, rfl, rfl, by omega, by omega, hp1, ?_⟩
      fail "S"
      refine viewK_of rfl rfl rfl rfl ⟨3, .d _, _, rfl, rfl, .inl ⟨rfl, rfl⟩, q5, q6, ?_⟩
      fail "S"
      refine keepC_of [0, 1] rfl rfl ?_
      fail "S"
      exact hQ _ ⟨T.ok_up q5 (by decide), flat_fl1 (List.all_eq_true.mpr (natT_flat _)), by rw [natT_len]; omega⟩
    · refine callK_of rfl rfl ⟨_, _, as, room, rfl, rfl, .inl rfl, .inl rfl, by omega, by omega, hp1, ?_⟩
      obtain ⟨o1, o2, o3⟩ := papN_ok (as := as) (room := room) hp
      have hk := told_shown hp
      have hkl := keptN_len as room room.length
      have o4 : sumJ room (papN as room) + as.countP (miss (papN as room)) = (keptN as room room.length).length := by omega
      generalize hJ : papN as room = J at o1 o2 o4 hk
      have hJl := rising_len o1 o2
      have hfin : FoundOk (natT J) := ⟨T.ok_up (ok_natN (n := 1) J) (by decide), flat_fl1 (List.all_eq_true.mpr (natT_flat _)), by rw [natT_len]; omega⟩
      fail "S"
      refine viewK_of rfl rfl rfl rfl ⟨as, room, J, rfl, rfl, by omega, by omega, hp1, o1, o2, o4, ?_⟩
      fail "S"
      refine ⟨fun h3 => ?_, fun h3 => ?_⟩
      · refine keepC_of [0, 1] rfl rfl ?_
        fail "S"
        exact hQ _ hfin
      · refine callK_of rfl rfl ⟨as, room, rfl, rfl, by omega, by omega, hp1, ?_⟩
        fail "S"
        refine callK_of rfl rfl ⟨_, _, _, as, room, rfl, rfl, .inl ⟨rfl, rfl⟩, ok_pair (ok_natN _) (ok_natN J), sz_pair (sz_natT _ (by omega)) (sz_natT J (by omega)), by omega, by omega, by omega, hp, ?_⟩
        rw [hk]
        fail "S"
        refine keepC_of [0, 1] rfl rfl ?_
        fail "S"
        exact hQ _ hfin
/-- the box, the cases (asks, rooms, the two of them), the told lists -/
def st20 (us : List T) : List (List (Nat × Nat) × List Nat) → ST
  | [] => [.lst us, .ll [], .pool (.lst []) []]
  | [c] => [.lst us, .ll [.l 5], .pool (.lst []) [], .lst (asT c.1), .lst (natT c.2), .tp [.l 3, .l 4]]
  | c :: d :: _ => [.lst us, .ll [.l 5, .l 8], .pool (.lst []) [], .lst (asT c.1), .lst (natT c.2), .tp [.l 3, .l 4], .lst (asT d.1), .lst (natT d.2), .tp [.l 6, .l 7]]
theorem Cs20.mono {n b c : Nat} {as : List (Nat × Nat)} {room : List Nat} (h : Cs20 n as room b) (l : b ≤ c) : Cs20 n as room c := ⟨Nat.le_trans h.al l, h.ap, h.rl, h.r6⟩
theorem sm_asC {n b : Nat} {as : List (Nat × Nat)} {room : List Nat} (C : Cs20 n as room b) (hn : n ≤ 12) (hb : b ≤ 100) : T.sm 58 (.tup [.lst (asT as), .lst (natT room)]) = true ∧ (T.tup [.lst (asT as), .lst (natT room)]).wt ≤ 20000 := by
  have hal := C.al
  have hap := C.ap
  have hrl := C.rl
  have hr6 : ∀ x ∈ room, x < 10 ^ 12 := fun x hx => by have := C.r6 x hx; omega
  have hall : ∀ t ∈ asT as, T.sm 56 t = true ∧ t.wt + 1 ≤ 100 := fun t ht => by
    obtain ⟨p, hp, rfl⟩ := List.mem_map.mp ht
    have h1 := hap p hp
    have w1 : (T.int (p.1 : Nat)).wt ≤ 40 := wt_int (by omega)
    have w2 : (T.int (p.2 : Nat)).wt ≤ 40 := wt_int (by omega)
    refine ⟨sm_tup fun x hx => ?_, by rw [wt_tup, wts_cons, wts_cons, wts_nil]; omega⟩
    simp only [List.mem_cons, List.not_mem_nil, or_false] at hx
    rcases hx with rfl | rfl <;> (unfold T.sm; exact decide_eq_true (by omega))
  have hw : ∀ l : List T, (∀ t ∈ l, t.wt + 1 ≤ 100) → wts l ≤ 100 * l.length := by
    intro l
    induction l with
    | nil => intro _; rw [wts_nil]; exact Nat.zero_le _
    | cons t r ih =>
      intro h
      have h1 := h t List.mem_cons_self
      have h2 := ih fun x hx => h x (List.mem_cons_of_mem _ hx)
      rw [wts_cons, List.length_cons, Nat.mul_succ]; omega
  have h1 := hw (asT as) fun t ht => (hall t ht).2
  have h2 := wts_natT hr6
  rw [asT_len] at h1
  refine ⟨sm_tup fun x hx => ?_, by rw [wt_tup, wts_cons, wts_cons, wts_nil, wt_lst, wt_lst]; omega⟩
  simp only [List.mem_cons, List.not_mem_nil, or_false] at hx
  rcases hx with rfl | rfl
  · exact sm_lst fun t ht => (hall t ht).1
  · exact sm_natT hr6
theorem sm_cases {n b : Nat} {as0 as1 : List (Nat × Nat)} {rm0 rm1 : List Nat} (c0 : Cs20 n as0 rm0 b) (c1 : Cs20 n as1 rm1 b) (hn : n ≤ 12) (hb : b ≤ 100) : T.sm 60 (.lst [.tup [.lst (asT as0), .lst (natT rm0)], .tup [.lst (asT as1), .lst (natT rm1)]]) = true ∧ (T.lst [.tup [.lst (asT as0), .lst (natT rm0)], .tup [.lst (asT as1), .lst (natT rm1)]]).wt ≤ 1048576 := by
  obtain ⟨a1, a2⟩ := sm_asC c0 hn hb
  obtain ⟨b1, b2⟩ := sm_asC c1 hn hb
  refine ⟨sm_mono 59 60 _ (by decide) (sm_lst fun x hx => ?_), by rw [wt_lst, wts_cons, wts_cons, wts_nil]; omega⟩
  simp only [List.mem_cons, List.not_mem_nil, or_false] at hx
  rcases hx with rfl | rfl <;> assumption
theorem back_set {r : List (Addr × PRec)} {j : Nat} {x y : Addr × PRec} (h : r[j]? = some y) : (r.eraseIdx j).take j ++ x :: (r.eraseIdx j).drop j = r.set j x := by
  obtain ⟨hj, _⟩ := List.getElem?_eq_some_iff.mp h
  have hl : (r.take j).length = j := by rw [List.length_take]; omega
  rw [List.eraseIdx_eq_take_drop_succ, List.set_eq_take_append_cons_drop, if_pos hj, List.take_append_of_le_length (by omega), List.drop_append_of_le_length (by omega), List.take_take, Nat.min_self, List.drop_of_length_le (by omega), List.nil_append]
theorem back_same {r : List (Addr × PRec)} {j : Nat} {y : Addr × PRec} (h : r[j]? = some y) : (r.eraseIdx j).take j ++ y :: (r.eraseIdx j).drop j = r := by
  rw [back_set h]
  refine List.ext_getElem? fun i => ?_
  by_cases hi : j = i
  · subst hi
    rw [List.getElem?_set_self (List.getElem?_eq_some_iff.mp h).1, h]
  · rw [List.getElem?_set_ne hi]
theorem held_new {sh : List T} {rs : List (Addr × PRec)} {j k : Nat} {a : Addr} {fs : List T} (hsh : sh.length = (j + 2) / 3) (hrs : rs.length = j) (hhe : ∀ k, 3 * k < j → ∃ a ts, rs[3 * k]? = some (a, PRec.lst ts) ∧ sh[k]? = some (.tup [.ref a, .lst ts]) ∧ FoundOk ts) (h3 : (j : Int) % 3 = 0) (hF : FoundOk fs) (hk : 3 * k < j + 1) :
    ∃ b ts, (rs ++ [(a, PRec.lst fs)])[3 * k]? = some (b, PRec.lst ts) ∧ (sh ++ [.tup [.ref a, .lst fs]])[k]? = some (.tup [.ref b, .lst ts]) ∧ FoundOk ts := by
  by_cases h : 3 * k < j
  · obtain ⟨b, ts, h1, h2, h4⟩ := hhe k h
    exact ⟨b, ts, by rw [List.getElem?_append_left (by omega)]; exact h1, by rw [List.getElem?_append_left (by omega)]; exact h2, h4⟩
  · have e1 : 3 * k = rs.length := by omega
    have e2 : k = sh.length := by omega
    exact ⟨a, fs, by rw [e1]; exact List.getElem?_concat_length, by rw [e2]; exact List.getElem?_concat_length, hF⟩
theorem held_len {sh : List T} {j : Nat} {x : T} (hsh : sh.length = (j + 2) / 3) (h3 : (j : Int) % 3 = 0) : (sh ++ [x]).length = (j + 1 + 2) / 3 := by
  rw [List.length_append, hsh, List.length_singleton]; omega
theorem held_len2 {sh : List T} {j : Nat} (hsh : sh.length = (j + 2) / 3) (h3 : ¬ (j : Int) % 3 = 0) : sh.length = (j + 1 + 2) / 3 := by
  rw [hsh]; omega
theorem held_old {sh : List T} {rs : List (Addr × PRec)} {j k : Nat} {a : Addr} {x y : PRec} (hrs : rs.length = j) (hhe : ∀ k, 3 * k < j → ∃ a ts, rs[3 * k]? = some (a, PRec.lst ts) ∧ sh[k]? = some (.tup [.ref a, .lst ts]) ∧ FoundOk ts) (h3 : ¬ (j : Int) % 3 = 0) (hk : 3 * k < j + 1) :
    ∃ b ts, ((rs ++ [(a, x)]).set j (a, y))[3 * k]? = some (b, PRec.lst ts) ∧ sh[k]? = some (.tup [.ref b, .lst ts]) ∧ FoundOk ts := by
  have h : 3 * k < j := by omega
  obtain ⟨b, ts, h1, h2, h4⟩ := hhe k h
  exact ⟨b, ts, by rw [List.getElem?_set_ne (by omega), List.getElem?_append_left (by omega)]; exact h1, h2, h4⟩
structure Z20 where
  us : List T
  as0 : List (Nat × Nat)
  rm0 : List Nat
  as1 : List (Nat × Nat)
  rm1 : List Nat
  sh : List T
  rs : List (Addr × PRec)
structure I20 (n i : Nat) (z : Z20) : Prop where
  c0 : Cs20 n z.as0 z.rm0 (12 + i)
  c1 : Cs20 n z.as1 z.rm1 (12 + i)
  bx : Bx (400 + 40 * (i : Nat)) (.lst z.us)
  sl : z.sh.length = (i + 2) / 3
  rl : z.rs.length = i
  he : ∀ j, 3 * j < i → ∃ a ts, z.rs[3 * j]? = some (a, .lst ts) ∧ z.sh[j]? = some (.tup [.ref a, .lst ts]) ∧ FoundOk ts
def s20 (z : Z20) : ST := [.lst z.us, .ll [.l 5, .l 8], .pool (.lst z.sh) z.rs, .lst (asT z.as0), .lst (natT z.rm0), .tp [.l 3, .l 4], .lst (asT z.as1), .lst (natT z.rm1), .tp [.l 6, .l 7]]
theorem ok_law {f : Addr} {fd : FuncData} (U : Tx mg) (F : Fun K "law" "law" s_law f fd) (C_box : Cal P w K mg base 2 "_law_box" ["_law_script", "_law_k"] sp_box) (C_asks : Cal P w K mg base 3 "_law_asks" ["_law_box_here", "_law_legs", "_law_many"] sp_asks) (C_asked : Cal P w K mg base 5 "_law_asked" ["_law_which", "_law_case", "_law_legs"] sp_asked) (C_take : Cal P w K mg base 1 "_law_take" ["_law_box_here", "_law_many"] sp_take) (C_put : Cal P w K mg base 3 "_law_put" ["_law_box_here", "_law_case", "_law_legs"] sp_put) (C_rooms : Cal P w K mg base 2 "_law_rooms" ["_law_box_here", "_law_asks_here", "_law_legs"] sp_rooms) : FnG P w K mg base 6 f fd ["_law_script"] (toSp K spLawA) := by
  refine fn_body F sc_law (fun vs s Q ⟨_, h, _⟩ => by rw [h]; rfl) fun f cdv A outer s H E hr => ?_
  have hu : (A.deeper (PyProof.Rows.envOfC "law" (defScope s_law) s.heap.objs.size f cdv)).units + 64 < cLine := by have := hr.un; omega
  have hu5 : (A.deeper (PyProof.Rows.envOfC "law" (defScope s_law) s.heap.objs.size f cdv)).units + 65 < cLine := by have := hr.un; omega
  refine ⟨_, (ap_cons (ap_for PassesOwn.never (ai_range1 U.m_range (ae_max U.m_max (aa_cons ae_int (aa_cons (ae_min U.m_min (aa_cons (ae_len U.m_len (aa_cons (ae_v (pv 0)) aa_nil)) (aa_cons ae_int aa_nil))) aa_nil)))) (ag_name (i := 1) sc_law.nd) (ap_blk [1, 2, 6, 3, 4, 5, 7, 8, 9, 10, 12, 11] (ap_cons (ap_set (i := 2) sc_law.nd (ae_cal C_box (hr.mono (by omega)) (aa_cons (ae_v (pv 0)) (aa_cons (ae_v (pv 1)) aa_nil))))
      (ap_cons (ap_par3 (i := 3) (j := 4) (l := 5) (aa_cons (ae_add ae_int (ae_cal C_take (hr.mono (by omega)) (aa_cons (ae_v (pv 2)) (aa_cons ae_int aa_nil)))) (aa_cons (ae_lstS aa_nil) (aa_cons (ae_toP (ae_lst aa_nil)) aa_nil))) (h := fun ha => ps_par3 rfl sc_law.nd rfl rfl rfl (by decide) (by decide) (by decide) rfl rfl rfl ha (by rfl)))
      (ap_cons (ap_for PassesOwn.never (ai_range1 U.m_range ae_int) (ag_name (i := 6) sc_law.nd) (ap_wip [6, 7] (ap_cons (ap_set (i := 7) sc_law.nd (ae_cal C_asks (hr.mono (by omega)) (aa_cons (ae_v (pv 2)) (aa_cons (ae_v (pv 3)) (aa_cons (ae_cal C_take (hr.mono (by omega)) (aa_cons (ae_v (pv 2)) (aa_cons ae_int aa_nil))) aa_nil)))))
      (ap_one (ap_exprA (ae_append (ae_v (pv 4)) (aa_cons (ae_tup (aa_cons (ae_v (pv 7)) (aa_cons (ae_calV [false, true, false] C_rooms (hr.mono (by omega)) (aa_cons (ae_v (pv 2)) (aa_cons (ae_v (pv 7)) (aa_cons (ae_v (pv 3)) aa_nil)))) aa_nil))) aa_nil)))))))
      (ap_cons (ap_for PassesOwn.never (ai_range1 U.m_range ae_int) (ag_name (i := 6) sc_law.nd) (ap_blk [6, 8, 9, 10, 11] (ap_cons (ap_set (i := 8) sc_law.nd (ae_ix (ae_v (pv 4)) (ae_cal C_take (hr.mono (by omega)) (aa_cons (ae_v (pv 2)) (aa_cons ae_int aa_nil)))))
      (ap_cons (ap_if (at_c (c_eq hu) (ae_mod (ae_v (pv 6)) ae_int) ae_int) (ap_one (ap_expr (ae_clD li_C C_put (hr.mono (by omega)) (aa_cons (ae_v (pv 2)) (aa_cons (ae_v (pv 8)) (aa_cons (ae_v (pv 3)) aa_nil)))))) ap_nil)
      (ap_cons (ap_set (i := 9) sc_law.nd (ae_repr hr.gd hu U.m_repr (aa_cons (ae_v (pv 4)) aa_nil)))
      (ap_cons (ap_inpS 10 (ap_asg (ae_clD li_VF C_asked (hr.mono (by omega)) (aa_cons (ae_cal C_take (hr.mono (by omega)) (aa_cons (ae_v (pv 2)) (aa_cons ae_int aa_nil))) (aa_cons (ae_v (pv 8)) (aa_cons (ae_v (pv 3)) aa_nil)))) (ag_tup (n := 2) rfl (ags_cons (ag_name (i := 10) sc_law.nd) (ags_cons (ag_name (i := 11) sc_law.nd) ags_nil)))))
      (ap_cons (ap_if ((aw_or (at_not (at_val (ae_v (pv 11)))) (aw_or1 (at_c (c_ne hu) (ae_repr hr.gd hu U.m_repr (aa_cons (ae_v (pv 4)) aa_nil)) (ae_v (pv 9)))))).at_ (ap_one (ap_ret ae_bl)) ap_nil)
      (ap_one (ap_if (at_c (c_eq hu) (ae_mod (ae_v (pv 6)) ae_int) ae_int) (ap_one (ap_expr (ae_appendP (ae_v (pv 5)) (aa_cons (ae_tup (aa_cons (ae_v (pv 10)) (aa_cons (ae_lnd 10 (ae_dat (ae_list U.m_list (aa_cons (ae_v (pv 10)) aa_nil)))) aa_nil))) aa_nil)))) (ap_cons (ap_lnd 10 (ap_expr (ae_append (ae_v (pv 10)) (aa_cons (ae_v (pv 6)) aa_nil))))
      (ap_one (ap_lnd 10 (ap_expr (ae_reverse (ae_v (pv 10))))))))))))))))
      (ap_one (ap_for PassesOwn.never (ai_seqP (ae_v (pv 5))) (ag_tup (n := 2) rfl (ags_cons (ag_name (i := 10) sc_law.nd) (ags_cons (ag_name (i := 12) sc_law.nd) ags_nil))) (ap_blk [10, 12] (ap_cons (ap_lnd 10 (ap_if (at_c (c_ne hu) (ae_v (pv 10)) (ae_v (pv 12))) (ap_one (ap_ret ae_bl)) ap_nil))
      (ap_one (ap_lnd 10 (ap_expr (ae_append (ae_v (pv 10)) (aa_cons ae_str aa_nil)))))))))))))))
      (ap_one (ap_ret ae_bl))), ?_⟩
  rintro svs s0 Q ⟨ns, rfl, hl, rfl, hQ⟩
  fail "S"
  refine pFor_of (Z := Unit) (rgT 0 ((max 2 (min ns.length 3) : Nat) : Int)) (fun _ _ => True) (fun _ => [some (.d (.scr (ns.map T.int))), none, none, none, none, none, none, none, none, none, none, none, none]) (fun _ => []) ?_ ⟨(), trivial, rfl, rfl⟩ ?_ ?_
  · intro Q' h
    fail "S"
    have e : (if (2 : Int) < (if (3 : Int) < (ns.length : Int) then 3 else (ns.length : Int)) then (if (3 : Int) < (ns.length : Int) then 3 else (ns.length : Int)) else 2) = ((max 2 (min ns.length 3) : Nat) : Int) := by
      split <;> split <;> omega
    rw [e]
    exact ⟨by omega, by omega, h (fun _ => True) fun _ _ _ => trivial⟩
  · rintro i x _ hx _ C hC B R hB hR
    obtain ⟨hi, rfl⟩ := rgT_lt hx
    fail "S"
    refine callK_of rfl rfl ⟨ns, i, rfl, rfl, by omega, fun ts hB0 => ?_⟩
    fail "S"
    refine callK_of rfl rfl ⟨_, 0, 12, rfl, rfl, hB0, by omega, by omega, by omega, fun r ts1 hr hB1 => ?_⟩
    fail "S"
    obtain ⟨n, hn, hn1, hn2⟩ : ∃ n : Nat, 1 + (r : Int) = (n : Int) ∧ 1 ≤ n ∧ n ≤ 12 := ⟨1 + r, by omega, by omega, by omega⟩
    rw [hn]
    refine pFor_of (Z := List T × List (List (Nat × Nat) × List Nat)) (rgT 0 2) (fun i z => z.2.length = i ∧ (∀ c ∈ z.2, Cs20 n c.1 c.2 12) ∧ Bx (1 + 150 * (i : Nat)) (.lst z.1)) (fun _ => [some (.d (.scr (ns.map T.int))), some (.d (.int (i : Nat))), some (.l 0), some (.d (.int (n : Nat))), some (.l 1), some (.l 2), none, none, none, none, none, none, none]) (fun z => st20 z.1 z.2) ?_ ⟨(ts1, []), ⟨rfl, fun c hc => absurd hc List.not_mem_nil, hB1.mono (by omega)⟩, rfl, rfl⟩ ?_ ?_
    · intro Q' h
      fail "S"
      exact h (fun _ => True) fun _ _ _ => trivial
    · rintro j x ⟨us, cs⟩ hx ⟨hcl, hcs, hz⟩ C2 hC2 B2 R2 hB2 hR2
      dsimp only at hcl hcs hz hC2 ⊢
      obtain ⟨hj, rfl⟩ := rgT_lt (b := 2) hx
      rcases Nat.lt_or_ge j 1 with h1 | h1
      · obtain rfl : cs = [] := List.eq_nil_of_length_eq_zero (by omega)
        unfold st20
        fail "S"
        refine callK_of rfl rfl ⟨_, _, 13, rfl, rfl, hz, by omega, by omega, by omega, fun m ts3 hm hB3 => ?_⟩
        fail "S"
        refine callK_of rfl rfl ⟨_, _, n, m, rfl, rfl, hB3, by omega, by omega, by omega, by omega, fun as ts4 hap hal hB4 => ?_⟩
        fail "S"
        refine viewK_of rfl rfl rfl rfl ⟨_, _, as, n, rfl, rfl, hB4, by omega, by omega, by omega, fun room ts5 hrl hr6 hB5 => ?_⟩
        have hB6 := hB5
        obtain ⟨ba, bm, bc, hbe, _⟩ := hB6
        cases hbe
        fail "S"
        refine ⟨fun x hx => by obtain ⟨_, _, rfl⟩ := List.mem_map.mp hx; rfl, by decide, hC2 (_, [(as, room)]) ⟨by rw [List.length_singleton]; omega, fun c hc => by rw [List.mem_singleton.mp hc]; exact ⟨by show as.length ≤ 12; omega, hap, hrl, hr6⟩, hB5.mono (by omega)⟩⟩
      · obtain ⟨⟨as0, rm0⟩, rfl⟩ : ∃ c, cs = [c] := List.length_eq_one_iff.mp (by omega)
        unfold st20
        fail "S"
        refine callK_of rfl rfl ⟨_, _, 13, rfl, rfl, hz, by omega, by omega, by omega, fun m ts3 hm hB3 => ?_⟩
        fail "S"
        refine callK_of rfl rfl ⟨_, _, n, m, rfl, rfl, hB3, by omega, by omega, by omega, by omega, fun as ts4 hap hal hB4 => ?_⟩
        fail "S"
        refine viewK_of rfl rfl rfl rfl ⟨_, _, as, n, rfl, rfl, hB4, by omega, by omega, by omega, fun room ts5 hrl hr6 hB5 => ?_⟩
        have hB6 := hB5
        obtain ⟨ba, bm, bc, hbe, _⟩ := hB6
        cases hbe
        fail "S"
        refine ⟨fun x hx => by obtain ⟨_, _, rfl⟩ := List.mem_map.mp hx; rfl, by decide, hC2 (_, [(as0, rm0), (as, room)]) ⟨by show 2 = j + 1; omega, fun c hc => by
          rcases List.mem_cons.mp hc with rfl | hc
          · exact hcs _ List.mem_cons_self
          · rw [List.mem_singleton.mp hc]; exact ⟨by show as.length ≤ 12; omega, hap, hrl, hr6⟩, hB5.mono (by omega)⟩⟩
    · rintro ⟨us, cs⟩ ⟨hcl, hcs, hz⟩
      dsimp only at hcl hcs hz ⊢
      have hr2 : (rgT 0 2).length = 2 := rfl
      rw [hr2] at hcl hz
      obtain ⟨⟨as0, rm0⟩, ⟨as1, rm1⟩, rfl⟩ : ∃ c d, cs = [c, d] := by
        rcases cs with _ | ⟨c, _ | ⟨d, _ | ⟨e, r⟩⟩⟩
        all_goals first | exact ⟨_, _, rfl⟩ | exact absurd hcl (by simp only [List.length_cons, List.length_nil]; omega)
      have c0 := hcs _ List.mem_cons_self
      have c1 := hcs _ (List.mem_cons_of_mem _ List.mem_cons_self)
      clear hcs hcl
      unfold st20
      fail "S"
      refine pFor_of (Z := Z20) (rgT 0 14) (fun i z => I20 n i z) (fun _ => [some (.d (.scr (ns.map T.int))), some (.d (.int (i : Nat))), some (.l 0), some (.d (.int (n : Nat))), some (.l 1), some (.l 2), none, none, none, none, none, none, none]) (fun z => s20 z) ?_ ⟨⟨us, as0, rm0, as1, rm1, [], []⟩, ⟨c0.mono (by omega), c1.mono (by omega), hz.mono (by omega), rfl, rfl, fun j hj => absurd hj (Nat.not_lt_zero _)⟩, rfl, rfl⟩ ?_ ?_
      · intro Q' h
        fail "S"
        exact h (fun _ => True) fun _ _ _ => trivial
      · rintro j x ⟨us, as0, rm0, as1, rm1, sh, rs⟩ hx ⟨c0, c1, hz, hsh, hrs, hhe⟩ C2 hC2 B2 R2 hB2 hR2
        dsimp only at c0 c1 hz hsh hrs hhe
        obtain ⟨hj, rfl⟩ := rgT_lt (b := 14) hx
        unfold s20
        dsimp only
        fail "S"
        refine callK_of rfl rfl ⟨_, _, 2, rfl, rfl, hz, by omega, by omega, by omega, fun r0 ts1 hr0 hB1 => ?_⟩
        fail "S"
        have : r0 = 0 ∨ r0 = 1 := by omega
        rcases this with rfl | rfl
        · refine ⟨_, rfl, ?_⟩
          refine ⟨fun hodd => ?_, fun hev => ?_⟩
          · refine callC_of [0, 5, 3, 4] rfl ⟨_, _, as0, rm0, n, 12 + j, rfl, rfl, hB1, by omega, by omega, by omega, c0, by omega, fun A R U hA hU => ?_⟩
            as_aux_lemma =>
              fail "S"
              have hc0 := hA
              have hc1 := (c1.mono (Nat.le_succ _))
              have hbx : Bx (400 + 40 * (j : Nat) + 15) (.lst U) := (hU.mono (by omega))
              obtain ⟨sm1, sm2⟩ := sm_cases hc0 hc1 hn2 (by omega)
              refine ⟨⟨rfl, rfl, rfl, rfl⟩, ?_⟩
              refine ⟨sm1, sm2, callK_of rfl rfl ⟨_, _, 5, rfl, rfl, hbx, by omega, by omega, by omega, fun w ts3 hw hB3 => ?_⟩⟩
              fail "S"
              refine callVF_of [5, 3, 4] _ [] rfl rfl rfl rfl rfl rfl ⟨w, n, 13 + j, A, R, rfl, rfl, by omega, hn1, hn2, by omega, (hA).mono (by omega), fun fs hF => ⟨⟨by show (fs.all T.fl1 && (true && true)) = true; rw [hF.f1]; rfl, rfl⟩, ?_⟩⟩
              fail "S"
              refine inpN_of 2 (n := 9) rfl (by decide) rfl (by decide) rfl rfl (fun a => rfl) fun a ha => ?_
              have hC3 : ∀ sh' rs', sh'.length = (j + 1 + 2) / 3 → rs'.length = j + 1 → (∀ k, 3 * k < j + 1 → ∃ a ts, rs'[3 * k]? = some (a, PRec.lst ts) ∧ sh'[k]? = some (.tup [.ref a, .lst ts]) ∧ FoundOk ts) → C2 [some (.d (.scr (ns.map T.int))), some (.d (.int (i : Nat))), some (.l 0), some (.d (.int (n : Nat))), some (.l 1), some (.l 2), none, none, none, none, none, none, none] (s20 ⟨ts3, A, R, as1, rm1, sh', rs'⟩) := fun sh' rs' h1 h2 h3 => hC2 _ ⟨hc0.mono (by omega), hc1.mono (by omega), hB3.mono (by omega), h1, h2, h3⟩
              have hat : (rs ++ [(a, PRec.lst fs)])[j]? = some (a, .lst fs) := by rw [← hrs]; exact List.getElem?_concat_length
              fail "S"
              refine ⟨sm1, sm2, fun h3 => ?_, fun h3 => ?_⟩
              · refine lndK_of 2 j rfl rfl hat ?_
                fail "S"
                refine ⟨⟨rfl, rfl, rfl, rfl⟩, lndQ_of rfl rfl (by decide) rfl fun _ => ?_⟩
                rw [back_same hat]
                fail "S"
                have q := hC3 (sh ++ [T.tup [T.ref a, T.lst fs]]) (rs ++ [(a, PRec.lst fs)]) (held_len hsh h3) (by rw [List.length_append, hrs, List.length_singleton]) fun k hk => held_new hsh hrs hhe h3 hF hk
                unfold s20 at q
                exact ⟨_, _, ⟨rfl, rfl⟩, len_lt (by rw [hsh]; omega), ⟨rfl, rfl, rfl, rfl⟩, q⟩
              · refine lndP_of 2 j rfl rfl hat ?_
                fail "S"
                refine ⟨len_lt (by have := hF.le; omega), ⟨rfl, rfl, rfl, rfl⟩, lndN_of rfl rfl (by decide) rfl rfl fun _ => ?_⟩
                rw [back_set hat]
                have hat2 : ((rs ++ [(a, PRec.lst fs)]).set j (a, PRec.lst (fs ++ [.int (j : Nat)])))[j]? = some (a, .lst (fs ++ [.int (j : Nat)])) := List.getElem?_set_self (List.getElem?_eq_some_iff.mp hat).1
                fail "S"
                refine lndP_of 2 j rfl rfl hat2 ?_
                fail "S"
                refine ⟨⟨rfl, rfl, rfl, rfl⟩, lndN_of rfl rfl (by decide) rfl rfl fun _ => ?_⟩
                rw [back_set hat2]
                fail "S"
                have q := hC3 sh ((rs ++ [(a, PRec.lst fs)]).set j (a, PRec.lst (T.int (j : Nat) :: fs.reverse))) (held_len2 hsh h3) (by rw [List.length_set, List.length_append, hrs, List.length_singleton]) fun k hk => held_old hrs hhe h3 hk
                unfold s20 at q
                exact ⟨⟨rfl, rfl, rfl, rfl⟩, q⟩
          · skip
            as_aux_lemma =>
              have hc0 := (c0.mono (Nat.le_succ _))
              have hc1 := (c1.mono (Nat.le_succ _))
              have hbx : Bx (400 + 40 * (j : Nat) + 15) (.lst ts1) := (hB1.mono (by omega))
              obtain ⟨sm1, sm2⟩ := sm_cases hc0 hc1 hn2 (by omega)
              refine ⟨sm1, sm2, callK_of rfl rfl ⟨_, _, 5, rfl, rfl, hbx, by omega, by omega, by omega, fun w ts3 hw hB3 => ?_⟩⟩
              fail "S"
              refine callVF_of [5, 3, 4] _ [] rfl rfl rfl rfl rfl rfl ⟨w, n, 13 + j, as0, rm0, rfl, rfl, by omega, hn1, hn2, by omega, ((c0.mono (Nat.le_succ _))).mono (by omega), fun fs hF => ⟨⟨by show (fs.all T.fl1 && (true && true)) = true; rw [hF.f1]; rfl, rfl⟩, ?_⟩⟩
              fail "S"
              refine inpN_of 2 (n := 9) rfl (by decide) rfl (by decide) rfl rfl (fun a => rfl) fun a ha => ?_
              have hC3 : ∀ sh' rs', sh'.length = (j + 1 + 2) / 3 → rs'.length = j + 1 → (∀ k, 3 * k < j + 1 → ∃ a ts, rs'[3 * k]? = some (a, PRec.lst ts) ∧ sh'[k]? = some (.tup [.ref a, .lst ts]) ∧ FoundOk ts) → C2 [some (.d (.scr (ns.map T.int))), some (.d (.int (i : Nat))), some (.l 0), some (.d (.int (n : Nat))), some (.l 1), some (.l 2), none, none, none, none, none, none, none] (s20 ⟨ts3, as0, rm0, as1, rm1, sh', rs'⟩) := fun sh' rs' h1 h2 h3 => hC2 _ ⟨hc0.mono (by omega), hc1.mono (by omega), hB3.mono (by omega), h1, h2, h3⟩
              have hat : (rs ++ [(a, PRec.lst fs)])[j]? = some (a, .lst fs) := by rw [← hrs]; exact List.getElem?_concat_length
              fail "S"
              refine ⟨sm1, sm2, fun h3 => ?_, fun h3 => ?_⟩
              · refine lndK_of 2 j rfl rfl hat ?_
                fail "S"
                refine ⟨⟨rfl, rfl, rfl, rfl⟩, lndQ_of rfl rfl (by decide) rfl fun _ => ?_⟩
                rw [back_same hat]
                fail "S"
                have q := hC3 (sh ++ [T.tup [T.ref a, T.lst fs]]) (rs ++ [(a, PRec.lst fs)]) (held_len hsh h3) (by rw [List.length_append, hrs, List.length_singleton]) fun k hk => held_new hsh hrs hhe h3 hF hk
                unfold s20 at q
                exact ⟨_, _, ⟨rfl, rfl⟩, len_lt (by rw [hsh]; omega), ⟨rfl, rfl, rfl, rfl⟩, q⟩
              · refine lndP_of 2 j rfl rfl hat ?_
                fail "S"
                refine ⟨len_lt (by have := hF.le; omega), ⟨rfl, rfl, rfl, rfl⟩, lndN_of rfl rfl (by decide) rfl rfl fun _ => ?_⟩
                rw [back_set hat]
                have hat2 : ((rs ++ [(a, PRec.lst fs)]).set j (a, PRec.lst (fs ++ [.int (j : Nat)])))[j]? = some (a, .lst (fs ++ [.int (j : Nat)])) := List.getElem?_set_self (List.getElem?_eq_some_iff.mp hat).1
                fail "S"
                refine lndP_of 2 j rfl rfl hat2 ?_
                fail "S"
                refine ⟨⟨rfl, rfl, rfl, rfl⟩, lndN_of rfl rfl (by decide) rfl rfl fun _ => ?_⟩
                rw [back_set hat2]
                fail "S"
                have q := hC3 sh ((rs ++ [(a, PRec.lst fs)]).set j (a, PRec.lst (T.int (j : Nat) :: fs.reverse))) (held_len2 hsh h3) (by rw [List.length_set, List.length_append, hrs, List.length_singleton]) fun k hk => held_old hrs hhe h3 hk
                unfold s20 at q
                exact ⟨⟨rfl, rfl, rfl, rfl⟩, q⟩
        · refine ⟨_, rfl, ?_⟩
          try fail "S"
          refine ⟨fun hodd => ?_, fun hev => ?_⟩
          · refine callC_of [0, 8, 6, 7] rfl ⟨_, _, as1, rm1, n, 12 + j, rfl, rfl, hB1, by omega, by omega, by omega, c1, by omega, fun A R U hA hU => ?_⟩
            as_aux_lemma =>
              fail "S"
              have hc0 := (c0.mono (Nat.le_succ _))
              have hc1 := hA
              have hbx : Bx (400 + 40 * (j : Nat) + 15) (.lst U) := (hU.mono (by omega))
              obtain ⟨sm1, sm2⟩ := sm_cases hc0 hc1 hn2 (by omega)
              refine ⟨⟨rfl, rfl, rfl, rfl⟩, ?_⟩
              refine ⟨sm1, sm2, callK_of rfl rfl ⟨_, _, 5, rfl, rfl, hbx, by omega, by omega, by omega, fun w ts3 hw hB3 => ?_⟩⟩
              fail "S"
              refine callVF_of [8, 6, 7] _ [] rfl rfl rfl rfl rfl rfl ⟨w, n, 13 + j, A, R, rfl, rfl, by omega, hn1, hn2, by omega, (hA).mono (by omega), fun fs hF => ⟨⟨by show (fs.all T.fl1 && (true && true)) = true; rw [hF.f1]; rfl, rfl⟩, ?_⟩⟩
              fail "S"
              refine inpN_of 2 (n := 9) rfl (by decide) rfl (by decide) rfl rfl (fun a => rfl) fun a ha => ?_
              have hC3 : ∀ sh' rs', sh'.length = (j + 1 + 2) / 3 → rs'.length = j + 1 → (∀ k, 3 * k < j + 1 → ∃ a ts, rs'[3 * k]? = some (a, PRec.lst ts) ∧ sh'[k]? = some (.tup [.ref a, .lst ts]) ∧ FoundOk ts) → C2 [some (.d (.scr (ns.map T.int))), some (.d (.int (i : Nat))), some (.l 0), some (.d (.int (n : Nat))), some (.l 1), some (.l 2), none, none, none, none, none, none, none] (s20 ⟨ts3, as0, rm0, A, R, sh', rs'⟩) := fun sh' rs' h1 h2 h3 => hC2 _ ⟨hc0.mono (by omega), hc1.mono (by omega), hB3.mono (by omega), h1, h2, h3⟩
              have hat : (rs ++ [(a, PRec.lst fs)])[j]? = some (a, .lst fs) := by rw [← hrs]; exact List.getElem?_concat_length
              fail "S"
              refine ⟨sm1, sm2, fun h3 => ?_, fun h3 => ?_⟩
              · refine lndK_of 2 j rfl rfl hat ?_
                fail "S"
                refine ⟨⟨rfl, rfl, rfl, rfl⟩, lndQ_of rfl rfl (by decide) rfl fun _ => ?_⟩
                rw [back_same hat]
                fail "S"
                have q := hC3 (sh ++ [T.tup [T.ref a, T.lst fs]]) (rs ++ [(a, PRec.lst fs)]) (held_len hsh h3) (by rw [List.length_append, hrs, List.length_singleton]) fun k hk => held_new hsh hrs hhe h3 hF hk
                unfold s20 at q
                exact ⟨_, _, ⟨rfl, rfl⟩, len_lt (by rw [hsh]; omega), ⟨rfl, rfl, rfl, rfl⟩, q⟩
              · refine lndP_of 2 j rfl rfl hat ?_
                fail "S"
                refine ⟨len_lt (by have := hF.le; omega), ⟨rfl, rfl, rfl, rfl⟩, lndN_of rfl rfl (by decide) rfl rfl fun _ => ?_⟩
                rw [back_set hat]
                have hat2 : ((rs ++ [(a, PRec.lst fs)]).set j (a, PRec.lst (fs ++ [.int (j : Nat)])))[j]? = some (a, .lst (fs ++ [.int (j : Nat)])) := List.getElem?_set_self (List.getElem?_eq_some_iff.mp hat).1
                fail "S"
                refine lndP_of 2 j rfl rfl hat2 ?_
                fail "S"
                refine ⟨⟨rfl, rfl, rfl, rfl⟩, lndN_of rfl rfl (by decide) rfl rfl fun _ => ?_⟩
                rw [back_set hat2]
                fail "S"
                have q := hC3 sh ((rs ++ [(a, PRec.lst fs)]).set j (a, PRec.lst (T.int (j : Nat) :: fs.reverse))) (held_len2 hsh h3) (by rw [List.length_set, List.length_append, hrs, List.length_singleton]) fun k hk => held_old hrs hhe h3 hk
                unfold s20 at q
                exact ⟨⟨rfl, rfl, rfl, rfl⟩, q⟩
          · skip
            as_aux_lemma =>
              have hc0 := (c0.mono (Nat.le_succ _))
              have hc1 := (c1.mono (Nat.le_succ _))
              have hbx : Bx (400 + 40 * (j : Nat) + 15) (.lst ts1) := (hB1.mono (by omega))
              obtain ⟨sm1, sm2⟩ := sm_cases hc0 hc1 hn2 (by omega)
              refine ⟨sm1, sm2, callK_of rfl rfl ⟨_, _, 5, rfl, rfl, hbx, by omega, by omega, by omega, fun w ts3 hw hB3 => ?_⟩⟩
              fail "S"
              refine callVF_of [8, 6, 7] _ [] rfl rfl rfl rfl rfl rfl ⟨w, n, 13 + j, as1, rm1, rfl, rfl, by omega, hn1, hn2, by omega, ((c1.mono (Nat.le_succ _))).mono (by omega), fun fs hF => ⟨⟨by show (fs.all T.fl1 && (true && true)) = true; rw [hF.f1]; rfl, rfl⟩, ?_⟩⟩
              fail "S"
              refine inpN_of 2 (n := 9) rfl (by decide) rfl (by decide) rfl rfl (fun a => rfl) fun a ha => ?_
              have hC3 : ∀ sh' rs', sh'.length = (j + 1 + 2) / 3 → rs'.length = j + 1 → (∀ k, 3 * k < j + 1 → ∃ a ts, rs'[3 * k]? = some (a, PRec.lst ts) ∧ sh'[k]? = some (.tup [.ref a, .lst ts]) ∧ FoundOk ts) → C2 [some (.d (.scr (ns.map T.int))), some (.d (.int (i : Nat))), some (.l 0), some (.d (.int (n : Nat))), some (.l 1), some (.l 2), none, none, none, none, none, none, none] (s20 ⟨ts3, as0, rm0, as1, rm1, sh', rs'⟩) := fun sh' rs' h1 h2 h3 => hC2 _ ⟨hc0.mono (by omega), hc1.mono (by omega), hB3.mono (by omega), h1, h2, h3⟩
              have hat : (rs ++ [(a, PRec.lst fs)])[j]? = some (a, .lst fs) := by rw [← hrs]; exact List.getElem?_concat_length
              fail "S"
              refine ⟨sm1, sm2, fun h3 => ?_, fun h3 => ?_⟩
              · refine lndK_of 2 j rfl rfl hat ?_
                fail "S"
                refine ⟨⟨rfl, rfl, rfl, rfl⟩, lndQ_of rfl rfl (by decide) rfl fun _ => ?_⟩
                rw [back_same hat]
                fail "S"
                have q := hC3 (sh ++ [T.tup [T.ref a, T.lst fs]]) (rs ++ [(a, PRec.lst fs)]) (held_len hsh h3) (by rw [List.length_append, hrs, List.length_singleton]) fun k hk => held_new hsh hrs hhe h3 hF hk
                unfold s20 at q
                exact ⟨_, _, ⟨rfl, rfl⟩, len_lt (by rw [hsh]; omega), ⟨rfl, rfl, rfl, rfl⟩, q⟩
              · refine lndP_of 2 j rfl rfl hat ?_
                fail "S"
                refine ⟨len_lt (by have := hF.le; omega), ⟨rfl, rfl, rfl, rfl⟩, lndN_of rfl rfl (by decide) rfl rfl fun _ => ?_⟩
                rw [back_set hat]
                have hat2 : ((rs ++ [(a, PRec.lst fs)]).set j (a, PRec.lst (fs ++ [.int (j : Nat)])))[j]? = some (a, .lst (fs ++ [.int (j : Nat)])) := List.getElem?_set_self (List.getElem?_eq_some_iff.mp hat).1
                fail "S"
                refine lndP_of 2 j rfl rfl hat2 ?_
                fail "S"
                refine ⟨⟨rfl, rfl, rfl, rfl⟩, lndN_of rfl rfl (by decide) rfl rfl fun _ => ?_⟩
                rw [back_set hat2]
                fail "S"
                have q := hC3 sh ((rs ++ [(a, PRec.lst fs)]).set j (a, PRec.lst (T.int (j : Nat) :: fs.reverse))) (held_len2 hsh h3) (by rw [List.length_set, List.length_append, hrs, List.length_singleton]) fun k hk => held_old hrs hhe h3 hk
                unfold s20 at q
                exact ⟨⟨rfl, rfl, rfl, rfl⟩, q⟩
      · rintro ⟨us, as0, rm0, as1, rm1, sh, rs⟩ ⟨c0, c1, hz, hsh, hrs, hhe⟩
        dsimp only at c0 c1 hz hsh hrs hhe
        unfold s20
        dsimp only
        have hr14 : (rgT 0 14).length = 14 := rfl
        rw [hr14] at c0 c1 hz hsh hrs hhe
        fail "S"
        refine pFor_of (Z := List (Addr × PRec)) sh (fun i z => z.length = 14 ∧ ∀ j, i ≤ j → 3 * j < 14 → z[3 * j]? = rs[3 * j]?) (fun _ => [some (.d (.scr (ns.map T.int))), some (.d (.int (i : Nat))), some (.l 0), some (.d (.int (n : Nat))), some (.l 1), some (.l 2), none, none, none, none, none, none, none]) (fun z => s20 ⟨us, as0, rm0, as1, rm1, sh, z⟩) ?_ ⟨rs, ⟨hrs, fun _ _ _ => rfl⟩, rfl, rfl⟩ ?_ ?_
        · intro Q' h
          fail "S"
          exact h _ fun k z hz => ⟨z, rfl⟩
        · rintro j x z hx ⟨hz14, hzz⟩ C2 hC2 B2 R2 hB2 hR2
          have hj := (List.getElem?_eq_some_iff.mp hx).1
          obtain ⟨a, ts, h1, h2, hF⟩ := hhe j (by omega)
          rw [h2] at hx
          cases hx
          have hat : z[3 * j]? = some (a, .lst ts) := by rw [hzz j (Nat.le_refl _) (by omega)]; exact h1
          unfold s20 at hC2 ⊢
          dsimp only at hC2 ⊢
          fail "S"
          refine lndP_of 2 (3 * j) rfl rfl hat ?_
          have e := eqv_self hF.ok
          have o := shaped_ok hF.ok
          specialize ⟨e, o⟩
          refine lndN_of rfl rfl (by decide) rfl rfl fun _ => ?_
          rw [back_same hat]
          fail "S"
          refine lndP_of 2 (3 * j) rfl rfl hat ?_
          fail "S"
          refine ⟨len_lt (by have := hF.le; omega), ⟨rfl, rfl, rfl, rfl⟩, lndN_of rfl rfl (by decide) rfl rfl fun _ => ?_⟩
          rw [back_set hat]
          fail "S"
          refine ⟨⟨rfl, rfl, rfl, rfl⟩, hC2 (z.set (3 * j) (a, PRec.lst (ts ++ [T.str (Str.ofString "mark")]))) ⟨by rw [List.length_set]; exact hz14, fun k hk hk2 => ?_⟩⟩
          rw [List.getElem?_set_ne (by omega)]
          exact hzz k (by omega) hk2
        · rintro z _
          unfold s20
          fail "S"
          exact hC ⟨⟩ trivial
  · rintro _ _
    fail "S"
    exact hQ _

theorem all_mk {l : PySem.W.OpenLaw} {w : World} {K : Fr} {h : Heap} {mg : Str → Option Value} (X : K.In h) (G : h.Ns mainGlobals mg)
    (w_p_loads : Wr K "loads" "loads" s_p_loads)
    (w_p_fullest : Wr K "fullest" "fullest" s_p_fullest)
    (w_p_is_number : Wr K "is_number" "is_number" s_p_is_number)
    (w_p_is_rising : Wr K "is_rising" "is_rising" s_p_is_rising)
    (w_p_has : Wr K "has" "has" s_p_has)
    (w_p_kept_of : Wr K "kept_of" "kept_of" s_p_kept_of)
    (w_p_count_within : Wr K "count_within" "count_within" s_p_count_within)
    (w_p_paper_of : Wr K "paper_of" "paper_of" s_p_paper_of)
    (w_p_are_places : Wr K "are_places" "are_places" s_p_are_places)
    (w_p_shows_most : Wr K "shows_most" "shows_most" s_p_shows_most)
    (w_cell_at : Wr K "_law_cell_at" "_law_cell_at" s_cell_at)
    (w_box : Wr K "_law_box" "_law_box" s_box)
    (w_take : Wr K "_law_take" "_law_take" s_take)
    (w_stretch : Wr K "_law_stretch" "_law_stretch" s_stretch)
    (w_asks : Wr K "_law_asks" "_law_asks" s_asks)
    (w_same : Wr K "_law_same" "_law_same" s_same)
    (w_counted : Wr K "_law_counted" "_law_counted" s_counted)
    (w_rooms : Wr K "_law_rooms" "_law_rooms" s_rooms)
    (w_kept : Wr K "_law_kept" "_law_kept" s_kept)
    (w_missing : Wr K "_law_missing" "_law_missing" s_missing)
    (w_is_rising : Wr K "_law_is_rising" "_law_is_rising" s_is_rising)
    (w_put : Wr K "_law_put" "_law_put" s_put)
    (w_is_paper : Wr K "_law_is_paper" "_law_is_paper" s_is_paper)
    (w_asked : Wr K "_law_asked" "_law_asked" s_asked)
    (w_law : Wr K "law" "law" s_law)
    (z_abs : PySem.W.nsIn K mainGlobals "abs" = some none)
    (z_all : PySem.W.nsIn K mainGlobals "all" = some none)
    (z_any : PySem.W.nsIn K mainGlobals "any" = some none)
    (z_bool : PySem.W.nsIn K mainGlobals "bool" = some none)
    (z_enumerate : PySem.W.nsIn K mainGlobals "enumerate" = some none)
    (z_int : PySem.W.nsIn K mainGlobals "int" = some none)
    (z_isinstance : PySem.W.nsIn K mainGlobals "isinstance" = some none)
    (z_len : PySem.W.nsIn K mainGlobals "len" = some none)
    (z_list : PySem.W.nsIn K mainGlobals "list" = some none)
    (z_max : PySem.W.nsIn K mainGlobals "max" = some none)
    (z_min : PySem.W.nsIn K mainGlobals "min" = some none)
    (z_range : PySem.W.nsIn K mainGlobals "range" = some none)
    (z_repr : PySem.W.nsIn K mainGlobals "repr" = some none)
    (z_sorted : PySem.W.nsIn K mainGlobals "sorted" = some none)
    (z_str : PySem.W.nsIn K mainGlobals "str" = some none)
    (z_sum : PySem.W.nsIn K mainGlobals "sum" = some none)
    (z_tuple : PySem.W.nsIn K mainGlobals "tuple" = some none)
    (z_zip : PySem.W.nsIn K mainGlobals "zip" = some none)
    : ∃ (f : Addr) (fd : FuncData), mg "law" = some (.ref f) ∧ BindA fd ["_law_script"] ∧ ∀ base : Heap, K.In base → base.Ns mainGlobals mg → FnG l.prog w K mg base 6 f fd ["_law_script"] (toSp K spLawA) := by
  have U : Tx mg := ⟨PySem.W.mg_none_of X G z_abs, PySem.W.mg_none_of X G z_all, PySem.W.mg_none_of X G z_any, PySem.W.mg_none_of X G z_bool, PySem.W.mg_none_of X G z_enumerate, PySem.W.mg_none_of X G z_int, PySem.W.mg_none_of X G z_isinstance, PySem.W.mg_none_of X G z_len, PySem.W.mg_none_of X G z_list, PySem.W.mg_none_of X G z_max, PySem.W.mg_none_of X G z_min, PySem.W.mg_none_of X G z_range, PySem.W.mg_none_of X G z_repr, PySem.W.mg_none_of X G z_sorted, PySem.W.mg_none_of X G z_str, PySem.W.mg_none_of X G z_sum, PySem.W.mg_none_of X G z_tuple, PySem.W.mg_none_of X G z_zip⟩
  have D : Ds K mg := ⟨w_p_loads.df X G (fun _ _ _ _ _ _ us hl => match us, hl with | [_, _], _ => rfl), w_p_fullest.df X G (fun _ _ _ _ _ _ us hl => match us, hl with | [_, _], _ => rfl), w_p_is_number.df X G (fun _ _ _ _ _ _ us hl => match us, hl with | [_], _ => rfl), w_p_is_rising.df X G (fun _ _ _ _ _ _ us hl => match us, hl with | [_], _ => rfl), w_p_has.df X G (fun _ _ _ _ _ _ us hl => match us, hl with | [_, _], _ => rfl), w_p_kept_of.df X G (fun _ _ _ _ _ _ us hl => match us, hl with | [_, _], _ => rfl), w_p_count_within.df X G (fun _ _ _ _ _ _ us hl => match us, hl with | [_, _, _], _ => rfl), w_p_paper_of.df X G (fun _ _ _ _ _ _ us hl => match us, hl with | [_, _], _ => rfl), w_p_are_places.df X G (fun _ _ _ _ _ _ us hl => match us, hl with | [_, _], _ => rfl), w_p_shows_most.df X G (fun _ _ _ _ _ _ us hl => match us, hl with | [_, _, _], _ => rfl), w_cell_at.df X G (fun _ _ _ _ _ _ us hl => match us, hl with | [_, _], _ => rfl), w_box.df X G (fun _ _ _ _ _ _ us hl => match us, hl with | [_, _], _ => rfl), w_take.df X G (fun _ _ _ _ _ _ us hl => match us, hl with | [_, _], _ => rfl), w_stretch.df X G (fun _ _ _ _ _ _ us hl => match us, hl with | [_, _], _ => rfl), w_asks.df X G (fun _ _ _ _ _ _ us hl => match us, hl with | [_, _, _], _ => rfl), w_same.df X G (fun _ _ _ _ _ _ us hl => match us, hl with | [_, _], _ => rfl), w_counted.df X G (fun _ _ _ _ _ _ us hl => match us, hl with | [_, _], _ => rfl), w_rooms.df X G (fun _ _ _ _ _ _ us hl => match us, hl with | [_, _, _], _ => rfl), w_kept.df X G (fun _ _ _ _ _ _ us hl => match us, hl with | [_, _], _ => rfl), w_missing.df X G (fun _ _ _ _ _ _ us hl => match us, hl with | [_, _], _ => rfl), w_is_rising.df X G (fun _ _ _ _ _ _ us hl => match us, hl with | [_, _], _ => rfl), w_put.df X G (fun _ _ _ _ _ _ us hl => match us, hl with | [_, _, _], _ => rfl), w_is_paper.df X G (fun _ _ _ _ _ _ us hl => match us, hl with | [_, _, _], _ => rfl), w_asked.df X G (fun _ _ _ _ _ _ us hl => match us, hl with | [_, _, _], _ => rfl), w_law.df X G (fun _ _ _ _ _ _ us hl => match us, hl with | [_], _ => rfl)⟩
  obtain ⟨f, fd, F, e1, _, b⟩ := D.d_law.ex
  refine ⟨f, fd, e1, b, fun base _ _ => ?_⟩
  have C_cell_at : Cal l.prog w K mg base 1 "_law_cell_at" ["_law_script", "_law_k"] sp_cell_at := ok_cell_at U D 
  have C_box : Cal l.prog w K mg base 2 "_law_box" ["_law_script", "_law_k"] sp_box := ok_box U D C_cell_at
  have C_take : Cal l.prog w K mg base 1 "_law_take" ["_law_box_here", "_law_many"] sp_take := ok_take U D 
  have C_stretch : Cal l.prog w K mg base 2 "_law_stretch" ["_law_box_here", "_law_stops"] sp_stretch := ok_stretch U D C_take
  have C_asks : Cal l.prog w K mg base 3 "_law_asks" ["_law_box_here", "_law_legs", "_law_many"] sp_asks := ok_asks U D C_take C_stretch
  have C_p_count_within : Cal l.prog w K mg base 1 "count_within" ["asks", "a", "b"] sp_p_count_within := ok_p_count_within U D 
  have C_p_paper_of : Cal l.prog w K mg base 2 "paper_of" ["asks", "room"] sp_p_paper_of := ok_p_paper_of U D C_p_count_within
  have C_is_rising : Cal l.prog w K mg base 1 "_law_is_rising" ["_law_thing", "_law_many"] sp_is_rising := ok_is_rising U D 
  have C_missing : Cal l.prog w K mg base 1 "_law_missing" ["_law_asks_here", "_law_legs"] sp_missing := ok_missing U D 
  have C_kept : Cal l.prog w K mg base 1 "_law_kept" ["_law_asks_here", "_law_room"] sp_kept := ok_kept U D 
  have C_is_paper : Cal l.prog w K mg base 2 "_law_is_paper" ["_law_asks_here", "_law_room", "_law_found"] sp_is_paper := ok_is_paper U D C_is_rising C_missing C_kept
  have C_counted : Cal l.prog w K mg base 1 "_law_counted" ["_law_asks_here", "_law_leg"] sp_counted := ok_counted U D 
  have C_p_loads : Cal l.prog w K mg base 1 "loads" ["asks", "legs"] sp_p_loads := ok_p_loads U D 
  have C_p_fullest : Cal l.prog w K mg base 2 "fullest" ["asks", "legs"] sp_p_fullest := ok_p_fullest U D C_p_loads
  have C_p_has : Cal l.prog w K mg base 1 "has" ["ask", "leg"] sp_p_has := ok_p_has U D 
  have C_p_kept_of : Cal l.prog w K mg base 2 "kept_of" ["asks", "room"] sp_p_kept_of := ok_p_kept_of U D C_p_has
  have C_same : Cal l.prog w K mg base 4 "_law_same" ["_law_found", "_law_due"] (spS_same 4) := ok_same U D 
  have C_p_is_rising : Cal l.prog w K mg base 1 "is_rising" ["numbers"] sp_p_is_rising := ok_p_is_rising U D 
  have C_p_is_number : Cal l.prog w K mg base 1 "is_number" ["thing"] sp_p_is_number := ok_p_is_number U D 
  have C_p_are_places : Cal l.prog w K mg base 2 "are_places" ["thing", "many"] sp_p_are_places := ok_p_are_places U D C_p_is_rising C_p_is_number
  have C_p_shows_most : Cal l.prog w K mg base 3 "shows_most" ["asks", "room", "thing"] sp_p_shows_most := ok_p_shows_most U D C_p_are_places C_p_loads C_p_has
  have C_asked : Cal l.prog w K mg base 5 "_law_asked" ["_law_which", "_law_case", "_law_legs"] sp_asked := ok_asked U D C_p_paper_of C_is_paper C_counted C_p_loads C_p_fullest C_p_kept_of C_same C_p_shows_most C_kept
  have C_put : Cal l.prog w K mg base 3 "_law_put" ["_law_box_here", "_law_case", "_law_legs"] sp_put := ok_put U D C_take C_stretch
  have C_rooms : Cal l.prog w K mg base 2 "_law_rooms" ["_law_box_here", "_law_asks_here", "_law_legs"] sp_rooms := ok_rooms U D C_take C_counted
  exact ok_law U F C_box C_asks C_asked C_take C_put C_rooms
end
end K20

open PySem PySem.W PyProof.Rows in
set_option maxRecDepth 100000 in
set_option maxHeartbeats 0 in
theorem PySem.Challenge.cw_nightberths_k20_keeping_again_and_shared_holds : PySem.Challenge.rw_nightberths_k20_keeping_again_and_shared.Holds := by
  w_on; o_law; k_head; (case hw => w_witness2)
  k_fill
  refine Lv.law_end (l := PySem.Challenge.rw_nightberths_k20_keeping_again_and_shared) (k := 6) (x := "_law_script") rfl rfl ⟨rfl, by decide, by decide⟩ (fun w h Y => PySem.W.kIn_of Y) ?F
  case F =>
    intro w mg h KX G
    refine' K20.all_mk KX G ?w_p_loads ?w_p_fullest ?w_p_is_number ?w_p_is_rising ?w_p_has ?w_p_kept_of ?w_p_count_within ?w_p_paper_of ?w_p_are_places ?w_p_shows_most ?w_cell_at ?w_box ?w_take ?w_stretch ?w_asks ?w_same ?w_counted ?w_rooms ?w_kept ?w_missing ?w_is_rising ?w_put ?w_is_paper ?w_asked ?w_law ?z_abs ?z_all ?z_any ?z_bool ?z_enumerate ?z_int ?z_isinstance ?z_len ?z_list ?z_max ?z_min ?z_range ?z_repr ?z_sorted ?z_str ?z_sum ?z_tuple ?z_zip
    (case w_p_loads => refine' Lv.Wr.of ?a1 ?a2 ?a3 ?a4; (case a1 => k_is); (case a2 => k_is); (case a3 => k_is); (case a4 => k_is))
    (case w_p_fullest => refine' Lv.Wr.of ?a1 ?a2 ?a3 ?a4; (case a1 => k_is); (case a2 => k_is); (case a3 => k_is); (case a4 => k_is))
    (case w_p_is_number => refine' Lv.Wr.of ?a1 ?a2 ?a3 ?a4; (case a1 => k_is); (case a2 => k_is); (case a3 => k_is); (case a4 => k_is))
    (case w_p_is_rising => refine' Lv.Wr.of ?a1 ?a2 ?a3 ?a4; (case a1 => k_is); (case a2 => k_is); (case a3 => k_is); (case a4 => k_is))
    (case w_p_has => refine' Lv.Wr.of ?a1 ?a2 ?a3 ?a4; (case a1 => k_is); (case a2 => k_is); (case a3 => k_is); (case a4 => k_is))
    (case w_p_kept_of => refine' Lv.Wr.of ?a1 ?a2 ?a3 ?a4; (case a1 => k_is); (case a2 => k_is); (case a3 => k_is); (case a4 => k_is))
    (case w_p_count_within => refine' Lv.Wr.of ?a1 ?a2 ?a3 ?a4; (case a1 => k_is); (case a2 => k_is); (case a3 => k_is); (case a4 => k_is))
    (case w_p_paper_of => refine' Lv.Wr.of ?a1 ?a2 ?a3 ?a4; (case a1 => k_is); (case a2 => k_is); (case a3 => k_is); (case a4 => k_is))
    (case w_p_are_places => refine' Lv.Wr.of ?a1 ?a2 ?a3 ?a4; (case a1 => k_is); (case a2 => k_is); (case a3 => k_is); (case a4 => k_is))
    (case w_p_shows_most => refine' Lv.Wr.of ?a1 ?a2 ?a3 ?a4; (case a1 => k_is); (case a2 => k_is); (case a3 => k_is); (case a4 => k_is))
    (case w_cell_at => refine' Lv.Wr.of ?a1 ?a2 ?a3 ?a4; (case a1 => k_is); (case a2 => k_is); (case a3 => k_is); (case a4 => k_is))
    (case w_box => refine' Lv.Wr.of ?a1 ?a2 ?a3 ?a4; (case a1 => k_is); (case a2 => k_is); (case a3 => k_is); (case a4 => k_is))
    (case w_take => refine' Lv.Wr.of ?a1 ?a2 ?a3 ?a4; (case a1 => k_is); (case a2 => k_is); (case a3 => k_is); (case a4 => k_is))
    (case w_stretch => refine' Lv.Wr.of ?a1 ?a2 ?a3 ?a4; (case a1 => k_is); (case a2 => k_is); (case a3 => k_is); (case a4 => k_is))
    (case w_asks => refine' Lv.Wr.of ?a1 ?a2 ?a3 ?a4; (case a1 => k_is); (case a2 => k_is); (case a3 => k_is); (case a4 => k_is))
    (case w_same => refine' Lv.Wr.of ?a1 ?a2 ?a3 ?a4; (case a1 => k_is); (case a2 => k_is); (case a3 => k_is); (case a4 => k_is))
    (case w_counted => refine' Lv.Wr.of ?a1 ?a2 ?a3 ?a4; (case a1 => k_is); (case a2 => k_is); (case a3 => k_is); (case a4 => k_is))
    (case w_rooms => refine' Lv.Wr.of ?a1 ?a2 ?a3 ?a4; (case a1 => k_is); (case a2 => k_is); (case a3 => k_is); (case a4 => k_is))
    (case w_kept => refine' Lv.Wr.of ?a1 ?a2 ?a3 ?a4; (case a1 => k_is); (case a2 => k_is); (case a3 => k_is); (case a4 => k_is))
    (case w_missing => refine' Lv.Wr.of ?a1 ?a2 ?a3 ?a4; (case a1 => k_is); (case a2 => k_is); (case a3 => k_is); (case a4 => k_is))
    (case w_is_rising => refine' Lv.Wr.of ?a1 ?a2 ?a3 ?a4; (case a1 => k_is); (case a2 => k_is); (case a3 => k_is); (case a4 => k_is))
    (case w_put => refine' Lv.Wr.of ?a1 ?a2 ?a3 ?a4; (case a1 => k_is); (case a2 => k_is); (case a3 => k_is); (case a4 => k_is))
    (case w_is_paper => refine' Lv.Wr.of ?a1 ?a2 ?a3 ?a4; (case a1 => k_is); (case a2 => k_is); (case a3 => k_is); (case a4 => k_is))
    (case w_asked => refine' Lv.Wr.of ?a1 ?a2 ?a3 ?a4; (case a1 => k_is); (case a2 => k_is); (case a3 => k_is); (case a4 => k_is))
    (case w_law => refine' Lv.Wr.of ?a1 ?a2 ?a3 ?a4; (case a1 => k_is); (case a2 => k_is); (case a3 => k_is); (case a4 => k_is))
    (case z_abs => k_is)
    (case z_all => k_is)
    (case z_any => k_is)
    (case z_bool => k_is)
    (case z_enumerate => k_is)
    (case z_int => k_is)
    (case z_isinstance => k_is)
    (case z_len => k_is)
    (case z_list => k_is)
    (case z_max => k_is)
    (case z_min => k_is)
    (case z_range => k_is)
    (case z_repr => k_is)
    (case z_sorted => k_is)
    (case z_str => k_is)
    (case z_sum => k_is)
    (case z_tuple => k_is)
    (case z_zip => k_is)
#print axioms PySem.Challenge.cw_nightberths_k20_keeping_again_and_shared_holds


