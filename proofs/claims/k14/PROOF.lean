import PyProof.Rows.All
import Wide.All
import OpenK.AllK
import Wide.FinOn
import HandS.ForMost
import HandS.ForExc
import HandS.Walk
import HandS.Style
import HandS.IsInst
import HandS.SetKeys
import HandS.Zip
import HandS.Conv
import HandS.Defaults
import HandS.HeadHook2
import HandS.HeadEnd
import HandS.Head0
import HandS.Head1
import HandS.Head2
import HandS.DictComp
import HandS.SetBool
import HandS.TupLe
import HandS.TupAny
import KE.KDictSum
import HandS.Strs
import HandS.List
import KE.LtData
import PyProof.StrOps2
import HandS.StrMore
import HandS.DictSubView
import HandS.Property
import HandS.HeadNt
import KE.KMethU
import KE.KOpsOwn
import HandS.Replace
import HandS.ReplaceDef
import HandS.ReplaceLit
import HandS.ReplaceList
import HandS.More
import HandS.FStr
import PyProof.RulesMatch
import KE.GoesMore
import KE.KFromBytes
import KE.KSuper
import KE.KExcSuper
import HandS.ExcInit
import HandS.ExcSuper
import HandS.ClsMeth
import HandS.Nested
import HandS.ExcIs
import HandS.ExcField
import HandS.HeadHook1
import HandS.Star
import HandS.HeadHook3
import KE.KIntText
import HandS.HotCalls
import HandS.Comp
import HandS.TryOnly
import KE.DataCmp
import HandS.Iter
import PyProof.SeqInW
import PyProof.MeetsSeq3
import PyProof.TupleIter
import PyProof.EqAt
import HandS.Deep
import HandS.TupMul
import HandS.Ends
import KE.KStateDown
import PySem.Challenge.RW_bytegrove_k14_invalid_function_tables
set_option Elab.async false
set_option linter.all false
set_option maxRecDepth 100000
namespace DL
open PySem PySem.Spec PyProof.Rows L2
inductive D where
  | non | bl (b : Bool) | int (i : Int) | str (x : Str) | adr (a : Addr)
  | tup (ds : List D) | lst (ds : List D) | dk (kds : List (Key × D)) | ins (C : Addr) (fds : List (Str × D))
  | ldk (a : Addr) (kds : List (Key × D))
  | zst (ds : List D) | zkl (K : PySem.W.Frag) (ds : List D) | zkt (K : PySem.W.Frag) (ds : List D)
  | exc (a C dd : Addr) (fds : List (Str × D))
  | fz (o : HO) (kds : List (Key × D))
  | ftp (ds : List D)
def Td (F : Hp) (a : Addr) (xs : List V) : Prop := F a = some (.tup xs) ∨ ∃ o, F a = some (.frz o (.tup xs))
theorem Td.mono {F F' : Hp} {a : Addr} {xs : List V} (e : ∀ a o, F a = some o → F' a = some o) (h : Td F a xs) : Td F' a xs := h.imp (e _ _) fun ⟨o, h⟩ => ⟨o, e _ _ h⟩
mutual
inductive R (F : Hp) : V → D → Prop
  | non : R F .non .non
  | bl (b : Bool) : R F (.bl b) (.bl b)
  | int (i : Int) : R F (.int i) (.int i)
  | str (x : Str) : R F (.str x) (.str x)
  | adr (a : Addr) : R F (.ref a) (.adr a)
  | tup {a : Addr} {xs : List V} {ds : List D} : Td F a xs → Rs F xs ds → R F (.ref a) (.tup ds)
  | lst {a : Addr} {xs : List V} {ds : List D} : F a = some (.lst xs) → Rs F xs ds → R F (.ref a) (.lst ds)
  | dk {a : Addr} {kvs : List (Key × V)} {kds : List (Key × D)} : F a = some (.dK kvs) → Rk F kvs kds → R F (.ref a) (.dk kds)
  | ins {a C dx : Addr} {fs : List (Str × V)} {fds : List (Str × D)} : F a = some (.ins C dx fs) → Rn F fs fds → R F (.ref a) (.ins C fds)
  | ldk {a : Addr} {kvs : List (Key × V)} {kds : List (Key × D)} : F a = some (.dK kvs) → Rk F kvs kds → R F (.ref a) (.ldk a kds)
  | zst {a : Addr} {o : Obj} {xs : List V} {ds : List D} : F a = some (.frz o (.lst xs)) → Rs F xs ds → R F (.ref a) (.zst ds)
  | zkl {K : PySem.W.Frag} {a : Addr} {xs : List V} {ds : List D} : (∀ H, SqL K H a xs) → Rs F xs ds → R F (.ref a) (.zkl K ds)
  | zkt {K : PySem.W.Frag} {a : Addr} {xs : List V} {ds : List D} : (∀ H, SqT K H a xs) → Rs F xs ds → R F (.ref a) (.zkt K ds)
  | exc {a C dd : Addr} {fs : List (Str × V)} {fds : List (Str × D)} : F dd = some (.xd fs) → Rn F fs fds → R F (.ref a) (.exc a C dd fds)
  | fz {a : Addr} {od : Obj} {kvs : List (Key × V)} {kds : List (Key × D)} : F a = some (.frz od (.dK kvs)) → Rk F kvs kds → R F (.ref a) (.fz (.frz od (.dK kvs)) kds)
  | ftp {a : Addr} {ob : Obj} {xs : List V} {ds : List D} : F a = some (.frz ob (.tup xs)) → ob.cls = .type "tuple" → ob.dict = none → Rs F xs ds → R F (.ref a) (.ftp ds)
inductive Rs (F : Hp) : List V → List D → Prop
  | nil : Rs F [] []
  | cons {v : V} {vs : List V} {d : D} {ds : List D} : R F v d → Rs F vs ds → Rs F (v :: vs) (d :: ds)
inductive Rk (F : Hp) : List (Key × V) → List (Key × D) → Prop
  | nil : Rk F [] []
  | cons {k : Key} {v : V} {vs : List (Key × V)} {d : D} {ds : List (Key × D)} : R F v d → Rk F vs ds → Rk F ((k, v) :: vs) ((k, d) :: ds)
inductive Rn (F : Hp) : List (Str × V) → List (Str × D) → Prop
  | nil : Rn F [] []
  | cons {k : Str} {v : V} {vs : List (Str × V)} {d : D} {ds : List (Str × D)} : R F v d → Rn F vs ds → Rn F ((k, v) :: vs) ((k, d) :: ds)
end
abbrev Ex (F F' : Hp) : Prop := ∀ a o, F a = some o → F' a = some o
mutual
theorem R.mono {F F' : Hp} (e : Ex F F') : ∀ {v : V} {d : D}, R F v d → R F' v d
  | _, _, .non => .non
  | _, _, .bl b => .bl b
  | _, _, .int i => .int i
  | _, _, .str x => .str x
  | _, _, .adr a => .adr a
  | _, _, .tup h r => .tup (h.mono e) (Rs.mono e r)
  | _, _, .lst h r => .lst (e _ _ h) (Rs.mono e r)
  | _, _, .dk h r => .dk (e _ _ h) (Rk.mono e r)
  | _, _, .ins h r => .ins (e _ _ h) (Rn.mono e r)
  | _, _, .ldk h r => .ldk (e _ _ h) (Rk.mono e r)
  | _, _, .zst h r => .zst (e _ _ h) (Rs.mono e r)
  | _, _, .zkl h r => .zkl h (Rs.mono e r)
  | _, _, .zkt h r => .zkt h (Rs.mono e r)
  | _, _, .exc h r => .exc (e _ _ h) (Rn.mono e r)
  | _, _, .fz h r => .fz (e _ _ h) (Rk.mono e r)
  | _, _, .ftp h c z r => .ftp (e _ _ h) c z (Rs.mono e r)
theorem Rs.mono {F F' : Hp} (e : Ex F F') : ∀ {v : List V} {d : List D}, Rs F v d → Rs F' v d
  | _, _, .nil => .nil
  | _, _, .cons r t => .cons (R.mono e r) (Rs.mono e t)
theorem Rk.mono {F F' : Hp} (e : Ex F F') : ∀ {v : List (Key × V)} {d : List (Key × D)}, Rk F v d → Rk F' v d
  | _, _, .nil => .nil
  | _, _, .cons r t => .cons (R.mono e r) (Rk.mono e t)
theorem Rn.mono {F F' : Hp} (e : Ex F F') : ∀ {v : List (Str × V)} {d : List (Str × D)}, Rn F v d → Rn F' v d
  | _, _, .nil => .nil
  | _, _, .cons r t => .cons (R.mono e r) (Rn.mono e t)
end
theorem Rs.length {F : Hp} : ∀ {xs : List V} {ds : List D}, Rs F xs ds → xs.length = ds.length
  | _, _, .nil => rfl
  | _, _, .cons _ t => congrArg (· + 1) (Rs.length t)
theorem Rk.length {F : Hp} : ∀ {xs : List (Key × V)} {ds : List (Key × D)}, Rk F xs ds → xs.length = ds.length
  | _, _, .nil => rfl
  | _, _, .cons _ t => congrArg (· + 1) (Rk.length t)
theorem Rn.length {F : Hp} : ∀ {xs : List (Str × V)} {ds : List (Str × D)}, Rn F xs ds → xs.length = ds.length
  | _, _, .nil => rfl
  | _, _, .cons _ t => congrArg (· + 1) (Rn.length t)
theorem Rs.get {F : Hp} : ∀ {xs : List V} {ds : List D} {i : Nat} {d : D}, Rs F xs ds → ds[i]? = some d → ∃ v, xs[i]? = some v ∧ R F v d
  | _, _, i, _, .nil, h => by simp at h
  | _, _, 0, _, .cons r t, h => by
    simp at h
    subst h
    exact ⟨_, rfl, r⟩
  | _, _, i + 1, d, .cons r t, h => by
    obtain ⟨v, h1, h2⟩ := Rs.get (i := i) (d := d) t (by simpa using h)
    exact ⟨v, by simpa using h1, h2⟩
theorem Rs.get' {F : Hp} {xs : List V} {ds : List D} {i : Nat} {v : V} (r : Rs F xs ds) (h : xs[i]? = some v) : ∃ d, ds[i]? = some d ∧ R F v d := by
  have hi : i < xs.length := (List.getElem?_eq_some_iff.mp h).1
  obtain ⟨u, e, q⟩ := Rs.get r (List.getElem?_eq_getElem (r.length ▸ hi))
  rw [h] at e
  cases e
  exact ⟨_, List.getElem?_eq_getElem (r.length ▸ hi), q⟩
theorem Rs.snoc {F : Hp} {v : V} {d : D} (q : R F v d) : ∀ {xs : List V} {ds : List D}, Rs F xs ds → Rs F (xs ++ [v]) (ds ++ [d])
  | _, _, .nil => .cons q .nil
  | _, _, .cons r t => .cons r (Rs.snoc q t)
theorem Rs.append {F : Hp} {ys : List V} {es : List D} (q : Rs F ys es) : ∀ {xs : List V} {ds : List D}, Rs F xs ds → Rs F (xs ++ ys) (ds ++ es)
  | _, _, .nil => q
  | _, _, .cons r t => .cons r (Rs.append q t)
theorem Rs.take {F : Hp} : ∀ {xs : List V} {ds : List D} (n : Nat), Rs F xs ds → Rs F (xs.take n) (ds.take n)
  | _, _, 0, _ => .nil
  | _, _, _ + 1, .nil => .nil
  | _, _, n + 1, .cons r t => .cons r (Rs.take n t)
theorem Rs.drop {F : Hp} : ∀ {xs : List V} {ds : List D} (n : Nat), Rs F xs ds → Rs F (xs.drop n) (ds.drop n)
  | _, _, 0, h => h
  | _, _, _ + 1, .nil => .nil
  | _, _, n + 1, .cons r t => Rs.drop n t
theorem Rs.set {F : Hp} {v : V} {d : D} (q : R F v d) : ∀ {xs : List V} {ds : List D} (n : Nat), Rs F xs ds → Rs F (xs.set n v) (ds.set n d)
  | _, _, _, .nil => .nil
  | _, _, 0, .cons r t => .cons q t
  | _, _, n + 1, .cons r t => .cons r (Rs.set q n t)
theorem Rs.dropLast {F : Hp} {xs : List V} {ds : List D} (h : Rs F xs ds) : Rs F xs.dropLast ds.dropLast := by
  rw [List.dropLast_eq_take, List.dropLast_eq_take, h.length]
  exact h.take _
theorem Rs.reverse {F : Hp} : ∀ {xs : List V} {ds : List D}, Rs F xs ds → Rs F xs.reverse ds.reverse
  | _, _, .nil => .nil
  | _, _, .cons r t => by
    rw [List.reverse_cons, List.reverse_cons]
    exact (Rs.reverse t).snoc r
theorem Rs.ints {F : Hp} : ∀ {xs : List V} {ns : List Int}, Rs F xs (ns.map D.int) → xs = ns.map V.int
  | _, [], .nil => rfl
  | _, _ :: _, .cons (.int _) t => congrArg _ (Rs.ints t)
theorem Rs.strs {F : Hp} : ∀ {xs : List V} {ns : List Str}, Rs F xs (ns.map D.str) → xs = ns.map V.str
  | _, [], .nil => rfl
  | _, _ :: _, .cons (.str _) t => congrArg _ (Rs.strs t)
theorem Rs.bls {F : Hp} : ∀ {xs : List V} {ns : List Bool}, Rs F xs (ns.map D.bl) → xs = ns.map V.bl
  | _, [], .nil => rfl
  | _, _ :: _, .cons (.bl _) t => congrArg _ (Rs.bls t)
theorem rs_ints {F : Hp} : ∀ ns : List Int, Rs F (ns.map V.int) (ns.map D.int)
  | [] => .nil
  | n :: r => .cons (.int n) (rs_ints r)
theorem rs_strs {F : Hp} : ∀ ns : List Str, Rs F (ns.map V.str) (ns.map D.str)
  | [] => .nil
  | n :: r => .cons (.str n) (rs_strs r)
inductive Cn (F : Hp) : HO → D → Prop
  | tup {xs : List V} {ds : List D} : Rs F xs ds → Cn F (.tup xs) (.tup ds)
  | lst {xs : List V} {ds : List D} : Rs F xs ds → Cn F (.lst xs) (.lst ds)
  | dk {kvs : List (Key × V)} {kds : List (Key × D)} : Rk F kvs kds → Cn F (.dK kvs) (.dk kds)
  | ins {C dx : Addr} {fs : List (Str × V)} {fds : List (Str × D)} : Rn F fs fds → Cn F (.ins C dx fs) (.ins C fds)
  | fz {od : Obj} {kvs : List (Key × V)} {kds : List (Key × D)} : Rk F kvs kds → Cn F (.frz od (.dK kvs)) (.fz (.frz od (.dK kvs)) kds)
theorem Cn.mono {F F' : Hp} (e : Ex F F') : ∀ {o : HO} {d : D}, Cn F o d → Cn F' o d
  | _, _, .tup r => .tup (r.mono e)
  | _, _, .lst r => .lst (r.mono e)
  | _, _, .dk r => .dk (r.mono e)
  | _, _, .ins r => .ins (r.mono e)
  | _, _, .fz r => .fz (r.mono e)
theorem R.of {F : Hp} {a : Addr} {o : HO} {d : D} (h : F a = some o) : Cn F o d → R F (.ref a) d
  | .tup r => .tup (.inl h) r
  | .lst r => .lst h r
  | .dk r => .dk h r
  | .ins r => .ins h r
  | .fz r => .fz h r
structure Hd (L : List Addr) (F H : Hp) : Prop where
  at_ : ∀ a o, F a = some o → (a ∉ L ∧ H a = some o) ∨ (a ∈ L ∧ ∃ kvs ob, o = .dK kvs ∧ H a = some (.frz ob o)) ∨ (a ∉ L ∧ ∃ ob xs, o = .frz ob (.lst xs) ∧ H a = some (.lst xs))
  lk : ∀ a ∈ L, F a ≠ none
theorem Hd.tr {L : List Addr} {F H : Hp} (h : Hd L F H) {a : Addr} {o : HO} (e : F a = some o) : H a ≠ none := by
  rcases h.at_ a o e with ⟨_, h⟩ | ⟨_, _, _, _, h⟩ | ⟨_, _, _, _, h⟩ <;> rw [h] <;> exact fun z => by cases z
theorem Hd.free {L : List Addr} {F H : Hp} (h : Hd L F H) {a : Addr} (e : H a = none) : F a = none := by
  cases z : F a with
  | none => rfl
  | some o => exact absurd e (h.tr z)
theorem Hd.lkH {L : List Addr} {F H : Hp} (h : Hd L F H) {a : Addr} (m : a ∈ L) : H a ≠ none := fun e => h.lk a m (h.free e)
theorem Hd.lst {L : List Addr} {F H : Hp} (h : Hd L F H) {a : Addr} {xs : List V} (e : F a = some (.lst xs)) : H a = some (.lst xs) := by
  rcases h.at_ a _ e with ⟨_, h⟩ | ⟨_, _, _, z, _⟩ | ⟨_, _, _, z, _⟩
  · exact h
  · cases z
  · cases z
theorem Hd.tup {L : List Addr} {F H : Hp} (h : Hd L F H) {a : Addr} {xs : List V} (e : F a = some (.tup xs)) : H a = some (.tup xs) := by
  rcases h.at_ a _ e with ⟨_, h⟩ | ⟨_, _, _, z, _⟩ | ⟨_, _, _, z, _⟩
  · exact h
  · cases z
  · cases z
theorem Hd.frzT {L : List Addr} {F H : Hp} (h : Hd L F H) {a : Addr} {ob : Obj} {xs : List V} (e : F a = some (.frz ob (.tup xs))) : H a = some (.frz ob (.tup xs)) := by
  rcases h.at_ a _ e with ⟨_, h⟩ | ⟨_, _, _, z, _⟩ | ⟨_, _, _, z, _⟩
  · exact h
  · cases z
  · cases z
theorem Hd.tupR {L : List Addr} {F H : Hp} (h : Hd L F H) {a : Addr} {xs : List V} (e : Td F a xs) : Rd H a (.tup xs) := e.imp h.tup fun ⟨o, e⟩ => ⟨o, h.frzT e⟩
theorem Hd.tq {K : PySem.W.Frag} {L : List Addr} {F H : Hp} (h : Hd L F H) {a : Addr} {xs : List V} (e : Td F a xs) : SqT K H a xs := .inl (h.tupR e)
theorem Hd.ins {L : List Addr} {F H : Hp} (h : Hd L F H) {a C dx : Addr} {fs : List (Str × V)} (e : F a = some (.ins C dx fs)) : H a = some (.ins C dx fs) := by
  rcases h.at_ a _ e with ⟨_, h⟩ | ⟨_, _, _, z, _⟩ | ⟨_, _, _, z, _⟩
  · exact h
  · cases z
  · cases z
theorem Hd.zst {L : List Addr} {F H : Hp} (h : Hd L F H) {a : Addr} {ob : Obj} {xs : List V} (e : F a = some (.frz ob (.lst xs))) : H a = some (.lst xs) ∨ ∃ ob, H a = some (.frz ob (.lst xs)) := by
  rcases h.at_ a _ e with ⟨_, h⟩ | ⟨_, _, _, z, _⟩ | ⟨_, _, _, z, h⟩
  · exact .inr ⟨_, h⟩
  · cases z
  · cases z
    exact .inl h
theorem Hd.dk {L : List Addr} {F H : Hp} (h : Hd L F H) {a : Addr} {kvs : List (Key × V)} (e : F a = some (.dK kvs)) : Rd H a (.dK kvs) := by
  rcases h.at_ a _ e with ⟨_, h⟩ | ⟨_, _, ob, _, h⟩ | ⟨_, _, _, z, _⟩
  · exact .inl h
  · exact .inr ⟨ob, h⟩
  · cases z
structure Own (F H : Hp) (as : List Addr) (O : List D) : Prop where
  nd : as.Nodup
  len : as.length = O.length
  at_ : ∀ (i : Nat) (a : Addr) (d : D), as[i]? = some a → O[i]? = some d → F a = none ∧ ∃ o, H a = some o ∧ Cn F o d
inductive Sl (F : Hp) : L2.St → List (Option D) → Prop
  | nil : Sl F [] []
  | no {x : Option V} {σ : L2.St} {ρ : List (Option D)} : Sl F σ ρ → Sl F (x :: σ) (none :: ρ)
  | so {v : V} {d : D} {σ : L2.St} {ρ : List (Option D)} : R F v d → Sl F σ ρ → Sl F (some v :: σ) (some d :: ρ)
theorem Sl.mono {F F' : Hp} (e : Ex F F') : ∀ {σ : L2.St} {ρ : List (Option D)}, Sl F σ ρ → Sl F' σ ρ
  | _, _, .nil => .nil
  | _, _, .no t => .no (Sl.mono e t)
  | _, _, .so r t => .so (r.mono e) (Sl.mono e t)
theorem Sl.get {F : Hp} : ∀ {σ : L2.St} {ρ : List (Option D)} {i : Nat} {d : D}, Sl F σ ρ → ρ[i]? = some (some d) → ∃ v, σ[i]? = some (some v) ∧ R F v d
  | _, _, i, _, .nil, h => by simp at h
  | _, _, 0, _, .no t, h => by simp at h
  | _, _, i + 1, d, .no t, h => by
    obtain ⟨v, h1, h2⟩ := Sl.get (i := i) (d := d) t (by simpa using h)
    exact ⟨v, by simpa using h1, h2⟩
  | _, _, 0, _, .so r t, h => by
    simp at h
    subst h
    exact ⟨_, rfl, r⟩
  | _, _, i + 1, d, .so r t, h => by
    obtain ⟨v, h1, h2⟩ := Sl.get (i := i) (d := d) t (by simpa using h)
    exact ⟨v, by simpa using h1, h2⟩
theorem Sl.set {F : Hp} {v : V} {d : D} (r : R F v d) : ∀ {σ : L2.St} {ρ : List (Option D)} (i : Nat), Sl F σ ρ → Sl F (σ.set i (some v)) (ρ.set i (some d))
  | _, _, i, .nil => .nil
  | _, _, 0, .no t => .so r t
  | _, _, i + 1, .no t => .no (Sl.set r i t)
  | _, _, 0, .so _ t => .so r t
  | _, _, i + 1, .so q t => .so q (Sl.set r i t)
theorem Sl.forget {F : Hp} {x : Option V} : ∀ {σ : L2.St} {ρ : List (Option D)} (i : Nat), Sl F σ ρ → Sl F (σ.set i x) (ρ.set i none)
  | _, _, i, .nil => .nil
  | _, _, 0, .no t => .no t
  | _, _, i + 1, .no t => .no (Sl.forget i t)
  | _, _, 0, .so _ t => .no t
  | _, _, i + 1, .so q t => .so q (Sl.forget i t)
theorem Sl.wipe {F : Hp} {σ : L2.St} {ρ : List (Option D)} (s : Sl F σ ρ) : ∀ vs : List Nat, Sl F (L2.wipe σ vs) (vs.foldr (fun v r => r.set v none) ρ)
  | [] => s
  | v :: vs => Sl.forget v (Sl.wipe s vs)
theorem Sl.length {F : Hp} : ∀ {σ : L2.St} {ρ : List (Option D)}, Sl F σ ρ → σ.length = ρ.length
  | _, _, .nil => rfl
  | _, _, .no t => congrArg (· + 1) (Sl.length t)
  | _, _, .so _ t => congrArg (· + 1) (Sl.length t)
abbrev DSt := List (Option D)
structure Rep (L as : List Addr) (F H : Hp) (σ : L2.St) (ρ : DSt) (O : List D) : Prop where
  hd : Hd L F H
  own : Own F H as O
  sl : Sl F σ ρ
structure Go (as : List Addr) (F H : Hp) (as' : List Addr) (F' H' : Hp) : Prop where
  ex : Ex F F'
  nw : ∀ a o, F' a = some o → F a = some o ∨ H a = none ∨ a ∈ as
  kp : ∀ b o, H b = some o → b ∉ as → H' b = some o
  th : ∀ b, H' b = none → H b = none
  sub : ∀ b ∈ as', b ∈ as ∨ H b = none
theorem Go.refl (as : List Addr) (F H : Hp) : Go as F H as F H :=
  ⟨fun _ _ h => h, fun _ _ h => .inl h, fun _ _ h _ => h, fun _ h => h, fun _ h => .inl h⟩
theorem Go.trans {as as1 as2 : List Addr} {F F1 F2 H H1 H2 : Hp} (a : Go as F H as1 F1 H1) (b : Go as1 F1 H1 as2 F2 H2) : Go as F H as2 F2 H2 where
  ex := fun x o h => b.ex _ _ (a.ex _ _ h)
  nw := fun x o h => by
    rcases b.nw x o h with h | h | h
    · exact a.nw x o h
    · exact .inr (.inl (a.th _ h))
    · rcases a.sub x h with h | h
      · exact .inr (.inr h)
      · exact .inr (.inl h)
  kp := fun x o h n => b.kp x o (a.kp x o h n) fun m => by
    rcases a.sub x m with m | m
    · exact n m
    · rw [m] at h; cases h
  th := fun x h => a.th x (b.th x h)
  sub := fun x h => by
    rcases b.sub x h with h | h
    · exact a.sub x h
    · exact .inr (a.th x h)
theorem Own.get {F H : Hp} {as : List Addr} {O : List D} {j : Nat} {d : D} (w : Own F H as O) (h : O[j]? = some d) : ∃ a o, as[j]? = some a ∧ F a = none ∧ H a = some o ∧ Cn F o d := by
  have hj : j < as.length := by rw [w.len]; exact (List.getElem?_eq_some_iff.mp h).1
  obtain ⟨h1, o, h2, h3⟩ := w.at_ j _ d (List.getElem?_eq_getElem hj) h
  exact ⟨_, o, List.getElem?_eq_getElem hj, h1, h2, h3⟩
theorem Own.mem {F H : Hp} {as : List Addr} {O : List D} {a : Addr} (w : Own F H as O) (m : a ∈ as) : F a = none ∧ H a ≠ none := by
  obtain ⟨i, hi, e⟩ := List.mem_iff_getElem.mp m
  have ho : i < O.length := by rw [← w.len]; exact hi
  obtain ⟨h1, o, h2, _⟩ := w.at_ i a _ (by rw [List.getElem?_eq_getElem hi, e]) (List.getElem?_eq_getElem ho)
  exact ⟨h1, by rw [h2]; exact fun z => by cases z⟩
theorem Own.free {F H : Hp} {as : List Addr} {O : List D} {a : Addr} (w : Own F H as O) (m : a ∈ as) : F a = none := (w.mem m).1
theorem Own.tr {F H : Hp} {as : List Addr} {O : List D} {a : Addr} (w : Own F H as O) (m : a ∈ as) : H a ≠ none := (w.mem m).2
theorem Own.keep {F F' H H' : Hp} (e : Ex F F') {as : List Addr} {O : List D} (w : Own F H as O) (hf : ∀ a ∈ as, F' a = none) (hh : ∀ a ∈ as, ∀ o, H a = some o → H' a = some o) : Own F' H' as O where
  nd := w.nd
  len := w.len
  at_ := fun i a d h1 h2 => by
    obtain ⟨_, o, h3, h4⟩ := w.at_ i a d h1 h2
    have m := List.mem_of_getElem? h1
    exact ⟨hf a m, o, hh a m o h3, h4.mono e⟩
theorem nodup_ix {as : List Addr} (n : as.Nodup) {i j : Nat} {a : Addr} (h : as[i]? = some a) (h' : as[j]? = some a) : i = j := L2.nd_ix n h h'
theorem Own.put {F H : Hp} {a : Addr} {o' : HO} {d' : D} (c : Cn F o' d') {as : List Addr} {O : List D} {j : Nat} (w : Own F H as O) (h : as[j]? = some a) : Own F (upd H a o') as (O.set j d') where
  nd := w.nd
  len := by rw [List.length_set]; exact w.len
  at_ := fun i b d h1 h2 => by
    by_cases z : j = i
    · subst z
      rw [h] at h1
      cases h1
      have hj : j < O.length := by rw [← w.len]; exact (List.getElem?_eq_some_iff.mp h).1
      rw [List.getElem?_set_self hj] at h2
      cases h2
      exact ⟨w.free (List.mem_of_getElem? h), _, upd_same, c⟩
    · rw [List.getElem?_set_ne z] at h2
      obtain ⟨e1, o, e2, e3⟩ := w.at_ i b d h1 h2
      have nb : b ≠ a := fun y => z (nodup_ix w.nd h (y ▸ h1))
      exact ⟨e1, o, by rw [upd_ne nb]; exact e2, e3⟩
theorem Own.snoc {F H : Hp} {p : Addr} {o : HO} {d : D} (hf : F p = none) (hh : H p = none) (c : Cn F o d) {as : List Addr} {O : List D} (w : Own F H as O) : Own F (upd H p o) (as ++ [p]) (O ++ [d]) where
  nd := by
    rw [List.nodup_append]
    refine ⟨w.nd, by simp, fun a m b m' z => ?_⟩
    simp at m'
    subst m'; subst z
    exact w.tr m hh
  len := by simp [w.len]
  at_ := fun i b d' h1 h2 => by
    rcases Nat.lt_trichotomy i as.length with z | z | z
    · rw [List.getElem?_append_left z] at h1
      rw [List.getElem?_append_left (w.len ▸ z)] at h2
      obtain ⟨e1, o', e2, e3⟩ := w.at_ i b d' h1 h2
      exact ⟨e1, o', by rw [upd_ne (ne_of_none e2 hh)]; exact e2, e3⟩
    · rw [List.getElem?_append_right (Nat.le_of_eq z.symm)] at h1
      rw [List.getElem?_append_right (by rw [← w.len]; exact Nat.le_of_eq z.symm), ← w.len] at h2
      rw [z] at h1 h2
      simp at h1 h2
      subst h1; subst h2
      exact ⟨hf, o, upd_same, c⟩
    · rw [List.getElem?_eq_none (by simp; omega)] at h1
      cases h1
theorem mem_erase_ix {as : List Addr} {j i : Nat} {b : Addr} (h : (as.eraseIdx j)[i]? = some b) : ∃ i', i' ≠ j ∧ as[i']? = some b ∧ i' = if i < j then i else i + 1 := by
  rw [List.getElem?_eraseIdx] at h
  by_cases z : i < j
  · rw [if_pos z] at h
    exact ⟨i, by omega, h, by rw [if_pos z]⟩
  · rw [if_neg z] at h
    exact ⟨i + 1, by omega, h, by rw [if_neg z]⟩
theorem nodup_eraseIdx {as : List Addr} (n : as.Nodup) {j : Nat} {a : Addr} (h : as[j]? = some a) : a ∉ as.eraseIdx j := fun m => by
  obtain ⟨i, hi, e⟩ := List.mem_iff_getElem.mp m
  obtain ⟨i', z, e', _⟩ := mem_erase_ix (by rw [List.getElem?_eq_getElem hi, e] : (as.eraseIdx j)[i]? = some a)
  exact z (nodup_ix n e' h)
theorem Own.drop {F H : Hp} {as : List Addr} {O : List D} (j : Nat) (w : Own F H as O) : Own F H (as.eraseIdx j) (O.eraseIdx j) where
  nd := w.nd.sublist (List.eraseIdx_sublist ..)
  len := by
    rw [List.length_eraseIdx, List.length_eraseIdx, w.len]
  at_ := fun i b d h1 h2 => by
    rw [List.getElem?_eraseIdx] at h1 h2
    by_cases z : i < j
    · rw [if_pos z] at h1 h2
      exact w.at_ i b d h1 h2
    · rw [if_neg z] at h1 h2
      exact w.at_ (i + 1) b d h1 h2
theorem go_upd {as : List Addr} {F H : Hp} {a : Addr} {o : HO} (m : a ∈ as) : Go as F H as F (upd H a o) where
  ex := fun _ _ h => h
  nw := fun _ _ h => .inl h
  kp := fun b o h n => by
    rw [upd_ne (show b ≠ a from fun z => n (z ▸ m))]
    exact h
  th := fun b h => by
    by_cases z : b = a
    · subst z; rw [upd_same] at h; cases h
    · rw [upd_ne z] at h; exact h
  sub := fun _ h => .inl h
theorem go_new {as : List Addr} {F H : Hp} {p : Addr} {o : HO} (h : H p = none) : Go as F H (as ++ [p]) F (upd H p o) where
  ex := fun _ _ h => h
  nw := fun _ _ h => .inl h
  kp := fun b o e n => by
    rw [upd_ne (ne_of_none e h)]
    exact e
  th := fun b e => by
    by_cases z : b = p
    · subst z; exact h
    · rw [upd_ne z] at e; exact e
  sub := fun b m => by
    rcases List.mem_append.mp m with m | m
    · exact .inl m
    · simp at m; subst m; exact .inr h
theorem go_lay {as : List Addr} {F H : Hp} {p : Addr} {o : HO} (h : H p = none) (hf : F p = none) : Go as F H as (upd F p o) (upd H p o) where
  ex := fun a x e => by
    rw [upd_ne (ne_of_none e hf)]
    exact e
  nw := fun a x e => by
    by_cases z : a = p
    · subst z; exact .inr (.inl h)
    · rw [upd_ne z] at e; exact .inl e
  kp := fun b o e n => by
    rw [upd_ne (ne_of_none e h)]
    exact e
  th := fun b e => by
    by_cases z : b = p
    · subst z; exact h
    · rw [upd_ne z] at e; exact e
  sub := fun b m => .inl m
theorem Hd.upd {L : List Addr} {F H : Hp} {a : Addr} {o : HO} (h : Hd L F H) (hf : F a = none) : Hd L F (L2.upd H a o) where
  at_ := fun b u e => by
    rw [upd_ne (ne_of_none e hf)]
    exact h.at_ b u e
  lk := h.lk
theorem Hd.lay {L : List Addr} {F H : Hp} {p : Addr} {o : HO} (h : Hd L F H) (hh : H p = none) : Hd L (L2.upd F p o) (L2.upd H p o) where
  at_ := fun b u e => by
    by_cases z : b = p
    · subst z
      rw [upd_same] at e
      cases e
      exact .inl ⟨fun m => h.lkH m hh, upd_same⟩
    · rw [upd_ne z] at e
      rw [upd_ne z]
      exact h.at_ b u e
  lk := fun b m e => by
    by_cases z : b = p
    · subst z; rw [upd_same] at e; cases e
    · rw [upd_ne z] at e; exact h.lk b m e
theorem ex_lay {F : Hp} {p : Addr} {o : HO} (hf : F p = none) : Ex F (upd F p o) := fun a x e => by
  rw [upd_ne (ne_of_none e hf)]
  exact e
theorem Own.lay {F H : Hp} {p : Addr} {o : HO} {as : List Addr} {O : List D} (w : Own F H as O) (hh : H p = none) (hf : F p = none) : Own (upd F p o) (upd H p o) as O :=
  w.keep (ex_lay hf) (fun a m => by
    have : a ≠ p := fun z => w.tr m (z ▸ hh)
    rw [upd_ne this]; exact w.free m) fun a m o' e => by
    rw [upd_ne (ne_of_none e hh)]; exact e
theorem go_frz {as : List Addr} {F H : Hp} {a : Addr} {o : HO} {j : Nat} (hf : F a = none) (ha : as[j]? = some a) : Go as F H (as.eraseIdx j) (upd F a o) H where
  ex := ex_lay hf
  nw := fun b x e => by
    by_cases z : b = a
    · subst z; exact .inr (.inr (List.mem_of_getElem? ha))
    · rw [upd_ne z] at e; exact .inl e
  kp := fun _ _ h _ => h
  th := fun _ h => h
  sub := fun b m => .inl (List.mem_of_mem_eraseIdx m)
theorem Rep.frz {L as : List Addr} {F H : Hp} {σ : L2.St} {ρ : DSt} {O : List D} {a : Addr} {o : HO} {c : D} {j : Nat} (S : Rep L as F H σ ρ O) (ha : as[j]? = some a) (hc : O[j]? = some c) (hf : F a = none) (ho : H a = some o) (cn : Cn F o c) :
    Rep L (as.eraseIdx j) (upd F a o) H σ ρ (O.eraseIdx j) where
  hd := {
    at_ := fun b u e => by
      by_cases z : b = a
      · subst z
        rw [upd_same] at e
        cases e
        exact .inl ⟨fun m => S.hd.lk _ m hf, ho⟩
      · rw [upd_ne z] at e
        exact S.hd.at_ b u e
    lk := fun b m e => by
      by_cases z : b = a
      · subst z; rw [upd_same] at e; cases e
      · rw [upd_ne z] at e; exact S.hd.lk b m e }
  own := (S.own.drop j).keep (ex_lay hf) (fun b m => by
    have z : b ≠ a := fun y => nodup_eraseIdx S.own.nd ha (y ▸ m)
    rw [upd_ne z]
    exact S.own.free (List.mem_of_mem_eraseIdx m)) fun _ _ _ h => h
  sl := S.sl.mono (ex_lay hf)
structure GoX (L as : List Addr) (F H : Hp) (L' as' : List Addr) (F' H' : Hp) : Prop where
  ex : Ex F F'
  nw : ∀ a o, F' a = some o → F a = some o ∨ H a = none ∨ a ∈ as
  kp : ∀ b o, H b = some o → b ∉ as → H' b = some o ∨ (b ∈ L' ∧ b ∉ L ∧ ∃ kvs ob, o = .dK kvs ∧ H' b = some (.frz ob o))
  th : ∀ b, H' b = none → H b = none
  sub : ∀ b ∈ as', b ∈ as ∨ H b = none
theorem Go.x {as as' L : List Addr} {F H F' H' : Hp} (g : Go as F H as' F' H') : GoX L as F H L as' F' H' :=
  ⟨g.ex, g.nw, fun b o h n => .inl (g.kp b o h n), g.th, g.sub⟩
theorem Go.transX {L L' as as1 as2 : List Addr} {F F1 F2 H H1 H2 : Hp} (a : Go as F H as1 F1 H1) (b : GoX L as1 F1 H1 L' as2 F2 H2) : GoX L as F H L' as2 F2 H2 where
  ex := fun x o h => b.ex _ _ (a.ex _ _ h)
  nw := fun x o h => by
    rcases b.nw x o h with h | h | h
    · exact a.nw x o h
    · exact .inr (.inl (a.th _ h))
    · rcases a.sub x h with h | h
      · exact .inr (.inr h)
      · exact .inr (.inl h)
  kp := fun x o h n => b.kp x o (a.kp x o h n) fun m => by
    rcases a.sub x m with m | m
    · exact n m
    · rw [m] at h; cases h
  th := fun x h => a.th x (b.th x h)
  sub := fun x h => by
    rcases b.sub x h with h | h
    · exact a.sub x h
    · exact .inr (a.th x h)
structure Xk where
  E : WX
  e : List Addr → Addr → List (Str × D) → List Addr → DSt → List D → Prop
def XD (F' H H' : Hp) (d : Option Addr) (fds : List (Str × D)) : Prop := match d with
  | none => fds = []
  | some d => H d = none ∧ ∃ fs, H' d = some (.xd fs) ∧ Rn F' fs fds
theorem XD.imp {F' H H1 H' : Hp} {d : Option Addr} {fds : List (Str × D)} (h : XD F' H1 H' d fds) (i : ∀ b, H1 b = none → H b = none) : XD F' H H' d fds := by
  cases d with
  | none => exact h
  | some d => exact ⟨i _ h.1, h.2⟩
def XP (χ : Xk) (L as : List Addr) (F H : Hp) : Prop :=
  ∀ F' H' L' as' σ' ρ' O' cls d fds, GoX L as F H L' as' F' H' → Rep L' as' F' H' σ' ρ' O' → XD F' H H' d fds → χ.e L' cls fds as' ρ' O' → χ.E (.ref cls) d σ' H'
theorem XP.go {χ : Xk} {L as as1 : List Addr} {F H F1 H1 : Hp} (x : XP χ L as F H) (g : Go as F H as1 F1 H1) : XP χ L as1 F1 H1 :=
  fun F' H' L' as' σ' ρ' O' cls d fds g' S n => x F' H' L' as' σ' ρ' O' cls d fds (g.transX g') S (n.imp g.th)
def X0 : Xk := ⟨fun _ _ _ _ => False, fun _ _ _ _ _ _ => False⟩
theorem xp0 {L as : List Addr} {F H : Hp} : XP X0 L as F H := fun _ _ _ _ _ _ _ _ _ _ _ _ _ z => z
def dW {α β : Type} (rel : Hp → α → β → Prop) (χ : Xk) (t : L2.St → Hp → (α → Hp → Prop) → Prop) (L as : List Addr) (ρ : DSt) (O : List D) (k : List Addr → β → List D → Prop) : Prop :=
  ∀ F H σ, Rep L as F H σ ρ O → XP χ L as F H → ∀ Q : α → Hp → Prop, (∀ F' H' as' O' x y, Go as F H as' F' H' → Rep L as' F' H' σ ρ O' → rel F' x y → k as' y O' → Q x H') → t σ H Q
abbrev dE : Xk → TE → List Addr → List Addr → DSt → List D → (List Addr → D → List D → Prop) → Prop := dW R
abbrev dT : Xk → TT → List Addr → List Addr → DSt → List D → (List Addr → Bool → List D → Prop) → Prop := dW (fun _ (a b : Bool) => a = b)
abbrev dA : Xk → TA → List Addr → List Addr → DSt → List D → (List Addr → List D → List D → Prop) → Prop   := dW Rs
def rv (r : R2) (L as : List Addr) (O : List D) (d1 d2 : D) (k : List Addr → D → List D → Prop) : Prop :=
  ∀ F H x y, Hd L F H → Own F H as O → R F x d1 → R F y d2 → ∀ Q : VK, (∀ F' H' as' O' v d, Go as F H as' F' H' → Hd L F' H' → Own F' H' as' O' → R F' v d → k as' d O' → Q v H') → r x y H Q
def ru (r : V → Hp → VK → Prop) (L as : List Addr) (O : List D) (d1 : D) (k : List Addr → D → List D → Prop) : Prop :=
  ∀ F H x, Hd L F H → Own F H as O → R F x d1 → ∀ Q : VK, (∀ F' H' as' O' v d, Go as F H as' F' H' → Hd L F' H' → Own F' H' as' O' → R F' v d → k as' d O' → Q v H') → r x H Q
def rc (r : List V → Hp → VK → Prop) (L as : List Addr) (O : List D) (ds : List D) (k : List Addr → D → List D → Prop) : Prop :=
  ∀ F H xs, Hd L F H → Own F H as O → Rs F xs ds → ∀ Q : VK, (∀ F' H' as' O' v d, Go as F H as' F' H' → Hd L F' H' → Own F' H' as' O' → R F' v d → k as' d O' → Q v H') → r xs H Q
structure Kt where
  nx : List Addr → DSt → List D → Prop
  rt : List Addr → D → List D → Prop
  bk : List Addr → DSt → List D → Prop := fun _ _ _ => False
  ct : List Addr → DSt → List D → Prop := fun _ _ _ => False
structure Zk (L as : List Addr) (F H : Hp) (k : Kt) (Z : Ends) : Prop where
  nx : ∀ F' H' as' σ' ρ' O', Go as F H as' F' H' → Rep L as' F' H' σ' ρ' O' → k.nx as' ρ' O' → Z.nx σ' H'
  rt : ∀ F' H' as' O' v d, Go as F H as' F' H' → Hd L F' H' → Own F' H' as' O' → R F' v d → k.rt as' d O' → Z.rt v H'
  bk : ∀ F' H' as' σ' ρ' O', Go as F H as' F' H' → Rep L as' F' H' σ' ρ' O' → k.bk as' ρ' O' → Z.bk σ' H'
  ct : ∀ F' H' as' σ' ρ' O', Go as F H as' F' H' → Rep L as' F' H' σ' ρ' O' → k.ct as' ρ' O' → Z.ct σ' H'
theorem Zk.go {L as as1 : List Addr} {F H F1 H1 : Hp} {k : Kt} {Z : Ends} (z : Zk L as F H k Z) (g : Go as F H as1 F1 H1) : Zk L as1 F1 H1 k Z where
  nx := fun F' H' as' σ' ρ' O' g' => z.nx F' H' as' σ' ρ' O' (g.trans g')
  rt := fun F' H' as' O' v d g' => z.rt F' H' as' O' v d (g.trans g')
  bk := fun F' H' as' σ' ρ' O' g' => z.bk F' H' as' σ' ρ' O' (g.trans g')
  ct := fun F' H' as' σ' ρ' O' g' => z.ct F' H' as' σ' ρ' O' (g.trans g')
def dS (χ : Xk) (t : TS) (L as : List Addr) (ρ : DSt) (O : List D) (k : Kt) : Prop :=
  ∀ F H σ, Rep L as F H σ ρ O → XP χ L as F H → ∀ Z : Ends, Zk L as F H k Z → t Z σ H
def dG (χ : Xk) (g : TG) (d : D) (L as : List Addr) (ρ : DSt) (O : List D) (k : List Addr → DSt → List D → Prop) : Prop :=
  ∀ F H σ v, Rep L as F H σ ρ O → XP χ L as F H → R F v d → ∀ Q : L2.St → Hp → Prop, (∀ F' H' as' σ' ρ' O', Go as F H as' F' H' → Rep L as' F' H' σ' ρ' O' → k as' ρ' O' → Q σ' H') → g v σ H Q
def dGs (χ : Xk) (g : TGs) (ds : List D) (L as : List Addr) (ρ : DSt) (O : List D) (k : List Addr → DSt → List D → Prop) : Prop :=
  ∀ F H σ vs, Rep L as F H σ ρ O → XP χ L as F H → Rs F vs ds → ∀ Q : L2.St → Hp → Prop, (∀ F' H' as' σ' ρ' O', Go as F H as' F' H' → Rep L as' F' H' σ' ρ' O' → k as' ρ' O' → Q σ' H') → g vs σ H Q
def ItD (L as : List Addr) (F H : Hp) (J : It) (ds : List D) : Prop := ∃ G Y, Walk J ds.length G Y ∧ (∀ F2 H2 as2, Go as F H as2 F2 H2 → Hd L F2 H2 → G H2) ∧
  ∀ i as H H' x F2 O, i < ds.length → Ex F F2 → Hd L F2 H → Own F2 H as O → Y i H x H' → ∃ F3 d, ds[i]? = some d ∧ Go as F2 H as F3 H' ∧ Hd L F3 H' ∧ Own F3 H' as O ∧ R F3 x d
def dI (χ : Xk) (wi : TI) (L as : List Addr) (ρ : DSt) (O : List D) (k : List Addr → List D → List D → Prop) : Prop :=
  ∀ F H σ, Rep L as F H σ ρ O → XP χ L as F H → ∀ Q : It → Hp → Prop, (∀ F' H' as' O' J ds, Go as F H as' F' H' → Rep L as' F' H' σ ρ O' → ItD L as' F' H' J ds → k as' ds O' → Q J H') → wi σ H Q
section
variable {χ : Xk} {L as : List Addr} {ρ : DSt} {O : List D} {k : List Addr → D → List D → Prop} {kT : List Addr → Bool → List D → Prop} {kA : List Addr → List D → List D → Prop} {ta tb te : TE} {tt tu : TT} {d d1 d2 : D}
theorem dW.imp {α β : Type} {rel : Hp → α → β → Prop} {t : L2.St → Hp → (α → Hp → Prop) → Prop} {k k' : List Addr → β → List D → Prop} (h : dW rel χ t L as ρ O k) (i : ∀ a b c, k a b c → k' a b c) : dW rel χ t L as ρ O k' :=
  fun F H σ S x Q q => h F H σ S x Q fun F' H' as' O' a b g S' r z => q F' H' as' O' a b g S' r (i _ _ _ z)
theorem w_var {i : Nat} (h : ρ[i]? = some (some d)) (z : k as d O) : dE χ (tVar i) L as ρ O k := fun F H σ S _ Q q => by
  obtain ⟨v, e, r⟩ := S.sl.get h
  exact ⟨v, e, q F H as O v d (.refl ..) S r z⟩
theorem w_c {v : V} (r : ∀ F, R F v d) (z : k as d O) : dE χ (tC v) L as ρ O k := fun F H σ S _ Q q => q F H as O v d (.refl ..) S (r F) z
theorem w_int {i : Int} (z : k as (.int i) O) : dE χ (tC (.int i)) L as ρ O k := w_c (fun _ => .int i) z
theorem w_bl {b : Bool} (z : k as (.bl b) O) : dE χ (tC (.bl b)) L as ρ O k := w_c (fun _ => .bl b) z
theorem w_str {x : Str} (z : k as (.str x) O) : dE χ (tC (.str x)) L as ρ O k := w_c (fun _ => .str x) z
theorem w_non (z : k as .non O) : dE χ (tC .non) L as ρ O k := w_c (fun _ => .non) z
theorem w_op {r : R2} (h : dE χ ta L as ρ O fun as d1 O => dE χ tb L as ρ O fun as d2 O => rv r L as O d1 d2 k) : dE χ (tOp r ta tb) L as ρ O k := fun F H σ S x Q q =>
  h F H σ S x _ fun F1 H1 as1 O1 v1 d1 g1 S1 r1 z1 => z1 F1 H1 σ S1 (x.go g1) _ fun F2 H2 as2 O2 v2 d2 g2 S2 r2 z2 =>
    z2 F2 H2 v1 v2 S2.hd S2.own (r1.mono g2.ex) r2 _ fun F3 H3 as3 O3 v d g3 hd ow r3 z3 =>
      q F3 H3 as3 O3 v d (g1.trans (g2.trans g3)) ⟨hd, ow, S2.sl.mono g3.ex⟩ r3 z3
theorem w_un {r : V → Hp → VK → Prop} (h : dE χ ta L as ρ O fun as d1 O => ru r L as O d1 k) : dE χ (tUn r ta) L as ρ O k := fun F H σ S x Q q =>
  h F H σ S x _ fun F1 H1 as1 O1 v1 d1 g1 S1 r1 z1 =>
    z1 F1 H1 v1 S1.hd S1.own r1 _ fun F3 H3 as3 O3 v d g3 hd ow r3 z3 =>
      q F3 H3 as3 O3 v d (g1.trans g3) ⟨hd, ow, S1.sl.mono g3.ex⟩ r3 z3
theorem w_nil (z : kA as [] O) : dA χ tNil L as ρ O kA := fun F H σ S _ Q q => q F H as O [] [] (.refl ..) S .nil z
theorem w_cons {tr : TA} (h : dE χ te L as ρ O fun as d O => dA χ tr L as ρ O fun as ds O => kA as (d :: ds) O) : dA χ (tCons te tr) L as ρ O kA := fun F H σ S x Q q =>
  h F H σ S x _ fun F1 H1 as1 O1 v d1 g1 S1 r1 z1 => z1 F1 H1 σ S1 (x.go g1) _ fun F2 H2 as2 O2 y d2 g2 S2 r2 z2 =>
    q F2 H2 as2 O2 (v :: y) (d1 :: d2) (g1.trans g2) S2 (.cons (r1.mono g2.ex) r2) z2
theorem w_cb {r : List V → Hp → VK → Prop} {ta : TA} (h : dA χ ta L as ρ O fun as ds O => rc r L as O ds k) : dE χ (tCB r ta) L as ρ O k := fun F H σ S x Q q =>
  h F H σ S x _ fun F1 H1 as1 O1 v1 d1 g1 S1 r1 z1 =>
    z1 F1 H1 v1 S1.hd S1.own r1 _ fun F3 H3 as3 O3 v d g3 hd ow r3 z3 =>
      q F3 H3 as3 O3 v d (g1.trans g3) ⟨hd, ow, S1.sl.mono g3.ex⟩ r3 z3
theorem Rep.lay {F H : Hp} {σ : L2.St} {p : Addr} {o : HO} (S : Rep L as F H σ ρ O) (h : H p = none) : Rep L as (upd F p o) (upd H p o) σ ρ O :=
  ⟨S.hd.lay h, S.own.lay h (S.hd.free h), S.sl.mono (ex_lay (S.hd.free h))⟩
theorem Rep.new {F H : Hp} {σ : L2.St} {p : Addr} {o : HO} {d : D} (S : Rep L as F H σ ρ O) (h : H p = none) (c : Cn F o d) : Rep L (as ++ [p]) F (upd H p o) σ ρ (O ++ [d]) :=
  ⟨S.hd.upd (S.hd.free h), S.own.snoc (S.hd.free h) h c, S.sl⟩
theorem w_tup {t : TA} (h : dA χ t L as ρ O fun as ds O => ds.length ≤ sizeLine ∧ k as (.tup ds) O) : dE χ (tTup t) L as ρ O k := fun F H σ S x Q q =>
  h F H σ S x _ fun F1 H1 as1 O1 xs ds g1 S1 r1 z1 => ⟨by rw [r1.length]; exact z1.1, fun p hp =>
    q _ _ _ _ _ _ (g1.trans (go_lay hp (S1.hd.free hp))) (S1.lay (o := .tup xs) hp) (.tup (.inl upd_same) (r1.mono (ex_lay (S1.hd.free hp)))) z1.2⟩
theorem w_lst {t : TA} (h : dA χ t L as ρ O fun as ds O => ds.length ≤ sizeLine ∧ ∀ p, k (as ++ [p]) (.adr p) (O ++ [.lst ds])) : dE χ (tLst t) L as ρ O k := fun F H σ S x Q q =>
  h F H σ S x _ fun F1 H1 as1 O1 xs ds g1 S1 r1 z1 =>
    ⟨by rw [r1.length]; exact z1.1, fun p hp => q _ _ _ _ _ _ (g1.trans (go_new hp)) (S1.new hp (.lst r1)) (.adr p) (z1.2 p)⟩
theorem w_lstF {t : TA} (h : dA χ t L as ρ O fun as ds O => ds.length ≤ sizeLine ∧ k as (.lst ds) O) : dE χ (tLst t) L as ρ O k := fun F H σ S x Q q =>
  h F H σ S x _ fun F1 H1 as1 O1 xs ds g1 S1 r1 z1 => ⟨by rw [r1.length]; exact z1.1, fun p hp =>
    q _ _ _ _ _ _ (g1.trans (go_lay hp (S1.hd.free hp))) (S1.lay (o := .lst xs) hp) (.lst upd_same (r1.mono (ex_lay (S1.hd.free hp)))) z1.2⟩
theorem w_dnew (z : ∀ p, k (as ++ [p]) (.adr p) (O ++ [.dk []])) : dE χ tDNewK L as ρ O k := fun F H σ S _ Q q p hp =>
  q _ _ _ _ _ _ (go_new hp) (S.new hp (.dk .nil)) (.adr p) (z p)
theorem w_test (h : dE χ te L as ρ O fun as d O => ∃ b, d = .bl b ∧ kT as b O) : dT χ (tTest te) L as ρ O kT := fun F H σ S x Q q =>
  h F H σ S x _ fun F1 H1 as1 O1 v d g1 S1 r1 z1 => by
    obtain ⟨b, rfl, z⟩ := z1
    cases r1
    exact ⟨b, rfl, q _ _ _ _ _ _ g1 S1 rfl z⟩
theorem w_tB (h : dE χ te L as ρ O fun as d O => ∃ b, d = .bl b ∧ kT as b O) : dT χ (tB te) L as ρ O kT := w_test h
theorem w_and (h : dT χ tt L as ρ O fun as b O => if b = true then dT χ tu L as ρ O kT else kT as false O) : dT χ (tAnd tt tu) L as ρ O kT := fun F H σ S x Q q =>
  h F H σ S x _ fun F1 H1 as1 O1 v b g1 S1 r1 z1 => by
    cases r1
    cases v with
    | true => exact z1 F1 H1 σ S1 (x.go g1) _ fun F2 H2 as2 O2 y b2 g2 S2 r2 z2 => q _ _ _ _ _ _ (g1.trans g2) S2 r2 z2
    | false => exact q _ _ _ _ _ _ g1 S1 rfl z1
theorem w_or (h : dT χ tt L as ρ O fun as b O => if b = true then kT as true O else dT χ tu L as ρ O kT) : dT χ (tOr tt tu) L as ρ O kT := fun F H σ S x Q q =>
  h F H σ S x _ fun F1 H1 as1 O1 v b g1 S1 r1 z1 => by
    cases r1
    cases v with
    | false => exact z1 F1 H1 σ S1 (x.go g1) _ fun F2 H2 as2 O2 y b2 g2 S2 r2 z2 => q _ _ _ _ _ _ (g1.trans g2) S2 r2 z2
    | true => exact q _ _ _ _ _ _ g1 S1 rfl z1
theorem w_not (h : dT χ tt L as ρ O fun as b O => kT as (!b) O) : dT χ (tNot tt) L as ρ O kT := fun F H σ S x Q q =>
  h F H σ S x _ fun F1 H1 as1 O1 v b g1 S1 r1 z1 => by
    cases r1
    exact q _ _ _ _ _ _ g1 S1 rfl z1
theorem w_andV (h : dE χ ta L as ρ O fun as d O => ∃ b, d = .bl b ∧ if b = true then dE χ tb L as ρ O k else k as (.bl false) O) : dE χ (tAndV ta tb) L as ρ O k := fun F H σ S x Q q =>
  h F H σ S x _ fun F1 H1 as1 O1 v d g1 S1 r1 z1 => by
    obtain ⟨b, rfl, z⟩ := z1
    cases r1
    refine ⟨b, rfl, ?_⟩
    cases b with
    | true => exact z F1 H1 σ S1 (x.go g1) _ fun F2 H2 as2 O2 y b2 g2 S2 r2 z2 => q _ _ _ _ _ _ (g1.trans g2) S2 r2 z2
    | false => exact q _ _ _ _ _ _ g1 S1 (.bl _) z
theorem w_orV (h : dE χ ta L as ρ O fun as d O => ∃ b, d = .bl b ∧ if b = true then k as (.bl true) O else dE χ tb L as ρ O k) : dE χ (tOrV ta tb) L as ρ O k := fun F H σ S x Q q =>
  h F H σ S x _ fun F1 H1 as1 O1 v d g1 S1 r1 z1 => by
    obtain ⟨b, rfl, z⟩ := z1
    cases r1
    refine ⟨b, rfl, ?_⟩
    cases b with
    | false => exact z F1 H1 σ S1 (x.go g1) _ fun F2 H2 as2 O2 y b2 g2 S2 r2 z2 => q _ _ _ _ _ _ (g1.trans g2) S2 r2 z2
    | true => exact q _ _ _ _ _ _ g1 S1 (.bl _) z
theorem w_notV (h : dE χ ta L as ρ O fun as d O => ∃ b, d = .bl b ∧ k as (.bl (!b)) O) : dE χ (tNotV ta) L as ρ O k := fun F H σ S x Q q =>
  h F H σ S x _ fun F1 H1 as1 O1 v d g1 S1 r1 z1 => by
    obtain ⟨b, rfl, z⟩ := z1
    cases r1
    exact ⟨b, rfl, q _ _ _ _ _ _ g1 S1 (.bl _) z⟩
theorem w_if (h : dT χ tt L as ρ O fun as b O => if b = true then dE χ ta L as ρ O k else dE χ tb L as ρ O k) : dE χ (tIf tt ta tb) L as ρ O k := fun F H σ S x Q q =>
  h F H σ S x _ fun F1 H1 as1 O1 v b g1 S1 r1 z1 => by
    cases r1
    cases v with
    | true => exact z1 F1 H1 σ S1 (x.go g1) _ fun F2 H2 as2 O2 y b2 g2 S2 r2 z2 => q _ _ _ _ _ _ (g1.trans g2) S2 r2 z2
    | false => exact z1 F1 H1 σ S1 (x.go g1) _ fun F2 H2 as2 O2 y b2 g2 S2 r2 z2 => q _ _ _ _ _ _ (g1.trans g2) S2 r2 z2
theorem rv_I0 {g : Int → Int → V} {i j : Int} (r : ∀ F, R F (g i j) d) (z : k as d O) : rv (rI0 g) L as O (.int i) (.int j) k := fun F H x y hd ow r1 r2 Q q => by
  cases r1
  cases r2
  exact ⟨i, j, rfl, rfl, q F H as O _ d (.refl ..) hd ow (r F) z⟩
theorem rv_I {C : Int → Int → Prop} {g : Int → Int → V} {i j : Int} (r : ∀ F, R F (g i j) d) (z : C i j ∧ k as d O) : rv (rI C g) L as O (.int i) (.int j) k := fun F H x y hd ow r1 r2 Q q => by
  cases r1
  cases r2
  exact ⟨i, j, rfl, rfl, z.1, q F H as O _ d (.refl ..) hd ow (r F) z.2⟩
theorem rv_i0 {g : Int → Int → Int} {i j : Int} (z : k as (.int (g i j)) O) : rv (rI0 fun i j => .int (g i j)) L as O (.int i) (.int j) k := rv_I0 (fun _ => .int _) z
theorem rv_b0 {g : Int → Int → Bool} {i j : Int} (z : k as (.bl (g i j)) O) : rv (rI0 fun i j => .bl (g i j)) L as O (.int i) (.int j) k := rv_I0 (fun _ => .bl _) z
theorem rv_i {C : Int → Int → Prop} {g : Int → Int → Int} {i j : Int} (hc : C i j) (z : k as (.int (g i j)) O) : rv (rI C fun i j => .int (g i j)) L as O (.int i) (.int j) k := rv_I (fun _ => .int _) ⟨hc, z⟩
def eqD : D → D → Bool
  | .non, .non => true
  | .bl a, .bl b => a == b
  | .int a, .int b => a == b
  | .str a, .str b => a == b
  | _, _ => false
def scalD : D → D → Bool
  | .non, .non => true | .non, .int _ => true | .int _, .non => true | .non, .bl _ => true | .bl _, .non => true | .non, .str _ => true | .str _, .non => true
  | .int _, .int _ => true | .bl _, .bl _ => true | .str _, .str _ => true
  | .int _, .str _ => true | .str _, .int _ => true | .bl _, .str _ => true | .str _, .bl _ => true
  | _, _ => false
theorem scal_of {F : Hp} {x y : V} {d1 d2 : D} (r1 : R F x d1) (r2 : R F y d2) (h : scalD d1 d2 = true) : scal x y = true ∧ decide (x = y) = eqD d1 d2 := by
  cases r1 <;> cases r2 <;> first
    | (simp [scalD] at h; done)
    | exact ⟨rfl, rfl⟩
    | exact ⟨rfl, dec_int⟩
    | exact ⟨rfl, dec_bl⟩
    | exact ⟨rfl, dec_str⟩
theorem rv_eq (h : scalD d1 d2 = true) (z : k as (.bl (eqD d1 d2)) O) : rv rEq L as O d1 d2 k := fun F H x y hd ow r1 r2 Q q => by
  obtain ⟨e1, e2⟩ := scal_of r1 r2 h
  exact ⟨e1, e2 ▸ q F H as O _ _ (.refl ..) hd ow (.bl _) z⟩
theorem rv_ne (h : scalD d1 d2 = true) (z : k as (.bl (!eqD d1 d2)) O) : rv rNe L as O d1 d2 k := fun F H x y hd ow r1 r2 Q q => by
  obtain ⟨e1, e2⟩ := scal_of r1 r2 h
  exact ⟨e1, e2 ▸ q F H as O _ _ (.refl ..) hd ow (.bl _) z⟩
section
variable {ts tw : TS} {K : Kt} {g : TG}
theorem s_seq (h : dS χ ts L as ρ O { K with nx := fun as ρ O => dS χ tw L as ρ O K }) : dS χ (tSeq ts tw) L as ρ O K := fun F H σ S x Z z =>
  h F H σ S x _ ⟨fun F1 H1 as1 σ1 ρ1 O1 g1 S1 z1 => z1 F1 H1 σ1 S1 (x.go g1) Z (z.go g1), z.rt, z.bk, z.ct⟩
theorem s_next (h : K.nx as ρ O) : dS χ tNext L as ρ O K := fun F H σ S _ Z z => z.nx F H as σ ρ O (.refl ..) S h
theorem s_cont (h : K.ct as ρ O) : dS χ tCont L as ρ O K := fun F H σ S _ Z z => z.ct F H as σ ρ O (.refl ..) S h
theorem s_asg (h : dE χ te L as ρ O fun as d O => dG χ g d L as ρ O K.nx) : dS χ (tAsg te g) L as ρ O K := fun F H σ S x Z z =>
  h F H σ S x _ fun F1 H1 as1 O1 v d g1 S1 r1 z1 => z1 F1 H1 σ v S1 (x.go g1) r1 _ fun F2 H2 as2 σ2 ρ2 O2 g2 => z.nx F2 H2 as2 σ2 ρ2 O2 (g1.trans g2)
theorem g_name {kG : List Addr → DSt → List D → Prop} {i : Nat} (z : kG as (ρ.set i (some d)) O) : dG χ (gName i) d L as ρ O kG := fun F H σ v S _ r Q q =>
  q F H as _ _ O (.refl ..) ⟨S.hd, S.own, S.sl.set r i⟩ z
theorem s_set {i : Nat} (h : dE χ te L as ρ O fun as d O => K.nx as (ρ.set i (some d)) O) : dS χ (tAsg te (gName i)) L as ρ O K := s_asg (h.imp fun _ _ _ z => g_name z)
theorem s_drop (h : dE χ te L as ρ O fun as d O => K.nx as ρ O) : dS χ (tDrop te) L as ρ O K := fun F H σ S x Z z =>
  h F H σ S x _ fun F1 H1 as1 O1 v d g1 S1 r1 z1 => z.nx F1 H1 as1 σ ρ O1 g1 S1 z1
theorem s_ret (h : dE χ te L as ρ O K.rt) : dS χ (tRet te) L as ρ O K := fun F H σ S x Z z =>
  h F H σ S x _ fun F1 H1 as1 O1 v d g1 S1 r1 z1 => z.rt F1 H1 as1 O1 v d g1 S1.hd S1.own r1 z1
theorem s_if (h : dT χ tt L as ρ O fun as b O => if b = true then dS χ ts L as ρ O K else dS χ tw L as ρ O K) : dS χ (tIfS tt ts tw) L as ρ O K := fun F H σ S x Z z =>
  h F H σ S x _ fun F1 H1 as1 O1 v b g1 S1 r1 z1 => by
    cases r1
    cases v with
    | true => exact z1 F1 H1 σ S1 (x.go g1) Z (z.go g1)
    | false => exact z1 F1 H1 σ S1 (x.go g1) Z (z.go g1)
theorem gs_nil {kG : List Addr → DSt → List D → Prop} (z : kG as ρ O) : dGs χ gNil [] L as ρ O kG := fun F H σ vs S _ r Q q => by
  cases r
  exact ⟨rfl, q F H as σ ρ O (.refl ..) S z⟩
theorem gs_cons {kG : List Addr → DSt → List D → Prop} {gs : TGs} {ds : List D} (h : dG χ g d L as ρ O fun as ρ O => dGs χ gs ds L as ρ O kG) : dGs χ (gCons g gs) (d :: ds) L as ρ O kG := fun F H σ vs S x r Q q => by
  cases r with
  | cons r1 r2 =>
    exact ⟨_, _, rfl, h F H σ _ S x r1 _ fun F1 H1 as1 σ1 ρ1 O1 g1 S1 z1 => z1 F1 H1 σ1 _ S1 (x.go g1) (r2.mono g1.ex) _ fun F2 H2 as2 σ2 ρ2 O2 g2 => q F2 H2 as2 σ2 ρ2 O2 (g1.trans g2)⟩
theorem g_tup {kG : List Addr → DSt → List D → Prop} {KK : PySem.W.Frag} {n : Nat} {gs : TGs} {ds : List D} (hn : ds.length = n) (h : dGs χ gs ds L as ρ O kG) : dG χ (gTup KK n gs) (.tup ds) L as ρ O kG := fun F H σ v S x r Q q => by
  cases r with
  | tup e r => exact ⟨_, _, rfl, S.hd.tq e, by rw [r.length]; exact hn, h F H σ _ S x r Q q⟩
theorem s_for {wi : TI} (h : dI χ wi L as ρ O fun as1 ds O1 => ∃ I : Nat → List Addr → DSt → List D → Prop, I 0 as1 ρ O1 ∧
    (∀ i as ρ O d, ds[i]? = some d → I i as ρ O → dG χ g d L as ρ O fun as ρ O => dS χ tw L as ρ O { nx := I (i + 1), ct := I (i + 1), bk := K.nx, rt := K.rt }) ∧ ∀ as ρ O, I ds.length as ρ O → K.nx as ρ O) :
    dS χ (tFor wi g tw) L as ρ O K := fun F H σ S x Z z =>
  h F H σ S x _ fun F1 H1 as1 O1 J ds g1 S1 ⟨G, Y, wk, hG, hY⟩ ⟨I, i0, is, ie⟩ => by
    refine for_it wk (fun i σ' H' => ∃ F' as' ρ' O', Go as1 F1 H1 as' F' H' ∧ Rep L as' F' H' σ' ρ' O' ∧ I i as' ρ' O') ⟨F1, as1, ρ, O1, .refl .., S1, i0⟩ ?_ ?_ ?_
    · rintro i σ' H' _ ⟨F', as', ρ', O', g', S', _⟩
      exact hG F' H' as' g' S'.hd
    · rintro i v σ' H' H2 hi ⟨F', as', ρ', O', g', S', z'⟩ hy
      obtain ⟨F3, d, hd, g3, hd3, ow3, r3⟩ := hY i as' H' H2 v F' O' hi g'.ex S'.hd S'.own hy
      have S3 : Rep L as' F3 H2 σ' ρ' O' := ⟨hd3, ow3, S'.sl.mono g3.ex⟩
      refine is i as' ρ' O' d hd z' F3 H2 σ' v S3 (x.go (g1.trans (g'.trans g3))) r3 _ fun F4 H4 as4 σ4 ρ4 O4 g4 S4 z4 => ?_
      have gg := g'.trans (g3.trans g4)
      exact z4 F4 H4 σ4 S4 (x.go (g1.trans gg)) _ ⟨fun F5 H5 as5 σ5 ρ5 O5 g5 S5 z5 => ⟨F5, as5, ρ5, O5, gg.trans g5, S5, z5⟩,
        (z.go (g1.trans gg)).rt, (z.go (g1.trans gg)).nx, fun F5 H5 as5 σ5 ρ5 O5 g5 S5 z5 => ⟨F5, as5, ρ5, O5, gg.trans g5, S5, z5⟩⟩
    · rintro σ' H' ⟨F', as', ρ', O', g', S', z'⟩
      exact z.nx F' H' as' σ' ρ' O' (g1.trans g') S' (ie as' ρ' O' z')
theorem s_while (I : Nat → List Addr → DSt → List D → Prop) (m0 : Nat) (i0 : I m0 as ρ O)
    (h : ∀ m as ρ O, I m as ρ O → dT χ tt L as ρ O fun as b O => if b = true then dS χ tw L as ρ O { nx := fun as ρ O => ∃ m', m' < m ∧ I m' as ρ O, ct := fun as ρ O => ∃ m', m' < m ∧ I m' as ρ O, bk := K.nx, rt := K.rt } else K.nx as ρ O) :
    dS χ (tWhile tt tw) L as ρ O K := fun F H σ S x Z z => by
  refine ⟨fun m σ' H' => ∃ F' as' ρ' O', Go as F H as' F' H' ∧ Rep L as' F' H' σ' ρ' O' ∧ I m as' ρ' O', ⟨m0, F, as, ρ, O, .refl .., S, i0⟩, ?_⟩
  rintro m σ' H' ⟨F', as', ρ', O', g', S', z'⟩
  refine h m as' ρ' O' z' F' H' σ' S' (x.go g') _ fun F2 H2 as2 O2 v b g2 S2 r2 z2 => ?_
  cases r2
  cases v with
  | false => exact z.nx F2 H2 as2 σ' ρ' O2 (g'.trans g2) S2 z2
  | true =>
    have gg := g'.trans g2
    refine ⟨fun σ3 H3 => ∃ m', m' < m ∧ ∃ F' as' ρ' O', Go as F H as' F' H3 ∧ Rep L as' F' H3 σ3 ρ' O' ∧ I m' as' ρ' O', fun _ _ h => h, ?_⟩
    exact z2 F2 H2 σ' S2 (x.go gg) _ ⟨fun F5 H5 as5 σ5 ρ5 O5 g5 S5 ⟨m', hm, z5⟩ => ⟨m', hm, F5, as5, ρ5, O5, gg.trans g5, S5, z5⟩, (z.go gg).rt, (z.go gg).nx,
      fun F5 H5 as5 σ5 ρ5 O5 g5 S5 ⟨m', hm, z5⟩ => ⟨m', hm, F5, as5, ρ5, O5, gg.trans g5, S5, z5⟩⟩
theorem s_freeze (j : Nat) (a : Addr) (c : D) (i : Nat) (ha : as[j]? = some a) (hc : O[j]? = some c) (hi : ρ[i]? = some (some (.adr a))) (h : dS χ ts L (as.eraseIdx j) (ρ.set i (some c)) (O.eraseIdx j) K) : dS χ ts L as ρ O K := fun F H σ S x Z z => by
  obtain ⟨hf, o, ho, cn⟩ := S.own.at_ j a c ha hc
  have S' := S.frz ha hc hf ho cn
  have g : Go as F H (as.eraseIdx j) (upd F a o) H := go_frz hf ha
  obtain ⟨v, e, r⟩ := S.sl.get hi
  cases r
  have r' : R (upd F a o) (.ref a) c := .of upd_same (cn.mono (ex_lay hf))
  have hs : σ.set i (some (.ref a)) = σ := by
    apply List.ext_getElem?
    intro n
    by_cases q : i = n
    · subst q
      rw [List.getElem?_set_self (List.getElem?_eq_some_iff.mp e).1, e]
    · rw [List.getElem?_set_ne q]
  have S2 : Rep L (as.eraseIdx j) (upd F a o) H σ (ρ.set i (some c)) (O.eraseIdx j) := ⟨S'.hd, S'.own, by rw [← hs]; exact S'.sl.set r' i⟩
  exact h _ _ σ S2 (x.go g) Z (z.go g)
end
end
end DL
namespace DL
open PySem PySem.Spec PyProof.Rows L2
theorem pe_gi {X : Cx} {x : Str} {i : Int} {pos : Pos} (hg : Gl X x) (h : ∃ t, X.mg x = some (.int i t)) (hd : (x == ("__debug__" : Str)) = false := by decide) : PE X (.Name x pos) (tC (.int i)) := by
  obtain ⟨t, e⟩ := h
  exact pe_glob hg e ⟨t, rfl⟩ hd
theorem pe_gs {X : Cx} {x z : Str} {pos : Pos} (hg : Gl X x) (h : ∃ t, X.mg x = some (.str z t)) (hd : (x == ("__debug__" : Str)) = false := by decide) : PE X (.Name x pos) (tC (.str z)) := by
  obtain ⟨t, e⟩ := h
  exact pe_glob hg e ⟨t, rfl⟩ hd
def fdAt (K : PySem.W.Frag) (p : Str × Option Str) : FuncData := match K.lookup (He.fAd K p) with
  | some ⟨_, _, .func fd, _⟩ => fd
  | _ => default
section
variable {χ : Xk} {L as : List Addr} {ρ : DSt} {O : List D} {k : List Addr → D → List D → Prop} {kT : List Addr → Bool → List D → Prop} {kA : List Addr → List D → List D → Prop} {ta tb te : TE} {tt tu : TT} {d d1 d2 : D} {KK : PySem.W.Frag}
def putAll : List D → List Nat → List D → List D
  | O, j :: js, c :: cs => (putAll O js cs).set j c
  | O, _, _ => O
theorem putAll_len : ∀ (O : List D) (js : List Nat) (cs : List D), (putAll O js cs).length = O.length
  | O, [], [] => rfl
  | O, [], _ :: _ => rfl
  | O, _ :: _, [] => rfl
  | O, j :: js, c :: cs => by
    show ((putAll O js cs).set j c).length = _
    rw [List.length_set, putAll_len O js cs]
theorem putAll_out : ∀ {O : List D} {js : List Nat} {cs : List D} {i : Nat}, i ∉ js → (putAll O js cs)[i]? = O[i]?
  | O, [], [], _, _ => rfl
  | O, [], _ :: _, _, _ => rfl
  | O, _ :: _, [], _, _ => rfl
  | O, j :: js, c :: cs, i, h => by
    show ((putAll O js cs).set j c)[i]? = _
    rw [List.getElem?_set_ne (show j ≠ i from fun z => h (z ▸ List.mem_cons_self)), putAll_out fun m => h (List.mem_cons_of_mem _ m)]
theorem putAll_in : ∀ {O : List D} {js : List Nat} {cs : List D} {t i : Nat} {d : D}, js.Nodup → js[t]? = some i → (∀ j ∈ js, j < O.length) → js.length = cs.length → (putAll O js cs)[i]? = some d → cs[t]? = some d
  | O, [], cs, t, i, d, _, h, _, _, _ => by simp at h
  | O, j :: js, [], t, i, d, _, _, _, h, _ => by simp at h
  | O, j :: js, c :: cs, 0, i, d, n, h, hl, _, e => by
    simp at h
    subst h
    have e' : ((putAll O js cs).set j c)[j]? = some d := e
    rw [List.getElem?_set_self (by rw [putAll_len]; exact hl j List.mem_cons_self)] at e'
    exact e'
  | O, j :: js, c :: cs, t + 1, i, d, n, h, hl, hc, e => by
    have h : js[t]? = some i := by simpa using h
    obtain ⟨n1, n2⟩ := List.nodup_cons.mp n
    have ne : j ≠ i := fun z => n1 (z ▸ List.mem_of_getElem? h)
    have e' : ((putAll O js cs).set j c)[i]? = some d := e
    rw [List.getElem?_set_ne ne] at e'
    exact putAll_in (t := t) n2 h (fun j m => hl j (List.mem_cons_of_mem _ m)) (by simpa using hc) e'
abbrev selA (as : List Addr) (js : List Nat) : List Addr := js.map fun j => as.getD j 0
abbrev selO (O : List D) (js : List Nat) : List D := js.map fun j => O.getD j .non
theorem selA_at {as : List Addr} {js : List Nat} {t : Nat} {a : Addr} (hl : ∀ j ∈ js, j < as.length) (h : (selA as js)[t]? = some a) : ∃ j, js[t]? = some j ∧ as[j]? = some a := by
  rw [List.getElem?_map] at h
  cases e : js[t]? with
  | none => rw [e] at h; cases h
  | some j =>
    rw [e] at h
    have hj := hl j (List.mem_of_getElem? e)
    refine ⟨j, rfl, ?_⟩
    rw [List.getElem?_eq_getElem hj]
    simp [List.getD_eq_getElem?_getD, List.getElem?_eq_getElem hj] at h
    rw [h]
theorem selA_mem {as : List Addr} {js : List Nat} {a : Addr} (hl : ∀ j ∈ js, j < as.length) (h : a ∈ selA as js) : a ∈ as := by
  obtain ⟨t, ht, e⟩ := List.mem_iff_getElem.mp h
  obtain ⟨j, _, e'⟩ := selA_at hl (by rw [List.getElem?_eq_getElem ht, e] : (selA as js)[t]? = some a)
  exact List.mem_of_getElem? e'
theorem Own.sel {F H : Hp} {js : List Nat} (w : Own F H as O) (n : js.Nodup) (hl : ∀ j ∈ js, j < as.length) : Own F H (selA as js) (selO O js) where
  nd := by
    rw [List.nodup_iff_pairwise_ne, List.pairwise_iff_getElem]
    intro s t hs ht hlt e
    obtain ⟨i, h1, h2⟩ := selA_at hl (List.getElem?_eq_getElem hs)
    obtain ⟨j, h3, h4⟩ := selA_at hl (List.getElem?_eq_getElem ht)
    rw [← e] at h4
    have := nodup_ix w.nd h2 h4
    subst this
    have := L2.nd_ix n h1 h3
    omega
  len := by simp
  at_ := fun t a d h1 h2 => by
    obtain ⟨j, e1, e2⟩ := selA_at hl h1
    have hj := hl j (List.mem_of_getElem? e1)
    rw [List.getElem?_map, e1] at h2
    have hj2 : j < O.length := w.len ▸ hj
    have e3 : O[j]? = some d := by
      simp [List.getD_eq_getElem?_getD, List.getElem?_eq_getElem hj2] at h2
      rw [List.getElem?_eq_getElem hj2, h2]
    exact w.at_ j a d e2 e3
theorem GoX.go {L as as' : List Addr} {F H F' H' : Hp} (g : GoX L as F H L as' F' H') : Go as F H as' F' H' where
  ex := g.ex
  nw := g.nw
  kp := fun b o h n => by
    rcases g.kp b o h n with z | ⟨z, z', _⟩
    · exact z
    · exact absurd z z'
  th := g.th
  sub := g.sub
theorem Own.backX {F H F' H' : Hp} {L' : List Addr} {js : List Nat} {new : List Addr} {cnew Oc : List D} (w : Own F H as O) (n : js.Nodup) (hl : ∀ j ∈ js, j < as.length) (g : GoX L (selA as js) F H L' (selA as js ++ new) F' H')
    (hd' : Hd L' F' H') (w' : Own F' H' (selA as js ++ new) (Oc ++ cnew)) (lo : Oc.length = js.length) : Own F' H' (as ++ new) (putAll O js Oc ++ cnew) ∧ GoX L as F H L' (as ++ new) F' H' := by
  have lA : (selA as js).length = js.length := by simp
  have nnew : ∀ a ∈ new, a ∉ selA as js := fun a m m' => by
    have := w'.nd
    rw [List.nodup_append] at this
    exact this.2.2 a m' a m rfl
  have hnew : ∀ a ∈ new, a ∉ as := fun a m m' => by
    rcases g.sub a (List.mem_append_right _ m) with z | z
    · exact nnew a m z
    · exact w.tr m' z
  have ln : new.length = cnew.length := by
    have := w'.len
    simp at this
    omega
  refine ⟨⟨?_, ?_, ?_⟩, ⟨g.ex, fun a o h => ?_, fun b o h m => g.kp b o h fun z => m (selA_mem hl z), g.th, fun b m => ?_⟩⟩
  · rw [List.nodup_append]
    refine ⟨w.nd, ?_, fun a m b m' z => hnew b m' (z ▸ m)⟩
    have := w'.nd
    rw [List.nodup_append] at this
    exact this.2.1
  · rw [List.length_append, List.length_append, putAll_len, w.len, ln]
  · intro i a d h1 h2
    rcases Nat.lt_or_ge i as.length with z | z
    · rw [List.getElem?_append_left z] at h1
      rw [List.getElem?_append_left (by rw [putAll_len, ← w.len]; exact z)] at h2
      by_cases m : i ∈ js
      · obtain ⟨t, ht, e⟩ := List.mem_iff_getElem.mp m
        have et : js[t]? = some i := by rw [List.getElem?_eq_getElem ht, e]
        have h3 := putAll_in n et (fun j q => w.len ▸ hl j q) lo.symm h2
        have h4 : (selA as js)[t]? = some a := by
          rw [List.getElem?_map, et]
          simp [List.getD_eq_getElem?_getD, h1]
        refine w'.at_ t a d ?_ ?_
        · rw [List.getElem?_append_left (by rw [lA]; exact ht)]; exact h4
        · rw [List.getElem?_append_left (by rw [lo]; exact ht)]; exact h3
      · rw [putAll_out m] at h2
        obtain ⟨e1, o, e2, e3⟩ := w.at_ i a d h1 h2
        have na : a ∉ selA as js := fun q => by
          obtain ⟨t, ht, e⟩ := List.mem_iff_getElem.mp q
          obtain ⟨j, f1, f2⟩ := selA_at hl (by rw [List.getElem?_eq_getElem ht, e] : (selA as js)[t]? = some a)
          have := nodup_ix w.nd h1 f2
          subst this
          exact m (List.mem_of_getElem? f1)
        have fa : F' a = none := by
          cases q : F' a with
          | none => rfl
          | some u =>
            rcases g.nw a u q with q | q | q
            · rw [e1] at q; cases q
            · rw [e2] at q; cases q
            · exact absurd q na
        refine ⟨fa, o, ?_, e3.mono g.ex⟩
        rcases g.kp a o e2 na with q | ⟨q, _⟩
        · exact q
        · exact absurd fa (hd'.lk a q)
    · rw [List.getElem?_append_right z] at h1
      rw [List.getElem?_append_right (by rw [putAll_len, ← w.len]; exact z), putAll_len, ← w.len] at h2
      refine w'.at_ (js.length + (i - as.length)) a d ?_ ?_
      · rw [List.getElem?_append_right (by rw [lA]; omega), lA]
        rw [show js.length + (i - as.length) - js.length = i - as.length by omega]; exact h1
      · rw [List.getElem?_append_right (by rw [lo]; omega), lo]
        rw [show js.length + (i - as.length) - js.length = i - as.length by omega]; exact h2
  · rcases g.nw a o h with z | z | z
    · exact .inl z
    · exact .inr (.inl z)
    · exact .inr (.inr (selA_mem hl z))
  · rcases List.mem_append.mp m with m | m
    · exact .inl m
    · rcases g.sub b (List.mem_append_right _ m) with z | z
      · exact .inl (selA_mem hl z)
      · exact .inr z
theorem Own.back {F H F' H' : Hp} {js : List Nat} {new : List Addr} {cnew Oc : List D} (w : Own F H as O) (n : js.Nodup) (hl : ∀ j ∈ js, j < as.length) (g : Go (selA as js) F H (selA as js ++ new) F' H')
    (hd' : Hd L F' H') (w' : Own F' H' (selA as js ++ new) (Oc ++ cnew)) (lo : Oc.length = js.length) : Own F' H' (as ++ new) (putAll O js Oc ++ cnew) ∧ Go as F H (as ++ new) F' H' := by
  obtain ⟨a, b⟩ := w.backX n hl (g.x (L := L)) hd' w' lo
  exact ⟨a, b.go⟩
abbrev KN := List Addr → D → List D → Prop
abbrev KX := List Addr → Addr → List (Str × D) → List Addr → List D → Prop
abbrev Ct := List Addr → List Addr → List D → List D → KN → KX → Prop
def spC (C : Ct) : Sp := fun vs H Q E => ∃ L F as ds O k e, Hd L F H ∧ Own F H as O ∧ Rs F vs ds ∧ C L as ds O k e ∧
  (∀ F' H' as' O' v d, Go as F H as' F' H' → Hd L F' H' → Own F' H' as' O' → R F' v d → k as' d O' → Q v H') ∧
  ∀ F' H' L' as' O' cls d fds, GoX L as F H L' as' F' H' → Hd L' F' H' → Own F' H' as' O' → XD F' H H' d fds → e L' cls fds as' O' → E (.ref cls) d H'
def χE (E : XK) (e : KX) : Xk := ⟨fun cls d _ H => E cls d H, fun L cls fds as _ O => e L cls fds as O⟩
def ρ0 (N : List Str) (ds : List D) : DSt := ds.map some ++ List.replicate (N.length - ds.length) none
theorem sl_start {F : Hp} : ∀ {vs : List V} {ds : List D}, Rs F vs ds → ∀ n, Sl F (vs.map some ++ List.replicate n none) (ds.map some ++ List.replicate n none)
  | _, _, .nil, 0 => .nil
  | _, _, .nil, n + 1 => .no (sl_start .nil n)
  | _, _, .cons r t, n => .so r (sl_start t n)
theorem sp_len {C : Ct} {n : Nat} (hC : ∀ L as ds O k e, C L as ds O k e → ds.length = n) : ∀ vs H Q E, spC C vs H Q E → vs.length = n := fun vs H Q E h => by
  obtain ⟨L, F, as, ds, O, k, e, hd, ow, r, c, _, _⟩ := h
  rw [r.length]
  exact hC _ _ _ _ _ _ c
theorem enter {C : Ct} {t : TS} {N : List Str} {vs : List V} {H : Hp} {Q : VK} {E : XK} (h : spC C vs H Q E)
    (hw : ∀ L as ds O k e, C L as ds O k e → dS (χE E e) t L as (ρ0 N ds) O { nx := fun as _ O => k as .non O, rt := k }) : t { nx := fun _ H' => Q .non H', rt := Q } (L2.start N vs) H := by
  obtain ⟨L, F, as, ds, O, k, e, hd, ow, r, c, q, x⟩ := h
  have el := r.length
  refine hw L as ds O k e c F H (L2.start N vs) ⟨hd, ow, ?_⟩ (fun F' H' L' as' σ' ρ' O' cls d fds g S n z => x F' H' L' as' O' cls d fds g S.hd S.own n z) _
    ⟨fun F' H' as' σ' ρ' O' g S z => q F' H' as' O' _ _ g S.hd S.own .non z, q, fun _ _ _ _ _ _ _ _ z => z, fun _ _ _ _ _ _ _ _ z => z⟩
  unfold L2.start ρ0
  rw [el]
  exact sl_start r _
def cc (C : Ct) (χ : Xk) (ρ : DSt) (js : List Nat) (L as : List Addr) (ds O : List D) (k : List Addr → D → List D → Prop) : Prop :=
  js.Nodup ∧ (∀ j ∈ js, j < as.length) ∧ C L (selA as js) ds (selO O js)
    (fun as' d O' => ∃ new cnew Oc, as' = selA as js ++ new ∧ O' = Oc ++ cnew ∧ Oc.length = js.length ∧ k (as ++ new) d (putAll O js Oc ++ cnew))
    fun L' cls fds as' O' => ∃ new cnew Oc, as' = selA as js ++ new ∧ O' = Oc ++ cnew ∧ Oc.length = js.length ∧ χ.e L' cls fds (as ++ new) ρ (putAll O js Oc ++ cnew)
theorem cc_sp {C : Ct} {js : List Nat} {ds : List D} {F H : Hp} {σ : L2.St} {vs : List V} {E : XK} {Q : VK} (S : Rep L as F H σ ρ O) (x : XP χ L as F H) (r : Rs F vs ds) (c : cc C χ ρ js L as ds O k) (hE : ∀ cls d H, χ.E cls d σ H → E cls d H)
    (q : ∀ F' H' as' O' v d, Go as F H as' F' H' → Rep L as' F' H' σ ρ O' → R F' v d → k as' d O' → Q v H') : spC C vs H Q E := by
  obtain ⟨n, hl, c⟩ := c
  refine ⟨L, F, _, ds, _, _, _, S.hd, S.own.sel n hl, r, c, ?_, ?_⟩
  · rintro F' H' as' O' v d g hd ow r' ⟨new, cnew, Oc, rfl, rfl, lo, z⟩
    obtain ⟨ow', g'⟩ := S.own.back n hl g hd ow lo
    exact q _ _ _ _ _ _ g' ⟨hd, ow', S.sl.mono g'.ex⟩ r' z
  · rintro F' H' L' as' O' cls d fds g hd ow nx ⟨new, cnew, Oc, rfl, rfl, lo, z⟩
    obtain ⟨ow', g'⟩ := S.own.backX n hl g hd ow lo
    exact hE _ _ _ (x _ _ _ _ _ _ _ _ _ _ g' ⟨hd, ow', S.sl.mono g'.ex⟩ nx z)
theorem d_call {C : Ct} (js : List Nat) {ta : TA} {E : XK} (h : dA χ ta L as ρ O fun as ds O => cc C X0 ρ js L as ds O k) : dE χ (tCall (spC C) [] E ta) L as ρ O k := fun F H σ S x Q q =>
  h F H σ S x _ fun F1 H1 as1 O1 vs ds g1 S1 r1 z1 => by
    rw [List.append_nil]
    exact cc_sp S1 xp0 r1 z1 (fun _ _ _ z => z.elim) fun F' H' as' O' v d g => q F' H' as' O' v d (g1.trans g)
def insOf (as : List Addr) (O : List D) (d : D) (C : Addr) (fds : List (Str × D)) : Prop :=
  d = .ins C fds ∨ ∃ (j : Nat) (a : Addr), d = .adr a ∧ as[j]? = some a ∧ O[j]? = some (D.ins C fds)
theorem Rn.lookup {F : Hp} {m : Str} : ∀ {fs : List (Str × V)} {fds : List (Str × D)}, Rn F fs fds → fds.lookup m = none → fs.lookup m = none
  | _, _, .nil, _ => rfl
  | _, _, .cons (k := k) r t, h => by
    rw [List.lookup_cons] at h ⊢
    cases e : m == k with
    | true => rw [e] at h; cases h
    | false => rw [e] at h; exact Rn.lookup t h
theorem Rn.get {F : Hp} {m : Str} {d : D} : ∀ {fs : List (Str × V)} {fds : List (Str × D)}, Rn F fs fds → fds.lookup m = some d → ∃ v, fs.lookup m = some v ∧ R F v d
  | _, _, .nil, h => by cases h
  | _, _, .cons (k := k) r t, h => by
    rw [List.lookup_cons] at h ⊢
    cases e : m == k with
    | true => rw [e] at h; cases h; exact ⟨_, rfl, r⟩
    | false => rw [e] at h; exact Rn.get t h
theorem ins_at {F H : Hp} {v : V} {C : Addr} {fds : List (Str × D)} (hd : Hd L F H) (ow : Own F H as O) (r : R F v d) (i : insOf as O d C fds) : ∃ a dx fs, v = .ref a ∧ H a = some (.ins C dx fs) ∧ Rn F fs fds := by
  rcases i with rfl | ⟨j, a, rfl, e1, e2⟩
  · cases r with
    | ins e r => exact ⟨_, _, _, rfl, hd.ins e, r⟩
  · cases r
    obtain ⟨_, o, e3, e4⟩ := ow.at_ j a _ e1 e2
    cases e4 with
    | ins r => exact ⟨_, _, _, rfl, e3, r⟩
theorem d_meth {C : Ct} {cl : Addr} {m : Str} (js : List Nat) {ta : TE} {t : TA} {E : XK}
    (h : dE χ ta L as ρ O fun as d O => (∃ fds, insOf as O d cl fds ∧ fds.lookup m = none) ∧ dA χ t L as ρ O fun as ds O => cc C X0 ρ js L as (d :: ds) O k) :
    dE χ (tMeth cl m (spC C) [] E ta t) L as ρ O k := fun F H σ S x Q q =>
  h F H σ S x _ fun F1 H1 as1 O1 v d g1 S1 r1 ⟨⟨fds, i, ln⟩, z1⟩ => by
    obtain ⟨a, dx, fs, rfl, e, rn⟩ := ins_at S1.hd S1.own r1 i
    refine ⟨a, dx, fs, rfl, e, rn.lookup ln, ?_⟩
    refine z1 F1 H1 σ S1 (x.go g1) _ fun F2 H2 as2 O2 vs ds g2 S2 r2 z2 => ?_
    rw [List.append_nil]
    exact cc_sp S2 xp0 (.cons (r1.mono g2.ex) r2) z2 (fun _ _ _ z => z.elim) fun F' H' as' O' v d g => q F' H' as' O' v d ((g1.trans g2).trans g)
theorem sel1 {j : Nat} {a : Addr} {c : D} (ha : as[j]? = some a) (ho : O[j]? = some c) : [j].Nodup ∧ (∀ i ∈ [j], i < as.length) ∧ selA as [j] = [a] ∧ selO O [j] = [c] ∧ as.getD j 0 = a := by
  have hj := (List.getElem?_eq_some_iff.mp ha).1
  refine ⟨by simp, fun i m => by simp at m; omega, ?_, ?_, ?_⟩
  · simp [List.getD_eq_getElem?_getD, ha]
  · simp [List.getD_eq_getElem?_getD, ho]
  · simp [List.getD_eq_getElem?_getD, ha]
theorem no_js : ([] : List Nat).Nodup ∧ ∀ i ∈ ([] : List Nat), i < as.length := ⟨List.nodup_nil, fun _ m => by cases m⟩
theorem ck0 {k : KN} (z : k as d O) : ∃ new cnew Oc, ([] : List Addr) = selA as [] ++ new ∧ ([] : List D) = Oc ++ cnew ∧ Oc.length = ([] : List Nat).length ∧ k (as ++ new) d (putAll O [] Oc ++ cnew) :=
  ⟨[], [], [], rfl, rfl, rfl, by simpa [putAll] using z⟩
theorem ckN {k : KN} {p : Addr} {c : D} (z : k (as ++ [p]) d (O ++ [c])) : ∃ new cnew Oc, [p] = selA as [] ++ new ∧ [c] = Oc ++ cnew ∧ Oc.length = ([] : List Nat).length ∧ k (as ++ new) d (putAll O [] Oc ++ cnew) :=
  ⟨[p], [c], [], rfl, rfl, rfl, by simpa [putAll] using z⟩
theorem ck1 {k : KN} {j : Nat} {a : Addr} {c : D} (ha : as.getD j 0 = a) (z : k as d (O.set j c)) : ∃ new cnew Oc, [a] = selA as [j] ++ new ∧ [c] = Oc ++ cnew ∧ Oc.length = [j].length ∧ k (as ++ new) d (putAll O [j] Oc ++ cnew) :=
  ⟨[], [], [c], by simp [← ha], rfl, rfl, by simpa [putAll] using z⟩
theorem ck1N {k : KN} {j : Nat} {a p : Addr} {c c' : D} (ha : as.getD j 0 = a) (z : k (as ++ [p]) d (O.set j c ++ [c'])) : ∃ new cnew Oc, [a, p] = selA as [j] ++ new ∧ [c, c'] = Oc ++ cnew ∧ Oc.length = [j].length ∧ k (as ++ new) d (putAll O [j] Oc ++ cnew) :=
  ⟨[p], [c'], [c], by simp [← ha], rfl, rfl, by simpa [putAll] using z⟩
theorem rv_ixL {ds : List D} {i : Int} (h : atI ds i = some d) (z : k as d O) : rv (rIxL KK) L as O (.lst ds) (.int i) k := fun F H x y hd ow r1 r2 Q q => by
  cases r2
  cases r1 with
  | lst e r =>
    unfold atI at h
    rw [← r.length] at h
    cases e1 : ixN _ i with
    | none => rw [e1] at h; cases h
    | some j =>
      rw [e1] at h
      obtain ⟨v, e2, r2⟩ := r.get (show _ = some d from h)
      exact ⟨_, _, i, v, rfl, rfl, SqL.of (hd.lst e), by unfold atI; rw [e1]; exact e2, q F H as O v d (.refl ..) hd ow r2 z⟩
theorem rv_ixO {ds : List D} {i : Int} {a : Addr} (j : Nat) (ha : as[j]? = some a) (hc : O[j]? = some (.lst ds)) (h : atI ds i = some d) (z : k as d O) : rv (rIxL KK) L as O (.adr a) (.int i) k := fun F H x y hd ow r1 r2 Q q => by
  cases r2
  cases r1
  obtain ⟨_, o, e, c⟩ := ow.at_ j a _ ha hc
  cases c with
  | lst r =>
    unfold atI at h
    rw [← r.length] at h
    cases e1 : ixN _ i with
    | none => rw [e1] at h; cases h
    | some j =>
      rw [e1] at h
      obtain ⟨v, e2, r2⟩ := r.get (show _ = some d from h)
      exact ⟨_, _, i, v, rfl, rfl, SqL.of e, by unfold atI; rw [e1]; exact e2, q F H as O v d (.refl ..) hd ow r2 z⟩
theorem rv_ixT {ds : List D} {i : Int} (h : atI ds i = some d) (z : k as d O) : rv (rIxT KK) L as O (.tup ds) (.int i) k := fun F H x y hd ow r1 r2 Q q => by
  cases r2
  cases r1 with
  | tup e r =>
    unfold atI at h
    rw [← r.length] at h
    cases e1 : ixN _ i with
    | none => rw [e1] at h; cases h
    | some j =>
      rw [e1] at h
      obtain ⟨v, e2, r2⟩ := r.get (show _ = some d from h)
      exact ⟨_, _, i, v, rfl, rfl, hd.tq e, by unfold atI; rw [e1]; exact e2, q F H as O v d (.refl ..) hd ow r2 z⟩
theorem rv_ixS {z : Str} {i : Int} {c : Nat} (hl : z.length ≤ sizeLine) (h : atI z.cps.toList i = some c) (hk : k as (.str ⟨#[c]⟩) O) : rv rIxS L as O (.str z) (.int i) k := fun F H x y hd ow r1 r2 Q q => by
  cases r1
  cases r2
  exact ⟨z, i, c, rfl, rfl, hl, h, q F H as O _ _ (.refl ..) hd ow (.str _) hk⟩
def lenD (as : List Addr) (O : List D) (d : D) (n : Nat) : Prop := match d with
  | .str z => z.length ≤ sizeLine ∧ n = z.length
  | .lst ds => n = ds.length
  | .tup ds => n = ds.length
  | .adr a => ∃ (j : Nat) (ds : List D), as[j]? = some a ∧ O[j]? = some (.lst ds) ∧ n = ds.length
  | _ => False
theorem rc_len {n : Nat} (h : lenD as O d n) (z : k as (.int n) O) : rc (fun xs H Q => ∃ x n, xs = [x] ∧ LenV KK x H n ∧ Q (.int n) H) L as O [d] k := fun F H xs hd ow r Q q => by
  cases r with
  | cons r1 r2 =>
    cases r2
    refine ⟨_, n, rfl, ?_, q F H as O _ _ (.refl ..) hd ow (.int _) z⟩
    cases r1 with
    | str x => exact h
    | lst e r => exact .inl ⟨_, SqL.of (hd.lst e), by rw [r.length]; exact h⟩
    | tup e r => exact .inr ⟨_, hd.tq e, by rw [r.length]; exact h⟩
    | adr a =>
      obtain ⟨j, ds, e1, e2, e3⟩ := h
      obtain ⟨_, o, e, c⟩ := ow.at_ j a _ e1 e2
      cases c with
      | lst r => exact .inl ⟨_, SqL.of e, by rw [r.length]; exact e3⟩
    | non => exact h.elim
    | bl => exact h.elim
    | int => exact h.elim
    | dk => exact h.elim
    | ins => exact h.elim
    | ldk => exact h.elim
    | zst => exact h.elim
    | zkl => exact h.elim
    | zkt => exact h.elim
    | exc => exact h.elim
    | fz => exact h.elim
    | ftp => exact h.elim
theorem rc_int {i : Int} (z : k as (.int i) O) : rc (fun xs H Q => (∃ i, xs = [.int i] ∧ Q (.int i) H) ∨ ∃ b, xs = [.bl b] ∧ Q (.int (if b then 1 else 0)) H) L as O [.int i] k := fun F H xs hd ow r Q q => by
  cases r with
  | cons r1 r2 =>
    cases r2
    cases r1
    exact .inl ⟨i, rfl, q F H as O _ _ (.refl ..) hd ow (.int _) z⟩
def blsOf (as : List Addr) (O : List D) (d : D) (bs : List Bool) : Prop := d = .lst (bs.map D.bl) ∨ ∃ (j : Nat) (a : Addr), d = .adr a ∧ as[j]? = some a ∧ O[j]? = some (D.lst (bs.map D.bl))
theorem sq_of {F H : Hp} {v : V} {ds : List D} (hd : Hd L F H) (ow : Own F H as O) (r : R F v d) (h : d = .lst ds ∨ ∃ (j : Nat) (a : Addr), d = .adr a ∧ as[j]? = some a ∧ O[j]? = some (D.lst ds)) : ∃ a xs, v = .ref a ∧ H a = some (.lst xs) ∧ Rs F xs ds := by
  rcases h with rfl | ⟨j, a, rfl, e1, e2⟩
  · cases r with
    | lst e r => exact ⟨_, _, rfl, hd.lst e, r⟩
  · cases r
    obtain ⟨_, o, e3, e4⟩ := ow.at_ j a _ e1 e2
    cases e4 with
    | lst r => exact ⟨_, _, rfl, e3, r⟩
theorem rc_all {bs : List Bool} (h : blsOf as O d bs) (z : k as (.bl (bs.all id)) O) : rc (rAll KK) L as O [d] k := fun F H xs hd ow r Q q => by
  cases r with
  | cons r1 r2 =>
    cases r2
    obtain ⟨a, xs, rfl, e, r⟩ := sq_of hd ow r1 h
    rw [r.bls] at e
    exact ⟨a, bs, rfl, SqL.of e, q F H as O _ _ (.refl ..) hd ow (.bl _) z⟩
theorem w_bm {T : String} {r : V → List V → Hp → VK → Prop} {ta : TE} {t : TA} (a : Addr) (h : dE χ ta L as ρ O fun as1 d O1 => d = .adr a ∧ (∃ (j : Nat) (ds : List D), as1[j]? = some a ∧ O1[j]? = some (D.lst ds)) ∧ T = "list" ∧ dA χ t L as1 ρ O1 fun as2 ds O2 => rc (fun vs H Q => r (.ref a) vs H Q) L as2 O2 ds k) :
    dE χ (tBM KK T r ta t) L as ρ O k := fun F H σ S x Q q =>
  h F H σ S x _ fun F1 H1 as1 O1 v d g1 S1 r1 ⟨ed, ⟨j, ds, e1, e2⟩, eT, z1⟩ => by
    subst ed
    subst eT
    cases r1
    obtain ⟨_, o, e, c⟩ := S1.own.at_ j a _ e1 e2
    cases c with
    | lst rr =>
      refine ⟨.inl ⟨rfl, _, SqL.of e⟩, z1 F1 H1 σ S1 (x.go g1) _ fun F2 H2 as2 O2 vs ds g2 S2 r2 z2 => ?_⟩
      exact z2 F2 H2 vs S2.hd S2.own r2 _ fun F3 H3 as3 O3 v d g3 hd ow r3 z3 => q F3 H3 as3 O3 v d (g1.trans (g2.trans g3)) ⟨hd, ow, S2.sl.mono g3.ex⟩ r3 z3
theorem w_bm0 {T : String} {r : V → List V → Hp → VK → Prop} {ta : TE} (a : Addr) (h : dE χ ta L as ρ O fun as1 d O1 => d = .adr a ∧ (∃ (j : Nat) (ds : List D), as1[j]? = some a ∧ O1[j]? = some (D.lst ds)) ∧ T = "list" ∧ rc (fun vs H Q => r (.ref a) vs H Q) L as1 O1 [] k) :
    dE χ (tBM0 KK T r ta) L as ρ O k := fun F H σ S x Q q =>
  h F H σ S x _ fun F1 H1 as1 O1 v d g1 S1 r1 ⟨ed, ⟨j, ds, e1, e2⟩, eT, z1⟩ => by
    subst ed
    subst eT
    cases r1
    obtain ⟨_, o, e, c⟩ := S1.own.at_ j a _ e1 e2
    cases c with
    | lst rr =>
      refine ⟨.inl ⟨rfl, _, SqL.of e⟩, ?_⟩
      exact z1 F1 H1 [] S1.hd S1.own .nil _ fun F3 H3 as3 O3 v d g3 hd ow r3 z3 => q F3 H3 as3 O3 v d (g1.trans g3) ⟨hd, ow, S1.sl.mono g3.ex⟩ r3 z3
theorem Own.lst {F H : Hp} {j : Nat} {a : Addr} {ds : List D} (ow : Own F H as O) (e1 : as[j]? = some a) (e2 : O[j]? = some (.lst ds)) : ∃ xs, H a = some (.lst xs) ∧ Rs F xs ds := by
  obtain ⟨_, o, e, c⟩ := ow.at_ j a _ e1 e2
  cases c with
  | lst r => exact ⟨_, e, r⟩
theorem rc_append {a : Addr} {ds : List D} (j : Nat) (e1 : as[j]? = some a) (e2 : O[j]? = some (.lst ds)) (hl : ds.length < sizeLine) (z : k as .non (O.set j (.lst (ds ++ [d])))) : rc (fun vs H Q => rAppend (.ref a) vs H Q) L as O [d] k := fun F H xs hd ow r Q q => by
  cases r with
  | cons r1 r2 =>
    cases r2
    obtain ⟨ys, e, r⟩ := ow.lst e1 e2
    have m := List.mem_of_getElem? e1
    exact ⟨a, ys, _, rfl, rfl, e, by rw [r.length]; exact hl, q F _ as _ _ _ (go_upd m) (hd.upd (ow.free m)) (ow.put (.lst (r.snoc r1)) e1) .non z⟩
theorem rc_pop {a : Addr} {ds : List D} (j : Nat) (e1 : as[j]? = some a) (e2 : O[j]? = some (.lst ds)) (hl : ds[ds.length - 1]? = some d) (z : k as d (O.set j (.lst ds.dropLast))) : rc (fun vs H Q => rPop (.ref a) vs H Q) L as O [] k := fun F H xs hd ow r Q q => by
  cases r
  obtain ⟨ys, e, r⟩ := ow.lst e1 e2
  have m := List.mem_of_getElem? e1
  obtain ⟨v, e3, r3⟩ := r.get hl
  exact ⟨a, ys, v, rfl, rfl, e, by rw [r.length]; exact e3, q F _ as _ _ _ (go_upd m) (hd.upd (ow.free m)) (ow.put (.lst r.dropLast) e1) r3 z⟩
theorem rv_isNil {a : Addr} {ns : List Int} (j : Nat) (e1 : as[j]? = some a) (e2 : O[j]? = some (.lst (ns.map D.int))) (z : k as (.bl ns.isEmpty) O) : rv (rEqD KK) L as O (.adr a) (.lst []) k := fun F H x y hd ow r1 r2 Q q => by
  cases r1
  cases r2 with
  | lst e r =>
    cases r
    obtain ⟨ys, e3, r3⟩ := ow.lst e1 e2
    rw [r3.ints] at e3
    have dp : ∀ ns : List Int, DpAll KK H (ns.map V.int) (ns.map PyData.int) := fun ns => by
      induction ns with
      | nil => exact .nil
      | cons n r ih => exact .cons (.int n) ih
    have cl : ∀ ns : List Int, PyData.canLayAll0 (ns.map PyData.int) = true := fun ns => by
      induction ns with
      | nil => rfl
      | cons n r ih =>
        show (PyData.canLay0 (.int n) && PyData.canLayAll0 (r.map PyData.int)) = true
        rw [ih]; rfl
    have dq : ∀ ns : List Int, PyData.depthAll (ns.map PyData.int) = 0 := fun ns => by
      induction ns with
      | nil => rfl
      | cons n r ih =>
        show max 0 (PyData.depthAll (r.map PyData.int)) = 0
        rw [ih]; rfl
    refine ⟨.list (ns.map PyData.int), .list [], .lst (SqL.of e3) (dp ns), .lst (SqL.of (hd.lst e)) .nil, ?_, rfl, ?_⟩
    · show (PyData.canLayAll0 (ns.map PyData.int) && decide (PyData.depthAll (ns.map PyData.int) + 1 ≤ 64)) = true
      rw [cl, dq]; rfl
    · have : PyData.eqv (.list (ns.map PyData.int)) (.list []) = ns.isEmpty := by
        cases ns <;> rfl
      rw [this]
      exact q F H as O _ _ (.refl ..) hd ow (.bl _) z
end
end DL
namespace DL
open PySem PySem.Spec PyProof.Rows L2
section
variable {χ : Xk} {L : List Addr} {as : List Addr} {ρ : DSt} {O : List D} {k : List Addr → D → List D → Prop} {kT : List Addr → Bool → List D → Prop} {kA kI : List Addr → List D → List D → Prop} {ta tb te : TE} {tt tu : TT} {d d1 d2 : D} {KK : PySem.W.Frag}
theorem itd_at {F H1 : Hp} {J : It} {ds : List D} {xs : List V} {G : Hp → Prop} (w : Walk J xs.length G (YAt xs)) (r : Rs F xs ds) (g : ∀ F2 H2, Ex F F2 → Hd L F2 H2 → G H2) : ItD L as F H1 J ds := by
  refine ⟨G, YAt xs, by rw [← r.length]; exact w, fun F2 H2 _ gg => g F2 H2 gg.ex, fun i as H H' x F2 O hi e hd ow y => ?_⟩
  obtain ⟨rfl, hx⟩ := y
  obtain ⟨d, hd', rd⟩ := r.get' hx
  exact ⟨F2, d, hd', .refl .., hd, ow, rd.mono e⟩
theorem i_list (h : dE χ te L as ρ O fun as d O => ∃ ds, d = .lst ds ∧ kI as ds O) : dI χ (iList KK te) L as ρ O kI := fun F H σ S x Q q =>
  h F H σ S x _ fun F1 H1 as1 O1 v d g1 S1 r1 z1 => by
    obtain ⟨ds, rfl, z⟩ := z1
    cases r1 with
    | lst e r =>
      exact ⟨_, rfl, ⟨_, SqL.of (S1.hd.lst e)⟩, q F1 H1 as1 O1 _ ds g1 S1 (itd_at walk_list r fun F2 H2 ee hd => SqL.of (hd.lst (ee _ _ e))) z⟩
theorem i_tup (h : dE χ te L as ρ O fun as d O => ∃ ds, d = .tup ds ∧ kI as ds O) : dI χ (iTup KK te) L as ρ O kI := fun F H σ S x Q q =>
  h F H σ S x _ fun F1 H1 as1 O1 v d g1 S1 r1 z1 => by
    obtain ⟨ds, rfl, z⟩ := z1
    cases r1 with
    | tup e r =>
      exact ⟨_, rfl, ⟨_, S1.hd.tq e⟩, q F1 H1 as1 O1 _ ds g1 S1 (itd_at walk_tup r fun F2 H2 ee hd => hd.tq (e.mono ee)) z⟩
def upto (n : Nat) : List D := (List.range n).map fun i => D.int (i : Nat)
theorem upto_len (n : Nat) : (upto n).length = n := by simp [upto]
theorem upto_at {n i : Nat} {d : D} (h : (upto n)[i]? = some d) : i < n ∧ d = .int (i : Nat) := by
  have hi : i < n := by
    have := (List.getElem?_eq_some_iff.mp h).1
    rwa [upto_len] at this
  refine ⟨hi, ?_⟩
  unfold upto at h
  rw [List.getElem?_map, List.getElem?_range hi] at h
  exact (Option.some.inj h).symm
theorem i_range {ta : TA} (h : dA χ ta L as ρ O fun as ds O => ∃ j : Int, ds = [.int j] ∧ j < 2 ^ 62 ∧ -(2 ^ 62) ≤ j ∧ kI as (upto j.toNat) O) : dI χ (iRng1 ta) L as ρ O kI := fun F H σ S x Q q =>
  h F H σ S x _ fun F1 H1 as1 O1 vs ds g1 S1 r1 z1 => by
    obtain ⟨j, rfl, b1, b2, z⟩ := z1
    cases r1 with
    | cons r1 r2 =>
      cases r2
      cases r1
      refine ⟨j, rfl, b2, b1, q F1 H1 as1 O1 _ _ g1 S1 ⟨_, _, by rw [upto_len]; exact walk_range, fun _ _ _ _ _ => trivial, fun i as H H' x F2 O hi e hd ow y => ?_⟩ z⟩
      obtain ⟨rfl, rfl⟩ := y
      rw [upto_len] at hi
      refine ⟨F2, .int (i : Nat), ?_, .refl .., hd, ow, ?_⟩
      · unfold upto
        rw [List.getElem?_map, List.getElem?_range hi]
        rfl
      · show R F2 (V.int (0 + (i : Nat))) _
        rw [Int.zero_add]; exact .int _
def signs (z : Str) : List D := z.cps.toList.map fun c => D.str ⟨#[c]⟩
theorem i_str (h : dE χ te L as ρ O fun as d O => ∃ z, d = .str z ∧ kI as (signs z) O) : dI χ (iStr te) L as ρ O kI := fun F H σ S x Q q =>
  h F H σ S x _ fun F1 H1 as1 O1 v d g1 S1 r1 z1 => by
    obtain ⟨z, rfl, zz⟩ := z1
    cases r1
    refine ⟨z, rfl, q F1 H1 as1 O1 _ _ g1 S1 ⟨_, _, by simpa [signs] using walk_str (z := z), fun _ _ _ _ _ => trivial, fun i as H H' x F2 O hi e hd ow y => ?_⟩ zz⟩
    obtain ⟨rfl, c, hc, rfl⟩ := y
    refine ⟨F2, .str ⟨#[c]⟩, ?_, .refl .., hd, ow, .str _⟩
    unfold signs
    rw [List.getElem?_map, Array.getElem?_toList, hc]
    rfl
def enumD (ds : List D) : List D := ds.zipIdx.map fun p => D.tup [.int (p.2 : Nat), p.1]
theorem enum_at {ds : List D} {i : Nat} {d : D} (h : (enumD ds)[i]? = some d) : ∃ e, ds[i]? = some e ∧ d = .tup [.int (i : Nat), e] := by
  unfold enumD at h
  rw [List.getElem?_map, List.getElem?_zipIdx] at h
  cases e : ds[i]? with
  | none => rw [e] at h; cases h
  | some x => rw [e] at h; simp at h; exact ⟨x, rfl, h.symm⟩
theorem enum_len (ds : List D) : (enumD ds).length = ds.length := by simp [enumD]
theorem lay_pair {F H : Hp} {T : Addr} {x y : V} {dx dy : D} (hd : Hd L F H) (ow : Own F H as O) (hT : H T = none) (rx : R F x dx) (ry : R F y dy) :
    ∃ F3, Go as F H as F3 (upd H T (.tup [x, y])) ∧ Hd L F3 (upd H T (.tup [x, y])) ∧ Own F3 (upd H T (.tup [x, y])) as O ∧ R F3 (.ref T) (.tup [dx, dy]) := by
  have hf := hd.free hT
  have e : Ex F (upd F T (.tup [x, y])) := ex_lay hf
  exact ⟨upd F T (.tup [x, y]), go_lay hT hf, hd.lay hT, ow.lay hT hf, .tup (.inl upd_same) (.cons (rx.mono e) (.cons (ry.mono e) .nil))⟩
theorem i_enum {ta : TA} (h : dA χ ta L as ρ O fun as ds O => ∃ es, ds = [.lst es] ∧ kI as (enumD es) O) : dI χ (iEnum KK ta) L as ρ O kI := fun F H σ S x Q q =>
  h F H σ S x _ fun F1 H1 as1 O1 vs ds g1 S1 r1 z1 => by
    obtain ⟨es, rfl, z⟩ := z1
    cases r1 with
    | cons r1 r2 =>
      cases r2
      cases r1 with
      | @lst a xs _ e r =>
        refine ⟨a, xs, rfl, SqL.of (S1.hd.lst e), q F1 H1 as1 O1 _ _ g1 S1 ⟨_, _, by rw [enum_len, ← r.length]; exact walk_enum, fun F2 H2 _ gg hd => SqL.of (hd.lst (gg.ex _ _ e)), fun i as H H' x F2 O hi ee hd ow y => ?_⟩ z⟩
        obtain ⟨T, x1, x2, rfl, hT, rfl, f1, f2⟩ := y
        cases f1
        obtain ⟨d, e2, rd⟩ := r.get' f2
        obtain ⟨F3, g3, h3, o3, r3⟩ := lay_pair hd ow hT (.int (i : Nat)) (rd.mono ee)
        refine ⟨F3, _, ?_, g3, h3, o3, r3⟩
        unfold enumD
        rw [List.getElem?_map, List.getElem?_zipIdx, e2]
        simp
def WG (g : TG) (vs : List Nat) : Prop := ∀ v σ H (Q Q' : L2.St → Hp → Prop), (∀ σ' H', L2.wipe σ' vs = L2.wipe σ vs → Q σ' H' → Q' σ' H') → g v σ H Q → g v σ H Q'
theorem wipe_set {σ : L2.St} {i : Nat} {x : Option V} : ∀ {vs : List Nat}, i ∈ vs → L2.wipe (σ.set i x) vs = L2.wipe σ vs
  | [], h => by cases h
  | v :: vs, h => by
    show (L2.wipe (σ.set i x) vs).set v none = (L2.wipe σ vs).set v none
    by_cases z : i ∈ vs
    · rw [wipe_set z]
    · have : i = v := by
        rcases List.mem_cons.mp h with h | h
        · exact h
        · exact absurd h z
      subst this
      apply List.ext_getElem?
      intro n
      by_cases q : i = n
      · subst q
        by_cases l : i < σ.length
        · rw [List.getElem?_set_self (by rw [wipe_length, List.length_set]; exact l), List.getElem?_set_self (by rw [wipe_length]; exact l)]
        · rw [List.getElem?_eq_none (by rw [List.length_set, wipe_length, List.length_set]; omega), List.getElem?_eq_none (by rw [List.length_set, wipe_length]; omega)]
      · rw [List.getElem?_set_ne q, List.getElem?_set_ne q]
        by_cases m : n ∈ vs
        · by_cases l : n < σ.length
          · rw [wipe_in m (by rw [List.length_set]; exact l), wipe_in m l]
          · rw [List.getElem?_eq_none (by rw [wipe_length, List.length_set]; omega), List.getElem?_eq_none (by rw [wipe_length]; omega)]
        · rw [wipe_out m, wipe_out m, List.getElem?_set_ne q]
where
  wipe_in {σ : L2.St} {n : Nat} : ∀ {vs : List Nat}, n ∈ vs → n < σ.length → (L2.wipe σ vs)[n]? = some none
    | [], h, _ => by cases h
    | v :: vs, h, l => by
      show ((L2.wipe σ vs).set v none)[n]? = some none
      by_cases q : v = n
      · subst q; rw [List.getElem?_set_self (by rw [wipe_length]; exact l)]
      · rw [List.getElem?_set_ne q]
        rcases List.mem_cons.mp h with h | h
        · exact absurd h.symm q
        · exact wipe_in h l
theorem wipe_wipe {σ : L2.St} : ∀ {us vs : List Nat}, (∀ i ∈ us, i ∈ vs) → L2.wipe (L2.wipe σ us) vs = L2.wipe σ vs
  | [], _, _ => rfl
  | u :: us, vs, h => by
    show L2.wipe ((L2.wipe σ us).set u none) vs = _
    rw [wipe_set (h u List.mem_cons_self), wipe_wipe fun i m => h i (List.mem_cons_of_mem _ m)]
theorem wg_name {i : Nat} {vs : List Nat} (h : i ∈ vs) : WG (gName i) vs := fun v σ H Q Q' m q => m _ _ (wipe_set h) q
abbrev wρ (ρ : DSt) (vs : List Nat) : DSt := vs.foldr (fun v r => r.set v none) ρ
theorem w_lcA {wi : TI} {g : TG} {vs : List Nat} (hg : WG g vs) (h : dI χ wi L as ρ O fun as1 ds O1 => ∃ acc : Nat → List D, acc 0 = [] ∧ ds.length < sizeLine ∧
    (∀ i d, ds[i]? = some d → dG X0 g d L as1 (wρ ρ vs) O1 fun as2 ρ2 O2 => as2 = as1 ∧ O2 = O1 ∧ dT X0 tt L as1 ρ2 O1 fun as3 b O3 => as3 = as1 ∧ O3 = O1 ∧
      if b = true then dE X0 te L as1 ρ2 O1 fun as4 y O4 => as4 = as1 ∧ O4 = O1 ∧ acc (i + 1) = acc i ++ [y] else acc (i + 1) = acc i) ∧
    ∀ p, k (as1 ++ [p]) (.adr p) (O1 ++ [.lst (acc ds.length)])) : dE χ (tLc wi g tt te vs) L as ρ O k := fun F H σ S x Q q =>
  h F H σ S x _ fun F1 H1 as1 O1 J ds g1 S1 ⟨G, Y, wk, hG, hY⟩ ⟨acc, a0, al, as_, ae⟩ N hN => by
    have hNf := S1.hd.free hN
    refine lc_it wk (fun i H' => ∃ F' xs, Go as1 F1 H1 as1 F' H' ∧ Hd L F' H' ∧ Own F' H' as1 O1 ∧ F' N = none ∧ H' N = some (.lst xs) ∧ Rs F' xs (acc i) ∧ (acc i).length ≤ i)
      ⟨F1, [], ?_, S1.hd.upd hNf, ?_, hNf, upd_same, by rw [a0]; exact .nil, by rw [a0]; exact Nat.le_refl _⟩ ?_ ?_ ?_
    · exact ⟨fun _ _ h => h, fun _ _ h => .inl h, fun b o e _ => by rw [upd_ne (ne_of_none e hN)]; exact e, fun b e => by
        by_cases z : b = N
        · subst z; exact hN
        · rw [upd_ne z] at e; exact e, fun _ m => .inl m⟩
    · exact S1.own.keep (fun _ _ h => h) (fun a m => S1.own.free m) fun a m o e => by rw [upd_ne (ne_of_none e hN)]; exact e
    · rintro i H' _ ⟨F', xs, g', hd', ow', f', e', r', _⟩
      exact hG F' H' as1 g' hd'
    · rintro i v H' H2 hi ⟨F', xs, g', hd', ow', f', e', r', l'⟩ hy
      obtain ⟨F3, d, hdi, g3, hd3, ow3, r3⟩ := hY i as1 H' H2 v F' O1 hi g'.ex hd' ow' hy
      have keepN : ∀ {Fa Fb : Hp} {Ha Hb : Hp} {xs : List V}, Go as1 Fa Ha as1 Fb Hb → Own Fa Ha as1 O1 → Fa N = none → Ha N = some (.lst xs) → N ∉ as1 → Fb N = none ∧ Hb N = some (.lst xs) := fun {Fa Fb Ha Hb xs} g _ f e n => by
        refine ⟨?_, g.kp _ _ e n⟩
        cases z : Fb N with
        | none => rfl
        | some u =>
          rcases g.nw N u z with z | z | z
          · rw [f] at z; cases z
          · rw [e] at z; cases z
          · exact absurd z n
      have nN : N ∉ as1 := fun m => S1.own.tr m hN
      obtain ⟨f3, e3⟩ := keepN g3 ow' f' e' nN
      have S3 : Rep L as1 F3 H2 (L2.wipe σ vs) (wρ ρ vs) O1 := ⟨hd3, ow3, (S1.sl.mono fun a o h => g3.ex _ _ (g'.ex _ _ h)).wipe vs⟩
      have step := as_ i d hdi F3 H2 (L2.wipe σ vs) v S3 xp0 r3
      refine hg v _ _ _ _ (fun σ2 H3 ew q2 => ⟨ew.trans (wipe_wipe fun _ m => m), q2⟩) (step _ fun F4 H4 as4 σ4 ρ4 O4 g4 S4 ⟨e1, e2, z4⟩ => ?_)
      subst e1
      subst e2
      obtain ⟨f4, e4⟩ := keepN g4 ow3 f3 e3 nN
      refine z4 F4 H4 σ4 S4 xp0 _ fun F5 H5 as5 O5 b b' g5 S5 rb ⟨e1, e2, z5⟩ => ?_
      cases rb
      subst e1
      subst e2
      obtain ⟨f5, e5⟩ := keepN g5 S4.own f4 e4 nN
      have gg := g'.trans (g3.trans (g4.trans g5))
      have r5 := r'.mono fun a o h => g5.ex _ _ (g4.ex _ _ (g3.ex _ _ h))
      cases b with
      | false =>
        simp only [Bool.false_eq_true, if_false] at z5 ⊢
        exact ⟨F5, xs, gg, S5.hd, S5.own, f5, e5, by rw [z5]; exact r5, by rw [z5]; omega⟩
      | true =>
        simp only [if_true] at z5 ⊢
        refine z5 F5 H5 σ4 S5 xp0 _ fun F6 H6 as6 O6 y dy g6 S6 r6 ⟨e1, e2, z6⟩ => ?_
        subst e1
        subst e2
        obtain ⟨f6, e6⟩ := keepN g6 S5.own f5 e5 nN
        refine ⟨xs, e6, by rw [r'.length]; omega, F6, _, ?_, S6.hd.upd f6, ?_, f6, upd_same, ?_, ?_⟩
        · refine ⟨(gg.trans g6).ex, (gg.trans g6).nw, fun b o e n => ?_, fun b e => ?_, (gg.trans g6).sub⟩
          · have h6 := (gg.trans g6).kp b o e n
            rw [upd_ne (ne_of_none e hN)]
            exact h6
          · by_cases z : b = N
            · subst z; exact hN
            · rw [upd_ne z] at e; exact (gg.trans g6).th b e
        · exact S6.own.keep (fun _ _ h => h) (fun a m => S6.own.free m) fun a m o e => by
            have : a ≠ N := fun z => nN (z ▸ m)
            rw [upd_ne this]; exact e
        · rw [z6]
          exact (r5.mono g6.ex).snoc r6
        · rw [z6, List.length_append]
          show (acc i).length + 1 ≤ i + 1
          omega
    · rintro H' ⟨F', xs, g', hd', ow', f', e', r', l'⟩
      refine q F' H' (as1 ++ [N]) (O1 ++ [.lst (acc ds.length)]) _ _ ?_ ⟨hd', ?_, S1.sl.mono g'.ex⟩ (.adr N) (ae N)
      · have gg := g1.trans g'
        exact ⟨gg.ex, gg.nw, gg.kp, gg.th, fun b m => by
          rcases List.mem_append.mp m with m | m
          · exact gg.sub b m
          · simp at m; subst m; exact .inr (g1.th _ hN)⟩
      · have nN : N ∉ as1 := fun m => S1.own.tr m hN
        refine ⟨?_, by simp [ow'.len], fun i b d' h1 h2 => ?_⟩
        · rw [List.nodup_append]
          refine ⟨ow'.nd, by simp, fun a m b m' z => ?_⟩
          simp at m'
          subst m'; subst z
          exact nN m
        · rcases Nat.lt_trichotomy i as1.length with z | z | z
          · rw [List.getElem?_append_left z] at h1
            rw [List.getElem?_append_left (ow'.len ▸ z)] at h2
            exact ow'.at_ i b d' h1 h2
          · rw [List.getElem?_append_right (Nat.le_of_eq z.symm)] at h1
            rw [List.getElem?_append_right (by rw [← ow'.len]; exact Nat.le_of_eq z.symm), ← ow'.len] at h2
            rw [z] at h1 h2
            simp at h1 h2
            subst h1; subst h2
            exact ⟨f', _, e', .lst r'⟩
          · rw [List.getElem?_eq_none (by simp; omega)] at h1
            cases h1
theorem w_lc {α : Type} {wi : TI} {g : TG} {vs : List Nat} (hg : WG g vs) (h : dI χ wi L as ρ O fun as1 ds O1 => ∃ (xs : List α) (em : α → D) (p : α → Bool) (f : α → D), ds = xs.map em ∧ xs.length < sizeLine ∧
    (∀ x ∈ xs, dG X0 g (em x) L as1 (wρ ρ vs) O1 fun as2 ρ2 O2 => as2 = as1 ∧ O2 = O1 ∧ dT X0 tt L as1 ρ2 O1 fun as3 b O3 => as3 = as1 ∧ O3 = O1 ∧ b = p x ∧
      (p x = true → dE X0 te L as1 ρ2 O1 fun as4 y O4 => as4 = as1 ∧ O4 = O1 ∧ y = f x)) ∧
    ∀ q, k (as1 ++ [q]) (.adr q) (O1 ++ [.lst ((xs.filter p).map f)])) : dE χ (tLc wi g tt te vs) L as ρ O k := by
  refine w_lcA hg fun F H σ S x Q q => h F H σ S x Q fun F1 H1 as1 O1 J ds g1 S1 it ⟨xs, em, p, f, e, hl, st, fin⟩ => q F1 H1 as1 O1 J ds g1 S1 it ⟨fun i => ((xs.take i).filter p).map f, rfl, by rw [e, List.length_map]; exact hl, fun i d hd => ?_, fun q => ?_⟩
  · rw [e, List.getElem?_map] at hd
    cases ex : xs[i]? with
    | none => rw [ex] at hd; cases hd
    | some a =>
      rw [ex] at hd
      cases hd
      have hm := List.mem_of_getElem? ex
      have et : xs.take (i + 1) = xs.take i ++ [a] := by rw [List.take_add_one, ex]; rfl
      intro F H σ v S x r Q q
      refine st a hm F H σ v S x r Q fun F' H' as' σ' ρ' O' g S' ⟨e1, e2, z⟩ => q F' H' as' σ' ρ' O' g S' ⟨e1, e2, z.imp fun a3 b O3 ⟨e3, e4, eb, z'⟩ => ⟨e3, e4, ?_⟩⟩
      subst eb
      cases hp : p a with
      | true =>
        simp only [if_true]
        refine (z' hp).imp fun a4 y O4 ⟨e5, e6, ey⟩ => ⟨e5, e6, ?_⟩
        subst ey
        rw [et, List.filter_append, List.map_append]
        simp [hp]
      | false =>
        simp only [Bool.false_eq_true, if_false]
        rw [et, List.filter_append, List.map_append]
        simp [hp]
  · have := fin q
    rw [e, List.length_map]
    show k _ _ (O1 ++ [.lst (((xs.take xs.length).filter p).map f)])
    rw [List.take_length]
    exact this
end
end DL
namespace DL
open PySem PySem.Spec PyProof.Rows L2
section
variable {χ : Xk} {L as : List Addr} {ρ : DSt} {O : List D} {k : List Addr → D → List D → Prop} {kT : List Addr → Bool → List D → Prop} {kA kI : List Addr → List D → List D → Prop} {ta tb te : TE} {tt tu : TT} {d d1 d2 : D} {KK : PySem.W.Frag}
theorem w_known (h : dE χ te L as ρ O fun as' d' O' => ∃ p as0 c O0, as' = as0 ++ [p] ∧ d' = .adr p ∧ O' = O0 ++ [c] ∧ k as0 c O0) : dE χ te L as ρ O k := fun F H σ S x Q q =>
  h F H σ S x _ fun F1 H1 as1 O1 v d1 g1 S1 r1 ⟨p, as0, c, O0, e1, e2, e3, z⟩ => by
    subst e1
    subst e2
    subst e3
    cases r1
    have l0 : as0.length = O0.length := by
      have := S1.own.len
      simp at this
      exact this
    have ha : (as0 ++ [p])[as0.length]? = some p := by simp
    have hc : (O0 ++ [c])[as0.length]? = some c := by rw [l0]; simp
    obtain ⟨hf, o, ho, cn⟩ := S1.own.at_ _ _ _ ha hc
    have S2 := S1.frz ha hc hf ho cn
    have g2 : Go (as0 ++ [p]) F1 H1 ((as0 ++ [p]).eraseIdx as0.length) (upd F1 p o) H1 := go_frz hf ha
    have ea : (as0 ++ [p]).eraseIdx as0.length = as0 := by
      rw [List.eraseIdx_append_of_length_le (Nat.le_refl _)]
      simp
    have eo : (O0 ++ [c]).eraseIdx as0.length = O0 := by
      rw [l0, List.eraseIdx_append_of_length_le (Nat.le_refl _)]
      simp
    rw [ea, eo] at S2
    rw [ea] at g2
    exact q _ _ _ _ _ _ (g1.trans g2) S2 (.of upd_same (cn.mono (ex_lay hf))) z
theorem go_let {as as1 : List Addr} {F H F1 H1 : Hp} (g : Go as F H as1 F1 H1) (j : Nat) : Go as F H (as1.eraseIdx j) F1 H1 :=
  ⟨g.ex, g.nw, g.kp, g.th, fun b m => g.sub b (List.mem_of_mem_eraseIdx m)⟩
theorem w_let (j : Nat) (h : dE χ te L as ρ O fun as' d' O' => k (as'.eraseIdx j) d' (O'.eraseIdx j)) : dE χ te L as ρ O k := fun F H σ S x Q q =>
  h F H σ S x _ fun F1 H1 as1 O1 v d1 g1 S1 r1 z => q _ _ _ _ _ _ (go_let g1 j) ⟨S1.hd, S1.own.drop j, S1.sl⟩ r1 z
theorem s_let {ts : TS} {K : Kt} (j : Nat) (h : dS χ ts L (as.eraseIdx j) ρ (O.eraseIdx j) K) : dS χ ts L as ρ O K := fun F H σ S x Z z =>
  have g : Go as F H (as.eraseIdx j) F H := go_let (.refl ..) j
  h F H σ ⟨S.hd, S.own.drop j, S.sl⟩ (x.go g) Z (z.go g)
def lstOf (as : List Addr) (O : List D) (d : D) (ds : List D) : Prop := d = .lst ds ∨ ∃ (j : Nat) (a : Addr), d = .adr a ∧ as[j]? = some a ∧ O[j]? = some (D.lst ds)
theorem lo_f {ds : List D} : lstOf as O (.lst ds) ds := .inl rfl
theorem lo_o {ds : List D} {a : Addr} (j : Nat) (h1 : as[j]? = some a) (h2 : O[j]? = some (D.lst ds)) : lstOf as O (.adr a) ds := .inr ⟨j, a, rfl, h1, h2⟩
def lstR (as : List Addr) (O : List D) (K : PySem.W.Frag) (d : D) (ds : List D) : Prop := lstOf as O d ds ∨ d = .zst ds ∨ d = .zkl K ds
theorem lstR.more {K : PySem.W.Frag} {ds : List D} (h : lstR [] [] K d ds) : lstR as O K d ds := by
  rcases h with (h | ⟨j, a, _, h, _⟩) | h
  · exact .inl (.inl h)
  · simp at h
  · exact .inr h
theorem lr_at {F H : Hp} {v : V} {ds : List D} (hd : Hd L F H) (ow : Own F H as O) (r : R F v d) (h : lstR as O KK d ds) : ∃ a xs, v = .ref a ∧ SqL KK H a xs ∧ Rs F xs ds := by
  rcases h with h | rfl | rfl
  · obtain ⟨a, xs, e1, e2, e3⟩ := sq_of hd ow r h
    exact ⟨a, xs, e1, SqL.of e2, e3⟩
  · cases r with
    | zst e r => exact ⟨_, _, rfl, .inl (hd.zst e), r⟩
  · cases r with
    | zkl e r => exact ⟨_, _, rfl, e H, r⟩
abbrev dO (χ : Xk) (t : TO) (L as : List Addr) (ρ : DSt) (O : List D) (k : List Addr → Option Int → List D → Prop) : Prop := dW (fun _ (a b : Option Int) => a = b) χ t L as ρ O k
theorem o_none {kO : List Addr → Option Int → List D → Prop} (z : kO as none O) : dO χ tNoPart L as ρ O kO := fun F H σ S x Q q => q F H as O none none (.refl ..) S rfl z
theorem o_some {kO : List Addr → Option Int → List D → Prop} (h : dE χ te L as ρ O fun as d O => ∃ i, d = .int i ∧ kO as (some i) O) : dO χ (tPart te) L as ρ O kO := fun F H σ S x Q q =>
  h F H σ S x _ fun F1 H1 as1 O1 v d g1 S1 r1 ⟨i, e, z⟩ => by
    subst e
    cases r1
    exact ⟨i, rfl, q F1 H1 as1 O1 _ _ g1 S1 rfl z⟩
def rs (r : V → Option Int → Option Int → Hp → VK → Prop) (L as : List Addr) (O : List D) (d1 : D) (lo hi : Option Int) (k : List Addr → D → List D → Prop) : Prop :=
  ∀ F H x, Hd L F H → Own F H as O → R F x d1 → ∀ Q : VK, (∀ F' H' as' O' v d, Go as F H as' F' H' → Hd L F' H' → Own F' H' as' O' → R F' v d → k as' d O' → Q v H') → r x lo hi H Q
theorem w_sl {r : V → Option Int → Option Int → Hp → VK → Prop} {tl th : TO} (h : dE χ te L as ρ O fun as d O => dO χ tl L as ρ O fun as lo O => dO χ th L as ρ O fun as hi O => rs r L as O d lo hi k) : dE χ (tSl r te tl th) L as ρ O k := fun F H σ S x Q q =>
  h F H σ S x _ fun F1 H1 as1 O1 v d g1 S1 r1 z1 => z1 F1 H1 σ S1 (x.go g1) _ fun F2 H2 as2 O2 lo lo' g2 S2 e2 z2 => by
    subst e2
    refine z2 F2 H2 σ S2 (x.go (g1.trans g2)) _ fun F3 H3 as3 O3 hi hi' g3 S3 e3 z3 => ?_
    subst e3
    refine z3 F3 H3 v S3.hd S3.own ((r1.mono g2.ex).mono g3.ex) _ fun F4 H4 as4 O4 v d g4 hd ow r4 z4 => ?_
    exact q F4 H4 as4 O4 v d (g1.trans (g2.trans (g3.trans g4))) ⟨hd, ow, S3.sl.mono g4.ex⟩ r4 z4
def cutD (ds : List D) (lo hi : Option Int) : List D := (ds.drop (HT.sIx ds.length 0 lo)).take (HT.sIx ds.length ds.length hi - HT.sIx ds.length 0 lo)
theorem Rs.cut {F : Hp} {xs : List V} {ds : List D} (r : Rs F xs ds) (lo hi : Option Int) : Rs F (cutV xs lo hi) (cutD ds lo hi) := by
  unfold cutV cutD
  rw [r.length]
  exact (r.drop _).take _
theorem new_lst {F H : Hp} {xs : List V} {ds : List D} {Q : VK} (hd : Hd L F H) (ow : Own F H as O) (r : Rs F xs ds) (z : ∀ p, k (as ++ [p]) (.adr p) (O ++ [.lst ds]))
    (q : ∀ F' H' as' O' v d, Go as F H as' F' H' → Hd L F' H' → Own F' H' as' O' → R F' v d → k as' d O' → Q v H') (p : Addr) (hp : H p = none) : Q (.ref p) (upd H p (.lst xs)) :=
  q F _ _ _ _ _ (go_new hp) (hd.upd (hd.free hp)) (ow.snoc (hd.free hp) hp (.lst r)) (.adr p) (z p)
theorem new_tup {F H : Hp} {xs : List V} {ds : List D} {Q : VK} (hd : Hd L F H) (ow : Own F H as O) (r : Rs F xs ds) (z : k as (.tup ds) O)
    (q : ∀ F' H' as' O' v d, Go as F H as' F' H' → Hd L F' H' → Own F' H' as' O' → R F' v d → k as' d O' → Q v H') (p : Addr) (hp : H p = none) : Q (.ref p) (upd H p (.tup xs)) :=
  q _ _ _ _ _ _ (go_lay hp (hd.free hp)) (hd.lay hp) (ow.lay hp (hd.free hp)) (.tup (.inl upd_same) (r.mono (ex_lay (hd.free hp)))) z
theorem rs_list {ds : List D} {lo hi : Option Int} (h : lstR as O KK d ds) (z : ∀ p, k (as ++ [p]) (.adr p) (O ++ [.lst (cutD ds lo hi)])) : rs (rSlL KK) L as O d lo hi k := fun F H v hd ow r Q q => by
  obtain ⟨a, xs, rfl, s, r'⟩ := lr_at hd ow r h
  exact ⟨a, xs, rfl, s, new_lst hd ow (r'.cut lo hi) z q⟩
theorem w_rev (h : dE χ te L as ρ O fun as d O => ∃ ds, lstR as O KK d ds ∧ ∀ p, k (as ++ [p]) (.adr p) (O ++ [.lst ds.reverse])) : dE χ (tRevL KK te) L as ρ O k := fun F H σ S x Q q =>
  h F H σ S x _ fun F1 H1 as1 O1 v d g1 S1 r1 ⟨ds, hl, z⟩ => by
    obtain ⟨a, xs, rfl, s, r'⟩ := lr_at S1.hd S1.own r1 hl
    exact ⟨a, xs, rfl, s, new_lst S1.hd S1.own r'.reverse z fun F' H' as' O' v d g hd ow r z => q F' H' as' O' v d (g1.trans g) ⟨hd, ow, S1.sl.mono g.ex⟩ r z⟩
theorem rv_cat {ds es : List D} (h1 : lstOf as O d1 ds) (h2 : lstOf as O d2 es) (hl : ds.length + es.length ≤ sizeLine) (z : ∀ p, k (as ++ [p]) (.adr p) (O ++ [.lst (ds ++ es)])) : rv rCat L as O d1 d2 k := fun F H x y hd ow r1 r2 Q q => by
  obtain ⟨a, xs, rfl, e1, q1⟩ := sq_of hd ow r1 h1
  obtain ⟨b, ys, rfl, e2, q2⟩ := sq_of hd ow r2 h2
  exact ⟨a, b, xs, ys, rfl, rfl, e1, e2, by rw [q1.length, q2.length]; exact hl, new_lst hd ow (q2.append q1) z q⟩
theorem rc_listL {ds : List D} (h : lstR as O KK d ds) (z : ∀ p, k (as ++ [p]) (.adr p) (O ++ [.lst ds])) : rc (fun xs H Q => ∃ p ys, xs = [V.ref p] ∧ (SqL KK H p ys ∨ SqT KK H p ys) ∧ ∀ l, H l = none → Q (.ref l) (upd H l (.lst ys))) L as O [d] k := fun F H xs hd ow r Q q => by
  cases r with
  | cons r1 r2 =>
    cases r2
    obtain ⟨a, xs, rfl, s, r'⟩ := lr_at hd ow r1 h
    exact ⟨a, xs, rfl, .inl s, new_lst hd ow r' z q⟩
theorem rc_listT {ds : List D} (z : ∀ p, k (as ++ [p]) (.adr p) (O ++ [.lst ds])) : rc (fun xs H Q => ∃ p ys, xs = [V.ref p] ∧ (SqL KK H p ys ∨ SqT KK H p ys) ∧ ∀ l, H l = none → Q (.ref l) (upd H l (.lst ys))) L as O [.tup ds] k := fun F H xs hd ow r Q q => by
  cases r with
  | cons r1 r2 =>
    cases r2
    cases r1 with
    | tup e r' => exact ⟨_, _, rfl, .inr (hd.tq e), new_lst hd ow r' z q⟩
theorem rc_tupL {ds : List D} (h : lstR as O KK d ds) (z : k as (.tup ds) O) : rc (fun xs H Q => ∃ p ys, xs = [V.ref p] ∧ ((SqL KK H p ys ∧ ∀ l, H l = none → Q (.ref l) (upd H l (.tup ys))) ∨ (SqT KK H p ys ∧ Q (.ref p) H))) L as O [d] k := fun F H xs hd ow r Q q => by
  cases r with
  | cons r1 r2 =>
    cases r2
    obtain ⟨a, xs, rfl, s, r'⟩ := lr_at hd ow r1 h
    exact ⟨a, xs, rfl, .inl ⟨s, new_tup hd ow r' z q⟩⟩
theorem rc_tupT {ds : List D} (z : k as (.tup ds) O) : rc (fun xs H Q => ∃ p ys, xs = [V.ref p] ∧ ((SqL KK H p ys ∧ ∀ l, H l = none → Q (.ref l) (upd H l (.tup ys))) ∨ (SqT KK H p ys ∧ Q (.ref p) H))) L as O [.tup ds] k := fun F H xs hd ow r Q q => by
  cases r with
  | cons r1 r2 =>
    cases r2
    cases r1 with
    | tup e r' => exact ⟨_, _, rfl, .inr ⟨hd.tq e, q F H as O _ _ (.refl ..) hd ow (.tup e r') z⟩⟩
theorem rc_extend {a : Addr} {ds es : List D} (j : Nat) (e1 : as[j]? = some a) (e2 : O[j]? = some (.lst ds)) (h : lstOf as O d es) (hl : ds.length + es.length ≤ sizeLine) (z : k as .non (O.set j (.lst (ds ++ es)))) : rc (fun vs H Q => rExtend (.ref a) vs H Q) L as O [d] k := fun F H xs hd ow r Q q => by
  cases r with
  | cons r1 r2 =>
    cases r2
    obtain ⟨ys, e, r⟩ := ow.lst e1 e2
    obtain ⟨b, zs, rfl, eb, rb⟩ := sq_of hd ow r1 h
    have m := List.mem_of_getElem? e1
    exact ⟨a, b, ys, zs, rfl, rfl, e, eb, by rw [r.length, rb.length]; exact hl, q F _ as _ _ _ (go_upd m) (hd.upd (ow.free m)) (ow.put (.lst (rb.append r)) e1) .non z⟩
theorem cut_mem {ds : List D} {lo hi : Option Int} {i : Nat} (h : (cutD ds lo hi)[i]? = some d) : d ∈ ds :=
  List.mem_of_mem_drop (List.mem_of_mem_take (List.mem_of_getElem? h))
theorem cut_len (ds : List D) (lo hi : Option Int) : (cutD ds lo hi).length ≤ ds.length := by
  unfold cutD
  rw [List.length_take, List.length_drop]
  omega
theorem rv_addS {i j : Str} (hl : i.length + j.length ≤ sizeLine) (z : k as (.str (i ++ j)) O) : rv (fun x y H Q => ∃ i j, x = V.str i ∧ y = V.str j ∧ i.length + j.length ≤ sizeLine ∧ Q (.str (i ++ j)) H) L as O (.str i) (.str j) k := fun F H x y hd ow r1 r2 Q q => by
  cases r1
  cases r2
  exact ⟨i, j, rfl, rfl, hl, q F H as O _ _ (.refl ..) hd ow (.str _) z⟩
theorem rv_inS {c : Nat} {y : Str} (z : k as (.bl (decide (c ∈ y.cps.toList))) O) : rv (fun x y H Q => ∃ (c : Nat) (z : Str), x = V.str ⟨#[c]⟩ ∧ y = .str z ∧ Q (.bl (decide (c ∈ z.cps.toList))) H) L as O (.str ⟨#[c]⟩) (.str y) k := fun F H x y hd ow r1 r2 Q q => by
  cases r1
  cases r2
  exact ⟨c, _, rfl, rfl, q F H as O _ _ (.refl ..) hd ow (.bl _) z⟩
theorem rv_ninS {c : Nat} {y : Str} (z : k as (.bl (!decide (c ∈ y.cps.toList))) O) : rv (fun x y H Q => ∃ (c : Nat) (z : Str), x = V.str ⟨#[c]⟩ ∧ y = .str z ∧ Q (.bl (!decide (c ∈ z.cps.toList))) H) L as O (.str ⟨#[c]⟩) (.str y) k := fun F H x y hd ow r1 r2 Q q => by
  cases r1
  cases r2
  exact ⟨c, _, rfl, rfl, q F H as O _ _ (.refl ..) hd ow (.bl _) z⟩
theorem inV_strs {x : Str} : ∀ {zs : List Str}, inV (.str x) (zs.map V.str) = decide (x ∈ zs)
  | [] => by simp [inV]
  | y :: zs => by
    have ih := inV_strs (x := x) (zs := zs)
    unfold inV at ih ⊢
    rw [List.map_cons, List.any_cons, ih]
    show ((y == x) || decide (x ∈ zs)) = decide (x ∈ y :: zs)
    by_cases e : x = y
    · subst e; simp
    · have : (y == x) = false := by simp; exact fun z => e z.symm
      rw [this]; simp [e]
theorem flat_strs : ∀ zs : List Str, (zs.map V.str).all flatV = true
  | [] => rfl
  | _ :: zs => flat_strs zs
theorem rv_inL {x : Str} {zs : List Str} {neg : Bool} (h : lstR as O KK d2 (zs.map D.str)) (z : k as (.bl (if neg then !decide (x ∈ zs) else decide (x ∈ zs))) O) : rv (rIn KK neg) L as O (.str x) d2 k := fun F H u y hd ow r1 r2 Q q => by
  cases r1
  obtain ⟨a, xs, rfl, s, r'⟩ := lr_at hd ow r2 h
  have ex := r'.strs
  subst ex
  refine ⟨a, _, rfl, .inl s, rfl, flat_strs zs, ?_⟩
  rw [inV_strs]
  exact q F H as O _ _ (.refl ..) hd ow (.bl _) z
theorem rv_inT {x : Str} {zs : List Str} {neg : Bool} (z : k as (.bl (if neg then !decide (x ∈ zs) else decide (x ∈ zs))) O) : rv (rIn KK neg) L as O (.str x) (.tup (zs.map D.str)) k := fun F H u y hd ow r1 r2 Q q => by
  cases r1
  cases r2 with
  | tup e r' =>
    have ex := r'.strs
    subst ex
    refine ⟨_, _, rfl, .inr (hd.tq e), rfl, flat_strs zs, ?_⟩
    rw [inV_strs]
    exact q F H as O _ _ (.refl ..) hd ow (.bl _) z
def tyD : D → Option String
  | .non => some "NoneType" | .bl _ => some "bool" | .int _ => some "int" | .str _ => some "str"
  | .tup _ => some "tuple" | .lst _ => some "list" | _ => none
theorem ty_of {F H : Hp} {v : V} {a : String} (hd : Hd L F H) (r : R F v d) (h : tyD d = some a) : TyX KK H v (.type a) := by
  cases r with
  | non => cases h; exact .base .non
  | bl b => cases h; exact .base (.bl b)
  | int i => cases h; exact .base (.int i)
  | str x => cases h; exact .base (.str x)
  | tup e r =>
    cases h
    rcases hd.tupR e with h | ⟨o, h⟩
    · exact .base (.tup h)
    · exact .fTuple h
  | lst e r => cases h; exact .base (.lst (hd.lst e))
  | adr a => cases h
  | dk e r => cases h
  | ins e r => cases h
  | ldk e r => cases h
  | zst e r => cases h
  | zkl e r => cases h
  | zkt e r => cases h
  | exc e r => cases h
  | fz e r => cases h
  | ftp e c z r => cases h
theorem w_ty {n : String} {tr : TA} {kA : List Addr → List D → List D → Prop} {b : Bool} {t : String} (hd : tyD d = some t) (hb : kitB t n = some b) (z : k as (.bl b) O) (h : dE χ te L as ρ O fun as' d' O' => d' = d ∧ as' = as ∧ O' = O) :
    dE χ (tCB (rIsi KK) (tCons te (tCons (tC (.ty n)) tNil))) L as ρ O k := fun F H σ S x Q q =>
  h F H σ S x _ fun F1 H1 as1 O1 v d' g1 S1 r1 ⟨e1, e2, e3⟩ => by
    subst e1
    subst e2
    subst e3
    exact ⟨v, .ty n, .type t, .type n, b, rfl, .ty n, ty_of S1.hd r1 hd, kit_ty hb, q F1 H1 _ _ _ _ g1 S1 (.bl b) z⟩
theorem s_append {K : Kt} {i : Nat} {a : Addr} {ds0 : List D} (j : Nat) (hv : ρ[i]? = some (some (.adr a))) (ha : as[j]? = some a) (ho : O[j]? = some (.lst ds0))
    (h : dE χ te L as ρ O fun as d O => ∃ ds, as[j]? = some a ∧ O[j]? = some (.lst ds) ∧ ds.length < sizeLine ∧ K.nx as ρ (O.set j (.lst (ds ++ [d])))) : dS χ (tDrop (tBM KK "list" rAppend (tVar i) (tCons te tNil))) L as ρ O K :=
  s_drop (w_bm a (w_var hv ⟨rfl, ⟨j, _, ha, ho⟩, rfl, w_cons (h.imp fun as d O ⟨ds, e1, e2, hl, z⟩ => w_nil (rc_append j e1 e2 hl z))⟩))
theorem b_dec {c : Prop} [Decidable c] {A B : Prop} (h1 : c → A) (h2 : ¬ c → B) : ∃ b, D.bl (decide c) = .bl b ∧ if b = true then A else B := by
  refine ⟨_, rfl, ?_⟩
  by_cases h : c
  · rw [decide_eq_true h]; exact h1 h
  · rw [decide_eq_false h]; exact h2 h
theorem i_bl {x : Bool} {A B : Prop} (h1 : x = true → A) (h2 : x = false → B) : if x = true then A else B := by
  cases x with
  | true => exact h1 rfl
  | false => exact h2 rfl
theorem i_dec {c : Prop} [Decidable c] {A B : Prop} (h1 : c → A) (h2 : ¬ c → B) : if decide c = true then A else B := by
  by_cases h : c
  · rw [decide_eq_true h]; exact h1 h
  · rw [decide_eq_false h]; exact h2 h
theorem small {n : Nat} (h : n ≤ 100000) : n ≤ sizeLine := Nat.le_trans h (by decide)
theorem smallt {n : Nat} (h : n < 100000) : n < sizeLine := Nat.lt_of_lt_of_le h (by decide)
end
end DL
namespace DL
open PySem PySem.Spec PyProof.Rows L2
mutual
inductive Cz : D → Prop
  | non : Cz .non
  | bl (b : Bool) : Cz (.bl b)
  | int (i : Int) : Cz (.int i)
  | str (x : Str) : Cz (.str x)
  | adr (a : Addr) : Cz (.adr a)
  | tup {ds : List D} : Czs ds → Cz (.tup ds)
  | lst {ds : List D} : Czs ds → Cz (.lst ds)
  | dk {kds : List (Key × D)} : Czk kds → Cz (.dk kds)
  | ins {C : Addr} {fds : List (Str × D)} : Czn fds → Cz (.ins C fds)
  | ldk {a : Addr} {kds : List (Key × D)} : Czk kds → Cz (.ldk a kds)
  | ftp {ds : List D} : Czs ds → Cz (.ftp ds)
inductive Czs : List D → Prop
  | nil : Czs []
  | cons {d : D} {ds : List D} : Cz d → Czs ds → Czs (d :: ds)
inductive Czk : List (Key × D) → Prop
  | nil : Czk []
  | cons {k : Key} {d : D} {ds : List (Key × D)} : Cz d → Czk ds → Czk ((k, d) :: ds)
inductive Czn : List (Str × D) → Prop
  | nil : Czn []
  | cons {k : Str} {d : D} {ds : List (Str × D)} : Cz d → Czn ds → Czn ((k, d) :: ds)
end
theorem czs_of : ∀ {ds : List D}, (∀ d ∈ ds, Cz d) → Czs ds
  | [], _ => .nil
  | _ :: _, h => .cons (h _ List.mem_cons_self) (czs_of fun d m => h d (List.mem_cons_of_mem _ m))
def cutF (F : Hp) (a : Addr) : Hp := fun b => if b = a then none else F b
theorem cutF_ne {F : Hp} {a b : Addr} (h : b ≠ a) : cutF F a b = F b := if_neg h
theorem cutF_same {F : Hp} {a : Addr} : cutF F a a = none := if_pos rfl
theorem cutF_at {F : Hp} {a b : Addr} {o u : HO} (fa : F a = some o) (e : F b = some u) (n : u ≠ o) : cutF F a b = some u := by
  rw [cutF_ne (show b ≠ a from fun z => by subst z; rw [fa] at e; exact n (Option.some.inj e).symm)]
  exact e
theorem Td.cut {F : Hp} {a b : Addr} {ob : Obj} {xs0 : List V} {xs : List V} (fa : F a = some (.frz ob (.lst xs0))) (h : Td F b xs) : Td (cutF F a) b xs := h.imp (fun h => cutF_at fa h (fun z => nomatch z)) fun ⟨o, h⟩ => ⟨o, cutF_at fa h (fun z => nomatch z)⟩
theorem Cz.tupI {ds : List D} (c : Cz (.tup ds)) : Czs ds := by cases c; assumption
theorem Cz.ftpI {ds : List D} (c : Cz (.ftp ds)) : Czs ds := by cases c; assumption
theorem Cz.lstI {ds : List D} (c : Cz (.lst ds)) : Czs ds := by cases c; assumption
theorem Cz.dkI {ds : List (Key × D)} (c : Cz (.dk ds)) : Czk ds := by cases c; assumption
theorem Cz.ldkI {a : Addr} {ds : List (Key × D)} (c : Cz (.ldk a ds)) : Czk ds := by cases c; assumption
theorem Cz.insI {C : Addr} {ds : List (Str × D)} (c : Cz (.ins C ds)) : Czn ds := by cases c; assumption
theorem Czs.hd {d : D} {ds : List D} (c : Czs (d :: ds)) : Cz d := by cases c; assumption
theorem Czs.tl {d : D} {ds : List D} (c : Czs (d :: ds)) : Czs ds := by cases c; assumption
theorem Czk.hd {k : Key} {d : D} {ds : List (Key × D)} (c : Czk ((k, d) :: ds)) : Cz d := by cases c; assumption
theorem Czk.tl {k : Key} {d : D} {ds : List (Key × D)} (c : Czk ((k, d) :: ds)) : Czk ds := by cases c; assumption
theorem Czn.hd {k : Str} {d : D} {ds : List (Str × D)} (c : Czn ((k, d) :: ds)) : Cz d := by cases c; assumption
theorem Czn.tl {k : Str} {d : D} {ds : List (Str × D)} (c : Czn ((k, d) :: ds)) : Czn ds := by cases c; assumption
theorem Cz.noZ {ds : List D} (c : Cz (.zst ds)) : False := by cases c
theorem Cz.noZl {K : PySem.W.Frag} {ds : List D} (c : Cz (.zkl K ds)) : False := by cases c
theorem Cz.noE {a C dd : Addr} {fds : List (Str × D)} (c : Cz (.exc a C dd fds)) : False := by cases c
theorem Cz.noF {o : HO} {ds : List (Key × D)} (c : Cz (.fz o ds)) : False := by cases c
theorem Cz.noZt {K : PySem.W.Frag} {ds : List D} (c : Cz (.zkt K ds)) : False := by cases c
section
variable {F : Hp} {a : Addr} {ob : Obj} {xs0 : List V} (fa : F a = some (.frz ob (.lst xs0)))
include fa
mutual
theorem R.cut : ∀ {v : V} {d : D}, R F v d → Cz d → R (cutF F a) v d
  | _, _, .non, _ => .non
  | _, _, .bl b, _ => .bl b
  | _, _, .int i, _ => .int i
  | _, _, .str x, _ => .str x
  | _, _, .adr a, _ => .adr a
  | _, _, .tup h r, c => .tup (Td.cut fa h) (Rs.cut' r c.tupI)
  | _, _, .lst h r, c => .lst (cutF_at fa h (fun z => nomatch z)) (Rs.cut' r c.lstI)
  | _, _, .dk h r, c => .dk (cutF_at fa h (fun z => nomatch z)) (Rk.cut r c.dkI)
  | _, _, .ins h r, c => .ins (cutF_at fa h (fun z => nomatch z)) (Rn.cut r c.insI)
  | _, _, .ldk h r, c => .ldk (cutF_at fa h (fun z => nomatch z)) (Rk.cut r c.ldkI)
  | _, _, .zst _ _, c => c.noZ.elim
  | _, _, .zkl _ _, c => c.noZl.elim
  | _, _, .zkt _ _, c => c.noZt.elim
  | _, _, .exc _ _, c => c.noE.elim
  | _, _, .fz _ _, c => c.noF.elim
  | _, _, .ftp h i z r, c => .ftp (cutF_at fa h (fun z => nomatch z)) i z (Rs.cut' r c.ftpI)
theorem Rs.cut' : ∀ {v : List V} {d : List D}, Rs F v d → Czs d → Rs (cutF F a) v d
  | _, _, .nil, _ => .nil
  | _, _, .cons r t, c => .cons (R.cut r c.hd) (Rs.cut' t c.tl)
theorem Rk.cut : ∀ {v : List (Key × V)} {d : List (Key × D)}, Rk F v d → Czk d → Rk (cutF F a) v d
  | _, _, .nil, _ => .nil
  | _, _, .cons r t, c => .cons (R.cut r c.hd) (Rk.cut t c.tl)
theorem Rn.cut : ∀ {v : List (Str × V)} {d : List (Str × D)}, Rn F v d → Czn d → Rn (cutF F a) v d
  | _, _, .nil, _ => .nil
  | _, _, .cons r t, c => .cons (R.cut r c.hd) (Rn.cut t c.tl)
end
end
theorem Cn.cut {F : Hp} {a : Addr} {ob : Obj} {xs0 : List V} (fa : F a = some (.frz ob (.lst xs0))) : ∀ {o : HO} {d : D}, Cn F o d → Cz d → Cn (cutF F a) o d
  | _, _, .tup r, c => .tup (Rs.cut' fa r c.tupI)
  | _, _, .lst r, c => .lst (Rs.cut' fa r c.lstI)
  | _, _, .dk r, c => .dk (Rk.cut fa r c.dkI)
  | _, _, .ins r, c => .ins (Rn.cut fa r c.insI)
  | _, _, .fz _, c => c.noF.elim
section
variable {χ : Xk} {L : List Addr} {as : List Addr} {ρ : DSt} {O : List D} {k : List Addr → D → List D → Prop} {kT : List Addr → Bool → List D → Prop} {kA kI : List Addr → List D → List D → Prop} {ta tb td ty te : TE} {tt tu : TT} {d d1 d2 : D} {KK : PySem.W.Frag}
theorem w_lend (j i : Nat) (a : Addr) (ds : List D) (ha : as[j]? = some a) (hc : O[j]? = some (.lst ds)) (hi : ρ[i]? = some (some (.adr a)))
    (h : dE X0 te L (as.eraseIdx j) (ρ.set i (some (.zst ds))) (O.eraseIdx j) fun as' d' O' => Cz d' ∧ (∀ c ∈ O', Cz c) ∧ k (as' ++ [a]) d' (O' ++ [.lst ds])) : dE χ te L as ρ O k := fun F H σ S x Q q => by
  obtain ⟨hf, o, ho, cn⟩ := S.own.at_ j a _ ha hc
  cases cn with
  | @lst xs _ rr =>
    let F1 : Hp := upd F a (.frz default (.lst xs))
    have fa : F1 a = some (.frz default (.lst xs)) := upd_same
    have ex1 : Ex F F1 := ex_lay hf
    have nL : a ∉ L := fun m => S.hd.lk a m hf
    have hd1 : Hd L F1 H := {
      at_ := fun b u e => by
        by_cases z : b = a
        · subst z
          rw [fa] at e
          cases e
          exact .inr (.inr ⟨nL, _, _, rfl, ho⟩)
        · have e : upd F a _ b = some u := e
          rw [upd_ne z] at e
          exact S.hd.at_ b u e
      lk := fun b m e => by
        have e : upd F a _ b = none := e
        by_cases z : b = a
        · subst z; rw [upd_same] at e; cases e
        · rw [upd_ne z] at e; exact S.hd.lk b m e }
    have own1 : Own F1 H (as.eraseIdx j) (O.eraseIdx j) := (S.own.drop j).keep ex1 (fun b m => by
      have z : b ≠ a := fun y => nodup_eraseIdx S.own.nd ha (y ▸ m)
      show upd F a _ b = none
      rw [upd_ne z]
      exact S.own.free (List.mem_of_mem_eraseIdx m)) fun _ _ _ h => h
    obtain ⟨v, e, r⟩ := S.sl.get hi
    cases r
    have r' : R F1 (.ref a) (.zst ds) := .zst fa (rr.mono ex1)
    have hs : σ.set i (some (.ref a)) = σ := by
      apply List.ext_getElem?
      intro n
      by_cases q : i = n
      · subst q
        rw [List.getElem?_set_self (List.getElem?_eq_some_iff.mp e).1, e]
      · rw [List.getElem?_set_ne q]
    have S1 : Rep L (as.eraseIdx j) F1 H σ (ρ.set i (some (.zst ds))) (O.eraseIdx j) := ⟨hd1, own1, by rw [← hs]; exact (S.sl.mono ex1).set r' i⟩
    refine h F1 H σ S1 xp0 _ fun F2 H2 as2 O2 v2 d2 g2 S2 r2 ⟨c2, cO, z2⟩ => ?_
    have fa2 : F2 a = some (.frz default (.lst xs)) := g2.ex _ _ fa
    have nA : a ∉ as.eraseIdx j := nodup_eraseIdx S.own.nd ha
    have h2 : H2 a = some (.lst xs) := g2.kp a _ ho nA
    have exc : Ex F (cutF F2 a) := fun b u e => by
      have z : b ≠ a := fun z => by rw [z, hf] at e; cases e
      rw [cutF_ne z]
      exact g2.ex _ _ (ex1 _ _ e)
    have nA2 : a ∉ as2 := fun m => by
      rcases g2.sub a m with m | m
      · exact nA m
      · rw [ho] at m; cases m
    refine q (cutF F2 a) H2 (as2 ++ [a]) (O2 ++ [.lst ds]) v2 d2 ?_ ⟨?_, ?_, S.sl.mono exc⟩ (R.cut fa2 r2 c2) z2
    · refine ⟨exc, fun b u e => ?_, fun b u e n => g2.kp b u e fun m => n (List.mem_of_mem_eraseIdx m), g2.th, fun b m => ?_⟩
      · by_cases z : b = a
        · rw [z]; exact .inr (.inr (List.mem_of_getElem? ha))
        · rw [cutF_ne z] at e
          rcases g2.nw b u e with e | e | e
          · have e : upd F a _ b = some u := e
            rw [upd_ne z] at e; exact .inl e
          · exact .inr (.inl e)
          · exact .inr (.inr (List.mem_of_mem_eraseIdx e))
      · rcases List.mem_append.mp m with m | m
        · rcases g2.sub b m with m | m
          · exact .inl (List.mem_of_mem_eraseIdx m)
          · exact .inr m
        · simp at m; subst m; exact .inl (List.mem_of_getElem? ha)
    · refine ⟨fun b u e => ?_, fun b m e => ?_⟩
      · by_cases z : b = a
        · rw [z, cutF_same] at e; cases e
        · rw [cutF_ne z] at e; exact S2.hd.at_ b u e
      · by_cases z : b = a
        · exact nL (z ▸ m)
        · rw [cutF_ne z] at e; exact S2.hd.lk b m e
    · refine ⟨?_, by simp [S2.own.len], fun i b d' e1 e2 => ?_⟩
      · rw [List.nodup_append]
        refine ⟨S2.own.nd, by simp, fun x m y m' z => ?_⟩
        simp at m'
        subst m'; subst z
        exact nA2 m
      · rcases Nat.lt_trichotomy i as2.length with z | z | z
        · rw [List.getElem?_append_left z] at e1
          rw [List.getElem?_append_left (S2.own.len ▸ z)] at e2
          obtain ⟨f1, o', f2, f3⟩ := S2.own.at_ i b d' e1 e2
          have nb : b ≠ a := fun y => nA2 (y ▸ List.mem_of_getElem? e1)
          exact ⟨by rw [cutF_ne nb]; exact f1, o', f2, Cn.cut fa2 f3 (cO _ (List.mem_of_getElem? e2))⟩
        · rw [List.getElem?_append_right (Nat.le_of_eq z.symm)] at e1
          rw [List.getElem?_append_right (by rw [← S2.own.len]; exact Nat.le_of_eq z.symm), ← S2.own.len] at e2
          rw [z] at e1 e2
          simp at e1 e2
          subst e1; subst e2
          exact ⟨cutF_same, _, h2, .lst (rr.mono exc)⟩
        · rw [List.getElem?_eq_none (by simp; omega)] at e1
          cases e1
def lstF (K : PySem.W.Frag) (d : D) (ds : List D) : Prop := d = .lst ds ∨ d = .zst ds ∨ d = .zkl K ds
theorem lf_at {F : Hp} {v : V} {ds : List D} (r : R F v d) (h : lstF KK d ds) : ∃ a xs, v = .ref a ∧ Rs F xs ds ∧ ∀ F2 H2, Ex F F2 → Hd L F2 H2 → SqL KK H2 a xs := by
  rcases h with rfl | rfl | rfl
  · cases r with
    | lst e r => exact ⟨_, _, rfl, r, fun F2 H2 ee hd => SqL.of (hd.lst (ee _ _ e))⟩
  · cases r with
    | zst e r => exact ⟨_, _, rfl, r, fun F2 H2 ee hd => .inl (hd.zst (ee _ _ e))⟩
  · cases r with
    | zkl e r => exact ⟨_, _, rfl, r, fun F2 H2 _ _ => e H2⟩
theorem i_listF (h : dE χ te L as ρ O fun as d O => ∃ ds, lstF KK d ds ∧ kI as ds O) : dI χ (iList KK te) L as ρ O kI := fun F H σ S x Q q =>
  h F H σ S x _ fun F1 H1 as1 O1 v d g1 S1 r1 ⟨ds, hl, z⟩ => by
    obtain ⟨a, xs, rfl, r, hs⟩ := lf_at (L := L) r1 hl
    exact ⟨_, rfl, ⟨_, hs _ _ (fun _ _ h => h) S1.hd⟩, q F1 H1 as1 O1 _ ds g1 S1 (itd_at walk_list r hs) z⟩
theorem i_enumF {ta : TA} (h : dA χ ta L as ρ O fun as ds O => ∃ d es, ds = [d] ∧ lstF KK d es ∧ kI as (enumD es) O) : dI χ (iEnum KK ta) L as ρ O kI := fun F H σ S x Q q =>
  h F H σ S x _ fun F1 H1 as1 O1 vs ds g1 S1 r1 ⟨d, es, hd, hl, z⟩ => by
    subst hd
    cases r1 with
    | cons r1 r2 =>
      cases r2
      obtain ⟨a, xs, rfl, r, hs⟩ := lf_at (L := L) r1 hl
      refine ⟨a, xs, rfl, hs _ _ (fun _ _ h => h) S1.hd, q F1 H1 as1 O1 _ (enumD es) g1 S1 ⟨_, _, by rw [enum_len, ← r.length]; exact walk_enum, fun F2 H2 _ gg hd => hs _ _ gg.ex hd, fun i as H H' x F2 O hi ee hd ow y => ?_⟩ z⟩
      obtain ⟨T, x1, x2, rfl, hT, rfl, f1, f2⟩ := y
      cases f1
      obtain ⟨d, e2, rd⟩ := r.get' f2
      obtain ⟨F3, g3, h3, o3, r3⟩ := lay_pair hd ow hT (.int (i : Nat)) (rd.mono ee)
      refine ⟨F3, _, ?_, g3, h3, o3, r3⟩
      unfold enumD
      rw [List.getElem?_map, List.getElem?_zipIdx, e2]
      simp
theorem rc_lenF {ds : List D} (h : lstF KK d ds) (z : k as (.int ds.length) O) : rc (fun xs H Q => ∃ x n, xs = [x] ∧ LenV KK x H n ∧ Q (.int n) H) L as O [d] k := fun F H xs hd ow r Q q => by
  cases r with
  | cons r1 r2 =>
    cases r2
    obtain ⟨a, xs, rfl, r, hs⟩ := lf_at (L := L) r1 h
    exact ⟨_, _, rfl, .inl ⟨_, hs _ _ (fun _ _ h => h) hd, r.length.symm⟩, q F H as O _ _ (.refl ..) hd ow (.int _) z⟩
theorem w_fld {f : Str} (h : dE χ ta L as ρ O fun as d O => ∃ C fds d', insOf as O d C fds ∧ Cls KK C ∧ NoAttr KK C f ∧ fds.lookup f = some d' ∧ k as d' O) : dE χ (tFld KK ta f) L as ρ O k := fun F H σ S x Q q =>
  h F H σ S x _ fun F1 H1 as1 O1 v d g1 S1 r1 ⟨C, fds, d', i, hc, hn, hl, z⟩ => by
    obtain ⟨a, dx, fs, rfl, e, rn⟩ := ins_at S1.hd S1.own r1 i
    obtain ⟨v', e', r'⟩ := rn.get hl
    exact ⟨a, C, dx, fs, v', rfl, e, hc, hn, e', q F1 H1 as1 O1 v' d' g1 S1 r' z⟩
def putD (f : Str) (y : D) : List (Str × D) → List (Str × D)
  | [] => [(f, y)]
  | (g, x) :: r => if g = f then (g, y) :: r else (g, x) :: putD f y r
theorem Rn.put {F : Hp} {f : Str} {v : V} {y : D} (q : R F v y) : ∀ {fs : List (Str × V)} {fds : List (Str × D)}, Rn F fs fds → Rn F (putF f v fs) (putD f y fds)
  | _, _, .nil => .cons q .nil
  | _, _, .cons (k := g) r t => by
    unfold putF putD
    by_cases e : g = f
    · rw [if_pos e, if_pos e]; exact .cons q t
    · rw [if_neg e, if_neg e]; exact .cons r (Rn.put q t)
theorem s_fld {K : Kt} {f : Str} {tv : TE} (h : dE χ tv L as ρ O fun as y O => dE χ ta L as ρ O fun as d O => ∃ (j : Nat) (a C : Addr) (fds : List (Str × D)), d = .adr a ∧ as[j]? = some a ∧ O[j]? = some (.ins C fds) ∧ Cls KK C ∧ NoAttr KK C f ∧ fds.length < 1000 ∧ K.nx as ρ (O.set j (.ins C (putD f y fds)))) :
    dS χ (sFld KK ta tv f) L as ρ O K := fun F H σ S x Z z =>
  h F H σ S x _ fun F1 H1 as1 O1 v y g1 S1 r1 z1 => z1 F1 H1 σ S1 (x.go g1) _ fun F2 H2 as2 O2 u d g2 S2 r2 ⟨j, a, C, fds, ed, ha, ho, hc, hn, hl, z2⟩ => by
    subst ed
    cases r2
    obtain ⟨hf, o, e, cn⟩ := S2.own.at_ j a _ ha ho
    cases cn with
    | @ins _ dx fs _ rn =>
      refine ⟨a, C, dx, fs, rfl, e, hc, hn, by rw [rn.length]; exact hl, ?_⟩
      exact z.nx F2 _ as2 σ ρ _ (g1.trans (g2.trans (go_upd (List.mem_of_getElem? ha)))) ⟨S2.hd.upd hf, S2.own.put (.ins (rn.put (r1.mono g2.ex))) ha, S2.sl⟩ z2
theorem w_make {C : Ct} {cl : Addr} {ta : TA} {E : XK} (js : List Nat) (h : dA χ ta L as ρ O fun as ds O => ∀ p, (js ++ [as.length]).Nodup ∧ (∀ j ∈ js, j < as.length) ∧ cc C X0 ρ (js ++ [as.length]) L (as ++ [p]) (.adr p :: ds) (O ++ [.ins cl []]) fun as' d O' => d = .non ∧ k as' (.adr p) O') :
    dE χ (tMake cl (spC C) [] E ta) L as ρ O k := fun F H σ S x Q q =>
  h F H σ S x _ fun F1 H1 as1 O1 vs ds g1 S1 r1 z1 p dx hp hdx ne => by
    rw [List.append_nil]
    obtain ⟨_, _, z1⟩ := z1 p
    have hd1 : Hd L F1 (upd H1 dx (.own p)) := S1.hd.upd (S1.hd.free hdx)
    have ow1 : Own F1 (upd H1 dx (.own p)) as1 O1 := S1.own.keep (fun _ _ h => h) (fun b m => S1.own.free m) fun b m o e => by
      rw [upd_ne (ne_of_none e hdx)]; exact e
    have hp1 : upd H1 dx (.own p) p = none := by rw [upd_ne (fun z => ne z.symm)]; exact hp
    have g2 : Go as1 F1 H1 as1 F1 (upd H1 dx (.own p)) := ⟨fun _ _ h => h, fun _ _ h => .inl h, fun b o e _ => by rw [upd_ne (ne_of_none e hdx)]; exact e, fun b e => by
      by_cases z : b = dx
      · subst z; exact hdx
      · rw [upd_ne z] at e; exact e, fun _ m => .inl m⟩
    have S2 : Rep L as1 F1 (upd H1 dx (.own p)) σ ρ O1 := ⟨hd1, ow1, S1.sl⟩
    have S3 := S2.new (o := .ins cl dx []) (d := .ins cl []) hp1 (.ins .nil)
    refine cc_sp S3 xp0 (.cons (.adr p) r1) z1 (fun _ _ _ z => z.elim) fun F' H' as' O' v d g S' r' ⟨ed, z'⟩ => ?_
    subst ed
    cases r'
    exact ⟨rfl, q F' H' as' O' _ _ (g1.trans (g2.trans ((go_new hp1).trans g))) S' (.adr p) z'⟩
theorem d_callE {C : Ct} {ta : TA} {E : XK} (h : dA χ ta L as ρ O fun as ds O => ∃ js, cc C X0 ρ js L as ds O k) : dE χ (tCall (spC C) [] E ta) L as ρ O k := fun F H σ S x Q q =>
  h F H σ S x _ fun F1 H1 as1 O1 vs ds g1 S1 r1 ⟨js, z1⟩ => by
    rw [List.append_nil]
    exact cc_sp S1 xp0 r1 z1 (fun _ _ _ z => z.elim) fun F' H' as' O' v d g => q F' H' as' O' v d (g1.trans g)
theorem w_append {i : Nat} {a : Addr} {ds0 : List D} (j : Nat) (hv : ρ[i]? = some (some (.adr a))) (ha : as[j]? = some a) (ho : O[j]? = some (.lst ds0))
    (h : dE χ te L as ρ O fun as d O => ∃ ds, as[j]? = some a ∧ O[j]? = some (.lst ds) ∧ ds.length < sizeLine ∧ k as .non (O.set j (.lst (ds ++ [d])))) : dE χ (tBM KK "list" rAppend (tVar i) (tCons te tNil)) L as ρ O k :=
  w_bm a (w_var hv ⟨rfl, ⟨j, _, ha, ho⟩, rfl, w_cons (h.imp fun as d O ⟨ds, e1, e2, hl, z⟩ => w_nil (rc_append j e1 e2 hl z))⟩)
theorem w_extend {i : Nat} {a : Addr} {ds0 : List D} (j : Nat) (hv : ρ[i]? = some (some (.adr a))) (ha : as[j]? = some a) (ho : O[j]? = some (.lst ds0))
    (h : dE χ te L as ρ O fun as d O => ∃ ds es, as[j]? = some a ∧ O[j]? = some (.lst ds) ∧ lstOf as O d es ∧ ds.length + es.length ≤ sizeLine ∧ k as .non (O.set j (.lst (ds ++ es)))) : dE χ (tBM KK "list" rExtend (tVar i) (tCons te tNil)) L as ρ O k :=
  w_bm a (w_var hv ⟨rfl, ⟨j, _, ha, ho⟩, rfl, w_cons (h.imp fun as d O ⟨ds, es, e1, e2, e3, hl, z⟩ => w_nil (rc_extend j e1 e2 e3 hl z))⟩)
theorem w_yes (z : kT as true O) : dT χ tYes L as ρ O kT := fun F H σ S x Q q => q F H as O true true (.refl ..) S rfl z
theorem w_map {α : Type} {wi : TI} {g : TG} {vs : List Nat} (hg : WG g vs) (h : dI χ wi L as ρ O fun as1 ds O1 => ∃ (xs : List α) (em : α → D) (f : α → D), ds = xs.map em ∧ xs.length < sizeLine ∧
    (∀ x ∈ xs, dG X0 g (em x) L as1 (wρ ρ vs) O1 fun as2 ρ2 O2 => as2 = as1 ∧ O2 = O1 ∧ dE X0 te L as1 ρ2 O1 fun as4 y O4 => as4 = as1 ∧ O4 = O1 ∧ y = f x) ∧
    ∀ q, k (as1 ++ [q]) (.adr q) (O1 ++ [.lst (xs.map f)])) : dE χ (tLc wi g tYes te vs) L as ρ O k := by
  refine w_lc hg fun F H σ S x Q q => h F H σ S x Q fun F1 H1 as1 O1 J ds g1 S1 it ⟨xs, em, f, e, hl, st, fin⟩ => q F1 H1 as1 O1 J ds g1 S1 it ⟨xs, em, fun _ => true, f, e, hl, fun x m => ?_, fun q => ?_⟩
  · intro F H σ v S xp r Q q
    exact st x m F H σ v S xp r Q fun F' H' as' σ' ρ' O' g S' ⟨e1, e2, z⟩ => q F' H' as' σ' ρ' O' g S' ⟨e1, e2, w_yes ⟨rfl, rfl, rfl, fun _ => z⟩⟩
  · have := fin q
    have e : (xs.filter fun _ => true) = xs := List.filter_eq_self.mpr fun _ _ => rfl
    rw [e]
    exact this
theorem s_mid {K : Kt} {ts tw : TS} {N : List Addr → DSt → List D → Prop} (h : dS χ ts L as ρ O { K with nx := N }) (i : ∀ as ρ O, N as ρ O → dS χ tw L as ρ O K) : dS χ (tSeq ts tw) L as ρ O K :=
  s_seq fun F H σ S x Z z => h F H σ S x Z ⟨fun F' H' as' σ' ρ' O' g S' n => z.nx F' H' as' σ' ρ' O' g S' (i _ _ _ n), z.rt, z.bk, z.ct⟩
def kD : Key → D
  | .inl i => .int i
  | .inr x => .str x
theorem key_at {F : Hp} {v : V} {k : Key} (r : R F v (kD k)) : v = kV k := by
  cases k with
  | inl i => cases r; rfl
  | inr x => cases r; rfl
theorem r_key {F : Hp} (k : Key) : R F (kV k) (kD k) := by
  cases k with
  | inl i => exact .int i
  | inr x => exact .str x
def valD (kds : List (Key × D)) (k : Key) : Option D := (kds.find? fun kv => decide (kv.1 = k)).map (·.2)
def putDk (kds : List (Key × D)) (k : Key) (y : D) : List (Key × D) :=
  if (kds.any fun kv => decide (kv.1 = k)) = true then kds.map (fun kv => if kv.1 = k then (kv.1, y) else kv) else kds ++ [(k, y)]
theorem Rk.val {F : Hp} {k : Key} : ∀ {kvs : List (Key × V)} {kds : List (Key × D)}, Rk F kvs kds → (∀ d, valD kds k = some d → ∃ v, valV kvs k = some v ∧ R F v d) ∧ (valD kds k = none → valV kvs k = none)
  | _, _, .nil => ⟨fun d h => (by cases h), fun _ => rfl⟩
  | _, _, .cons (k := j) (v := v) (vs := vs) (d := d) (ds := ds) r t => by
    obtain ⟨h1, h2⟩ := Rk.val (k := k) t
    by_cases e : j = k
    · rw [valV_pos (p := (j, v)) e]
      have : valD ((j, d) :: ds) k = some d := by simp [valD, List.find?_cons, e]
      rw [this]
      exact ⟨fun d' h => by cases h; exact ⟨v, rfl, r⟩, fun h => by cases h⟩
    · rw [valV_neg (p := (j, v)) e]
      have : valD ((j, d) :: ds) k = valD ds k := by simp [valD, List.find?_cons, e]
      rw [this]
      exact ⟨h1, h2⟩
theorem Rk.some_eq {F : Hp} {k : Key} {kvs : List (Key × V)} {kds : List (Key × D)} (r : Rk F kvs kds) : (valV kvs k).isSome = (valD kds k).isSome := by
  obtain ⟨h1, h2⟩ := r.val (k := k)
  cases e : valD kds k with
  | none => rw [h2 e]; rfl
  | some d => obtain ⟨v, e', _⟩ := h1 d e; rw [e']; rfl
theorem Rk.any {F : Hp} {k : Key} : ∀ {kvs : List (Key × V)} {kds : List (Key × D)}, Rk F kvs kds → (kvs.any fun kv => decide (kv.1 = k)) = (kds.any fun kv => decide (kv.1 = k))
  | _, _, .nil => rfl
  | _, _, .cons r t => by rw [List.any_cons, List.any_cons, Rk.any t]
theorem Rk.snoc {F : Hp} {k : Key} {v : V} {y : D} (q : R F v y) : ∀ {kvs : List (Key × V)} {kds : List (Key × D)}, Rk F kvs kds → Rk F (kvs ++ [(k, v)]) (kds ++ [(k, y)])
  | _, _, .nil => .cons q .nil
  | _, _, .cons r t => .cons r (Rk.snoc q t)
theorem Rk.map {F : Hp} {k : Key} {v : V} {y : D} (q : R F v y) : ∀ {kvs : List (Key × V)} {kds : List (Key × D)}, Rk F kvs kds → Rk F (kvs.map fun kv => if kv.1 = k then (kv.1, v) else kv) (kds.map fun kv => if kv.1 = k then (kv.1, y) else kv)
  | _, _, .nil => .nil
  | _, _, .cons (k := j) r t => by
    rw [List.map_cons, List.map_cons]
    by_cases e : j = k
    · rw [if_pos e, if_pos e]; exact .cons q (Rk.map q t)
    · rw [if_neg e, if_neg e]; exact .cons r (Rk.map q t)
theorem Rk.put {F : Hp} {k : Key} {v : V} {y : D} (q : R F v y) {kvs : List (Key × V)} {kds : List (Key × D)} (r : Rk F kvs kds) : Rk F (putK kvs k v) (putDk kds k y) := by
  unfold putK putDk
  rw [r.any]
  by_cases e : (kds.any fun kv => decide (kv.1 = k)) = true
  · rw [if_pos e, if_pos e]; exact r.map q
  · rw [if_neg e, if_neg e]; exact r.snoc q
def dkOf (as : List Addr) (O : List D) (d : D) (kds : List (Key × D)) : Prop := (d = .dk kds ∨ ∃ a, d = .ldk a kds) ∨ ∃ (j : Nat) (a : Addr), d = .adr a ∧ as[j]? = some a ∧ O[j]? = some (.dk kds)
theorem dk_at {F H : Hp} {v : V} {kds : List (Key × D)} (hd : Hd L F H) (ow : Own F H as O) (r : R F v d) (h : dkOf as O d kds) : ∃ a kvs, v = .ref a ∧ Rd H a (.dK kvs) ∧ Rk F kvs kds := by
  rcases h with (rfl | ⟨a, rfl⟩) | ⟨j, a, rfl, e1, e2⟩
  · cases r with
    | dk e r => exact ⟨_, _, rfl, hd.dk e, r⟩
  · cases r with
    | ldk e r => exact ⟨_, _, rfl, hd.dk e, r⟩
  · cases r
    obtain ⟨_, o, e, c⟩ := ow.at_ j a _ e1 e2
    cases c with
    | dk r => exact ⟨_, _, rfl, .inl e, r⟩
theorem dget_of {F H : Hp} {v y : V} {kds : List (Key × D)} {c : Key} (hd : Hd L F H) (ow : Own F H as O) (r : R F v d) (h : dkOf as O d kds) (ry : R F y (kD c)) : ∃ a o, v = .ref a ∧ DGet H a y o ∧ o.isSome = (valD kds c).isSome ∧ ∀ e, valD kds c = some e → ∃ w, o = some w ∧ R F w e := by
  obtain ⟨a, kvs, rfl, rd, rk⟩ := dk_at hd ow r h
  exact ⟨a, valV kvs c, rfl, .inl ⟨kvs, c, rd, key_at ry, rfl⟩, rk.some_eq, fun e he => (rk.val (k := c)).1 e he⟩
theorem w_din (h : dE χ ty L as ρ O fun as y O => dE χ td L as ρ O fun as d O => ∃ c kds, y = kD c ∧ dkOf as O d kds ∧ k as (.bl (valD kds c).isSome) O) : dE χ (tDIn ty td) L as ρ O k := fun F H σ S x Q q =>
  h F H σ S x _ fun F1 H1 as1 O1 vy y g1 S1 r1 z1 => z1 F1 H1 σ S1 (x.go g1) _ fun F2 H2 as2 O2 v d g2 S2 r2 ⟨c, kds, ey, hk, z⟩ => by
    subst ey
    obtain ⟨a, o, rfl, g, eo, _⟩ := dget_of S2.hd S2.own r2 hk (r1.mono g2.ex)
    exact ⟨a, o, rfl, g, by rw [eo]; exact q F2 H2 as2 O2 _ _ (g1.trans g2) S2 (.bl _) z⟩
theorem w_dnin (h : dE χ ty L as ρ O fun as y O => dE χ td L as ρ O fun as d O => ∃ c kds, y = kD c ∧ dkOf as O d kds ∧ k as (.bl (!(valD kds c).isSome)) O) : dE χ (tDNotIn ty td) L as ρ O k := fun F H σ S x Q q =>
  h F H σ S x _ fun F1 H1 as1 O1 vy y g1 S1 r1 z1 => z1 F1 H1 σ S1 (x.go g1) _ fun F2 H2 as2 O2 v d g2 S2 r2 ⟨c, kds, ey, hk, z⟩ => by
    subst ey
    obtain ⟨a, o, rfl, g, eo, _⟩ := dget_of S2.hd S2.own r2 hk (r1.mono g2.ex)
    exact ⟨a, o, rfl, g, by rw [eo]; exact q F2 H2 as2 O2 _ _ (g1.trans g2) S2 (.bl _) z⟩
theorem w_dget (h : dE χ td L as ρ O fun as d O => dE χ ty L as ρ O fun as2 y O2 => as2 = as ∧ O2 = O ∧ ∃ c kds e, y = kD c ∧ dkOf as O d kds ∧ valD kds c = some e ∧ k as e O) : dE χ (tDGet td ty) L as ρ O k := fun F H σ S x Q q =>
  h F H σ S x _ fun F1 H1 as1 O1 v d g1 S1 r1 z1 => z1 F1 H1 σ S1 (x.go g1) _ fun F2 H2 as2 O2 vy y g2 S2 r2 ⟨e1, e2, c, kds, e, ey, hk, he, z⟩ => by
    subst e1
    subst e2
    subst ey
    obtain ⟨a, o, rfl, g, _, eo⟩ := dget_of S2.hd S2.own (r1.mono g2.ex) hk r2
    obtain ⟨w, rfl, rw'⟩ := eo e he
    exact ⟨a, w, rfl, g, q F2 H2 _ _ _ _ (g1.trans g2) S2 rw' z⟩
theorem s_dput {K : Kt} {tv : TE} (h : dE χ tv L as ρ O fun as v O => dE χ td L as ρ O fun as d O => dE χ ty L as ρ O fun as y O => ∃ (j : Nat) (a : Addr) (c : Key) (kds : List (Key × D)), y = kD c ∧ d = .adr a ∧ as[j]? = some a ∧ O[j]? = some (.dk kds) ∧ kds.length < sizeLine ∧ K.nx as ρ (O.set j (.dk (putDk kds c v)))) :
    dS χ (sDPut td ty tv) L as ρ O K := fun F H σ S x Z z =>
  h F H σ S x _ fun F1 H1 as1 O1 v dv g1 S1 r1 z1 => z1 F1 H1 σ S1 (x.go g1) _ fun F2 H2 as2 O2 u d g2 S2 r2 z2 => z2 F2 H2 σ S2 (x.go (g1.trans g2)) _ fun F3 H3 as3 O3 y dy g3 S3 r3 ⟨j, a, c, kds, ey, ed, ha, ho, hl, z3⟩ => by
    subst ey
    subst ed
    cases r2
    obtain ⟨hf, o, e, cn⟩ := S3.own.at_ j a _ ha ho
    cases cn with
    | @dk kvs _ rk =>
      refine ⟨a, _, rfl, .inl ⟨kvs, c, e, key_at r3, by rw [rk.length]; exact hl, rfl⟩, ?_⟩
      exact z.nx F3 _ as3 σ ρ _ (g1.trans (g2.trans (g3.trans (go_upd (List.mem_of_getElem? ha))))) ⟨S3.hd.upd hf, S3.own.put (.dk (rk.put ((r1.mono g2.ex).mono g3.ex))) ha, S3.sl⟩ z3
theorem w_dsetd {tx : TE} (h : dE χ td L as ρ O fun as d O => (∃ kds, dkOf as O d kds) ∧ dE χ ty L as ρ O fun as y O => dE χ tx L as ρ O fun as v O => ∃ (j : Nat) (a : Addr) (c : Key) (kds : List (Key × D)), y = kD c ∧ d = .adr a ∧ as[j]? = some a ∧ O[j]? = some (.dk kds) ∧ kds.length < sizeLine ∧
    (∀ e, valD kds c = some e → k as e O) ∧ (valD kds c = none → k as v (O.set j (.dk (putDk kds c v))))) : dE χ (tDSetd td ty tx) L as ρ O k := fun F H σ S x Q q =>
  h F H σ S x _ fun F1 H1 as1 O1 u d g1 S1 r1 ⟨⟨kds0, hk0⟩, z1⟩ => by
    obtain ⟨a0, kvs0, rfl, rd0, _⟩ := dk_at S1.hd S1.own r1 hk0
    refine ⟨a0, rfl, .inl ⟨kvs0, rd0⟩, ?_⟩
    refine z1 F1 H1 σ S1 (x.go g1) _ fun F2 H2 as2 O2 y dy g2 S2 r2 z2 => z2 F2 H2 σ S2 (x.go (g1.trans g2)) _ fun F3 H3 as3 O3 v dv g3 S3 r3 ⟨j, a, c, kds, ey, ed, ha, ho, hl, y1, y2⟩ => ?_
    subst ey
    subst ed
    cases r1
    obtain ⟨hf, o, e, cn⟩ := S3.own.at_ j _ _ ha ho
    cases cn with
    | @dk kvs _ rk =>
      have gg := g1.trans (g2.trans g3)
      obtain ⟨v1, v2⟩ := rk.val (k := c)
      refine ⟨kvs, c, e, key_at (r2.mono g3.ex), by rw [rk.length]; exact hl, fun w hw => ?_, fun hn => ?_⟩
      · cases ev : valD kds c with
        | none => rw [v2 ev] at hw; cases hw
        | some e' =>
          obtain ⟨w', hw', rw'⟩ := v1 e' ev
          rw [hw] at hw'
          cases hw'
          exact q F3 H3 as3 O3 _ _ gg S3 rw' (y1 e' ev)
      · have ev : valD kds c = none := by
          have := rk.some_eq (k := c)
          rw [hn] at this
          cases ev : valD kds c with
          | none => rfl
          | some _ => rw [ev] at this; cases this
        exact q F3 _ as3 _ _ _ (gg.trans (go_upd (List.mem_of_getElem? ha))) ⟨S3.hd.upd hf, S3.own.put (.dk (rk.put r3)) ha, S3.sl⟩ r3 (y2 ev)
theorem Hd.dkU {F H : Hp} {a : Addr} {kvs : List (Key × V)} (hd : Hd [] F H) (e : F a = some (.dK kvs)) : H a = some (.dK kvs) := by
  rcases hd.at_ a _ e with ⟨_, e'⟩ | ⟨m, _⟩ | ⟨_, _, _, y, _⟩
  · exact e'
  · cases m
  · cases y
theorem dk_un {F H : Hp} {v : V} {kds : List (Key × D)} (hd : Hd [] F H) (ow : Own F H as O) (r : R F v d) (h : dkOf as O d kds) : ∃ a kvs, v = .ref a ∧ H a = some (.dK kvs) ∧ Rk F kvs kds := by
  rcases h with (rfl | ⟨a, rfl⟩) | ⟨j, a, rfl, e1, e2⟩
  · cases r with
    | dk e r => exact ⟨_, _, rfl, hd.dkU e, r⟩
  · cases r with
    | ldk e r => exact ⟨_, _, rfl, hd.dkU e, r⟩
  · cases r
    obtain ⟨_, o, e, c⟩ := ow.at_ j a _ e1 e2
    cases c with
    | dk r => exact ⟨_, _, rfl, e, r⟩
theorem rc_lenD {kds : List (Key × D)} (h : dkOf as O d kds) (z : k as (.int kds.length) O) : rc (fun xs H Q => ∃ a kvs, xs = [V.ref a] ∧ H a = some (.dK kvs) ∧ Q (.int kvs.length) H) [] as O [d] k := fun F H xs hd ow r Q q => by
  cases r with
  | cons r1 r2 =>
    cases r2
    obtain ⟨a, kvs, rfl, e, rk⟩ := dk_un hd ow r1 h
    exact ⟨a, kvs, rfl, e, by rw [rk.length]; exact q F H as O _ _ (.refl ..) hd ow (.int _) z⟩
end
end DL
namespace DL
open PySem PySem.Spec PyProof.Rows L2
section
variable {χ : Xk} {L : List Addr} {as : List Addr} {ρ : DSt} {O : List D} {k : List Addr → D → List D → Prop} {kT : List Addr → Bool → List D → Prop} {kA kI : List Addr → List D → List D → Prop} {ta tb tc td ty te : TE} {tt tu : TT} {d d1 d2 : D} {KK : PySem.W.Frag}
theorem w_chain {r r' : R2} (h : dE χ ta L as ρ O fun as d1 O => dE χ tb L as ρ O fun as d2 O => rv r L as O d1 d2 fun as d O => ∃ b, d = .bl b ∧ if b = true then dE χ tc L as ρ O fun as d3 O => rv r' L as O d2 d3 k else k as (.bl false) O) :
    dE χ (tChain r r' ta tb tc) L as ρ O k := fun F H σ S x Q q =>
  h F H σ S x _ fun F1 H1 as1 O1 v1 d1 g1 S1 r1 z1 => z1 F1 H1 σ S1 (x.go g1) _ fun F2 H2 as2 O2 v2 d2 g2 S2 r2 z2 =>
    z2 F2 H2 v1 v2 S2.hd S2.own (r1.mono g2.ex) r2 _ fun F3 H3 as3 O3 v d g3 hd ow r3 ⟨b, ed, z3⟩ => by
      subst ed
      cases r3
      have gg := g1.trans (g2.trans g3)
      have S3 : Rep L as3 F3 H3 σ ρ O3 := ⟨hd, ow, S2.sl.mono g3.ex⟩
      refine ⟨b, rfl, ?_⟩
      cases b with
      | false => exact q F3 H3 as3 O3 _ _ gg S3 (.bl _) z3
      | true =>
        exact z3 F3 H3 σ S3 (x.go gg) _ fun F4 H4 as4 O4 v4 d4 g4 S4 r4 z4 => z4 F4 H4 v2 v4 S4.hd S4.own ((r2.mono g3.ex).mono g4.ex) r4 _ fun F5 H5 as5 O5 v5 d5 g5 hd5 ow5 r5 z5 =>
          q F5 H5 as5 O5 v5 d5 (gg.trans (g4.trans g5)) ⟨hd5, ow5, S4.sl.mono g5.ex⟩ r5 z5
theorem Rn.redo {F : Hp} {f : Str} {v : V} {y : D} (q : R F v y) : ∀ {fs : List (Str × V)} {fds : List (Str × D)}, Rn F fs fds → fs.lookup f = some v → Rn F fs (putD f y fds)
  | _, _, .nil, h => by cases h
  | _, _, .cons (k := g) (v := u) r t, h => by
    unfold putD
    rw [List.lookup_cons] at h
    by_cases e : g = f
    · subst e
      rw [if_pos rfl]
      rw [beq_self_eq_true] at h
      cases h
      exact .cons q t
    · rw [if_neg e]
      have : (f == g) = false := by simp; exact fun z => e z.symm
      rw [this] at h
      exact .cons r (Rn.redo q t h)
theorem s_frzFld {K : Kt} {ts : TS} (j j' : Nat) (a C : Addr) (c y : D) (f : Str) (fds : List (Str × D)) (ha : as[j]? = some a) (hc : O[j]? = some c) (hy : ∀ F o, F a = some o → Cn F o c → R F (.ref a) y) (hj' : (O.eraseIdx j)[j']? = some (.ins C fds)) (hf : fds.lookup f = some (.adr a))
    (h : dS χ ts L (as.eraseIdx j) ρ ((O.eraseIdx j).set j' (.ins C (putD f y fds))) K) : dS χ ts L as ρ O K := fun F H σ S x Z z => by
  obtain ⟨hfa, o, ho, cn⟩ := S.own.at_ j a c ha hc
  have S' := S.frz ha hc hfa ho cn
  have g : Go as F H (as.eraseIdx j) (upd F a o) H := go_frz hfa ha
  have ry : R (upd F a o) (.ref a) y := hy _ _ upd_same (cn.mono (ex_lay hfa))
  have own2 : Own (upd F a o) H (as.eraseIdx j) ((O.eraseIdx j).set j' (.ins C (putD f y fds))) := by
    refine ⟨S'.own.nd, by rw [List.length_set]; exact S'.own.len, fun i b d' e1 e2 => ?_⟩
    by_cases q : j' = i
    · subst q
      rw [List.getElem?_set_self (List.getElem?_eq_some_iff.mp hj').1] at e2
      cases e2
      obtain ⟨f1, o1, f2, f3⟩ := S'.own.at_ j' b _ e1 hj'
      cases f3 with
      | @ins _ dx fs _ rn =>
        obtain ⟨v, ev, rv⟩ := rn.get hf
        cases rv
        exact ⟨f1, _, f2, .ins (rn.redo ry ev)⟩
    · rw [List.getElem?_set_ne q] at e2
      exact S'.own.at_ i b d' e1 e2
  exact h _ _ σ ⟨S'.hd, own2, S'.sl⟩ (x.go g) Z (z.go g)
theorem s_lock {K : Kt} {ts : TS} (a C : Addr) (kds : List (Key × D)) (j : Nat) (f : Str) (fds : List (Str × D)) (nL : a ∉ L) (hj : O[j]? = some (.ins C fds)) (hf : fds.lookup f = some (.ldk a kds)) (h : dS χ ts (a :: L) as ρ O K) : dS χ (tLock ts) L as ρ O K := fun F H σ S x Z z => by
  obtain ⟨b0, o0, e1, e2, e3, e4⟩ := S.own.get hj
  cases e4 with
  | @ins _ dx fs _ rn =>
    obtain ⟨v, ev, rv⟩ := rn.get hf
    cases rv with
    | @ldk _ kvs _ fa rk =>
      have ha : H a = some (.dK kvs) := by
        rcases S.hd.at_ a _ fa with ⟨_, e'⟩ | ⟨m, _⟩ | ⟨_, _, _, y, _⟩
        · exact e'
        · exact absurd m nL
        · cases y
      have nas : a ∉ as := fun m => by rw [S.own.free m] at fa; cases fa
      refine ⟨a, .dK kvs, ha, trivial, fun od => ?_⟩
      have hs : (upd H a (.frz od (.dK kvs))) a = some (.frz od (.dK kvs)) := upd_same
      have S1 : Rep (a :: L) as F (upd H a (.frz od (.dK kvs))) σ ρ O := by
        refine ⟨⟨fun b u e => ?_, fun b m => ?_⟩, S.own.keep (fun _ _ h => h) (fun b m => S.own.free m) fun b m o e => ?_, S.sl⟩
        · by_cases q : b = a
          · subst q
            rw [fa] at e
            cases e
            exact .inr (.inl ⟨List.mem_cons_self, _, _, rfl, hs⟩)
          · rw [upd_ne q]
            rcases S.hd.at_ b u e with ⟨m, e'⟩ | ⟨m, e'⟩ | ⟨m, e'⟩
            · exact .inl ⟨fun y => (List.mem_cons.mp y).elim q m, e'⟩
            · exact .inr (.inl ⟨List.mem_cons_of_mem _ m, e'⟩)
            · exact .inr (.inr ⟨fun y => (List.mem_cons.mp y).elim q m, e'⟩)
        · rcases List.mem_cons.mp m with m | m
          · subst m; rw [fa]; exact fun y => by cases y
          · exact S.hd.lk b m
        · rw [upd_ne (show b ≠ a from fun y => nas (by rw [← y]; exact m))]; exact e
      have back : ∀ {F' H' : Hp} {as' : List Addr}, Go as F (upd H a (.frz od (.dK kvs))) as' F' H' → H' a = some (.frz od (.dK kvs)) ∧ F' a = some (.dK kvs) ∧ a ∉ as' ∧ Go as F H as' F' (upd H' a (.dK kvs)) := fun {F' H' as'} g => by
        refine ⟨g.kp a _ hs nas, g.ex _ _ fa, fun m => ?_, g.ex, fun b u e => ?_, fun b u e n => ?_, fun b e => ?_, fun b m => ?_⟩
        · rcases g.sub a m with m | m
          · exact nas m
          · rw [hs] at m; cases m
        · rcases g.nw b u e with e | e | e
          · exact .inl e
          · by_cases q : b = a
            · subst q; rw [hs] at e; cases e
            · rw [upd_ne q] at e; exact .inr (.inl e)
          · exact .inr (.inr e)
        · by_cases q : b = a
          · subst q; rw [ha] at e; rw [upd_same]; exact e
          · rw [upd_ne q]
            exact g.kp b u (by rw [upd_ne q]; exact e) n
        · by_cases q : b = a
          · subst q; rw [upd_same] at e; cases e
          · rw [upd_ne q] at e
            have := g.th b e
            rw [upd_ne q] at this
            exact this
        · rcases g.sub b m with m | m
          · exact .inl m
          · by_cases q : b = a
            · subst q; rw [hs] at m; cases m
            · rw [upd_ne q] at m; exact .inr m
      have backH : ∀ {F' H' : Hp}, Hd (a :: L) F' H' → F' a = some (.dK kvs) → Hd L F' (upd H' a (.dK kvs)) := fun {F' H'} hd fa' => by
        refine ⟨fun b u e => ?_, fun b m => hd.lk b (List.mem_cons_of_mem _ m)⟩
        by_cases q : b = a
        · subst q
          rw [fa'] at e
          cases e
          exact .inl ⟨nL, upd_same⟩
        · rw [upd_ne q]
          rcases hd.at_ b u e with ⟨m, e'⟩ | ⟨m, e'⟩ | ⟨m, e'⟩
          · exact .inl ⟨fun y => m (List.mem_cons_of_mem _ y), e'⟩
          · exact .inr (.inl ⟨(List.mem_cons.mp m).elim (fun y => absurd y q) id, e'⟩)
          · exact .inr (.inr ⟨fun y => m (List.mem_cons_of_mem _ y), e'⟩)
      have backO : ∀ {F' H' : Hp} {as' : List Addr} {O' : List D}, Own F' H' as' O' → a ∉ as' → Own F' (upd H' a (.dK kvs)) as' O' := fun ow n =>
        ow.keep (fun _ _ h => h) (fun b m => ow.free m) fun b m o e => by rw [upd_ne (show b ≠ a from fun y => n (by rw [← y]; exact m))]; exact e
      have x1 : XP χ (a :: L) as F (upd H a (.frz od (.dK kvs))) := fun F' H' L' as' σ' ρ' O' cls dd fds' g S' nx ze => by
        refine x F' H' L' as' σ' ρ' O' cls dd fds' ⟨g.ex, fun b u e => ?_, fun b u e n => ?_, fun b e => ?_, fun b m => ?_⟩ S' (nx.imp fun b hb => by
          by_cases q : b = a
          · subst q; rw [hs] at hb; cases hb
          · rw [upd_ne q] at hb; exact hb) ze
        · rcases g.nw b u e with e | e | e
          · exact .inl e
          · by_cases q : b = a
            · subst q; rw [hs] at e; cases e
            · rw [upd_ne q] at e; exact .inr (.inl e)
          · exact .inr (.inr e)
        · by_cases q : b = a
          · subst q
            rw [ha] at e
            cases e
            have hh : H' b = some (.frz od (.dK kvs)) := by
              rcases g.kp b _ hs n with y | ⟨_, y, _⟩
              · exact y
              · exact absurd List.mem_cons_self y
            rcases S'.hd.at_ b _ (g.ex _ _ fa) with ⟨_, y⟩ | ⟨m, _⟩ | ⟨_, _, _, y, _⟩
            · rw [hh] at y; cases y
            · exact .inr ⟨m, nL, _, _, rfl, hh⟩
            · cases y
          · rcases g.kp b u (by rw [upd_ne q]; exact e) n with y | ⟨y1, y2, y3⟩
            · exact .inl y
            · exact .inr ⟨y1, fun y => y2 (List.mem_cons_of_mem _ y), y3⟩
        · by_cases q : b = a
          · subst q
            have := g.th b e
            rw [hs] at this
            cases this
          · have := g.th b e
            rw [upd_ne q] at this
            exact this
        · rcases g.sub b m with m | m
          · exact .inl m
          · by_cases q : b = a
            · subst q; rw [hs] at m; cases m
            · rw [upd_ne q] at m; exact .inr m
      refine h F _ σ S1 x1 _ ⟨fun F' H' as' σ' ρ' O' g S' zz => ?_, fun F' H' as' O' v d g hd ow r zz => ?_, fun F' H' as' σ' ρ' O' g S' zz => ?_, fun F' H' as' σ' ρ' O' g S' zz => ?_⟩
      all_goals obtain ⟨b1, b2, b3, b4⟩ := back g
      · exact ⟨b1, z.nx F' _ as' σ' ρ' O' b4 ⟨backH S'.hd b2, backO S'.own b3, S'.sl⟩ zz⟩
      · exact ⟨b1, z.rt F' _ as' O' v d b4 (backH hd b2) (backO ow b3) r zz⟩
      · exact ⟨b1, z.bk F' _ as' σ' ρ' O' b4 ⟨backH S'.hd b2, backO S'.own b3, S'.sl⟩ zz⟩
      · exact ⟨b1, z.ct F' _ as' σ' ρ' O' b4 ⟨backH S'.hd b2, backO S'.own b3, S'.sl⟩ zz⟩
def pairsD (kds : List (Key × D)) : List D := kds.map fun kv => .tup [kD kv.1, kv.2]
theorem Rk.at' {F : Hp} : ∀ {kvs : List (Key × V)} {kds : List (Key × D)} {i : Nat} {c : Key} {v : V}, Rk F kvs kds → kvs[i]? = some (c, v) → ∃ d, kds[i]? = some (c, d) ∧ R F v d
  | _, _, i, _, _, .nil, h => by simp at h
  | _, _, 0, _, _, .cons r t, h => by
    simp at h
    obtain ⟨rfl, rfl⟩ := h
    exact ⟨_, rfl, r⟩
  | _, _, i + 1, _, _, .cons r t, h => by
    obtain ⟨d, h1, h2⟩ := Rk.at' (i := i) t (by simpa using h)
    exact ⟨d, by simpa using h1, h2⟩
theorem i_items (h : dE χ td L as ρ O fun as d O => ∃ a kds, d = .ldk a kds ∧ a ∈ L ∧ kI as (pairsD kds) O) : dI χ (iItems td) L as ρ O kI := fun F H σ S x Q q =>
  h F H σ S x _ fun F1 H1 as1 O1 v d g1 S1 r1 ⟨a, kds, ed, mL, z⟩ => by
    subst ed
    cases r1 with
    | @ldk _ kvs _ fa rk =>
      obtain ⟨ob, e'⟩ : ∃ ob, H1 a = some (.frz ob (.dK kvs)) := by
        rcases S1.hd.at_ a _ fa with ⟨m, _⟩ | ⟨_, _, ob, _, e'⟩ | ⟨m, _⟩
        · exact absurd mL m
        · exact ⟨ob, e'⟩
        · exact absurd mL m
      have nas : a ∉ as1 := fun m => by rw [S1.own.free m] at fa; cases fa
      refine ⟨a, ob, kvs, rfl, e', q F1 H1 as1 O1 _ (pairsD kds) g1 S1 ⟨_, _, by rw [show (pairsD kds).length = kvs.length by rw [rk.length]; simp [pairsD]]; exact walk_items, fun F2 H2 _ gg hd => gg.kp a _ e' nas, fun i as H H' x F2 O hi ee hd ow y => ?_⟩ z⟩
      obtain ⟨T, x1, x2, rfl, hT, rfl, f1, f2⟩ := y
      have f1 : (kvs[i]?.map fun kv => kV kv.1) = some x1 := f1
      have f2 : (kvs[i]?.map Prod.snd) = some x2 := f2
      cases ek : kvs[i]? with
      | none => rw [ek] at f1; cases f1
      | some kv =>
        obtain ⟨c, w⟩ := kv
        rw [ek] at f1 f2
        cases f1
        cases f2
        obtain ⟨dw, e2, rd⟩ := rk.at' ek
        obtain ⟨F3, g3, h3, o3, r3⟩ := lay_pair hd ow hT (r_key c) (rd.mono ee)
        refine ⟨F3, _, ?_, g3, h3, o3, r3⟩
        unfold pairsD
        rw [List.getElem?_map, e2]
        rfl
end
end DL
namespace DL
open PySem PySem.Spec PyProof.Rows L2
section
variable {X : Cx} {CX : CXT} {k : Nat} {f C : Addr} {fd : FuncData} {ps : List Str} {sp : Sp} {E : XK}
def rRepS : R2 := fun x y H Q => ∃ (c n : Nat), x = .str ⟨#[c]⟩ ∧ y = .int (n : Nat) ∧ 1 < n ∧ n ≤ 1000 ∧ Q (.str ⟨(List.replicate n c).toArray⟩) H
theorem rep_fold (c : Nat) : ∀ (n : Nat) (acc : Array Nat), (List.replicate n #[c]).foldl (· ++ ·) acc = acc ++ (List.replicate n c).toArray
  | 0, acc => by simp
  | n + 1, acc => by
    rw [List.replicate_succ, List.foldl_cons, rep_fold c n, List.replicate_succ]
    apply Array.ext'
    simp
theorem op_repS : OpR X (binaryOp .Mult) rRepS := by
  intro pins s σ H x y v u Q I rx ry h
  obtain ⟨c, n, rfl, rfl, h1, h2, q⟩ := h
  obtain ⟨t, rfl⟩ := rx
  obtain ⟨t', rfl⟩ := ry
  have hz : n ≤ sizeLine := Nat.le_trans h2 (by decide)
  refine PySem.P.mul_str ?_ ?_ ?_ ?_
  · rw [decide_eq_false (by omega), decide_eq_false (by omega)]; rfl
  · intro _ _ hh
    have e1 : ((⟨#[c]⟩ : Str).length : Int) = 1 := rfl
    rw [e1] at hh
    have : (1 : Int) ≤ (2 ^ 63 - 1) / (n : Int) := by
      rw [Int.le_ediv_iff_mul_le (by omega)]
      omega
    omega
  · intro _ _
    have e1 : (⟨#[c]⟩ : Str).length = 1 := rfl
    rw [e1, Nat.one_mul, Int.toNat_natCast]
    unfold Builtin.Str.tooLong
    simp
    omega
  · rw [if_neg (by omega), if_neg (by
      have : ((n : Int) == 1) = false := by rw [beq_eq_false_iff_ne]; omega
      rw [this]
      exact fun z => by cases z)]
    rw [Int.toNat_natCast, rep_fold c n #[], Array.empty_append]
    refine ⟨by show (List.replicate n c).toArray.size ≤ sizeLine; simpa using hz, ?_⟩
    exact ⟨.str _, H, I.tok _, ⟨_, rfl⟩, q⟩
end
section
variable {χ : Xk} {L : List Addr} {as : List Addr} {ρ : DSt} {O : List D} {k : List Addr → D → List D → Prop} {ta te : TE} {t : TA} {d d1 d2 : D} {KK : PySem.W.Frag}
theorem rv_repS {c n : Nat} (h1 : 1 < n) (h2 : n ≤ 1000) (z : k as (.str ⟨(List.replicate n c).toArray⟩) O) : rv rRepS L as O (.str ⟨#[c]⟩) (.int (n : Nat)) k := fun F H x y hd ow r1 r2 Q q => by
  cases r1
  cases r2
  exact ⟨c, n, rfl, rfl, h1, h2, q F H as O _ _ (.refl ..) hd ow (.str _) z⟩
def rm (r : V → List V → Hp → VK → Prop) (L as : List Addr) (O : List D) (d : D) (ds : List D) (k : List Addr → D → List D → Prop) : Prop :=
  ∀ F H x vs, Hd L F H → Own F H as O → R F x d → Rs F vs ds → ∀ Q : VK, (∀ F' H' as' O' v d, Go as F H as' F' H' → Hd L F' H' → Own F' H' as' O' → R F' v d → k as' d O' → Q v H') → r x vs H Q
theorem w_bmR {T : String} {r : V → List V → Hp → VK → Prop} (h : dE χ ta L as ρ O fun as1 d O1 => (∃ ds, lstR as1 O1 KK d ds) ∧ T = "list" ∧ dA χ t L as1 ρ O1 fun as2 ds O2 => rm r L as2 O2 d ds k) : dE χ (tBM KK T r ta t) L as ρ O k := fun F H σ S x Q q =>
  h F H σ S x _ fun F1 H1 as1 O1 v d g1 S1 r1 ⟨⟨ds, hl⟩, eT, z1⟩ => by
    subst eT
    obtain ⟨a, xs, rfl, s, r'⟩ := lr_at S1.hd S1.own r1 hl
    refine ⟨.inl ⟨rfl, _, s⟩, z1 F1 H1 σ S1 (x.go g1) _ fun F2 H2 as2 O2 vs ds g2 S2 r2 z2 => ?_⟩
    exact z2 F2 H2 _ vs S2.hd S2.own (r1.mono g2.ex) r2 _ fun F3 H3 as3 O3 v d g3 hd ow r3 z3 => q F3 H3 as3 O3 v d (g1.trans (g2.trans g3)) ⟨hd, ow, S2.sl.mono g3.ex⟩ r3 z3
end
end DL
namespace DL
open PySem PySem.Spec PyProof.Rows L2
def Kp (as : List Addr) (O : List D) (as2 : List Addr) (O2 : List D) : Prop := ∀ (j : Nat) (a : Addr) (o : HO) (kds : List (Key × D)), as[j]? = some a → O[j]? = some (.fz o kds) → as2[j]? = some a ∧ O2[j]? = some (.fz o kds)
theorem Kp.refl {as : List Addr} {O : List D} : Kp as O as O := fun _ _ _ _ h1 h2 => ⟨h1, h2⟩
section
variable {χ : Xk} {L as : List Addr} {ρ : DSt} {O : List D} {K : Kt} {k : List Addr → D → List D → Prop} {kI : List Addr → List D → List D → Prop} {td te : TE} {tt : TT} {ts tw : TS} {g : TG}
theorem Own.fz {F H : Hp} {j : Nat} {a : Addr} {o : HO} {kds : List (Key × D)} (ow : Own F H as O) (e1 : as[j]? = some a) (e2 : O[j]? = some (.fz o kds)) : ∃ od kvs, o = .frz od (.dK kvs) ∧ H a = some o ∧ Rk F kvs kds := by
  obtain ⟨_, o', e, c⟩ := ow.at_ j a _ e1 e2
  cases c with
  | fz r => exact ⟨_, _, rfl, e, r⟩
theorem Own.dk {F H : Hp} {j : Nat} {a : Addr} {kds : List (Key × D)} (ow : Own F H as O) (e1 : as[j]? = some a) (e2 : O[j]? = some (.dk kds)) : ∃ kvs, H a = some (.dK kvs) ∧ Rk F kvs kds := by
  obtain ⟨_, o', e, c⟩ := ow.at_ j a _ e1 e2
  cases c with
  | dk r => exact ⟨_, e, r⟩
end
end DL
namespace DL
open PySem PySem.Spec PyProof.Rows L2
theorem Rk.vals {F : Hp} : ∀ {kvs : List (Key × V)} {kds : List (Key × D)}, Rk F kvs kds → Rs F (kvs.map (·.2)) (kds.map (·.2))
  | _, _, .nil => .nil
  | _, _, .cons r t => .cons r (Rk.vals t)
section
variable {χ : Xk} {L : List Addr} {as : List Addr} {ρ : DSt} {O : List D} {k : List Addr → D → List D → Prop} {kA : List Addr → List D → List D → Prop} {td te ta tb : TE} {t : TA} {d d1 d2 : D} {KK : PySem.W.Frag}
theorem Rs.eraseIdx {F : Hp} : ∀ {xs : List V} {ds : List D} (n : Nat), Rs F xs ds → Rs F (xs.eraseIdx n) (ds.eraseIdx n)
  | _, _, _, .nil => .nil
  | _, _, 0, .cons r t => t
  | _, _, n + 1, .cons r t => .cons r (Rs.eraseIdx n t)
theorem rc_popAt {a : Addr} {ds : List D} {i : Nat} (j : Nat) (e1 : as[j]? = some a) (e2 : O[j]? = some (.lst ds)) (hi : ds[i]? = some d) (hl : ds.length ≤ 100000) (z : k as d (O.set j (.lst (ds.eraseIdx i)))) : rc (fun vs H Q => rPopAt (.ref a) vs H Q) L as O [.int (i : Nat)] k := fun F H xs hd ow r Q q => by
  cases r with
  | cons r1 r2 =>
    cases r2
    cases r1
    obtain ⟨ys, e, r⟩ := ow.lst e1 e2
    have m := List.mem_of_getElem? e1
    obtain ⟨v, e3, r3⟩ := r.get hi
    have hlt : i < ds.length := (List.getElem?_eq_some_iff.mp hi).1
    refine ⟨a, ys, (i : Nat), i, v, rfl, rfl, e, by omega, by omega, ?_, e3, q F _ as _ _ _ (go_upd m) (hd.upd (ow.free m)) (ow.put (.lst (r.eraseIdx i)) e1) r3 z⟩
    unfold seqIndex?
    rw [if_neg (by omega : ¬ ((i : Nat) : Int) < 0)]
    rw [if_pos (by rw [r.length]; simp; omega)]
    simp
end
structure StatOf (K : PySem.W.Frag) (C : Addr) (m : Str) (p f : Addr) : Prop where
  pg : PySem.W.plainGet K C m = true
  hd : PySem.W.hasDictIn K C = true
  at_ : PySem.W.findIn K (.ref C) m = some (some (.ref p))
  typ : PySem.W.typeIn K (.ref p) = some (.type "staticmethod")
  get : PySem.W.specialIn K (.ref p) "__get__" = some (some (.builtin "staticmethod.__get__"))
  tak : PySem.W.takesIn K (.ref p) = some false
  cop : PySem.W.copiedNames.contains m = false
  rec_ : ∃ rest, PySem.W.recIn K p "staticmethod" = some (.ref f :: rest)
  kp : PySem.W.keepIn K (.ref f) = true
section
variable {X : Cx} {CX : CXT} {k : Nat} {f C p : Addr} {m : Str} {fd : FuncData} {ps : List Str} {sp : Sp} {E : XK} {o e : Expr} {es : List Expr} {apos pos : Pos} {ta : TE} {t : TA}
structure ItemOf (K : PySem.W.Frag) (C : Addr) (m : Str) (f : Addr) : Prop where
  at_ : PySem.W.findIn K (.ref C) m = some (some (.ref f))
  fn : PySem.W.isFn K (.ref f) = true
  sq : PySem.W.noSeq K C = true
end
section
variable {χ : Xk} {L : List Addr} {as : List Addr} {ρ : DSt} {O : List D} {k : List Addr → D → List D → Prop} {td te ta tb ty tv : TE} {t : TA} {d d1 d2 : D}
theorem w_knownL (h : dE χ te L as ρ O fun as' d' O' => ∃ p as0 kds O0, as' = as0 ++ [p] ∧ d' = .adr p ∧ O' = O0 ++ [.dk kds] ∧ k as0 (.ldk p kds) O0) : dE χ te L as ρ O k := fun F H σ S x Q q =>
  h F H σ S x _ fun F1 H1 as1 O1 v d1 g1 S1 r1 ⟨p, as0, kds, O0, e1, e2, e3, z⟩ => by
    subst e1
    subst e2
    subst e3
    cases r1
    have l0 : as0.length = O0.length := by
      have := S1.own.len
      simp at this
      exact this
    have ha : (as0 ++ [p])[as0.length]? = some p := by simp
    have hc : (O0 ++ [D.dk kds])[as0.length]? = some (D.dk kds) := by rw [l0]; simp
    obtain ⟨hf, o, ho, cn⟩ := S1.own.at_ _ _ _ ha hc
    have S2 := S1.frz ha hc hf ho cn
    have g2 : Go (as0 ++ [p]) F1 H1 ((as0 ++ [p]).eraseIdx as0.length) (upd F1 p o) H1 := go_frz hf ha
    have ea : (as0 ++ [p]).eraseIdx as0.length = as0 := by
      rw [List.eraseIdx_append_of_length_le (Nat.le_refl _)]
      simp
    have eo : (O0 ++ [D.dk kds]).eraseIdx as0.length = O0 := by
      rw [l0, List.eraseIdx_append_of_length_le (Nat.le_refl _)]
      simp
    rw [ea, eo] at S2
    rw [ea] at g2
    cases cn with
    | dk rk => exact q _ _ _ _ _ _ (g1.trans g2) S2 (.ldk upd_same (rk.mono (ex_lay hf))) z
theorem s_frzL {K : Kt} {ts : TS} (j i : Nat) (a : Addr) (kds : List (Key × D)) (ha : as[j]? = some a) (hc : O[j]? = some (.dk kds)) (hi : ρ[i]? = some (some (.adr a))) (h : dS χ ts L (as.eraseIdx j) (ρ.set i (some (.ldk a kds))) (O.eraseIdx j) K) : dS χ ts L as ρ O K := fun F H σ S x Z z => by
  obtain ⟨hf, o, ho, cn⟩ := S.own.at_ j a _ ha hc
  have S' := S.frz ha hc hf ho cn
  have g : Go as F H (as.eraseIdx j) (upd F a o) H := go_frz hf ha
  obtain ⟨v, e, r⟩ := S.sl.get hi
  cases r
  cases cn with
  | dk rk =>
    have r' : R (upd F a _) (.ref a) (.ldk a kds) := .ldk upd_same (rk.mono (ex_lay hf))
    have hs : σ.set i (some (.ref a)) = σ := by
      apply List.ext_getElem?
      intro n
      by_cases q : i = n
      · subst q
        rw [List.getElem?_set_self (List.getElem?_eq_some_iff.mp e).1, e]
      · rw [List.getElem?_set_ne q]
    have S2 : Rep L (as.eraseIdx j) (upd F a _) H σ (ρ.set i (some (.ldk a kds))) (O.eraseIdx j) := ⟨S'.hd, S'.own, by rw [← hs]; exact S'.sl.set r' i⟩
    exact h _ _ σ S2 (x.go g) Z (z.go g)
end
end DL
namespace DLS
open PySem PySem.Spec PyProof.Rows L2 NdefX
structure SupF (P : Program) (K : PySem.W.Frag) (D f cc cda : Addr) (name qual : Str) (params : Arguments) (body : List Stmt) (scope : Scope) (fd : FuncData) : Prop where
  fn : ∃ oc od dV kV doc pm an ct osl, fd = PySem.W.ksFn name qual params body scope dV kV doc pm an (.ref cda) ct cc ∧ K.lookup f = some ⟨oc, od, .func fd, osl⟩
  code : PySem.W.codeIn K (.ref cda) qual = true
  file : ∃ ccl cdd vs ccs file tf, K.lookup cda = some ⟨ccl, cdd, .fields vs, ccs⟩ ∧ vs[2]? = some (.str file tf) ∧ ((P.main.file : Str) == file) = true
  cell : ∃ cl cld csl, K.lookup cc = some ⟨cl, cld, .cell (some (.ref D)), csl⟩
  cls : (PySem.W.clsIn K D).isSome = true
  top : (P.main.scope.names.lookup ("super" : Str)).isSome = false
  opq : PySem.W.nsIn K PySem.cStatics "thirdparty.any" = some none
structure SupC (K : PySem.W.Frag) (C D : Addr) : Prop where
  sup : PySem.W.ks_superIn K C D "__init__" = some (some (.builtin "ValueError.__init__"))
  ve : PySem.W.subIn K (.ref C) (.type "ValueError") = some true
  mro : PySem.W.mroIn K C (.ref D) = some true
def tSup (K : PySem.W.Frag) (D : Addr) (ta : TA) (t : TS) : TS := fun E σ H => ∃ (a C : Addr), σ[0]? = some (some (.ref a)) ∧ OexC K C ∧ SupC K C D ∧ H a = some (exo a C none) ∧
  ta σ H fun vs H1 => vs.length ≤ 1000 ∧ H1 a = some (exo a C none) ∧ t E σ H1
section
variable {X : Cx} {pins : List (Addr × Obj)} {σ : L2.St} {H : Hp} {s : Shared} {A : Around} {E : Value → Shared → Prop}
theorem call_mw {a C u : Addr} {us : List Value} {Q : Value → Shared → Prop} (T : OexC X.K C) (I : Inv X pins σ H s) (e : H a = some (exo a C none)) (hu : s.heap.get? u = some (PySem.W.kxs_mw "ValueError.__init__" a)) (hl : us.length ≤ sizeLine)
    (h : ∀ s', Inv X pins σ H s' → Q .none s') : wpAny (model X.prog X.w) A (call (.ref u) us) Q E s := by
  obtain ⟨nm, q, N, bs, bm, sn, sub, ab, col, dd, k0, k1, k2, k3, k5, hC, hbm⟩ := T.cls
  obtain ⟨t1, ho⟩ := exo_at I.hok e
  obtain ⟨hp, g, d, t, os⟩ := s
  refine wpAny_call (codeAny_of_tree ?_)
  show wpAny _ A.in1 (callAny (.ref u) ⟨us, []⟩) _ _ _
  simp only [callAny]
  refine wpAny_bind (wpAny_load hu ?_)
  simp only [PySem.W.kxs_mw, show (Value.type "method-wrapper" == Value.type "method" || Value.type "method-wrapper" == Value.type "builtin_function_or_method" || Value.type "method-wrapper" == Value.type "method-wrapper") = true by decide, if_true]
  refine PySem.W.KFB.if_so (by decide) ?_
  refine wpAny_bind (ESX.check_bound F.excBase_ValueError (I.kIn _ _ hC) ho rfl ?_)
  refine wpAny_bind (wpAny_pure (wpAny_pure ?_))
  refine ⟨Code.quiet_builtin _ (by decide +kernel), codeAny_builtin F.excBase_ValueError.initEntry ?_⟩
  rw [Around.under_plainId F.excBase_ValueError.init.plain _]
  have fin : ∀ h' t2, (∀ b o, b ≠ a → hp.get? b = some o → h'.get? b = some o) → h'.get? a = some ({ cls := .ref C, dict := none, data := .fields #[.ref t2, .none, .none, .none, .bool false, .none] } : Obj) → Q .none ⟨h', g, d, t, os⟩ := fun h' t2 k hx => by
    have J := I.write (t' := t) (x := a) (e := a) (o := exo a C none) (by rw [e]; exact True.intro) (.inl rfl) k ⟨_, hx⟩ (exo_ok hx)
    have eu : upd H a (exo a C none) = H := by
      funext b
      by_cases hb : b = a
      · rw [hb, upd_same, e]
      · rw [upd_ne hb]
    rw [eu] at J
    exact h _ J
  wp_walk
  refine fin _ hp.objs.size (fun b o hb ho => ?_) ?_
  · rw [Heap.get?_update_other _ _ (Ne.symm hb)]
    exact Heap.get?_push_of_some _ ho
  · rw [Heap.get?_update_self _ (Heap.get?_push_of_some _ ho) rfl]
    rfl
theorem callwith_mw {i : String} {x u : Addr} {pos : Pos} {env : Env} {e : Expr} {rest : List Expr} {M : Model} {Q : Value → Shared → Prop}
    (h : wpAny M A (spliced (backTo pos (starEach (e :: rest) env))) (fun vs s₁ => s₁.heap.get? u = some (PySem.W.kxs_mw i x) ∧ wpAny M A (call (.ref u) vs) Q E s₁) E s)
    (he : starEach (e :: rest) env = (false, eval e env) :: starEach rest env := by rfl) (hplain : (backTo pos (starEach rest env)).any (·.1) = false := by rfl) :
    wpAny M A (callWith pos (.ref u) [] (backTo pos (starEach (e :: rest) env)) []) Q E s := by
  rw [he] at h ⊢
  refine PySem.W.kxs_callWith (i := i) (x := x) (by show (false || (backTo pos (starEach rest env)).any (·.1)) = false; rw [hplain]; rfl) ?_
  exact Calls.evalArgs_plain h
end
section
variable {CX : CXT} {P : Program} {w : World} {K : PySem.W.Frag} {mg : Str → Option Value} {base : Heap} {D f cc cda : Addr} {name qual x0 : Str} {params : Arguments} {rest : List Stmt} {scope : Scope} {fd : FuncData} {N ps : List Str} {k : Nat} {sp : Sp} {e : Expr} {es : List Expr} {p0 p1 p2 p3 p4 : Pos}
abbrev supS (e : Expr) (es : List Expr) (p0 p1 p2 p3 p4 : Pos) : Stmt := .Expr (.Call (.Attribute (.Call (.Name "super" p0) [] [] p1) "__init__" p2) (e :: es) [] p3) p4
theorem fn_super (F : SupF P K D f cc cda name qual params (supS e es p0 p1 p2 p3 p4 :: rest) scope fd) (S : NScope N (x0 :: ps) ["__class__"] scope) (hp : ∃ ar, (params.posonlyargs ++ params.args).head? = some ar ∧ ar.arg = x0)
    (hks : scope.names.lookup ("super" : Str) = some .globalImplicit) (hsup : mg "super" = none) (len : ∀ vs H Q E, sp vs H Q E → vs.length = (x0 :: ps).length)
    {pl : Env → Sem Bool} (hev : ∀ env : Env, eval (.Call (.Attribute (.Call (.Name "super" p0) [] [] p1) "__init__" p2) (e :: es) [] p3) env = (do
      let ov ← attributeBase (.Call (.Name "super" p0) [] [] p1) "__init__" env (eval (.Call (.Name "super" p0) [] [] p1) env)
      standAt p2.atName
      let (f, first) ← holding [ov] (getMethod ov "__init__" (pl env))
      callWith p3 f first (backTo p3 (starEach (e :: es) env)) []))
    (hsw : ∀ env : Env, swapsWith (.Call (.Attribute (.Call (.Name "super" p0) [] [] p1) "__init__" p2) (e :: es) [] p3) none p4.line env = pure false)
    (hst : ∀ env : Env, starEach (e :: es) env = (false, eval e env) :: starEach es env) (hpl : ∀ env : Env, (backTo p3 (starEach es env)).any (·.1) = false)
    (hbody : ∀ (A : Around) (outer : List Env) (s : Shared) (H : Hp) (vs : List V) (Q : VK) (E : XK), Room k (A.deeper (envF ⟨name, qual, params, supS e es p0 p1 p2 p3 p4 :: rest, scope, [("__class__", cc)], cda⟩ f s.heap.objs.size)) → sp vs H Q E →
      ∃ ta t, PA (ncx CX P w K mg base N ⟨name, qual, params, supS e es p0 p1 p2 p3 p4 :: rest, scope, [("__class__", cc)], cda⟩ f A outer s H E) (e :: es) ta ∧
        PSs (ncx CX P w K mg base N ⟨name, qual, params, supS e es p0 p1 p2 p3 p4 :: rest, scope, [("__class__", cc)], cda⟩ f A outer s H E) rest t ∧
        tSup K D ta t { nx := fun _ H' => Q .non H', rt := Q } (startF N vs [some (.ref D)]) H) : FnOk P w K mg base CX (k + 1) f fd (x0 :: ps) sp := by
  refine ⟨len, fun A outer s H args us vs Q E hr e0 hb r hsp => ?_⟩
  obtain ⟨oc, od, dV, kV, doc, pm, an, ct, osl, rfl, lk⟩ := F.fn
  obtain ⟨cl, cld, csl, hcell⟩ := F.cell
  obtain ⟨ccl, cdd, vsC, ccs, file, tf, hcode, hvs, hfile⟩ := F.file
  obtain ⟨ar, hp, har⟩ := hp
  have hl := len _ _ _ _ hsp
  have KX : K.In s.heap := e0.mod.kin.keeps fun b o e => (e0.bs b o e).1
  have lim : s.heap.NoLimit := e0.mod.nolimit.keeps fun b o e => (e0.bs b o e).1
  refine PySem.ks_codeAny_call_defAt (body := supS e es p0 p1 p2 p3 p4 :: rest) (binds := (x0 :: ps).zip us) hr.depth (KX _ _ lk) rfl lim (PySem.W.codeRec_of KX F.code) rfl hb S.nocell (fun ⟨n, _⟩ hy => S.par n (List.of_mem_zip hy).1) (fun h₁ hns kp => ?_) S.co S.gen S.kind
  obtain ⟨ta, t, hta, ht, q⟩ := hbody A outer s H vs Q E (hr.deeper _) hsp
  generalize hNF : (⟨name, qual, params, supS e es p0 p1 p2 p3 p4 :: rest, scope, [("__class__", cc)], cda⟩ : NF) = NF at hta ht
  have hcc : H cc = none := (e0.bs cc _ (e0.mod.kin _ _ hcell)).2
  have C : CellsAt NF.cl ["__class__"] [some (.ref D)] s.heap H := by
    subst hNF
    refine ⟨rfl, fun y c h => ?_, fun x y c h1 h2 => ?_, fun i y h => ?_⟩
    · have h : [(("__class__" : Str), cc)].lookup y = some c := h
      rw [List.lookup_cons] at h
      cases z : y == ("__class__" : Str) with
      | true => rw [z] at h; cases h; exact ⟨hcc, _, _, KX _ _ hcell, rfl⟩
      | false => rw [z] at h; cases h
    · have h1 : [(("__class__" : Str), cc)].lookup x = some c := h1
      have h2 : [(("__class__" : Str), cc)].lookup y = some c := h2
      rw [List.lookup_cons] at h1 h2
      cases z : x == ("__class__" : Str) with
      | false => rw [z] at h1; cases h1
      | true =>
        cases z2 : y == ("__class__" : Str) with
        | false => rw [z2] at h2; cases h2
        | true => rw [eq_of_beq z, eq_of_beq z2]
    · cases i with
      | zero =>
        simp at h
        subst h
        refine ⟨cc, by rfl, fun v hv => ?_⟩
        simp at hv
        subst hv
        exact ⟨.ref D, rfl, _, KX _ _ hcell, rfl⟩
      | succ i => simp at h
  have hscope : NF.scope = scope := by rw [← hNF]
  have I : Inv (ncx CX P w K mg base N NF f A outer s H E) [] (startF N vs [some (.ref D)]) H { s with heap := h₁, toks := s.toks + ((x0 :: ps).zip us).length } := inv_startN (by rw [hscope]; exact S) hr.hd e0 hl r C hns kp
  obtain ⟨a, C', h0, T, TC, ha, q⟩ := q
  have kin1 := I.kIn
  have henv : (ncx CX P w K mg base N NF f A outer s H E).env = PySem.W.ksEnv qual scope s.heap.objs.size f (.ref cda) cc := by subst hNF; rfl
  have hxe : (ncx CX P w K mg base N NF f A outer s H E).xe = fun e s' => wpAny (model P w) (A.deeper (PySem.W.ksEnv qual scope s.heap.objs.size f (.ref cda) cc)) (leaving (PySem.W.ksEnv qual scope s.heap.objs.size f (.ref cda) cc) e) (fun _ s'' => CX outer H s E e s'') (fun e' s'' => CX outer H s E e' s'') s' := by subst hNF; rfl
  have hA : (ncx CX P w K mg base N NF f A outer s H E).A = A.deeper (PySem.W.ksEnv qual scope s.heap.objs.size f (.ref cda) cc) := by subst hNF; rfl
  obtain ⟨m, hnsm, hlook⟩ := I.loc
  have hN0 : N[0]? = some x0 := by
    have := S.pre
    have e1 : (N.take ((x0 :: ps).length + [("__class__" : Str)].length))[0]? = some x0 := by rw [this]; rfl
    rw [List.getElem?_take_of_lt (by simp)] at e1
    exact e1
  have hx0 : scope.names.lookup x0 = some .local := S.par x0 List.mem_cons_self
  obtain ⟨u0, ru0, lk0⟩ := hlook 0 x0 (.ref a) hN0 h0 (by left; show NF.scope.names.lookup x0 = _; rw [hscope]; exact hx0)
  obtain rfl : u0 = Value.ref a := ru0
  have hm0 : m x0 = some (.ref a) := by
    rcases lk0 with ⟨_, z⟩ | ⟨z, _⟩
    · exact z
    · exfalso
      have z : NF.scope.names.lookup x0 = some .cell ∨ NF.scope.names.lookup x0 = some .free := z
      rw [hscope, hx0] at z
      rcases z with z | z <;> cases z
  obtain ⟨cdD, hD⟩ := Option.isSome_iff_exists.mp F.cls
  obtain ⟨oD, hD1, hD2⟩ : ∃ oD, h₁.get? D = some oD ∧ oD.data = .cls cdD := by
    unfold PySem.W.clsIn at hD
    split at hD
    · rename_i c d cd' sl ho
      cases hD
      exact ⟨_, kin1 _ _ ho, rfl⟩
    · cases hD
  obtain ⟨mb, hb1, hb2⟩ := I.mod.blt
  obtain ⟨t1, hoa⟩ := exo_at I.hok ha
  have IA : PySem.W.InstAt h₁ a { cls := .ref C', dict := none, data := .fields #[.ref t1, .none, .none, .none, .bool false, .none] } C' none := ⟨hoa, rfl, rfl, trivial⟩
  have hint : interactive (PySem.W.ksEnv qual scope s.heap.objs.size f (.ref cda) cc) = false := by have := I.quiet; rw [henv] at this; exact this
  have hboot : bootBuiltins "super" = some (.type "super") := by decide +kernel
  refine ks_wpAt_execs_cons (ks_wpAt_Expr_any (ks_wpAt_MethodCall (pl := pl _) ?_ (hev _)) hint (hsw _))
  refine ks_wpAt_super_base (env := PySem.W.ksEnv qual scope s.heap.objs.size f (.ref cda) cc) hks (S.frk _ List.mem_cons_self) rfl rfl (kin1 _ _ lk) rfl hp rfl (kin1 _ _ hcode) rfl hvs hfile F.top ?_
  refine PySem.W.ks_loadName_global S.kind hks (Calls.loadGlobal_builtin (env := PySem.W.ksEnv qual scope s.heap.objs.size f (.ref cda) cc) (I.mod.glob.keeps I.bk) hsup (hb1.keeps I.bk) ((hb2 _ (by decide)).trans hboot) ⟨rfl, ?_⟩)
  refine wpAny_loadName_free S.kind (S.frk _ List.mem_cons_self) rfl ⟨_, kin1 _ _ hcell, rfl⟩ ?_
  rw [har]
  refine wpAny_loadName_local S.kind hx0 (by have := hnsm; rw [henv] at this; exact this) hm0 ?_
  refine ks_wpAny_isType_cls hD1 hD2 ⟨rfl, ?_⟩
  refine ks_wpAny_call_super hD1 hD2 hoa rfl (fun c e => by cases e) (PySem.W.looks_mroIn kin1 TC.mro) (fun h2 hso k2 => ?_)
  have I2 : Inv (ncx CX P w K mg base N NF f A outer s H E) [] (startF N vs [some (.ref D)]) H { s with heap := h2, toks := s.toks + ((x0 :: ps).zip us).length } := I.kept (t' := s.toks + ((x0 :: ps).zip us).length) k2
  have kin2 := I2.kIn
  have IA2 : PySem.W.InstAt h2 a { cls := .ref C', dict := none, data := .fields #[.ref t1, .none, .none, .none, .bool false, .none] } C' none := ⟨k2 _ _ hoa, rfl, rfl, trivial⟩
  obtain ⟨cdC, hC⟩ : ∃ cd, PySem.W.clsIn K C' = some cd := by
    have := TC.sup
    unfold PySem.W.ks_superIn at this
    cases z : PySem.W.clsIn K C' with
    | none => rw [z] at this; cases this
    | some cd => exact ⟨cd, rfl⟩
  have hsupC := TC.sup
  unfold PySem.W.ks_superIn at hsupC
  rw [hC] at hsupC
  refine PySem.W.kxs_getMethod PySem.W.kxs_ValueError hso (PySem.W.looks_opaque kin2 F.opq) (l₀ := cdC.mro) ?_ rfl kin2 hsupC (IA2.type.andThen (PySem.W.looks_subIn kin2 TC.ve)) (PySem.W.ks_ne kin2 IA2 hC) rfl ?_
  · exact fun A Q E s k q => wpAny_bind ((PySem.W.looks_clsIn kin2 hC) A _ E s k (wpAny_pure q))
  have I3 : Inv (ncx CX P w K mg base N NF f A outer s H E) [(h2.objs.size, PySem.W.kxs_mw "ValueError.__init__" a)] (startF N vs [some (.ref D)]) H { s with heap := h2.push (PySem.W.kxs_mw "ValueError.__init__" a), toks := s.toks + ((x0 :: ps).zip us).length + 1 } :=
    ClX.pin_new (s := { s with heap := h2, toks := s.toks + ((x0 :: ps).zip us).length }) I2 (fun _ _ z => Heap.get?_push_of_some _ z) (Nat.le_refl _) (Heap.get?_push_size h2 rfl) (fun v z => nomatch z)
  refine callwith_mw (i := "ValueError.__init__") (x := a) ?_ (hst _) (hpl _)
  have run := hta.run p3 _ _ _ _ _ I3 q
  rw [hxe, hA] at run
  rw [henv] at run
  refine wpAny_mono run (fun us2 s4 h4 => ?_) fun e s' z => z
  obtain ⟨vs4, H4, I4, r4, hl4, ha4, q4⟩ := h4
  refine ⟨ClX.pin_at I4, ?_⟩
  refine call_mw T I4 ha4 (ClX.pin_at I4) (by rw [← r4.length]; exact Nat.le_trans hl4 (by decide)) fun s5 I5 => ?_
  refine wpAt_of_wpAny ?_
  have run2 := ht.run [] s5 _ _ _ (ClX.unpin I5) q4
  rw [hxe, hA, henv] at run2
  refine wpAny_mono run2 (fun fl s' hs => ?_) fun e s' hs => hs
  have fin : ∀ {σ' : L2.St} {H' : Hp} {v : V} {u : Value}, Inv (ncx CX P w K mg base N NF f A outer s H E) [] σ' H' s' → L2.RelV v u → Q v H' → CE outer P w H s Q u s' :=
    fun {σ' H' v u} J rv q => ⟨v, H', J.os, J.bare, J.base, J.hok, rv, q⟩
  cases fl with
  | ret u =>
    obtain ⟨v, σ', H', J, rv, q⟩ := hs
    exact fin J rv q
  | next =>
    obtain ⟨σ', H', J, q⟩ := hs
    exact fin (v := V.non) (u := Value.none) J rfl q
  | brk =>
    obtain ⟨_, _, _, z⟩ := hs
    exact z.elim
  | cont =>
    obtain ⟨_, _, _, z⟩ := hs
    exact z.elim
end
end DLS
namespace DL
open PySem PySem.Spec PyProof.Rows L2 NdefX DLS
def tMethX (W : WX) (C : Addr) (m : Str) (sp : Sp) (dvs : List V) (ta : TE) (t : TA) : TE := fun σ H Q => ta σ H fun x H1 => ∃ a dx fs, x = .ref a ∧ H1 a = some (.ins C dx fs) ∧ fs.lookup m = none ∧
  t σ H1 fun vs H2 => sp (x :: (vs ++ dvs)) H2 Q fun cls d H' => W cls d σ H'
def tMakeX (W : WX) (C : Addr) (sp : Sp) (dvs : List V) (t : TA) : TE := fun σ H Q => t σ H fun vs H1 => ∀ x dx, H1 x = none → H1 dx = none → dx ≠ x →
  sp (.ref x :: (vs ++ dvs)) (upd (upd H1 dx (.own x)) x (.ins C dx [])) (fun v H2 => v = .non ∧ Q (.ref x) H2) fun cls d H' => W cls d σ H'
section
variable {X : Cx} {k : Nat} {f C : Addr} {fd : FuncData} {ps : List Str} {sp : Sp} {dvs : List V} {ds : List Value} {W : WX} {x m : Str} {p pos apos : Pos} {e o : Expr} {es : List Expr} {ta : TE} {t : TA}
theorem run_fnX {pins : List (Addr × Obj)} {σ : L2.St} {H : Hp} {s : Shared} {Q : VK} {us : List Value} {vs : List V} (F : FnOk X.prog X.w X.K X.mg X.base (CX X.prog X.w) k f fd ps sp) (hr : Room k X.A) (hb : Binds X.K fd ps ds) (hd : Vals dvs ds) (tk : Takes X W)
    (I : Inv X pins σ H s) (r : Vals vs us) (h : sp (vs ++ dvs) H Q fun cls d H' => W cls d σ H') : wpAny (model X.prog X.w) X.A (call (.ref f) us) (EP X pins σ Q) X.xe s := by
  have r2 : Vals (vs ++ dvs) (us ++ ds) := r.append hd
  have hl : (us ++ ds).length = ps.length := by rw [← r2.length]; exact F.len _ _ _ _ h
  refine wpAny_call (codeAny_mono (F.run X.A X.stack s H ⟨us, []⟩ (us ++ ds) (vs ++ dvs) Q _ hr I.env0 (hb s us I.kIn hl) r2 h) fun r s' hq => ?_)
  cases r with
  | error e => exact tk _ _ (XE.of_call I (fun _ _ _ z => z) hq)
  | ok fl =>
    cases fl with
    | ret u => exact I.after hq
    | next => exact False.elim hq
    | brk => exact False.elim hq
    | cont => exact False.elim hq
theorem pe_methX {pl : Sem Bool} (he : PE X o ta) (c : Cls X.K C) (hm : Meth X.K C m f) (F : FnOk X.prog X.w X.K X.mg X.base (CX X.prog X.w) k f fd ps sp) (hr : Room k X.A) (hb : Binds X.K fd ps ds) (hd : Vals dvs ds) (tk : Takes X W) (ha : PA X (e :: es) t)
    (hst : starEach (e :: es) X.env = (false, eval e X.env) :: starEach es X.env := by rfl) (hpl : (backTo pos (starEach es X.env)).any (·.1) = false := by rfl)
    (ht : eval (.Call (.Attribute o m apos) (e :: es) [] pos) X.env = (do
      let ov ← eval o X.env
      standAt apos.atName
      let (f, first) ← holding [ov] (getMethod ov m pl)
      callWith pos f first (backTo pos (starEach (e :: es) X.env)) (backToKw pos (keywordEach [] X.env))) := by rfl) :
    PE X (.Call (.Attribute o m apos) (e :: es) [] pos) (tMethX W C m sp dvs ta t) := by
  refine ⟨fun pins s σ H Q I h => ?_⟩
  refine PySem.W.methodCall_KW (pl := pl) (thn (he.run pins s σ H _ I h) fun u s1 ⟨x, H1, I1, rx, a, dx, fs, ex, ea, l, q⟩ => ?_) ht
  subst ex
  obtain rfl : u = Value.ref a := rx
  refine getmeth_ok I1 ea c hm l ?_
  refine PySem.W.callWith_K (first := [.ref a]) (h₀ := X.base) I.ok.mod.kin hm.kp (thn (ha.run pos pins s1 σ H1 _ I1 q) fun us s2 ⟨vs, H2, I2, r, q2⟩ => ⟨I2.kIn, ?_⟩) hst hpl
  exact run_fnX (us := .ref a :: us) (vs := .ref a :: vs) F hr hb hd tk I2 (.cons rfl r) q2
theorem run_makeX {pins : List (Addr × Obj)} {σ : L2.St} {H : Hp} {s : Shared} {Q : VK} {us : List Value} {vs : List V} (M : Mk X.K C f) (F : FnOk X.prog X.w X.K X.mg X.base (CX X.prog X.w) k f fd ps sp) (hr : Room (k + 1) X.A) (hb : Binds X.K fd ps ds) (hd : Vals dvs ds)
    (tk : Takes X W) (I : Inv X pins σ H s) (r : Vals vs us)
    (h : ∀ x dx, H x = none → H dx = none → dx ≠ x → sp (.ref x :: (vs ++ dvs)) (upd (upd H dx (.own x)) x (.ins C dx [])) (fun v H2 => v = .non ∧ Q (.ref x) H2) fun cls d H' => W cls d σ H') :
    wpAny (model X.prog X.w) X.A (call (.ref C) us) (EP X pins σ Q) X.xe s := by
  have hq := h (s.heap.objs.size + 1) s.heap.objs.size (I.hok.fresh (Nat.le_succ _)) (I.hok.fresh (Nat.le_refl _)) (Nat.ne_of_lt (Nat.lt_succ_self _))
  have I2 := Inv.made (C := C) I
  have r2 : Vals (V.ref (s.heap.objs.size + 1) :: (vs ++ dvs)) (Value.ref (s.heap.objs.size + 1) :: (us ++ ds)) := .cons rfl (r.append hd)
  have hl : (Value.ref (s.heap.objs.size + 1) :: us ++ ds).length = ps.length := by
    have e := r2.length
    rw [F.len _ _ _ _ hq] at e
    exact e.symm
  refine wpAny_call (make_map (f := f) I.kIn M.makes M.init (beq_iff_eq.mp M.fn) (codeAny_mono (F.run _ X.stack _ _ ⟨Value.ref (s.heap.objs.size + 1) :: us, []⟩ (Value.ref (s.heap.objs.size + 1) :: (us ++ ds)) _ _ _ (hr.make C us [])
    (I2.env0.make C us []) (hb _ (Value.ref (s.heap.objs.size + 1) :: us) I2.kIn hl) r2 hq) fun r s' hq' => ?_))
  cases r with
  | error e => exact tk _ _ (XE.of_call I2 (fun _ _ _ z => z) hq')
  | ok fl =>
    cases fl with
    | ret u =>
      obtain ⟨v, H', I3, rv, ev, q3⟩ := I2.after hq'
      subst ev
      exact ⟨rv, ⟨V.ref (s.heap.objs.size + 1), H', I3, rfl, q3⟩⟩
    | next => exact False.elim hq'
    | brk => exact False.elim hq'
    | cont => exact False.elim hq'
theorem pe_makeX (M : Mk X.K C f) (F : FnOk X.prog X.w X.K X.mg X.base (CX X.prog X.w) k f fd ps sp) (hr : Room (k + 1) X.A) (hg : Gl X x) (hm : X.mg x = some (.ref C)) (hb : Binds X.K fd ps ds) (hd : Vals dvs ds) (tk : Takes X W)
    (ha : PA X (e :: es) t) (hdb : (x == ("__debug__" : Str)) = false := by decide) (he : starEach (e :: es) X.env = (false, eval e X.env) :: starEach es X.env := by rfl) (hpl : (backTo pos (starEach es X.env)).any (·.1) = false := by rfl) :
    PE X (.Call (.Name x p) (e :: es) [] pos) (tMakeX W C sp dvs t) := by
  refine ⟨fun pins s σ H Q I h => ?_⟩
  refine wpAny_Call_Name_kw (ld_glob I hg hm ?_ hdb)
  refine PySem.W.callWith_K (h₀ := X.base) I.ok.mod.kin M.kp (thn (ha.run pos pins s σ H _ I h) fun us s1 ⟨vs, H1, I1, r, q⟩ => ⟨I1.kIn, ?_⟩) he hpl
  exact run_makeX M F hr hb hd tk I1 r q
theorem passN : Passes (CX X.prog X.w) X (fun _ _ _ => False) := fun pins σ H s e s' I c => by
  obtain ⟨_, _, _, _, _, _, _, _, _, _, _, _, z⟩ := c
  exact z.elim
end
theorem takesN {X : Cx} : Takes X (fun _ _ _ _ => False) := fun _ _ ⟨_, _, _, _, _, _, _, _, _, _, _, _, _, _, _, _, w⟩ => w.elim
theorem kin_classX {prog : Program} {w : World} {A : Around} {E : Value → Shared → Prop} {s : Shared} {K : PySem.W.Frag} {x D : Addr} {ox : Obj} {od : Option Obj} {Q : Option Value → Shared → Prop} (T : ExcC K D) (X : K.In s.heap) (I : PySem.W.InstAt s.heap x ox D od) (h : Q (some (.ref D)) { s with toks := s.toks + 1 }) :
    wpAny (model prog w) A (getAttr? (.ref x) "__class__") Q E s := by
  have hf : PySem.W.findObj K D od "__class__" = some (.bind (.builtin "getset_descriptor.__get__") (.builtin "object.__class__")) := by
    obtain ⟨cd, hc, _⟩ := PySem.W.any_some T.hd
    unfold PySem.W.findObj
    rw [hc, Option.bind_some, T.ha, Option.bind_some]
    simp [T.hn, T.ht]
  obtain ⟨hp, g, d, t, os⟩ := s
  have L0 := I.type (M := model prog w)
  have L1 := PySem.W.looks_findIn (M := model prog w) X T.hg
  have L2 := PySem.W.looks_findIn (M := model prog w) X T.hk
  have L3 := PySem.W.looks_find (M := model prog w) X I hf
  have sub : PySem.W.Looks (model prog w) hp (isInstance (.ref x) (.type "BaseException")) true := L0.andThen (PySem.W.looks_subIn X T.hs)
  have hx0 : (false && onTheHeap (Value.builtin "BaseException.__getattribute__")) = false := rfl
  have hx2 : (Value.builtin "BaseException.__getattribute__" == Value.builtin "object.__getattribute__") = false := by decide +kernel
  have hx1 : (onTheHeap (Value.ref D) && Value.builtin "BaseException.__getattribute__" == Value.builtin "object.__getattribute__") = false := by rw [hx2]; rfl
  unfold getAttr? getAttrBy? getAttrBy
  refine wpAny_bind (wpAny_mkText (wpAny_bind (wpAny_attempt (wpAny_holding (wpAny_bind (L0.at (wpAny_bind (L1.at ?_))))))))
  show wpAny _ _ (if (onTheHeap (Value.ref D) && Value.builtin "BaseException.__getattribute__" == Value.builtin "object.__getattribute__") = true then _ else _) _ _ _
  rw [hx1, if_neg Bool.false_ne_true]
  unfold getAttrByItsOwn hookBefore
  refine wpAny_bind ?_
  rw [if_pos (show onTheHeap (Value.ref D) = true from rfl)]
  refine L2.at ?_
  refine wpAny_bind (wpAny_attempt (wpAny_holding ?_))
  unfold callGetattribute
  rw [hx0, if_neg Bool.false_ne_true]
  unfold boundAndCalled
  rw [PySem.F.excAttr_ValueError.ga.bind (.ref x)]
  refine wpAny_bind (wpAny_pure ?_)
  show wpAny _ _ (call (.builtin "BaseException.__getattribute__") [.ref x, .str "__class__" t]) _ _ _
  refine wpAny_call (codeAny_call_builtin PySem.F.excAttr_ValueError.ga.plain PySem.F.entry_bexc_ga ?_)
  refine @PySem.W.check_slot (model prog w) _ _ ⟨hp, g, d, t + 1, os⟩ "BaseException.__getattribute__" "BaseException" "__getattribute__" (.ref x) [.str "__class__" t] [] _ (by decide +kernel) (by decide +kernel) sub (PySem.F.args_bexc_ga (.ref x) (.str "__class__" t)) ?_
  unfold Builtin.«object.__getattribute__»
  refine wpAny_bind (wpAny_of_eq (a := ((Value.ref x : Value), [Value.str "__class__" t])) (by first | rfl | (simp only [slotArgs]; rfl)) ?_)
  refine wpAny_bind (wpAny_pure (wpAny_bind (L0.at (wpAny_bind (L3.at ?_)))))
  show wpAny _ _ (holding [Value.builtin "object.__class__"] (call (.builtin "getset_descriptor.__get__") [.builtin "object.__class__", .ref x, .ref D]) >>= ret) _ _ _
  refine wpAny_bind (wpAny_holding (wpAny_call (PySem.W.class_get (s := ⟨hp, g, d, t + 1, os⟩) (ox := ox) (od := od) X I T.hm ?_)))
  refine wpAny_pure ?_
  show wpAny _ _ (handedOut (.ref D)) _ _ _
  rw [PySem.W.handedOut_of (v := .ref D) rfl]
  first
    | exact wpAny_pure (wpAny_pure h)
    | exact wpAny_pure h
    | exact wpAny_pure (wpAny_bind (wpAny_pure (wpAny_pure h)))
theorem kitx_excX {K : PySem.W.Frag} {x D : Addr} {ox : Obj} {od : Option Obj} (T : ExcC K D) : PySem.W.KitX K (.ref x) (.ref D) (fun h => PySem.W.InstAt h x ox D od) where
  ty := fun _ _ _ I => I.type
  it := fun _ _ X _ => by
    obtain ⟨cdD, hcD, _⟩ := PySem.W.any_some T.hd
    unfold PySem.W.clsIn at hcD
    split at hcD
    · rename_i c' d' cd' sl' ho
      intro A' Q' E' s' k q
      unfold isType loadHead
      exact wpAny_bind (wpAny_loadPart (k _ _ (X _ _ ho)) (wpAny_pure q))
    · cases hcD
  ne := fun h tp dd its n sl X htp => by
    obtain ⟨cdD, hcD, _⟩ := PySem.W.any_some T.hd
    refine Bool.eq_false_iff.mpr fun q => ?_
    have e : D = tp := Value.ref.inj (beq_iff_eq.mp q)
    subst e
    unfold PySem.W.clsIn at hcD
    split at hcD
    · rename_i c' d' cd' sl' ho
      have z := (X _ _ ho).symm.trans htp
      cases z
    · cases hcD
  ca := fun X I k => kin_classX T X I k
def rIsX (K : PySem.W.Frag) (a : Addr) (cls : Value) (d : Option Addr) : List V → Hp → VK → Prop := fun xs H Q => ∃ C, cls = .ref C ∧ ExcC K C ∧ (∀ dd, d = some dd → ∃ fs, H dd = some (.xd fs)) ∧
  ((∃ (c : V) (u : Value) (b : Bool), xs = [.ref a, c] ∧ ClsV c u ∧ PySem.W.kitOne K (.ref C) u = some b ∧ Q (.bl b) H) ∨
   ∃ (tp : Addr) (cs : List V) (us : List Value) (b : Bool), xs = [.ref a, .ref tp] ∧ Rd H tp (.tup cs) ∧ Paired ClsV cs us ∧ PySem.W.kitAny K (.ref C) us = some b ∧ Q (.bl b) H)
theorem call_isX {X : Cx} {a : Addr} {oe : Obj} {cls : Value} {d : Option Addr} {pn : List (Addr × Obj)} (hz : Zc cls d oe) (hf : ∃ vs, oe.data = .fields vs) : CallR (X.suite a ((a, oe) :: pn)) (.builtin "isinstance") (rIsX X.K a cls d) := by
  intro pins s σ H xs us Q I r h
  obtain ⟨C, rfl, T, hdd, h⟩ := h
  obtain ⟨ha, _⟩ := I.pin (a, oe) (List.mem_append_left _ List.mem_cons_self)
  obtain ⟨vs, hd⟩ := hf
  have J : ∃ od, PySem.W.InstAt s.heap a oe C od := by
    cases d with
    | none => exact ⟨none, ha, hz.1, by unfold PySem.W.notCls; rw [hd] <;> rfl, by rw [hz.2]; trivial⟩
    | some dd =>
      obtain ⟨fs, e⟩ := hdd dd rfl
      obtain ⟨mA, hns, _⟩ := (show ObjOk X.prog X.w H s.heap dd (.xd fs) from I.hok dd _ e)
      obtain ⟨od, ho, _⟩ := lookIn_ns hns
      exact ⟨some od, ha, hz.1, by unfold PySem.W.notCls; rw [hd] <;> rfl, by rw [hz.2]; exact ho⟩
  obtain ⟨od, J⟩ := J
  have Z := kitx_excX (x := a) (ox := oe) (od := od) T
  rcases h with ⟨c, u, b, rfl, k, e, q⟩ | ⟨tp, cs, ws, b, rfl, hT, k, e, q⟩
  · obtain ⟨u1, u2, rfl, r1, r2⟩ := vals2 r
    cases (show u1 = Value.ref a from r1)
    cases k.eq r2
    exact PySem.W.kia_one Z I.kIn J e (fun z => nomatch z) fun tk => ⟨.bl b, H, I.tok tk, rfl, q⟩
  · obtain ⟨u1, u2, rfl, r1, r2⟩ := vals2 r
    cases (show u1 = Value.ref a from r1)
    cases (show u2 = Value.ref tp from r2)
    obtain ⟨_, its, rv, o, h1, h2, n, h3⟩ := (show ObjOk X.prog X.w H s.heap tp (.tup cs) from hT.ok I.hok)
    have e3 := ClsV.all k rv
    subst e3
    obtain ⟨oc, od', dt, sl⟩ := o
    simp only at h2 h3
    subst h2 h3
    exact PySem.W.kia_tup Z I.kIn J h1 e (fun z => nomatch z) fun tk => ⟨.bl b, H, I.tok tk, rfl, q⟩
def tTry (K : PySem.W.Frag) (c : Value) (i : Nat) (tb : WX → TS) (ts : Addr → Value → Option Addr → TS) (Wout : WX) : TS := fun D σ H => tb (wAs K c i ts Wout D) D σ H
theorem ps_tryA {X : Cx} {x n : Str} {c : Value} {i : Nat} {body suite : List Stmt} {b₀ : Stmt} {np pos pos' : Pos} {tb : WX → TS} {ts : Addr → Value → Option Addr → TS} {Wout : WX} (hs : X.stack = X.env :: X.outer) (hf : X.env.frame = some X.env.locals) (hN : X.N.Nodup) (hi : X.N[i]? = some n) (hln : X.env.kindOf n = some .local) (hc : Names X x c) (tk : Takes X Wout)
    (hb : ∀ (W : WX) (pn : List (Addr × Obj)) (xe : Value → Shared → Prop), Takes (X.tr pn xe) W → PassesOwn (model X.prog X.w) X.A X.env xe → PSs (X.tr pn xe) body (tb W))
    (hsu : ∀ (a : Addr) (oe : Obj) (cls : Value) (d : Option Addr) (pn : List (Addr × Obj)), Zc cls d oe → (∃ vs, oe.data = .fields vs) → PSs (X.suite a ((a, oe) :: pn)) (b₀ :: suite) (ts a cls d)) :
    PS X (.Try body [.ExceptHandler (some (.Name x np)) (some n) (b₀ :: suite) pos'] [] [] pos) (tTry X.K c i tb ts Wout) := ps_try_as hs hf hN hi hln hc tk hb hsu
def spI (K : PySem.W.Frag) (D : Addr) (fs : List Str) (cond : List V → Prop) : Sp := fun vs H Q _ => ∃ (a C : Addr) (ws : List V), vs = .ref a :: ws ∧ ws.length = fs.length ∧ cond ws ∧ OexC K C ∧ SupC K C D ∧ (∀ f ∈ fs, PySem.W.findIn K (.ref C) f = some none) ∧
  H a = some (exo a C none) ∧ ∀ dx, H dx = none → dx ≠ a → Q .non (upd (upd H dx (exd dx (fs.zip ws).reverse)) a (exo a C (some dx)))
theorem Rn.append {F : Hp} {gs : List (Str × V)} {gds : List (Str × D)} (q : Rn F gs gds) : ∀ {fs : List (Str × V)} {fds : List (Str × D)}, Rn F fs fds → Rn F (fs ++ gs) (fds ++ gds)
  | _, _, .nil => q
  | _, _, .cons r t => .cons r (Rn.append q t)
theorem Rn.reverse {F : Hp} : ∀ {fs : List (Str × V)} {fds : List (Str × D)}, Rn F fs fds → Rn F fs.reverse fds.reverse
  | _, _, .nil => .nil
  | _, _, .cons r t => by
    rw [List.reverse_cons, List.reverse_cons]
    exact Rn.append (.cons r .nil) (Rn.reverse t)
theorem Rs.zip {F : Hp} : ∀ {fs : List Str} {vs : List V} {ds : List D}, Rs F vs ds → Rn F (fs.zip vs) (fs.zip ds)
  | [], _, _, _ => .nil
  | _ :: _, _, _, .nil => .nil
  | _ :: _, _, _, .cons r t => .cons r (Rs.zip t)
section
variable {χ : Xk} {L : List Addr} {as : List Addr} {ρ : DSt} {O : List D} {k : List Addr → D → List D → Prop} {ta tb te : TE} {d d1 d2 : D} {KK : PySem.W.Frag}
theorem s_raise {K : Kt} {C : Addr} {fs : List Str} {cond : List V → Prop} {ta : TA} (T : OexC KK C) (TC : SupC KK C C) (hn : ∀ f ∈ fs, PySem.W.findIn KK (.ref C) f = some none) (hf : fs.length ≤ 1000)
    (h : dA χ ta L as ρ O fun as ds O => ds.length = fs.length ∧ (∀ F vs, Rs F vs ds → cond vs) ∧ χ.e L C (fs.zip ds).reverse as ρ O) : dS χ (fun _ σ H => tMkO C (spI KK C fs cond) [] ta σ H fun cls d H' => χ.E cls d σ H') L as ρ O K := fun F H σ S x Z z =>
  h F H σ S x _ fun F1 H1 as1 O1 vs ds g1 S1 r1 ⟨hl, hc, z1⟩ => by
    have hvl : vs.length = fs.length := by rw [r1.length]; exact hl
    refine ⟨by omega, fun a ha => ⟨a, C, vs, by rw [List.append_nil], hvl, hc F1 vs r1, T, TC, hn, upd_same, fun dx hdx ne => ?_⟩⟩
    rw [upd_ne ne] at hdx
    refine ⟨rfl, dx, (fs.zip vs).reverse, upd_same, by rw [upd_ne ne, upd_same], hdx, ?_⟩
    have eH : upd (del (upd (upd (upd H1 a (exo a C none)) dx (exd dx (fs.zip vs).reverse)) a (exo a C (some dx))) a) dx (.xd (fs.zip vs).reverse) = upd H1 dx (.xd (fs.zip vs).reverse) := by
      funext b
      by_cases q : b = dx
      · rw [q, upd_same, upd_same]
      · rw [upd_ne q, upd_ne q]
        by_cases q2 : b = a
        · rw [q2, del_same, ha]
        · rw [del_ne q2, upd_ne q2, upd_ne q, upd_ne q2]
    rw [eH]
    have g2 : Go as1 F1 H1 as1 F1 (upd H1 dx (.xd (fs.zip vs).reverse)) := ⟨fun _ _ h => h, fun _ _ h => .inl h, fun b o e _ => by rw [upd_ne (ne_of_none e hdx)]; exact e, fun b e => by
      by_cases z : b = dx
      · subst z; exact hdx
      · rw [upd_ne z] at e; exact e, fun _ m => .inl m⟩
    refine (x.go g1) F1 _ L as1 σ ρ O1 C (some dx) _ g2.x ⟨S1.hd.upd (S1.hd.free hdx), S1.own.keep (fun _ _ h => h) (fun b m => S1.own.free m) fun b m o e => by rw [upd_ne (ne_of_none e hdx)]; exact e, S1.sl⟩ ⟨hdx, _, upd_same, (Rs.zip r1).reverse⟩ z1
theorem d_methW {C : Ct} {cl : Addr} {m : Str} (js : List Nat) {ta : TE} {t : TA}
    (h : dE χ ta L as ρ O fun as d O => (∃ fds, insOf as O d cl fds ∧ fds.lookup m = none) ∧ dA χ t L as ρ O fun as ds O => cc C χ ρ js L as (d :: ds) O k) : dE χ (tMethX χ.E cl m (spC C) [] ta t) L as ρ O k := fun F H σ S x Q q =>
  h F H σ S x _ fun F1 H1 as1 O1 v d g1 S1 r1 ⟨⟨fds, i, ln⟩, z1⟩ => by
    obtain ⟨a, dx, fs, rfl, e, rn⟩ := ins_at S1.hd S1.own r1 i
    refine ⟨a, dx, fs, rfl, e, rn.lookup ln, ?_⟩
    refine z1 F1 H1 σ S1 (x.go g1) _ fun F2 H2 as2 O2 vs ds g2 S2 r2 z2 => ?_
    rw [List.append_nil]
    exact cc_sp S2 (x.go (g1.trans g2)) (.cons (r1.mono g2.ex) r2) z2 (fun cls d H z => z) fun F' H' as' O' v d g => q F' H' as' O' v d ((g1.trans g2).trans g)
theorem w_makeW {C : Ct} {cl : Addr} {ta : TA} (js : List Nat) (h : dA χ ta L as ρ O fun as ds O => ∀ p, (js ++ [as.length]).Nodup ∧ (∀ j ∈ js, j < as.length) ∧ cc C χ ρ (js ++ [as.length]) L (as ++ [p]) (.adr p :: ds) (O ++ [.ins cl []]) fun as' d O' => d = .non ∧ k as' (.adr p) O') :
    dE χ (tMakeX χ.E cl (spC C) [] ta) L as ρ O k := fun F H σ S x Q q =>
  h F H σ S x _ fun F1 H1 as1 O1 vs ds g1 S1 r1 z1 p dx hp hdx ne => by
    rw [List.append_nil]
    obtain ⟨_, _, z1⟩ := z1 p
    have hd1 : Hd L F1 (upd H1 dx (.own p)) := S1.hd.upd (S1.hd.free hdx)
    have ow1 : Own F1 (upd H1 dx (.own p)) as1 O1 := S1.own.keep (fun _ _ h => h) (fun b m => S1.own.free m) fun b m o e => by
      rw [upd_ne (ne_of_none e hdx)]; exact e
    have hp1 : upd H1 dx (.own p) p = none := by rw [upd_ne (fun z => ne z.symm)]; exact hp
    have g2 : Go as1 F1 H1 as1 F1 (upd H1 dx (.own p)) := ⟨fun _ _ h => h, fun _ _ h => .inl h, fun b o e _ => by rw [upd_ne (ne_of_none e hdx)]; exact e, fun b e => by
      by_cases z : b = dx
      · subst z; exact hdx
      · rw [upd_ne z] at e; exact e, fun _ m => .inl m⟩
    have S2 : Rep L as1 F1 (upd H1 dx (.own p)) σ ρ O1 := ⟨hd1, ow1, S1.sl⟩
    have S3 := S2.new (o := .ins cl dx []) (d := .ins cl []) hp1 (.ins .nil)
    refine cc_sp S3 (x.go (g1.trans (g2.trans (go_new hp1)))) (.cons (.adr p) r1) z1 (fun _ _ _ z => z) fun F' H' as' O' v d g S' r' ⟨ed, z'⟩ => ?_
    subst ed
    cases r'
    exact ⟨rfl, q F' H' as' O' _ _ (g1.trans (g2.trans ((go_new hp1).trans g))) S' (.adr p) z'⟩
theorem s_try {K : Kt} {tb : WX → TS} {c : Value} {i : Nat} {ts : Addr → Value → Option Addr → TS} (e' : List Addr → Addr → List (Str × D) → List Addr → DSt → List D → Prop)
    (he : ∀ L' C fds as ρ O, e' L' C fds as ρ O → ∃ b, PySem.W.exmOne KK (.ref C) c = some b ∧
      (b = true → L' = L ∧ (fds = [] → False) ∧ ∀ a dd, dS X0 (ts a (.ref C) (some dd)) L as (ρ.set i (some (.exc a C dd fds))) O
        { nx := fun as ρ O => K.nx as (ρ.set i none) O, rt := K.rt, bk := fun as ρ O => K.bk as (ρ.set i none) O, ct := fun as ρ O => K.ct as (ρ.set i none) O }) ∧ (b = false → χ.e L' C fds as ρ O))
    (hb : ∀ W, dS ⟨W, e'⟩ (tb W) L as ρ O K) : dS χ (tTry KK c i tb ts χ.E) L as ρ O K := fun F H σ S x Z z => by
  refine hb (wAs KK c i ts χ.E Z) F H σ S (fun F' H' L' as' σ' ρ' O' cls d fds g S' xd ze => ?_) Z z
  obtain ⟨b, eb, h1, h2⟩ := he _ _ _ _ _ _ ze
  refine ⟨b, eb, fun tb' a ha => ?_, fun fb => x F' H' L' as' σ' ρ' O' cls d fds g S' xd (h2 fb)⟩
  obtain ⟨eL, ne, hs⟩ := h1 tb'
  subst eL
  cases d with
  | none => exact (ne xd).elim
  | some dd =>
    obtain ⟨n1, fs, e1, rn⟩ := xd
    have hg := g.go
    have hf' : ∀ {u}, F' dd = some u → u = .xd fs := fun {u} q => by
      rcases S'.hd.at_ dd u q with ⟨_, y⟩ | ⟨_, kvs, ob, y1, y⟩ | ⟨_, ob, xs, y1, y⟩
      · rw [e1] at y; exact (Option.some.inj y).symm
      · rw [e1] at y; cases y
      · rw [e1] at y; cases y
    have nas : dd ∉ as' := fun m => by
      obtain ⟨j, hj⟩ := List.mem_iff_getElem?.mp m
      have hl : j < O'.length := by rw [← S'.own.len]; exact (List.getElem?_eq_some_iff.mp hj).1
      obtain ⟨_, o, h3, h4⟩ := S'.own.at_ j dd _ hj (List.getElem?_eq_getElem hl)
      rw [e1] at h3
      cases h3
      cases h4
    have nL : dd ∉ L' := fun m => by
      have := S'.hd.lk dd m
      cases q : F' dd with
      | none => exact this q
      | some u =>
        have eu := hf' q
        subst eu
        rcases S'.hd.at_ dd _ q with ⟨y, _⟩ | ⟨_, _, _, y, _⟩ | ⟨_, _, _, y, _⟩
        · exact y m
        · cases y
        · cases y
    let F2 : Hp := upd F' dd (.xd fs)
    have ex2 : Ex F' F2 := fun b o q => by
      by_cases y : b = dd
      · subst y; rw [hf' q]; exact upd_same
      · show upd F' dd _ b = _
        rw [upd_ne y]; exact q
    have S2 : Rep L' as' F2 H' σ' ρ' O' := by
      refine ⟨⟨fun b o q => ?_, fun b m q => ?_⟩, S'.own.keep ex2 (fun b m => ?_) fun _ _ _ h => h, S'.sl.mono ex2⟩
      · by_cases y : b = dd
        · subst y
          have q : upd F' b (.xd fs) b = some o := q
          rw [upd_same] at q
          cases q
          exact .inl ⟨nL, e1⟩
        · have q : upd F' dd (.xd fs) b = some o := q
          rw [upd_ne y] at q
          exact S'.hd.at_ b o q
      · by_cases y : b = dd
        · subst y; exact nL m
        · have q : upd F' dd (.xd fs) b = none := q
          rw [upd_ne y] at q
          exact S'.hd.lk b m q
      · show upd F' dd (.xd fs) b = none
        rw [upd_ne (show b ≠ dd from fun y => nas (y ▸ m))]
        exact S'.own.free m
    have g2 : Go as F H as' F2 H' := ⟨fun b o q => ex2 _ _ (hg.ex _ _ q), fun b o q => by
      by_cases y : b = dd
      · subst y; exact .inr (.inl n1)
      · have q : upd F' dd (.xd fs) b = some o := q
        rw [upd_ne y] at q
        exact hg.nw b o q, hg.kp, hg.th, hg.sub⟩
    have S3 : Rep L' as' F2 H' (σ'.set i (some (.ref a))) (ρ'.set i (some (.exc a cls dd fds))) O' := ⟨S2.hd, S2.own, S2.sl.set (.exc (F := F2) (show upd F' dd (.xd fs) dd = _ from upd_same) (rn.mono ex2)) i⟩
    refine hs a dd F2 H' _ S3 xp0 _ ?_
    have zz := z.go g2
    exact ⟨fun F4 H4 as4 σ4 ρ4 O4 g4 S4 k4 => zz.nx F4 H4 as4 _ _ O4 g4 ⟨S4.hd, S4.own, S4.sl.forget i⟩ k4, zz.rt,
      fun F4 H4 as4 σ4 ρ4 O4 g4 S4 k4 => zz.bk F4 H4 as4 _ _ O4 g4 ⟨S4.hd, S4.own, S4.sl.forget i⟩ k4, fun F4 H4 as4 σ4 ρ4 O4 g4 S4 k4 => zz.ct F4 H4 as4 _ _ O4 g4 ⟨S4.hd, S4.own, S4.sl.forget i⟩ k4⟩
theorem s_x0 {K : Kt} {ts : TS} (h : dS X0 ts L as ρ O K) : dS χ ts L as ρ O K := fun F H σ S x Z z => h F H σ S xp0 Z z
theorem w_xf {a C dd : Addr} {f : Str} (h : dE χ te L as ρ O fun as d O => ∃ fds d', d = .exc a C dd fds ∧ fds.lookup f = some d' ∧ k as d' O) : dE χ (tXf a (.ref C) (some dd) C f te) L as ρ O k := fun F H σ S x Q q =>
  h F H σ S x _ fun F1 H1 as1 O1 v d g1 S1 r1 ⟨fds, d', ed, hl, z⟩ => by
    subst ed
    cases r1 with
    | @exc _ _ _ fs _ e rn =>
      obtain ⟨v, e1, r⟩ := rn.get hl
      have hd : H1 dd = some (.xd fs) := by
        rcases S1.hd.at_ _ _ e with ⟨_, y⟩ | ⟨_, _, _, y, _⟩ | ⟨_, _, _, y, _⟩
        · exact y
        · cases y
        · cases y
      exact ⟨rfl, rfl, dd, _, v, rfl, hd, e1, q F1 H1 as1 O1 v d' g1 S1 r z⟩
theorem exc_xd {F H : Hp} {v : V} {a C dd : Addr} {fds : List (Str × D)} (hd : Hd L F H) (r : R F v (.exc a C dd fds)) : v = .ref a ∧ ∃ fs, H dd = some (.xd fs) := by
  cases r with
  | exc e rn =>
    rcases hd.at_ _ _ e with ⟨_, y⟩ | ⟨_, _, _, y, _⟩ | ⟨_, _, _, y, _⟩
    · exact ⟨rfl, _, y⟩
    · cases y
    · cases y
theorem rc_isX {a C dd c : Addr} {fds : List (Str × D)} {b : Bool} (T : ExcC KK C) (hk : PySem.W.kitOne KK (.ref C) (.ref c) = some b) (z : k as (.bl b) O) : rc (rIsX KK a (.ref C) (some dd)) L as O [.exc a C dd fds, .adr c] k := fun F H xs hd ow r Q q => by
  cases r with
  | cons r1 r2 =>
    cases r2 with
    | cons r3 r4 =>
      cases r4
      cases r3
      obtain ⟨rfl, fs, y⟩ := exc_xd hd r1
      exact ⟨C, rfl, T, fun d e => by cases e; exact ⟨fs, y⟩, .inl ⟨_, _, b, rfl, .own c, hk, q F H as O _ _ (.refl ..) hd ow (.bl b) z⟩⟩
theorem rc_isXT {a C dd : Addr} {cs : List Addr} {fds : List (Str × D)} {b : Bool} (T : ExcC KK C) (hk : PySem.W.kitAny KK (.ref C) (cs.map Value.ref) = some b) (z : k as (.bl b) O) : rc (rIsX KK a (.ref C) (some dd)) L as O [.exc a C dd fds, .tup (cs.map D.adr)] k := fun F H xs hd ow r Q q => by
  cases r with
  | cons r1 r2 =>
    cases r2 with
    | cons r3 r4 =>
      cases r4
      obtain ⟨rfl, fs, y⟩ := exc_xd hd r1
      cases r3 with
      | tup e rs =>
        have main : ∀ {cs : List Addr} {xs : List V}, Rs F xs (cs.map D.adr) → Paired ClsV xs (cs.map Value.ref) := fun {cs} => by
          induction cs with
          | nil => intro xs h; cases h; exact .nil
          | cons c cs ih =>
            intro xs h
            cases h with
            | cons h1 h2 => cases h1; exact .cons (.own c) (ih h2)
        exact ⟨C, rfl, T, fun d e => by cases e; exact ⟨fs, y⟩, .inr ⟨_, _, _, b, rfl, hd.tupR e, main rs, hk, q F H as O _ _ (.refl ..) hd ow (.bl b) z⟩⟩
theorem w_isXt {a C dd : Addr} {fds : List (Str × D)} {n : String} {b : Bool} (T : ExcC KK C) (hk : PySem.W.kitOne KK (.ref C) (.type n) = some b) (h : dE χ te L as ρ O fun as d O => d = .exc a C dd fds ∧ k as (.bl b) O) :
    dE χ (tCB (rIsX KK a (.ref C) (some dd)) (tCons te (tCons (tC (.ty n)) tNil))) L as ρ O k := fun F H σ S x Q q =>
  h F H σ S x _ fun F1 H1 as1 O1 v d g1 S1 r1 ⟨ed, z⟩ => by
    subst ed
    obtain ⟨rfl, fs, y⟩ := exc_xd S1.hd r1
    exact ⟨C, rfl, T, fun d e => by cases e; exact ⟨fs, y⟩, .inl ⟨_, _, b, rfl, .ty n, hk, q F1 H1 as1 O1 _ _ g1 S1 (.bl b) z⟩⟩
end
end DL
namespace DL
open PySem PySem.Spec PyProof.Rows L2 NdefX DLS
def excB1 (K : PySem.W.Frag) (C : Addr) : Bool := match K.lookup C with
  | some ⟨.type "type", _, .cls cd, sl⟩ => (match cd.mro, sl.toList with
    | .ref C' :: bm, [_, _, _, _, some (.builtin n), _] => C' == C && n == "ValueError.__new__" && !cd.hasDel && cd.hasDict && PySem.HandSPX.refsVE bm
    | _, _ => false)
  | _ => false
theorem excB1_ok {K : PySem.W.Frag} {C : Addr} (q : excB1 K C = true) : ∃ nm q N bs bm sn sub ab col dd k0 k1 k2 k3 k5, K.lookup C = some (excClassObj nm q C N bs bm true sn sub ab col dd k0 k1 k2 k3 k5 "ValueError.__new__") ∧ PySem.HandSPX.refsVE bm = true := by
  unfold excB1 at q
  split at q
  · rename_i dd cd sl ho
    split at q
    · rename_i C' bm k0 k1 k2 k3 n k5 hm hs
      simp only [Bool.and_eq_true, beq_iff_eq, Bool.not_eq_true'] at q
      obtain ⟨⟨⟨⟨rfl, rfl⟩, hdel⟩, hdic⟩, ht⟩ := q
      obtain ⟨nm, bs, mro, ns, qn, hd, sn, sub, ab, col, del⟩ := cd
      dsimp only at hm hdel hdic
      subst hm hdel hdic
      have hsl : sl = #[k0, k1, k2, k3, some (.builtin "ValueError.__new__"), k5] := by
        obtain ⟨l⟩ := sl
        simp only at hs
        rw [hs]
      subst hsl
      exact ⟨nm, qn, ns, bs, bm, sn, sub, ab, col, dd, k0, k1, k2, k3, k5, ho, ht⟩
    · cases q
  · cases q
def excB (K : PySem.W.Frag) (C : Addr) : Bool := excB1 K C && (decide (PySem.W.findIn K (.ref C) "__setattr__" = some (some (.builtin "object.__setattr__"))) && (decide (PySem.W.subIn K (.ref C) (.type "BaseException") = some true) && (decide (PySem.W.typeIn K (.ref C) = some (.type "type")) && (PySem.W.keepIn K (.ref C) &&
  (decide (PySem.W.findIn K (.ref C) "__getattribute__" = some (some (.builtin "BaseException.__getattribute__"))) && (decide (PySem.W.findIn K (.ref C) "__getattr__" = some none) && (PySem.W.hasDictIn K C && (decide (PySem.W.findIn K (.ref C) "__class__" = some (some (.builtin "object.__class__"))) &&
  (decide (PySem.W.specialIn K (.builtin "object.__class__") "__get__" = some (some (.builtin "getset_descriptor.__get__"))) && (decide (PySem.W.takesIn K (.builtin "object.__class__") = some true) && decide (PySem.W.mroIn K C (.type "object") = some true)))))))))))
theorem excB_ok {K : PySem.W.Frag} {C : Addr} (h : excB K C = true) : OexC K C ∧ ExcC K C ∧ XfC K C := by
  unfold excB at h
  simp only [Bool.and_eq_true, decide_eq_true_eq] at h
  obtain ⟨h1, h2, h3, h4, h5, h6, h7, h8, h9, h10, h11, h12⟩ := h
  exact ⟨⟨excB1_ok h1, h2, h3, h4, h5⟩, ⟨h6, h7, h3, h8, h9, h10, h11, h12⟩, ⟨h6, h7, h3, h8⟩⟩
def supCB (K : PySem.W.Frag) (C D : Addr) : Bool := decide (PySem.W.ks_superIn K C D "__init__" = some (some (.builtin "ValueError.__init__"))) && (decide (PySem.W.subIn K (.ref C) (.type "ValueError") = some true) && decide (PySem.W.mroIn K C (.ref D) = some true))
theorem supCB_ok {K : PySem.W.Frag} {C D : Addr} (h : supCB K C D = true) : SupC K C D := by
  unfold supCB at h
  simp only [Bool.and_eq_true, decide_eq_true_eq] at h
  exact ⟨h.1, h.2.1, h.2.2⟩
structure SupD where
  cls : Str
  name : Str
  qual : Str
  params : Arguments
  body : List Stmt
  scope : Scope
  dv : Option Str := none
inductive DflS (K : PySem.W.Frag) : Option Str → Value → Prop
  | no : DflS K none .none
  | one {z : Str} {T : Addr} {o : Obj} {t : Tok} {n : Nat} : K.lookup T = some o → o.data = .seq #[.str z t] n → DflS K (some z) (.ref T)
def dfB (K : PySem.W.Frag) : Option Str → Value → Bool
  | none, .none => true
  | some z, .ref T => (match K.lookup T with
    | some o => (match o.data with
      | .seq its _ => (match its.toList with
        | [.str y _] => decide (y = z)
        | _ => false)
      | _ => false)
    | none => false)
  | _, _ => false
theorem dfB_ok {K : PySem.W.Frag} {dv : Option Str} {v : Value} (h : dfB K dv v = true) : DflS K dv v := by
  unfold dfB at h
  split at h
  · exact .no
  · split at h
    · rename_i o e
      split at h
      · rename_i its n ed
        split at h
        · rename_i y t el
          have := of_decide_eq_true h
          subst this
          refine .one (t := t) (n := n) e ?_
          rw [ed]
          congr 1
          rw [← Array.toArray_toList (xs := its), el]
        · cases h
      · cases h
    · cases h
  · cases h
abbrev SupW : Type := Option (Str × Str × Arguments × FuncBody × Scope × Addr × List Str × Addr)
def supW (K : PySem.W.Frag) (x m : Str) : SupW := match K.lookup (He.ma K (He.ga K x) m) with
  | some ⟨_, _, .func fd, _⟩ => some (fd.name, fd.qualname, fd.params, fd.body, fd.scope, fd.globals, fd.closure.map (·.1), fd.builtins)
  | _ => none
def SupD.val (d : SupD) : SupW := some (d.name, d.qual, d.params, .stmts d.body, d.scope, mainGlobals, ["__class__"], builtinsNs)
def fileS : Str := "/claim/cut.py"
def supB2 (K : PySem.W.Frag) (x qual : Str) (cl : List (Str × Addr)) (code : Value) : Bool := match cl, code with
  | [(_, cc)], .ref cda => PySem.W.codeIn K (.ref cda) qual && ((match K.lookup cda with
    | some ⟨_, _, .fields vs, _⟩ => (match vs[2]? with
      | some (Value.str f _) => decide (f = fileS)
      | _ => false)
    | _ => false) && (match K.lookup cc with
    | some ⟨_, _, .cell (some (.ref D)), _⟩ => decide (D = He.ga K x)
    | _ => false))
  | _, _ => false
def supB (K : PySem.W.Frag) (d : SupD) : Bool := (match K.lookup (He.ma K (He.ga K d.cls) d.name) with
  | some ⟨_, _, .func fd, _⟩ => supB2 K d.cls d.qual fd.closure fd.code && dfB K d.dv fd.defaults
  | _ => false) && ((PySem.W.clsIn K (He.ga K d.cls)).isSome && (decide (PySem.W.nsIn K PySem.cStatics "thirdparty.any" = some none) && (decide (PySem.W.findIn K (.ref (He.ga K d.cls)) d.name = some (some (.ref (He.ma K (He.ga K d.cls) d.name)))) &&
  decide (PySem.W.typeIn K (.ref (He.ma K (He.ga K d.cls) d.name)) = some (.type "function")))))
theorem supB2_ok {K : PySem.W.Frag} {x qual : Str} {cl : List (Str × Addr)} {code : Value} (hc : cl.map (·.1) = [("__class__" : Str)]) (h : supB2 K x qual cl code = true) : ∃ cc cda, cl = [(("__class__" : Str), cc)] ∧ code = .ref cda ∧ PySem.W.codeIn K (.ref cda) qual = true ∧
    (∃ ccl cdd vs ccs tf, K.lookup cda = some ⟨ccl, cdd, .fields vs, ccs⟩ ∧ vs[2]? = some (.str fileS tf)) ∧ ∃ cl cld csl, K.lookup cc = some ⟨cl, cld, .cell (some (.ref (He.ga K x))), csl⟩ := by
  match cl, code, hc, h with
  | [(y, cc)], .ref cda, hc, h =>
    have ey : y = ("__class__" : Str) := by simpa using hc
    subst ey
    unfold supB2 at h
    rw [Bool.and_eq_true, Bool.and_eq_true] at h
    obtain ⟨k1, k2, k3⟩ := h
    refine ⟨cc, cda, rfl, rfl, k1, ?_, ?_⟩
    · split at k2
      · rename_i ccl cdd vs ccs hl
        split at k2
        · rename_i f tf hv
          have ef := of_decide_eq_true k2
          subst ef
          exact ⟨_, _, _, _, tf, hl, hv⟩
        · cases k2
      · cases k2
    · split at k3
      · rename_i cl cld D csl hl
        have eD := of_decide_eq_true k3
        subst eD
        exact ⟨_, _, _, hl⟩
      · cases k3
structure PFile (P : Program) : Prop where
  file : P.main.file = fileS
  top : (P.main.scope.names.lookup ("super" : Str)).isSome = false
theorem sup_ok {P : Program} {K : PySem.W.Frag} {d : SupD} (hP : PFile P) (e : supW K d.cls d.name = d.val) (c : supB K d = true) : ∃ cc cda fd dV, DflS K d.dv dV ∧ SupF P K (He.ga K d.cls) (He.ma K (He.ga K d.cls) d.name) cc cda d.name d.qual d.params d.body d.scope fd ∧
    (∃ kV doc pm an ct, fd = PySem.W.ksFn d.name d.qual d.params d.body d.scope dV kV doc pm an (.ref cda) ct cc) ∧
    PySem.W.findIn K (.ref (He.ga K d.cls)) d.name = some (some (.ref (He.ma K (He.ga K d.cls) d.name))) ∧ PySem.W.typeIn K (.ref (He.ma K (He.ga K d.cls) d.name)) = some (.type "function") := by
  unfold supB at c
  rw [Bool.and_eq_true] at c
  obtain ⟨c1, c2⟩ := c
  simp only [Bool.and_eq_true, decide_eq_true_eq] at c2
  obtain ⟨c3, c4, c5, c6⟩ := c2
  unfold supW at e
  cases q : K.lookup (He.ma K (He.ga K d.cls) d.name) with
  | none => rw [q] at c1; cases c1
  | some o =>
    obtain ⟨oc, od, dt, osl⟩ := o
    rw [q] at c1 e
    cases dt with
    | func fd =>
      obtain ⟨n1, n2, n3, n4, n5, n6, n7, n8, n9, n10, n11, n12, n13, n14, n15⟩ := fd
      have e2 : (some (n1, n2, n3, n4, n5, n6, n7.map (·.1), n15) : SupW) = (some (d.name, d.qual, d.params, FuncBody.stmts d.body, d.scope, mainGlobals, ["__class__"], builtinsNs) : SupW) := e
      simp only [Option.some.injEq, Prod.mk.injEq] at e2
      obtain ⟨h1, h2, h3, h4, h5, h6, h7, h8⟩ := e2
      subst h1 h2 h3 h4 h5 h6 h8
      have c1 : (supB2 K d.cls d.qual n7 n13 && dfB K d.dv n8) = true := c1
      rw [Bool.and_eq_true] at c1
      obtain ⟨cc, cda, rfl, rfl, k1, ⟨ccl, cdd, vs, ccs, tf, hl, hv⟩, hcell⟩ := supB2_ok h7 c1.1
      exact ⟨cc, cda, _, n8, dfB_ok c1.2, ⟨⟨oc, od, _, n9, n10, n11, n12, n14, osl, rfl, q⟩, k1, ⟨_, _, _, _, fileS, tf, hl, hv, by rw [hP.file]; exact beq_self_eq_true _⟩, hcell, c3, hP.top, c4⟩, ⟨n9, n10, n11, n12, n14, rfl⟩, c5, c6⟩
    | _ => cases c1
def recB (K : PySem.W.Frag) (p f : Addr) (T : String) : Bool := match PySem.W.recIn K p T with
  | some (.ref g :: _) => decide (g = f)
  | _ => false
theorem recB_ok {K : PySem.W.Frag} {p f : Addr} {T : String} (h : recB K p f T = true) : ∃ rest, PySem.W.recIn K p T = some (.ref f :: rest) := by
  unfold recB at h
  split at h
  · rename_i g rest e
    have := of_decide_eq_true h
    subst this
    exact ⟨_, e⟩
  · cases h
def statB (K : PySem.W.Frag) (C : Addr) (m : Str) : Bool := PySem.W.plainGet K C m && (PySem.W.hasDictIn K C && (decide (PySem.W.findIn K (.ref C) m = some (some (.ref (He.ma K C m)))) && (decide (PySem.W.typeIn K (.ref (He.ma K C m)) = some (.type "staticmethod")) &&
  (decide (PySem.W.specialIn K (.ref (He.ma K C m)) "__get__" = some (some (.builtin "staticmethod.__get__"))) && (decide (PySem.W.takesIn K (.ref (He.ma K C m)) = some false) && (decide (PySem.W.copiedNames.contains m = false) && (recB K (He.ma K C m) (He5.wf K C "staticmethod" m) "staticmethod" &&
  PySem.W.keepIn K (.ref (He5.wf K C "staticmethod" m)))))))))
theorem statB_ok {K : PySem.W.Frag} {C : Addr} {m : Str} (h : statB K C m = true) : StatOf K C m (He.ma K C m) (He5.wf K C "staticmethod" m) := by
  unfold statB at h
  simp only [Bool.and_eq_true, decide_eq_true_eq] at h
  obtain ⟨h1, h2, h3, h4, h5, h6, h7, h8, h9⟩ := h
  exact ⟨h1, h2, h3, h4, h5, h6, h7, recB_ok h8, h9⟩
def itemB (K : PySem.W.Frag) (C : Addr) (m : Str) : Bool := decide (PySem.W.findIn K (.ref C) m = some (some (.ref (He.ma K C m)))) && (PySem.W.isFn K (.ref (He.ma K C m)) && (PySem.W.noSeq K C && PySem.W.fnIn K (He.ma K C m)))
theorem itemB_ok {K : PySem.W.Frag} {C : Addr} {m : Str} (h : itemB K C m = true) : ItemOf K C m (He.ma K C m) ∧ PySem.W.fnIn K (He.ma K C m) = true := by
  unfold itemB at h
  simp only [Bool.and_eq_true, decide_eq_true_eq] at h
  exact ⟨⟨h.1, h.2.1, h.2.2.1⟩, h.2.2.2⟩
def propB (K : PySem.W.Frag) (C : Addr) (m : Str) : Bool := decide (PySem.W.findIn K (.ref C) m = some (some (.ref (He.ma K C m)))) && (decide (PySem.W.specialIn K (.ref (He.ma K C m)) "__get__" = some (some (.builtin "property.__get__"))) && (decide (PySem.W.takesIn K (.ref (He.ma K C m)) = some true) && recB K (He.ma K C m) (He5.wf K C "property" m) "property"))
theorem propB_ok {K : PySem.W.Frag} {C : Addr} {m : Str} (h : propB K C m = true) : PropOf K C m (He.ma K C m) (He5.wf K C "property" m) := by
  unfold propB at h
  simp only [Bool.and_eq_true, decide_eq_true_eq] at h
  exact ⟨h.1, h.2.1, h.2.2.1, recB_ok h.2.2.2⟩
inductive Xa where
  | exc (x : Str)
  | sup (x y : Str)
  | kit (x y : Str) (b : Bool)
  | kitT (x : Str) (n : String) (b : Bool)
  | exm (x y : Str) (b : Bool)
  | own (x : Str)
  | stat (x m : Str)
  | item (x m : Str)
  | prop (x m : Str)
  | inh (x y : Str)
  | tup (x : Str) (zs : List Str)
  | cm (x m : Str)
  | smc (x m : Str)
  | callo (x : Str)
  | psup (x y m : Str)
  | isc (x : Str)
  | bin (x m rm : Str)
  | bnd (x m : Str)
  | bif (x m : Str) (b : String)
  | neq (x : Str)
structure SmC (K : PySem.W.Frag) (C : Addr) (m : Str) (p f : Addr) : Prop where
  rd : PySem.W.readsIn K C (.type "type") = true
  ga : PySem.W.specialIn K (.ref C) "__getattribute__" = some (some (.builtin "type.__getattribute__"))
  at_ : PySem.W.findCls K (.ref C) (.type "type") m = some (.get (.builtin "staticmethod.__get__") (.ref p) .none (.ref C))
  rc : ∃ rest, PySem.W.recIn K p "staticmethod" = some (.ref f :: rest)
  kp : PySem.W.keepIn K (.ref f) = true
def smcB (K : PySem.W.Frag) (C : Addr) (m : Str) : Bool := He5.wrapB K C "staticmethod" "staticmethod.__get__" m && (PySem.W.keepIn K (.ref (He5.wf K C "staticmethod" m)) && (PySem.W.readsIn K C (.type "type") && decide (PySem.W.specialIn K (.ref C) "__getattribute__" = some (some (.builtin "type.__getattribute__")))))
theorem smcB_ok {K : PySem.W.Frag} {C : Addr} {m : Str} (h : smcB K C m = true) : SmC K C m (He.ma K C m) (He5.wf K C "staticmethod" m) := by
  unfold smcB at h
  simp only [Bool.and_eq_true, decide_eq_true_eq] at h
  exact ⟨h.2.2.1, h.2.2.2, (He5.wrapB_ok h.1).1, (He5.wrapB_ok h.1).2, h.2.1⟩
def cmB (K : PySem.W.Frag) (C : Addr) (m : Str) : Bool := He5.wrapB K C "classmethod" "classmethod.__get__" m && (PySem.W.fnIn K (He5.wf K C "classmethod" m) && (PySem.W.readsIn K C (.type "type") && decide (PySem.W.specialIn K (.ref C) "__getattribute__" = some (some (.builtin "type.__getattribute__")))))
theorem cmB_ok {K : PySem.W.Frag} {C : Addr} {m : Str} (h : cmB K C m = true) : ClX.CRead K C (.type "type") ∧ ClX.CMet K C (.type "type") m (He.ma K C m) (He5.wf K C "classmethod" m) := by
  unfold cmB at h
  simp only [Bool.and_eq_true, decide_eq_true_eq] at h
  exact ⟨⟨h.2.2.1, h.2.2.2⟩, He5.cmet_of h.1 h.2.1⟩
def calloB (K : PySem.W.Frag) (C : Addr) : Bool := decide (PySem.W.findIn K (.ref C) "__call__" = some (some (.ref (He.ma K C "__call__")))) && (PySem.W.isFn K (.ref (He.ma K C "__call__")) && PySem.W.fnIn K (He.ma K C "__call__"))
theorem calloB_ok {K : PySem.W.Frag} {C : Addr} (h : calloB K C = true) : StX.CallO K C (He.ma K C "__call__") := by
  unfold calloB at h
  simp only [Bool.and_eq_true, decide_eq_true_eq] at h
  exact ⟨h.1, h.2.1, h.2.2⟩
def psupB (K : PySem.W.Frag) (D : Addr) (m : Str) (g : Addr) : Bool := decide (PySem.W.ks_superIn K D D m = some (some (.ref g))) && (decide (PySem.W.mroIn K D (.ref D) = some true) && ((match K.lookup g with
  | some ⟨.type "function", _, .func _, _⟩ => true
  | _ => false) && (decide (PySem.W.nsIn K PySem.cStatics "thirdparty.any" = some none) && !(m == ("__class__" : Str)))))
def iscB (K : PySem.W.Frag) (C : Addr) : Bool := decide (PySem.W.findIn K (.ref C) "__class__" = some (some (.builtin "object.__class__"))) && (decide (PySem.W.specialIn K (.builtin "object.__class__") "__get__" = some (some (.builtin "getset_descriptor.__get__"))) && (decide (PySem.W.takesIn K (.builtin "object.__class__") = some true) && decide (PySem.W.mroIn K C (.type "object") = some true)))
def binB (K : PySem.W.Frag) (C : Addr) (m rm : Str) : Bool := PySem.W.selfFirst K C && (decide (PySem.W.findIn K (.ref C) rm = some none) && ((PySem.W.findIn K (.type "str") m).isSome && ((PySem.W.findIn K (.type "str") rm).isSome && decide (PySem.W.subIn K (.type "str") (.ref C) = some false))))
def bndB (K : PySem.W.Frag) (C : Addr) (m : Str) : Bool := PySem.W.plainGet K C m && (PySem.W.hasDictIn K C && (decide (PySem.W.findIn K (.ref C) m = some (some (.ref (He.ma K C m)))) && (PySem.W.isFn K (.ref (He.ma K C m)) && (decide (PySem.W.specialIn K (.ref (He.ma K C m)) "__get__" = some (some (.builtin "function.__get__"))) && (decide (PySem.W.takesIn K (.ref (He.ma K C m)) = some false) && (decide (PySem.W.copiedNames.contains m = false) && PySem.W.fnIn K (He.ma K C m)))))))
structure BndM (K : PySem.W.Frag) (C : Addr) (m : Str) (f : Addr) : Prop where
  get : PySem.W.plainGet K C m = true
  dict : PySem.W.hasDictIn K C = true
  at_ : PySem.W.findIn K (.ref C) m = some (some (.ref f))
  fn : PySem.W.isFn K (.ref f) = true
  gf : PySem.W.specialIn K (.ref f) "__get__" = some (some (.builtin "function.__get__"))
  tk : PySem.W.takesIn K (.ref f) = some false
  cp : PySem.W.copiedNames.contains m = false
  fi : PySem.W.fnIn K f = true
theorem bndB_ok {K : PySem.W.Frag} {C : Addr} {m : Str} (h : bndB K C m = true) : BndM K C m (He.ma K C m) := by
  unfold bndB at h
  simp only [Bool.and_eq_true, decide_eq_true_eq] at h
  obtain ⟨h1, h2, h3, h4, h5, h6, h7, h8⟩ := h
  exact ⟨h1, h2, h3, h4, h5, h6, h7, h8⟩
def Xa.ok (K : PySem.W.Frag) : Xa → Bool
  | .exc x => excB K (He.ga K x)
  | .sup x y => supCB K (He.ga K x) (He.ga K y)
  | .kit x y b => decide (PySem.W.kitOne K (.ref (He.ga K x)) (.ref (He.ga K y)) = some b)
  | .kitT x n b => decide (PySem.W.kitOne K (.ref (He.ga K x)) (.type n) = some b)
  | .exm x y b => decide (PySem.W.exmOne K (.ref (He.ga K x)) (.ref (He.ga K y)) = some b)
  | .own x => PySem.W.excIn K (He.ga K x) He.veBase "ValueError.__new__"
  | .stat x m => statB K (He.ga K x) m
  | .item x m => itemB K (He.ga K x) m
  | .prop x m => propB K (He.ga K x) m
  | .inh x y => decide (PySem.W.findIn K (.ref (He.ga K x)) "__init__" = some (some (.ref (He.ma K (He.ga K y) "__init__"))))
  | .tup x zs => He.tupB K x (zs.map He.Dv.str)
  | .cm x m => cmB K (He.ga K x) m
  | .smc x m => smcB K (He.ga K x) m
  | .callo x => calloB K (He.ga K x)
  | .psup x y m => psupB K (He.ga K x) m (He.ma K (He.ga K y) m)
  | .isc x => iscB K (He.ga K x)
  | .bin x m rm => binB K (He.ga K x) m rm
  | .bnd x m => bndB K (He.ga K x) m
  | .neq x => decide (PySem.W.findIn K (.ref (He.ga K x)) "__ne__" = some (some (.builtin "object.__ne__"))) && decide (PySem.W.subIn K (.ref (He.ga K x)) (.type "object") = some true)
  | .bif x m b => decide (PySem.W.findIn K (.ref (He.ga K x)) m = some (some (.builtin b)))
abbrev AlX : Type := Bool × List He.FnW × List SupW × List He.FnW
def obsX (fa : List He.Fa) (fn : List He.DefD) (xa : List Xa) (sd : List SupD) (wn : List He5.DefA) (K : PySem.W.Frag) : AlX := ((fa.all fun f => f.ok K) && ((fn.all fun d => d.ok K) && ((xa.all fun x => x.ok K) && ((sd.all fun d => supB K d) && wn.all fun d => d.ok K))), fn.map fun d => He.fnW K d.at_, sd.map fun d => supW K d.cls d.name, wn.map fun d => He5.fnA K (d.at_ K))
def valX (fn : List He.DefD) (sd : List SupD) (wn : List He5.DefA) : AlX := (true, fn.map He.DefD.val, sd.map SupD.val, wn.map He5.DefA.val)
section
variable {fa : List He.Fa} {fn : List He.DefD} {xa : List Xa} {sd : List SupD} {wn : List He5.DefA} {K : PySem.W.Frag}
theorem obsX_all (c : obsX fa fn xa sd wn K = valX fn sd wn) : (fa.all fun f => f.ok K) = true ∧ (fn.all fun d => d.ok K) = true ∧ (xa.all fun x => x.ok K) = true ∧ (sd.all fun d => supB K d) = true ∧ (wn.all fun d => d.ok K) = true := by
  have c1 : ((fa.all fun f => f.ok K) && ((fn.all fun d => d.ok K) && ((xa.all fun x => x.ok K) && ((sd.all fun d => supB K d) && wn.all fun d => d.ok K)))) = true := congrArg (fun z : AlX => z.1) c
  rw [Bool.and_eq_true, Bool.and_eq_true, Bool.and_eq_true, Bool.and_eq_true] at c1
  exact c1
theorem obsX_says (c : obsX fa fn xa sd wn K = valX fn sd wn) : He.SaysD fa fn K := by
  have c1 := obsX_all c
  have c2 : (fn.map fun d => He.fnW K d.at_) = fn.map He.DefD.val := congrArg (fun z : AlX => z.2.1) c
  show (_, _) = (_, _)
  rw [c1.1, c1.2.1, c2]
  rfl
theorem obsX_fact (c : obsX fa fn xa sd wn K = valX fn sd wn) (i : Nat) {x : Xa} (h : xa[i]? = some x := by rfl) : x.ok K = true :=
  List.all_eq_true.mp (obsX_all c).2.2.1 x (List.mem_of_getElem? h)
theorem obsX_sup {P : Program} (hP : PFile P) (c : obsX fa fn xa sd wn K = valX fn sd wn) (i : Nat) {d : SupD} (h : sd[i]? = some d := by rfl) : ∃ cc cda fd dV, DflS K d.dv dV ∧ SupF P K (He.ga K d.cls) (He.ma K (He.ga K d.cls) d.name) cc cda d.name d.qual d.params d.body d.scope fd ∧
    (∃ kV doc pm an ct, fd = PySem.W.ksFn d.name d.qual d.params d.body d.scope dV kV doc pm an (.ref cda) ct cc) ∧
    PySem.W.findIn K (.ref (He.ga K d.cls)) d.name = some (some (.ref (He.ma K (He.ga K d.cls) d.name))) ∧ PySem.W.typeIn K (.ref (He.ma K (He.ga K d.cls) d.name)) = some (.type "function") := by
  have c2 : (sd.map fun d => supW K d.cls d.name) = sd.map SupD.val := congrArg (fun z : AlX => z.2.2.1) c
  have e : supW K d.cls d.name = d.val := by
    have h1 : (sd.map fun d => supW K d.cls d.name)[i]? = some (supW K d.cls d.name) := by rw [List.getElem?_map, h]; rfl
    have h2 : (sd.map SupD.val)[i]? = some d.val := by rw [List.getElem?_map, h]; rfl
    rw [c2, h2] at h1
    exact (Option.some.inj h1).symm
  exact sup_ok hP e (List.all_eq_true.mp (obsX_all c).2.2.2.1 d (List.mem_of_getElem? h))
theorem binds_sup {cc cda : Addr} {name qual : Str} {params : Arguments} {body : List Stmt} {scope : Scope} {fd : FuncData} {ps : List Str} (hd : ∃ kV doc pm an ct, fd = PySem.W.ksFn name qual params body scope .none kV doc pm an (.ref cda) ct cc)
    (h : ∀ (kV doc pm : Value) (an : Option Addr) (ct : Value) (us : List Value), us.length = ps.length → bindArgs (PySem.W.ksFn name qual params body scope .none kV doc pm an (.ref cda) ct cc) ⟨us, []⟩ = pure (ps.zip us)) : Binds K fd ps [] := by
  obtain ⟨kV, doc, pm, an, ct, rfl⟩ := hd
  exact .all (h kV doc pm an ct)
end
theorem binds_supN {K : PySem.W.Frag} {cc cda : Addr} {name qual : Str} {params : Arguments} {body : List Stmt} {scope : Scope} {fd : FuncData} {ps : List Str} {dV : Value} (hv : DflS K none dV) (hd : ∃ kV doc pm an ct, fd = PySem.W.ksFn name qual params body scope dV kV doc pm an (.ref cda) ct cc)
    (h : ∀ (kV doc pm : Value) (an : Option Addr) (ct : Value) (us : List Value), us.length = ps.length → bindArgs (PySem.W.ksFn name qual params body scope .none kV doc pm an (.ref cda) ct cc) ⟨us, []⟩ = pure (ps.zip us)) : Binds K fd ps [] := by
  cases hv
  exact binds_sup hd h
theorem init1 {K : PySem.W.Frag} {D : Addr} {f : Str} {te : TE} {cond : List V → Prop} {N : List Str} {vs : List V} {H : Hp} {Q : VK} {E : XK} (h : spI K D [f] cond vs H Q E) (hN : N.length = 3)
    (ht : ∀ (a : Addr) (v : V) (σ : L2.St) (k : VK), σ[1]? = some (some v) → cond [v] → (∀ z, k z H) → te σ H k) :
    tSup K D (tCons te tNil) (tOst K f (tVar 0) (tVar 1)) { nx := fun _ H' => Q .non H', rt := Q } (startF N vs [some (.ref D)]) H := by
  obtain ⟨a, C, ws, rfl, hl, hc, T, TC, hn, ha, q⟩ := h
  match ws, hl with
  | [v], _ =>
    refine ⟨a, C, rfl, T, TC, ha, ?_⟩
    refine ht a v _ _ rfl hc fun z => ?_
    refine ⟨by show 1 ≤ 1000; decide, ha, ?_⟩
    refine ⟨v, rfl, .ref a, rfl, a, C, rfl, T, hn f List.mem_cons_self, .inl ⟨ha, fun dx h1 h2 => ?_⟩⟩
    exact q dx h1 h2
def condS : List V → Prop := fun ws => ∃ z : Str, ws = [.str z] ∧ z.length ≤ 100000
def condI : List V → Prop := fun ws => ∃ n : Nat, ws = [.int (n : Nat)] ∧ n ≤ 90000
theorem init1S {K : PySem.W.Frag} {D : Addr} {f c : Str} {N : List Str} {vs : List V} {H : Hp} {Q : VK} {E : XK} (h : spI K D [f] condS vs H Q E) (hN : N.length = 3) (hc : c.length ≤ 1000 := by decide) :
    tSup K D (tCons (tOp (fun x y H Q => ∃ i j, x = V.str i ∧ y = V.str j ∧ i.length + j.length ≤ sizeLine ∧ Q (.str (i ++ j)) H) (tC (.str c)) (tVar 1)) tNil) (tOst K f (tVar 0) (tVar 1)) { nx := fun _ H' => Q .non H', rt := Q } (startF N vs [some (.ref D)]) H :=
  init1 h hN fun a v σ k e ⟨z, ez, hz⟩ q => by
    cases ez
    exact ⟨_, e, _, _, rfl, rfl, Nat.le_trans (Nat.add_le_add hc hz) (by decide), q _⟩
end DL
namespace DL
open PySem PySem.Spec PyProof.Rows L2
inductive In (e : D) : D → Prop
  | refl : In e e
  | tup {d : D} {ds : List D} : d ∈ ds → In e d → In e (.tup ds)
  | lst {d : D} {ds : List D} : d ∈ ds → In e d → In e (.lst ds)
  | ins {C : Addr} {f : Str} {d : D} {fds : List (Str × D)} : (f, d) ∈ fds → In e d → In e (.ins C fds)
  | ldk {a : Addr} {k : Key} {d : D} {kds : List (Key × D)} : (k, d) ∈ kds → In e d → In e (.ldk a kds)
  | dk {k : Key} {d : D} {kds : List (Key × D)} : (k, d) ∈ kds → In e d → In e (.dk kds)
theorem Rs.ofMem {F : Hp} {d : D} : ∀ {xs : List V} {ds : List D}, Rs F xs ds → d ∈ ds → ∃ v, R F v d
  | _, _, .cons r t, m => by
    rcases List.mem_cons.mp m with e | m
    · subst e; exact ⟨_, r⟩
    · exact Rs.ofMem t m
theorem Rn.ofMem {F : Hp} {f : Str} {d : D} : ∀ {xs : List (Str × V)} {ds : List (Str × D)}, Rn F xs ds → (f, d) ∈ ds → ∃ v, R F v d
  | _, _, .cons r t, m => by
    rcases List.mem_cons.mp m with e | m
    · cases e; exact ⟨_, r⟩
    · exact Rn.ofMem t m
theorem Rk.ofMem {F : Hp} {k : Key} {d : D} : ∀ {xs : List (Key × V)} {ds : List (Key × D)}, Rk F xs ds → (k, d) ∈ ds → ∃ v, R F v d
  | _, _, .cons r t, m => by
    rcases List.mem_cons.mp m with e | m
    · cases e; exact ⟨_, r⟩
    · exact Rk.ofMem t m
theorem In.at_ {F : Hp} {a : Addr} {kds : List (Key × D)} {d : D} (h : In (.ldk a kds) d) : ∀ {v : V}, R F v d → ∃ kvs, F a = some (.dK kvs) ∧ Rk F kvs kds := by
  induction h with
  | refl => intro v r; cases r with | ldk e r => exact ⟨_, e, r⟩
  | tup m _ ih => intro v r; cases r with | tup e r => obtain ⟨u, r'⟩ := r.ofMem m; exact ih r'
  | lst m _ ih => intro v r; cases r with | lst e r => obtain ⟨u, r'⟩ := r.ofMem m; exact ih r'
  | ins m _ ih => intro v r; cases r with | ins e r => obtain ⟨u, r'⟩ := r.ofMem m; exact ih r'
  | ldk m _ ih => intro v r; cases r with | ldk e r => obtain ⟨u, r'⟩ := r.ofMem m; exact ih r'
  | dk m _ ih => intro v r; cases r with | dk e r => obtain ⟨u, r'⟩ := r.ofMem m; exact ih r'
section
variable {χ : Xk} {L : List Addr} {as : List Addr} {ρ : DSt} {O : List D} {k : List Addr → D → List D → Prop} {kI : List Addr → List D → List D → Prop} {td te ta : TE} {d : D}
theorem hF_slot {a : Addr} {kds : List (Key × D)} {i : Nat} {d : D} (h : ρ[i]? = some (some d)) (m : In (.ldk a kds) d) : ∀ F H σ, Rep L as F H σ ρ O → ∃ kvs, F a = some (.dK kvs) := fun F H σ S => by
  obtain ⟨v, _, r⟩ := S.sl.get h
  obtain ⟨kvs, e, _⟩ := m.at_ r
  exact ⟨kvs, e⟩
theorem s_lockF {K : Kt} {ts : TS} (a : Addr) (nL : a ∉ L) (hF : ∀ F H σ, Rep L as F H σ ρ O → ∃ kvs, F a = some (.dK kvs)) (h : dS χ ts (a :: L) as ρ O K) : dS χ (tLock ts) L as ρ O K := fun F H σ S x Z z => by
  obtain ⟨kvs, fa⟩ := hF F H σ S
  have ha : H a = some (.dK kvs) := by
    rcases S.hd.at_ a _ fa with ⟨_, e'⟩ | ⟨m, _⟩ | ⟨_, _, _, y, _⟩
    · exact e'
    · exact absurd m nL
    · cases y
  have nas : a ∉ as := fun m => by rw [S.own.free m] at fa; cases fa
  refine ⟨a, .dK kvs, ha, trivial, fun od => ?_⟩
  have hs : (upd H a (.frz od (.dK kvs))) a = some (.frz od (.dK kvs)) := upd_same
  have S1 : Rep (a :: L) as F (upd H a (.frz od (.dK kvs))) σ ρ O := by
    refine ⟨⟨fun b u e => ?_, fun b m => ?_⟩, S.own.keep (fun _ _ h => h) (fun b m => S.own.free m) fun b m o e => ?_, S.sl⟩
    · by_cases q : b = a
      · subst q
        rw [fa] at e
        cases e
        exact .inr (.inl ⟨List.mem_cons_self, _, _, rfl, hs⟩)
      · rw [upd_ne q]
        rcases S.hd.at_ b u e with ⟨m, e'⟩ | ⟨m, e'⟩ | ⟨m, e'⟩
        · exact .inl ⟨fun y => (List.mem_cons.mp y).elim q m, e'⟩
        · exact .inr (.inl ⟨List.mem_cons_of_mem _ m, e'⟩)
        · exact .inr (.inr ⟨fun y => (List.mem_cons.mp y).elim q m, e'⟩)
    · rcases List.mem_cons.mp m with m | m
      · subst m; rw [fa]; exact fun y => by cases y
      · exact S.hd.lk b m
    · rw [upd_ne (show b ≠ a from fun y => nas (by rw [← y]; exact m))]; exact e
  have back : ∀ {F' H' : Hp} {as' : List Addr}, Go as F (upd H a (.frz od (.dK kvs))) as' F' H' → H' a = some (.frz od (.dK kvs)) ∧ F' a = some (.dK kvs) ∧ a ∉ as' ∧ Go as F H as' F' (upd H' a (.dK kvs)) := fun {F' H' as'} g => by
    refine ⟨g.kp a _ hs nas, g.ex _ _ fa, fun m => ?_, g.ex, fun b u e => ?_, fun b u e n => ?_, fun b e => ?_, fun b m => ?_⟩
    · rcases g.sub a m with m | m
      · exact nas m
      · rw [hs] at m; cases m
    · rcases g.nw b u e with e | e | e
      · exact .inl e
      · by_cases q : b = a
        · subst q; rw [hs] at e; cases e
        · rw [upd_ne q] at e; exact .inr (.inl e)
      · exact .inr (.inr e)
    · by_cases q : b = a
      · subst q; rw [ha] at e; rw [upd_same]; exact e
      · rw [upd_ne q]
        exact g.kp b u (by rw [upd_ne q]; exact e) n
    · by_cases q : b = a
      · subst q; rw [upd_same] at e; cases e
      · rw [upd_ne q] at e
        have := g.th b e
        rw [upd_ne q] at this
        exact this
    · rcases g.sub b m with m | m
      · exact .inl m
      · by_cases q : b = a
        · subst q; rw [hs] at m; cases m
        · rw [upd_ne q] at m; exact .inr m
  have backH : ∀ {F' H' : Hp}, Hd (a :: L) F' H' → F' a = some (.dK kvs) → Hd L F' (upd H' a (.dK kvs)) := fun {F' H'} hd fa' => by
    refine ⟨fun b u e => ?_, fun b m => hd.lk b (List.mem_cons_of_mem _ m)⟩
    by_cases q : b = a
    · subst q
      rw [fa'] at e
      cases e
      exact .inl ⟨nL, upd_same⟩
    · rw [upd_ne q]
      rcases hd.at_ b u e with ⟨m, e'⟩ | ⟨m, e'⟩ | ⟨m, e'⟩
      · exact .inl ⟨fun y => m (List.mem_cons_of_mem _ y), e'⟩
      · exact .inr (.inl ⟨(List.mem_cons.mp m).elim (fun y => absurd y q) id, e'⟩)
      · exact .inr (.inr ⟨fun y => m (List.mem_cons_of_mem _ y), e'⟩)
  have backO : ∀ {F' H' : Hp} {as' : List Addr} {O' : List D}, Own F' H' as' O' → a ∉ as' → Own F' (upd H' a (.dK kvs)) as' O' := fun ow n =>
    ow.keep (fun _ _ h => h) (fun b m => ow.free m) fun b m o e => by rw [upd_ne (show b ≠ a from fun y => n (by rw [← y]; exact m))]; exact e
  have x1 : XP χ (a :: L) as F (upd H a (.frz od (.dK kvs))) := fun F' H' L' as' σ' ρ' O' cls dd fds' g S' nx ze => by
    refine x F' H' L' as' σ' ρ' O' cls dd fds' ⟨g.ex, fun b u e => ?_, fun b u e n => ?_, fun b e => ?_, fun b m => ?_⟩ S' (nx.imp fun b hb => by
      by_cases q : b = a
      · subst q; rw [hs] at hb; cases hb
      · rw [upd_ne q] at hb; exact hb) ze
    · rcases g.nw b u e with e | e | e
      · exact .inl e
      · by_cases q : b = a
        · subst q; rw [hs] at e; cases e
        · rw [upd_ne q] at e; exact .inr (.inl e)
      · exact .inr (.inr e)
    · by_cases q : b = a
      · subst q
        rw [ha] at e
        cases e
        have hh : H' b = some (.frz od (.dK kvs)) := by
          rcases g.kp b _ hs n with y | ⟨_, y, _⟩
          · exact y
          · exact absurd List.mem_cons_self y
        rcases S'.hd.at_ b _ (g.ex _ _ fa) with ⟨_, y⟩ | ⟨m, _⟩ | ⟨_, _, _, y, _⟩
        · rw [hh] at y; cases y
        · exact .inr ⟨m, nL, _, _, rfl, hh⟩
        · cases y
      · rcases g.kp b u (by rw [upd_ne q]; exact e) n with y | ⟨y1, y2, y3⟩
        · exact .inl y
        · exact .inr ⟨y1, fun y => y2 (List.mem_cons_of_mem _ y), y3⟩
    · by_cases q : b = a
      · subst q
        have := g.th b e
        rw [hs] at this
        cases this
      · have := g.th b e
        rw [upd_ne q] at this
        exact this
    · rcases g.sub b m with m | m
      · exact .inl m
      · by_cases q : b = a
        · subst q; rw [hs] at m; cases m
        · rw [upd_ne q] at m; exact .inr m
  refine h F _ σ S1 x1 _ ⟨fun F' H' as' σ' ρ' O' g S' zz => ?_, fun F' H' as' O' v d g hd ow r zz => ?_, fun F' H' as' σ' ρ' O' g S' zz => ?_, fun F' H' as' σ' ρ' O' g S' zz => ?_⟩
  all_goals obtain ⟨b1, b2, b3, b4⟩ := back g
  · exact ⟨b1, z.nx F' _ as' σ' ρ' O' b4 ⟨backH S'.hd b2, backO S'.own b3, S'.sl⟩ zz⟩
  · exact ⟨b1, z.rt F' _ as' O' v d b4 (backH hd b2) (backO ow b3) r zz⟩
  · exact ⟨b1, z.bk F' _ as' σ' ρ' O' b4 ⟨backH S'.hd b2, backO S'.own b3, S'.sl⟩ zz⟩
  · exact ⟨b1, z.ct F' _ as' σ' ρ' O' b4 ⟨backH S'.hd b2, backO S'.own b3, S'.sl⟩ zz⟩
end
theorem ex_bl {x : Bool} {P : Bool → Prop} (h : P x) : ∃ b, D.bl x = .bl b ∧ P b := ⟨_, rfl, h⟩
theorem ex_int {x : Int} {P : Int → Prop} (h : P x) : ∃ b, D.int x = .int b ∧ P b := ⟨_, rfl, h⟩
theorem ex_str {x : Str} {P : Str → Prop} (h : P x) : ∃ b, D.str x = .str b ∧ P b := ⟨_, rfl, h⟩
theorem ex_lst {x : List D} {P : List D → Prop} (h : P x) : ∃ b, D.lst x = .lst b ∧ P b := ⟨_, rfl, h⟩
theorem ex_tup {x : List D} {P : List D → Prop} (h : P x) : ∃ b, D.tup x = .tup b ∧ P b := ⟨_, rfl, h⟩
theorem i_T {x : Bool} {A B : Prop} (e : x = true) (h : A) : if x = true then A else B := by rw [if_pos e]; exact h
theorem i_F {x : Bool} {A B : Prop} (e : x = false) (h : B) : if x = true then A else B := by rw [e]; exact h
theorem rc_lenM {KK : PySem.W.Frag} {L as : List Addr} {O : List D} {k : List Addr → D → List D → Prop} {α : Type} {f : α → D} {xs : List α} (z : k as (.int xs.length) O) : rc (fun xs H Q => ∃ x n, xs = [x] ∧ LenV KK x H n ∧ Q (.int n) H) L as O [.lst (xs.map f)] k := rc_len (n := xs.length) (List.length_map ..).symm z
theorem rc_lenU {KK : PySem.W.Frag} {L as : List Addr} {O : List D} {k : List Addr → D → List D → Prop} {α : Type} {f : α → D} {xs : List α} (z : k as (.int xs.length) O) : rc (fun xs H Q => ∃ x n, xs = [x] ∧ LenV KK x H n ∧ Q (.int n) H) L as O [.tup (xs.map f)] k := rc_len (n := xs.length) (List.length_map ..).symm z
theorem rc_lenO {KK : PySem.W.Frag} {L as : List Addr} {O : List D} {k : List Addr → D → List D → Prop} {α : Type} {f : α → D} {xs : List α} {a : Addr} (j : Nat) (h1 : as[j]? = some a) (h2 : O[j]? = some (.lst (xs.map f))) (z : k as (.int xs.length) O) : rc (fun xs H Q => ∃ x n, xs = [x] ∧ LenV KK x H n ∧ Q (.int n) H) L as O [.adr a] k := rc_len (n := xs.length) ⟨j, _, h1, h2, (List.length_map ..).symm⟩ z
theorem at_map {α : Type} {f : α → D} {xs : List α} {i : Nat} (h : i < xs.length) : atI (xs.map f) (i : Nat) = some (f xs[i]) := atI_nat (by rw [List.getElem?_map, List.getElem?_eq_getElem h]; rfl)
end DL
namespace DL
open PySem PySem.Spec PyProof.Rows L2 NdefX DLS
def tKGet (K : PySem.W.Frag) (a : Addr) (ty tx : TE) : TE := fun σ H Q => ty σ H fun y H1 => tx σ H1 fun z H2 => ∃ x r v, y = .str x ∧ PySem.W.nsIn K a x = some r ∧ (match r with | none => v = z | some u => RelV v u) ∧ Q v H2
theorem pe_kget2 {X : Cx} {x : Str} {a : Addr} {es : Array DictEntry} {n : Nat} {e f : Expr} {p apos cpos : Pos} {ty tx : TE} (D : KDict X.K X.w a es n) (hg : Gl X x) (hm : X.mg x = some (.ref a)) (he : PE X e ty) (hf : PE X f tx) (m : M2 X (.Name x p) "get" apos e f cpos) (hd : (x == ("__debug__" : Str)) = false := by decide) :
    PE X (.Call (.Attribute (.Name x p) "get" apos) [e, f] [] cpos) (tKGet X.K a ty tx) := by
  refine ⟨fun pins s σ H Q I h => ?_⟩
  refine wpAny_Call_method m.base m.few m.line PySem.F.plainAttrs_dict PySem.F.slot_dict_get PySem.F.type_dict_get (ld_glob I hg hm ?_ hd)
  have hmap := PySem.W.mapOf_K (prog := X.prog) (w := X.w) I.kIn D.at_ D.lit
  refine ⟨hmap.typeIs, fun b q => ?_, ?_⟩
  · cases q
    obtain ⟨ob, _, _, h1, h2, _⟩ := hmap
    exact ⟨ob, h1, h2.2.1⟩
  rw [m.trees]
  refine Calls.callWith_builtin rfl (Calls.evalArgs_plain (Calls.spliced_cons (thn (he.run pins s σ H _ I h) fun iv s2 ⟨y, H2, I2, ry, q2⟩ =>
    Calls.spliced_cons (thn (hf.run pins s2 σ H2 _ I2 q2) fun fv s3 ⟨z, H3, I3, rz, x, r, v, ey, en, er, q3⟩ => Calls.spliced_nil ?_))))
  subst ey
  obtain ⟨t, rfl⟩ := (show ∃ t, iv = Value.str x t from ry)
  have hmap3 := PySem.W.mapOf_K (prog := X.prog) (w := X.w) I3.kIn D.at_ D.lit
  refine call_meetsIn PySem.F.slot_dict_get hmap3.typeIs PySem.F.entry_dict_get (PySem.F.args_dict_get_3 _ _ _) (meets_dict_get_default (strKind X.prog X.w) a (strKind_is X.prog X.w x t) D.low fv) ⟨_, hmap3, ?_⟩
  rw [PySem.W.find_K D.at_ en]
  refine ⟨v, H3, I3.tok _, ?_, q3⟩
  cases r with
  | none => rw [show v = z from er]; exact rz
  | some u => exact er
section
variable {χ : Xk} {L : List Addr} {as : List Addr} {ρ : DSt} {O : List D} {k : List Addr → D → List D → Prop} {ty tx : TE} {K : PySem.W.Frag} {a : Addr}
theorem w_kget (h : dE χ ty L as ρ O fun as y O => ∃ x, y = .str x ∧ dE χ tx L as ρ O fun as z O => (∃ (i : Int) (t : Tok), PySem.W.nsIn K a x = some (some (.int i t)) ∧ k as (.int i) O) ∨ (PySem.W.nsIn K a x = some none ∧ k as z O)) : dE χ (tKGet K a ty tx) L as ρ O k := fun F H σ S x Q q =>
  h F H σ S x _ fun F1 H1 as1 O1 v1 d1 g1 S1 r1 ⟨z, ez, h1⟩ => h1 F1 H1 σ S1 (x.go g1) _ fun F2 H2 as2 O2 v2 d2 g2 S2 r2 h2 => by
    subst ez
    cases r1
    rcases h2 with ⟨i, t, e, z⟩ | ⟨e, z⟩
    · exact ⟨_, _, .int i, rfl, e, ⟨t, rfl⟩, q F2 H2 as2 O2 _ _ (g1.trans g2) S2 (.int i) z⟩
    · exact ⟨_, _, v2, rfl, e, rfl, q F2 H2 as2 O2 _ _ (g1.trans g2) S2 r2 z⟩
end
section
variable {χ : Xk} {L : List Addr} {as : List Addr} {ρ : DSt} {O : List D} {k : List Addr → D → List D → Prop} {K : PySem.W.Frag} {a : Addr}
theorem tup_strs {x : Str} {zs : List Str} (h : He.tupB K x (zs.map He.Dv.str) = true) : ∀ H, SqT K H (He.ga K x) (zs.map V.str) := fun H => by
  have := He.tupB_ok h H
  rw [List.map_map] at this
  exact this
theorem w_ktup {x : Str} {zs : List Str} (h : ∀ H, SqT K H (He.ga K x) (zs.map V.str)) (z : k as (.zkt K (zs.map D.str)) O) : dE χ (tC (.ref (He.ga K x))) L as ρ O k := w_c (fun F => .zkt h (rs_strs zs)) z
theorem rv_inZ {x : Str} {zs : List Str} {neg : Bool} (z : k as (.bl (if neg then !decide (x ∈ zs) else decide (x ∈ zs))) O) : rv (rIn K neg) L as O (.str x) (.zkt K (zs.map D.str)) k := fun F H u y hd ow r1 r2 Q q => by
  cases r1
  cases r2 with
  | zkt e r' =>
    have ex := r'.strs
    subst ex
    refine ⟨_, _, rfl, .inr (e H), rfl, flat_strs zs, ?_⟩
    rw [inV_strs]
    exact q F H as O _ _ (.refl ..) hd ow (.bl _) z
end
def entB (K : PySem.W.Frag) (x key : Str) (i : Option Int) : Bool := match PySem.W.nsIn K (He.ga K x) key, i with
  | some (some (.int j _)), some i => j == i
  | some none, none => true
  | _, _ => false
theorem entB_int {K : PySem.W.Frag} {x key : Str} {i : Int} (h : entB K x key (some i) = true) : ∃ t, PySem.W.nsIn K (He.ga K x) key = some (some (.int i t)) := by
  unfold entB at h
  split at h
  · rename_i j t i' e1 e2
    cases e2
    exact ⟨t, by rw [e1, eq_of_beq h]⟩
  · rename_i e1 e2; cases e2
  · cases h
theorem entB_none {K : PySem.W.Frag} {x key : Str} (h : entB K x key none = true) : PySem.W.nsIn K (He.ga K x) key = some none := by
  unfold entB at h
  split at h
  · rename_i e2; cases e2
  · assumption
  · cases h
abbrev AlY : Type := AlX × List (Option (List (Option (Str × Int)))) × Bool
abbrev TabY : Type := Str × List Str × List (Str × Option Int)
def obsY (fa : List He.Fa) (fn : List He.DefD) (xa : List Xa) (sd : List SupD) (wn : List He5.DefA) (ts : List TabY) (K : PySem.W.Frag) : AlY := (obsX fa fn xa sd wn K, ts.map (fun t => He.dicW K (He.ga K t.1)), ts.all fun t => t.2.2.all fun e => entB K t.1 e.1 e.2)
def valY (fn : List He.DefD) (sd : List SupD) (wn : List He5.DefA) (ts : List TabY) (w : World) : AlY := (valX fn sd wn, ts.map (fun t => some (He.keysIn w.params t.2.1)), true)
def asZ (n : Nat) : List Addr := mainGlobals :: PySem.cStatics :: List.range n
def obsYG (n : Nat) (fa : List He.Fa) (fn : List He.DefD) (xa : List Xa) (sd : List SupD) (wn : List He5.DefA) (ts : List TabY) (g : Addr → Option Obj) : AlY := obsY fa fn xa sd wn ts (He.frG g (asZ n))
def hookY (n : Nat) (fa : List He.Fa) (fn : List He.DefD) (xa : List Xa) (sd : List SupD) (wn : List He5.DefA) (ts : List TabY) : PySem.W.Hook where
  α := AlY
  obs := fun s => obsYG n fa fn xa sd wn ts s.heap.get?
  val := fun w => valY fn sd wn ts w
  says := fun w h => ∃ K : PySem.W.Frag, K.In h ∧ obsY fa fn xa sd wn ts K = valY fn sd wn ts w
  of := fun _ _ e => ⟨_, He.frG_in, e⟩
  keeps := fun _ _ _ ⟨K, hK, c⟩ k => ⟨K, PySem.W.Frag.In.keeps hK k, c⟩
theorem obsYG_eq {n : Nat} {fa : List He.Fa} {fn : List He.DefD} {xa : List Xa} {sd : List SupD} {wn : List He5.DefA} {ts : List TabY} {g : Addr → Option Obj} {s : Shared} (h : ∀ a, g a = s.heap.get? a) : obsYG n fa fn xa sd wn ts g = (hookY n fa fn xa sd wn ts).obs s := by
  have e : g = s.heap.get? := funext h
  rw [e] <;> rfl
section
variable {fa : List He.Fa} {fn : List He.DefD} {xa : List Xa} {sd : List SupD} {wn : List He5.DefA} {ts : List TabY} {w : World} {K : PySem.W.Frag}
theorem obsY_x (c : obsY fa fn xa sd wn ts K = valY fn sd wn ts w) : obsX fa fn xa sd wn K = valX fn sd wn := congrArg (fun z : AlY => z.1) c
theorem obsY_tab (c : obsY fa fn xa sd wn ts K = valY fn sd wn ts w) (i : Nat) {t : TabY} (h : ts[i]? = some t := by rfl) : ∃ es n, KDict K w (He.ga K t.1) es n := by
  have e : ts.map (fun t => He.dicW K (He.ga K t.1)) = ts.map fun t => some (He.keysIn w.params t.2.1) := congrArg (fun z : AlY => z.2.1) c
  have e2 : (ts.map fun t => He.dicW K (He.ga K t.1))[i]? = (ts.map fun t => some (He.keysIn w.params t.2.1))[i]? := by rw [e]
  rw [List.getElem?_map, List.getElem?_map, h] at e2
  exact He.dicW_ok (Option.some.inj e2)
theorem obsY_ent (c : obsY fa fn xa sd wn ts K = valY fn sd wn ts w) (i : Nat) {t : TabY} (h : ts[i]? = some t := by rfl) {e : Str × Option Int} (m : e ∈ t.2.2) : entB K t.1 e.1 e.2 = true := by
  have c1 : (ts.all fun t => t.2.2.all fun e => entB K t.1 e.1 e.2) = true := congrArg (fun z : AlY => z.2.2) c
  exact List.all_eq_true.mp (List.all_eq_true.mp c1 t (List.mem_of_getElem? h)) e m
end
end DL
namespace DLS
end DLS
set_option pp.maxSteps 700
namespace G
open PySem PySem.Spec PyProof.Rows L2 DL DLS NdefX
local macro_rules | `(tactic| k_subL) => `(tactic| repeat (first
  | with_reducible refine s_seq ?_
  | with_reducible refine s_set ?_
  | with_reducible refine w_op ?_
  | ((with_reducible refine w_var (d := ?_) ?_ ?_); rotate_left; exact rfl)
  | with_reducible refine w_int ?_
  | with_reducible refine rv_i0 ?_
  | with_reducible refine rv_b0 ?_
  | with_reducible refine w_cb ?_
  | with_reducible refine w_cons ?_
  | with_reducible refine w_nil ?_
  | with_reducible refine rc_int ?_
  | with_reducible refine w_str ?_
  | with_reducible refine w_bl ?_
  | with_reducible refine w_non ?_
  | with_reducible refine g_name ?_
  | with_reducible refine s_ret ?_
  | with_reducible refine s_drop ?_
  | with_reducible refine s_if ?_
  | with_reducible refine w_test ?_
  | with_reducible refine w_tB ?_))
local macro_rules | `(tactic| k_clsL) => `(tactic| repeat (first
  | with_reducible refine s_seq ?_
  | with_reducible refine s_set ?_
  | with_reducible refine w_op ?_
  | ((with_reducible refine w_var (d := ?_) ?_ ?_); rotate_left; exact rfl)
  | with_reducible refine w_int ?_
  | with_reducible refine rv_i0 ?_
  | with_reducible refine rv_b0 ?_
  | with_reducible refine w_cb ?_
  | with_reducible refine w_cons ?_
  | with_reducible refine w_nil ?_
  | with_reducible refine rc_int ?_
  | with_reducible refine w_str ?_
  | with_reducible refine w_bl ?_
  | with_reducible refine w_non ?_
  | with_reducible refine g_name ?_
  | with_reducible refine s_ret ?_
  | with_reducible refine s_drop ?_
  | with_reducible refine s_if ?_
  | with_reducible refine w_test ?_
  | with_reducible refine w_tB ?_
  | with_reducible refine w_not ?_
  | with_reducible refine w_and ?_
  | with_reducible refine w_or ?_
  | with_reducible refine w_notV ?_
  | with_reducible refine w_andV ?_
  | with_reducible refine w_orV ?_
  | with_reducible refine w_if ?_
  | with_reducible refine w_chain ?_
  | with_reducible refine ex_bl ?_
  | with_reducible refine ex_int ?_
  | with_reducible refine ex_str ?_
  | with_reducible refine ex_lst ?_
  | with_reducible refine ex_tup ?_
  | with_reducible refine rc_lenM ?_
  | with_reducible refine rc_lenU ?_
  | with_reducible refine i_list ?_
  | with_reducible refine i_tup ?_
  | with_reducible refine i_range ?_
  | with_reducible refine i_str ?_
  | with_reducible refine s_for ?_
  | ((with_reducible refine rv_eq ?_ ?_); exact rfl)
  | ((with_reducible refine rv_ne ?_ ?_); exact rfl)
  | with_reducible refine MI.row0 _ ?_
  | with_reducible refine MI.row1 _ ?_
  | with_reducible refine MI.row2 _ ?_
  | with_reducible refine MI.par0 _ ?_
  | with_reducible refine MI.par1 _ ?_
  | ((with_reducible refine rv_ixT (d := ?_) ?_ ?_); rotate_left; exact rfl)))
def top (i : Nat) : Stmt := PySem.Challenge.pw_bytegrove_k14_invalid_function_tables.main.body.getD i (.Pass ⟨0, 0, 0, 0⟩)
abbrev s__law_pool : Stmt := top 36
abbrev N__law_pool : List Str := ["_law_script", "_law_pool_here", "_law_cell", "_law_number", "_law_turn", "_law_mixed"]
theorem sc__law_pool : FnScope N__law_pool ["_law_script"] (defScope s__law_pool) := ⟨rfl, rfl, rfl, by decide +kernel, rfl, by decide +kernel, by decide +kernel⟩
def f__law_pool : He.DefD := ⟨("_law_pool", none), "_law_pool", "_law_pool", defArgs s__law_pool, defBody s__law_pool, defScope s__law_pool, [], []⟩
abbrev s__law_take : Stmt := top 35
abbrev N__law_take : List Str := ["_law_pool_here", "_law_many"]
theorem sc__law_take : FnScope N__law_take ["_law_pool_here", "_law_many"] (defScope s__law_take) := ⟨rfl, rfl, rfl, by decide +kernel, rfl, by decide +kernel, by decide +kernel⟩
def f__law_take : He.DefD := ⟨("_law_take", none), "_law_take", "_law_take", defArgs s__law_take, defBody s__law_take, defScope s__law_take, [], []⟩
abbrev s_Kinds___init__ : Stmt := inClass (top 23) 0
abbrev N_Kinds___init__ : List Str := ["self", "rows", "kind", "at", "row", "family", "part", "maker", "parts"]
theorem sc_Kinds___init__ : FnScope N_Kinds___init__ ["self", "rows"] (defScope s_Kinds___init__) := ⟨rfl, rfl, rfl, by decide +kernel, rfl, by decide +kernel, by decide +kernel⟩
def f_Kinds___init__ : He.DefD := ⟨("Kinds", some "__init__"), "__init__", "Kinds.__init__", defArgs s_Kinds___init__, defBody s_Kinds___init__, defScope s_Kinds___init__, [], []⟩
abbrev s__law_bad_row : Stmt := top 45
abbrev N__law_bad_row : List Str := ["_law_kinds", "_law_table", "e"]
theorem sc__law_bad_row : FnScope N__law_bad_row ["_law_kinds", "_law_table"] (defScope s__law_bad_row) := ⟨rfl, rfl, rfl, by decide +kernel, rfl, by decide +kernel, by decide +kernel⟩
def f__law_bad_row : He.DefD := ⟨("_law_bad_row", none), "_law_bad_row", "_law_bad_row", defArgs s__law_bad_row, defBody s__law_bad_row, defScope s__law_bad_row, [], []⟩
abbrev s__law_fine : Stmt := top 48
abbrev N__law_fine : List Str := ["_law_most", "_law_deep"]
theorem sc__law_fine : FnScope N__law_fine [] (defScope s__law_fine) := ⟨rfl, rfl, rfl, by decide +kernel, rfl, by decide +kernel, by decide +kernel⟩
def f__law_fine : He.DefD := ⟨("_law_fine", none), "_law_fine", "_law_fine", defArgs s__law_fine, defBody s__law_fine, defScope s__law_fine, [], []⟩
abbrev s__law_with : Stmt := top 47
abbrev N__law_with : List Str := ["_law_table", "_law_at", "_law_row"]
theorem sc__law_with : FnScope N__law_with ["_law_table", "_law_at", "_law_row"] (defScope s__law_with) := ⟨rfl, rfl, rfl, by decide +kernel, rfl, by decide +kernel, by decide +kernel⟩
def f__law_with : He.DefD := ⟨("_law_with", none), "_law_with", "_law_with", defArgs s__law_with, defBody s__law_with, defScope s__law_with, [], []⟩
abbrev s__law_bodies : Stmt := top 46
abbrev N__law_bodies : List Str := ["_law_says", "_law_once"]
theorem sc__law_bodies : FnScope N__law_bodies [] (defScope s__law_bodies) := ⟨rfl, rfl, rfl, by decide +kernel, rfl, by decide +kernel, by decide +kernel⟩
def f__law_bodies : He.DefD := ⟨("_law_bodies", none), "_law_bodies", "_law_bodies", defArgs s__law_bodies, defBody s__law_bodies, defScope s__law_bodies, [], []⟩
abbrev s__law_more : Stmt := top 49
abbrev N__law_more : List Str := ["_law_pool_here", "_law_kinds", "_law_table", "_law_at", "_law_late", "_law_early", "_law_other", "_law_bodies_here", "_law_both", "_law_fine_here", "_law_first", "_law_twice", "_law_many", "_law_rows_here", "_law_drawn", "_law_turned", "_law_letter"]
theorem sc__law_more : FnScope N__law_more ["_law_pool_here", "_law_kinds", "_law_table", "_law_at", "_law_late", "_law_early"] (defScope s__law_more) := ⟨rfl, rfl, rfl, by decide +kernel, rfl, by decide +kernel, by decide +kernel⟩
def f__law_more : He.DefD := ⟨("_law_more", none), "_law_more", "_law_more", defArgs s__law_more, defBody s__law_more, defScope s__law_more, [], []⟩
abbrev s_Kinds_is_new : Stmt := inClass (top 23) 1
abbrev N_Kinds_is_new : List Str := ["self", "row", "kind", "maker", "parts", "part"]
theorem sc_Kinds_is_new : FnScope N_Kinds_is_new ["self", "row"] (defScope s_Kinds_is_new) := ⟨rfl, rfl, rfl, by decide +kernel, rfl, by decide +kernel, by decide +kernel⟩
def f_Kinds_is_new : He.DefD := ⟨("Kinds", some "is_new"), "is_new", "Kinds.is_new", defArgs s_Kinds_is_new, defBody s_Kinds_is_new, defScope s_Kinds_is_new, [], []⟩
abbrev s_Kinds_find_least : Stmt := inClass (top 23) 2
abbrev N_Kinds_find_least : List Str := ["self", "least_rows", "changed", "maker", "row", "tree", "part", "kind", "tag", "parts"]
theorem sc_Kinds_find_least : FnScope N_Kinds_find_least ["self"] (defScope s_Kinds_find_least) := ⟨rfl, rfl, rfl, by decide +kernel, rfl, by decide +kernel, by decide +kernel⟩
def f_Kinds_find_least : He.DefD := ⟨("Kinds", some "find_least"), "find_least", "Kinds.find_least", defArgs s_Kinds_find_least, defBody s_Kinds_find_least, defScope s_Kinds_find_least, [], []⟩
abbrev s_is_name : Stmt := top 21
abbrev N_is_name : List Str := ["text", "char"]
theorem sc_is_name : FnScope N_is_name ["text"] (defScope s_is_name) := ⟨rfl, rfl, rfl, by decide +kernel, rfl, by decide +kernel, by decide +kernel⟩
def f_is_name : He.DefD := ⟨("is_name", none), "is_name", "is_name", defArgs s_is_name, defBody s_is_name, defScope s_is_name, [], []⟩
abbrev s_is_part : Stmt := top 22
abbrev N_is_part : List Str := ["part"]
theorem sc_is_part : FnScope N_is_part ["part"] (defScope s_is_part) := ⟨rfl, rfl, rfl, by decide +kernel, rfl, by decide +kernel, by decide +kernel⟩
def f_is_part : He.DefD := ⟨("is_part", none), "is_part", "is_part", defArgs s_is_part, defBody s_is_part, defScope s_is_part, [], []⟩
abbrev s_Functions___init__ : Stmt := inClass (top 33) 0
abbrev N_Functions___init__ : List Str := ["self", "kinds", "rows", "at", "row", "name", "kind", "fold", "bodies", "maker", "body", "function", "part"]
theorem sc_Functions___init__ : FnScope N_Functions___init__ ["self", "kinds", "rows"] (defScope s_Functions___init__) := ⟨rfl, rfl, rfl, by decide +kernel, rfl, by decide +kernel, by decide +kernel⟩
def f_Functions___init__ : He.DefD := ⟨("Functions", some "__init__"), "__init__", "Functions.__init__", defArgs s_Functions___init__, defBody s_Functions___init__, defScope s_Functions___init__, [], []⟩
abbrev s__law_int : Stmt := top 44
abbrev N__law_int : List Str := ["_law_value"]
theorem sc__law_int : FnScope N__law_int ["_law_value"] (defScope s__law_int) := ⟨rfl, rfl, rfl, by decide +kernel, rfl, by decide +kernel, by decide +kernel⟩
def f__law_int : He.DefD := ⟨("_law_int", none), "_law_int", "_law_int", defArgs s__law_int, defBody s__law_int, defScope s__law_int, [], []⟩
abbrev s_Functions_is_new : Stmt := inClass (top 33) 1
abbrev N_Functions_is_new : List Str := ["self", "row", "makers", "maker", "name", "kind", "fold", "bodies"]
theorem sc_Functions_is_new : FnScope N_Functions_is_new ["self", "row"] (defScope s_Functions_is_new) := ⟨rfl, rfl, rfl, by decide +kernel, rfl, by decide +kernel, by decide +kernel⟩
def f_Functions_is_new : He.DefD := ⟨("Functions", some "is_new"), "is_new", "Functions.is_new", defArgs s_Functions_is_new, defBody s_Functions_is_new, defScope s_Functions_is_new, [], []⟩
abbrev s_calls_of : Stmt := top 32
abbrev N_calls_of : List Str := ["body", "calls", "step"]
theorem sc_calls_of : FnScope N_calls_of ["body"] (defScope s_calls_of) := ⟨rfl, rfl, rfl, by decide +kernel, rfl, by decide +kernel, by decide +kernel⟩
def f_calls_of : He.DefD := ⟨("calls_of", none), "calls_of", "calls_of", defArgs s_calls_of, defBody s_calls_of, defScope s_calls_of, [], []⟩
abbrev s_Kinds_inner : Stmt := inClass (top 23) 10
abbrev N_Kinds_inner : List Str := ["self", "maker", "part"]
theorem sc_Kinds_inner : FnScope N_Kinds_inner ["self", "maker", "part"] (defScope s_Kinds_inner) := ⟨rfl, rfl, rfl, by decide +kernel, rfl, by decide +kernel, by decide +kernel⟩
def f_Kinds_inner : He.DefD := ⟨("Kinds", some "inner"), "inner", "Kinds.inner", defArgs s_Kinds_inner, defBody s_Kinds_inner, defScope s_Kinds_inner, [], []⟩
abbrev s_Kinds_makers : Stmt := inClass (top 23) 6
abbrev N_Kinds_makers : List Str := ["self", "kind"]
theorem sc_Kinds_makers : FnScope N_Kinds_makers ["self", "kind"] (defScope s_Kinds_makers) := ⟨rfl, rfl, rfl, by decide +kernel, rfl, by decide +kernel, by decide +kernel⟩
def f_Kinds_makers : He.DefD := ⟨("Kinds", some "makers"), "makers", "Kinds.makers", defArgs s_Kinds_makers, defBody s_Kinds_makers, defScope s_Kinds_makers, [], []⟩
abbrev s_is_body : Stmt := top 31
abbrev N_is_body : List Str := ["kinds", "maker", "body", "before", "asked", "at", "step", "part"]
theorem sc_is_body : FnScope N_is_body ["kinds", "maker", "body", "before"] (defScope s_is_body) := ⟨rfl, rfl, rfl, by decide +kernel, rfl, by decide +kernel, by decide +kernel⟩
def f_is_body : He.DefD := ⟨("is_body", none), "is_body", "is_body", defArgs s_is_body, defBody s_is_body, defScope s_is_body, [], []⟩
abbrev s_Kinds_parts : Stmt := inClass (top 23) 9
abbrev N_Kinds_parts : List Str := ["self", "maker", "part"]
theorem sc_Kinds_parts : FnScope N_Kinds_parts ["self", "maker"] (defScope s_Kinds_parts) := ⟨rfl, rfl, rfl, by decide +kernel, rfl, by decide +kernel, by decide +kernel⟩
def f_Kinds_parts : He.DefD := ⟨("Kinds", some "parts"), "parts", "Kinds.parts", defArgs s_Kinds_parts, defBody s_Kinds_parts, defScope s_Kinds_parts, [], []⟩
abbrev s_Kinds_entry : Stmt := inClass (top 23) 4
abbrev N_Kinds_entry : List Str := ["self", "maker"]
theorem sc_Kinds_entry : FnScope N_Kinds_entry ["self", "maker"] (defScope s_Kinds_entry) := ⟨rfl, rfl, rfl, by decide +kernel, rfl, by decide +kernel, by decide +kernel⟩
def f_Kinds_entry : He.DefD := ⟨("Kinds", some "entry"), "entry", "Kinds.entry", defArgs s_Kinds_entry, defBody s_Kinds_entry, defScope s_Kinds_entry, [], []⟩
abbrev s_Kinds_part_of : Stmt := inClass (top 23) 5
abbrev N_Kinds_part_of : List Str := ["self", "maker", "name", "part"]
theorem sc_Kinds_part_of : FnScope N_Kinds_part_of ["self", "maker", "name"] (defScope s_Kinds_part_of) := ⟨rfl, rfl, rfl, by decide +kernel, rfl, by decide +kernel, by decide +kernel⟩
def f_Kinds_part_of : He.DefD := ⟨("Kinds", some "part_of"), "part_of", "Kinds.part_of", defArgs s_Kinds_part_of, defBody s_Kinds_part_of, defScope s_Kinds_part_of, [], []⟩
abbrev s__law_rows : Stmt := top 39
abbrev N__law_rows : List Str := ["_law_pool_here", "_law_seed", "_law_names", "_law_k", "_law_rows_here", "_law_turn", "_law_count", "_law_base", "_law_at", "_law_maker", "_law_inner", "_law_row"]
theorem sc__law_rows : FnScope N__law_rows ["_law_pool_here"] (defScope s__law_rows) := ⟨rfl, rfl, rfl, by decide +kernel, rfl, by decide +kernel, by decide +kernel⟩
def f__law_rows : He.DefD := ⟨("_law_rows", none), "_law_rows", "_law_rows", defArgs s__law_rows, defBody s__law_rows, defScope s__law_rows, [], []⟩
abbrev s__law_functions : Stmt := top 43
abbrev N__law_functions : List Str := ["_law_pool_here", "_law_rows_here", "_law_hidden_here", "_law_cut", "_law_most", "_law_seed", "_law_kinds", "_law_row", "_law_heads", "_law_k", "_law_wild", "_law_table", "_law_head", "_law_name_here", "_law_bodies_here"]
theorem sc__law_functions : FnScope N__law_functions ["_law_pool_here", "_law_rows_here", "_law_hidden_here", "_law_cut", "_law_most"] (defScope s__law_functions) := ⟨rfl, rfl, rfl, by decide +kernel, rfl, by decide +kernel, by decide +kernel⟩
def f__law_functions : He.DefD := ⟨("_law_functions", none), "_law_functions", "_law_functions", defArgs s__law_functions, defBody s__law_functions, defScope s__law_functions, [], []⟩
abbrev s__law_hidden : Stmt := top 41
abbrev N__law_hidden : List Str := ["_law_pool_here", "_law_rows_here", "_law_hidden_here", "_law_row"]
theorem sc__law_hidden : FnScope N__law_hidden ["_law_pool_here", "_law_rows_here"] (defScope s__law_hidden) := ⟨rfl, rfl, rfl, by decide +kernel, rfl, by decide +kernel, by decide +kernel⟩
def f__law_hidden : He.DefD := ⟨("_law_hidden", none), "_law_hidden", "_law_hidden", defArgs s__law_hidden, defBody s__law_hidden, defScope s__law_hidden, [], []⟩
abbrev s__law_name : Stmt := top 37
abbrev N__law_name : List Str := ["_law_seed", "_law_k", "_law_taken", "_law_letters", "_law_number", "_law_name_here", "_law_turn"]
theorem sc__law_name : FnScope N__law_name ["_law_seed", "_law_k", "_law_taken"] (defScope s__law_name) := ⟨rfl, rfl, rfl, by decide +kernel, rfl, by decide +kernel, by decide +kernel⟩
def f__law_name : He.DefD := ⟨("_law_name", none), "_law_name", "_law_name", defArgs s__law_name, defBody s__law_name, defScope s__law_name, [], []⟩
abbrev s__law_parts : Stmt := top 38
abbrev N__law_parts : List Str := ["_law_pool_here", "_law_seed", "_law_names", "_law_base", "_law_parts_here", "_law_taken", "_law_trees", "_law_at", "_law_pick", "_law_price"]
theorem sc__law_parts : FnScope N__law_parts ["_law_pool_here", "_law_seed", "_law_names", "_law_base"] (defScope s__law_parts) := ⟨rfl, rfl, rfl, by decide +kernel, rfl, by decide +kernel, by decide +kernel⟩
def f__law_parts : He.DefD := ⟨("_law_parts", none), "_law_parts", "_law_parts", defArgs s__law_parts, defBody s__law_parts, defScope s__law_parts, [], []⟩
abbrev s__law_body : Stmt := top 42
abbrev N__law_body : List Str := ["_law_pool_here", "_law_heads", "_law_parts_here", "_law_cut", "_law_wild", "_law_nest", "_law_left", "_law_steps", "_law_turn", "_law_places", "_law_at", "_law_part", "_law_names", "_law_rest", "_law_bound", "_law_below", "_law_other", "_law_head"]
theorem sc__law_body : FnScope N__law_body ["_law_pool_here", "_law_heads", "_law_parts_here", "_law_cut", "_law_wild", "_law_nest"] (defScope s__law_body) := ⟨rfl, rfl, rfl, by decide +kernel, rfl, by decide +kernel, by decide +kernel⟩
def f__law_body : He.DefD := ⟨("_law_body", none), "_law_body", "_law_body", defArgs s__law_body, defBody s__law_body, defScope s__law_body, [], []⟩
abbrev s__law_shuffle : Stmt := top 40
abbrev N__law_shuffle : List Str := ["_law_pool_here", "_law_items", "_law_left", "_law_out", "_law_turn"]
theorem sc__law_shuffle : FnScope N__law_shuffle ["_law_pool_here", "_law_items"] (defScope s__law_shuffle) := ⟨rfl, rfl, rfl, by decide +kernel, rfl, by decide +kernel, by decide +kernel⟩
def f__law_shuffle : He.DefD := ⟨("_law_shuffle", none), "_law_shuffle", "_law_shuffle", defArgs s__law_shuffle, defBody s__law_shuffle, defScope s__law_shuffle, [], []⟩
abbrev s_law : Stmt := top 50
abbrev N_law : List Str := ["_law_script", "_law_pool_here", "_law_rows_here", "_law_kinds", "_law_node", "_law_tree", "_law_table", "_law_turn", "_law_at", "_law_body_here", "_law_wrong", "_law_bad", "_law_calls", "_law_row"]
theorem sc_law : FnScope N_law ["_law_script"] (defScope s_law) := ⟨rfl, rfl, rfl, by decide +kernel, rfl, by decide +kernel, by decide +kernel⟩
def f_law : He.DefD := ⟨("law", none), "law", "law", defArgs s_law, defBody s_law, defScope s_law, [], []⟩
def fn : List He.DefD := [f__law_pool, f__law_take, f_Kinds___init__, f__law_bad_row, f__law_fine, f__law_with, f__law_bodies, f__law_more, f_Kinds_is_new, f_Kinds_find_least, f_is_name, f_is_part, f_Functions___init__, f__law_int, f_Functions_is_new, f_calls_of, f_Kinds_inner, f_Kinds_makers, f_is_body, f_Kinds_parts, f_Kinds_entry, f_Kinds_part_of, f__law_rows, f__law_functions, f__law_hidden, f__law_name, f__law_parts, f__law_body, f__law_shuffle, f_law]
def fa : List He.Fa := [.glo "_law_pool", .glo "_law_take", .glo "Kinds", .mkr "Kinds", .cls "Kinds", .glo "_law_bad_row", .glo "_law_fine", .glo "_law_with", .glo "_law_bodies", .glo "_law_more", .free "len", .free "int", .free "range", .noat "Kinds" "table", .noat "Kinds" "family", .free "enumerate", .int "MOST_MAKERS" 12, .meth "Kinds" "is_new", .free "tuple", .str "BYTE" "byte", .noat "Kinds" "names", .noat "Kinds" "order", .noat "Kinds" "smallest", .meth "Kinds" "find_least", .glo "is_name", .int "MOST_KINDS" 4, .int "MOST_PARTS" 4, .free "all", .glo "is_part", .int "MOST_NAME" 24, .str "LETTERS" "ABCDEFGHIJKLMNOPQRSTUVWXYZabcdefghijklmnopqrstuvwxyz", .str "DIGITS" "0123456789", .int "MOST_PRICE" 1000, .glo "GroveError", .glo "Functions", .mkr "Functions", .cls "Functions", .free "list", .free "isinstance", .glo "WrongLayout", .glo "Stuck", .glo "NotThere", .glo "NoLayout", .glo "BadTree", .glo "BadRow", .glo "BadLayout", .glo "BadKinds", .glo "BadFunctions", .free "ValueError", .glo "_law_int", .noat "BadFunctions" "row", .noat "Functions" "kinds", .noat "Functions" "table", .free "super", .free "str", .int "MOST_FUNCTIONS" 6, .meth "Functions" "is_new", .free "dict", .glo "calls_of", .meth "Kinds" "inner", .noat "Functions" "names", .glo "FOLDS", .meth "Kinds" "makers", .glo "is_body", .noat "NotThere" "name", .int "MOST_STEPS" 12, .glo "SIZES", .int "MOST_SAY" 1000, .meth "Kinds" "parts", .int "MOST_BOUND" 255, .meth "Kinds" "entry", .meth "Kinds" "part_of", .free "bool", .glo "_law_rows", .glo "_law_functions", .glo "_law_hidden", .glo "_law_name", .glo "_law_parts", .glo "_law_body", .glo "_law_shuffle", .glo "law"]
abbrev s_BadFunctions : Stmt := inClass (top 7) 0
abbrev N_BadFunctions : List Str := ["self", "row", "__class__"]
theorem sc_BadFunctions : NScope N_BadFunctions ["self", "row"] ["__class__"] (defScope s_BadFunctions) := nscope_by (by decide +kernel)
def sd_BadFunctions : SupD := ⟨"BadFunctions", "__init__", "BadFunctions.__init__", defArgs s_BadFunctions, defBody s_BadFunctions, defScope s_BadFunctions, none⟩
abbrev s_NotThere : Stmt := inClass (top 8) 0
abbrev N_NotThere : List Str := ["self", "name", "__class__"]
theorem sc_NotThere : NScope N_NotThere ["self", "name"] ["__class__"] (defScope s_NotThere) := nscope_by (by decide +kernel)
def sd_NotThere : SupD := ⟨"NotThere", "__init__", "NotThere.__init__", defArgs s_NotThere, defBody s_NotThere, defScope s_NotThere, none⟩
def xa : List Xa := [.kit "BadFunctions" "BadKinds" false, .kit "BadFunctions" "BadLayout" false, .kit "BadFunctions" "BadRow" false, .kit "BadFunctions" "BadTree" false, .kit "BadFunctions" "NoLayout" false, .kit "BadFunctions" "NotThere" false, .kit "BadFunctions" "Stuck" false, .kit "BadFunctions" "WrongLayout" false, .kit "BadFunctions" "BadFunctions" true, .kitT "BadFunctions" "ValueError" true, .exm "BadFunctions" "GroveError" true, .exc "BadFunctions", .sup "BadFunctions" "BadFunctions", .tup "FOLDS" ["sum", "max"], .exc "NotThere", .sup "NotThere" "NotThere"]
def sd : List SupD := [sd_BadFunctions, sd_NotThere]
def ts : List TabY := [("SIZES", ["read", "call", "say", "if"], [("read", some 2), ("call", some 3), ("say", some 2), ("if", some 5), ("walk", none)])]
def wn : List He5.DefA := []
abbrev RR : PySem.W.OpenRow := PySem.W.OpenLaw.row PySem.Challenge.rw_bytegrove_k14_invalid_function_tables
abbrev hkk : PySem.W.Hook := hookY 2000 fa fn xa sd wn ts
def obv (s : PySem.W.SharedT) : AlY := obsYG 2000 fa fn xa sd wn ts (HandSHeadRun.getT s)
theorem obv_eq (s : PySem.W.SharedT) : obv s = hkk.obs s.abs := obsYG_eq (HandSHeadRun.getT_eq s)
def looseN : List PySem.Str := (["_wall", "__name__", "GroveError", "BadKinds", "BadTree", "BadLayout", "BadRow", "BadFunctions", "NotThere", "Stuck", "WrongLayout", "NoLayout", "LETTERS", "DIGITS", "BYTE", "MOST_NAME", "MOST_MAKERS", "MOST_KINDS", "MOST_PARTS", "MOST_PRICE", "is_name", "is_part", "Kinds", "SIZES", "FOLDS", "MOST_FUNCTIONS", "MOST_STEPS", "MOST_SAY", "MOST_BOUND", "is_body"] : List PySem.Str) ++ (["calls_of", "Functions", "_law_take", "_law_pool", "_law_name", "_law_parts", "_law_rows", "_law_shuffle", "_law_hidden", "_law_body", "_law_functions", "_law_int", "_law_bad_row", "_law_bodies", "_law_with", "_law_fine", "_law_more"] : List PySem.Str)
theorem runF (w : World) : HandSHeadRun.RunEq RR (PySem.W.view RR.prog [50]) hkk obv 9000 looseN (w.withFollow "special-get-raises" false) := by
  intro os
  kernel_rfl
theorem runT (w : World) : HandSHeadRun.RunEq RR (PySem.W.view RR.prog [50]) hkk obv 9000 looseN (w.withFollow "special-get-raises" true) := by
  intro os
  kernel_rfl
theorem run (w : World) : HandSHeadRun.RunEq RR (PySem.W.view RR.prog [50]) hkk obv 9000 looseN w := PySem.W.byRow2 "special-get-raises" (P := fun w => HandSHeadRun.RunEq RR (PySem.W.view RR.prog [50]) hkk obv 9000 looseN w) runF runT w
end G
namespace DL
open PySem PySem.Spec PyProof.Rows L2
section
variable {prog : Program} {w : World} {A : Around} {E : Value → Shared → Prop} {s : Shared} {T : String} {r d : Addr} {n : Nat} {P : Nat → Value → Prop} {OK : Heap → Prop}
theorem tupSrc_code {Q1 : Value → Shared → Prop} (src : PySem.W.KdlSrc prog w T r d n P OK) (calm : A.handled = none) (ok : OK s.heap) (few : n ≤ sizeLine)
    (h : ∀ (g : Heap) (k : Nat) (acc : Array Value), (∀ b o, s.heap.get? b = some o → g.get? b = some o) → ItemsOf P acc n → Q1 (.ref g.objs.size) { s with heap := g.push { cls := .type "tuple", data := .seq acc }, toks := k }) :
    codeAny (model prog w) A (.call (.builtin "tuple.__new__") ⟨[.type "tuple", .ref r], []⟩) (wants Q1 E) s := by
  refine codeAny_of_tree ?_
  show wpAny _ A.in1 (do checkBuiltinCall "tuple.__new__" ⟨[.type "tuple", .ref r], []⟩; again (.builtin "tuple.__new__" ⟨[.type "tuple", .ref r], []⟩)) _ _ s
  refine wpAny_bind (wpAny_of_eq (PySem.F.newCall_tuple_1 _) ?_)
  refine wpAny_pure ⟨plainId_quiet PySem.F.plain_tuple_new _, codeAny_builtin PySem.F.entry_tuple_new ?_⟩
  rw [Around.under_plainId PySem.F.plain_tuple_new _]
  have q1 := sub_tuple_self
  have q2 := init_tuple_lookup
  have q3 := madeHere_tuple
  have q4 := src.type s ok
  have q5 : A.in1.handled = none := by exact calm
  have q6 := src.notTuple
  wp_walk using wpAny_typeOf q4, PySem.W.kdu_collect (A := A.in1) src q5 ok few
  intro g k zs keep items
  show wpAny (model prog w) A.in1 (Builtin.Tuple.tupleExact zs.toList.toArray >>= fun x => ret x) _ _ _
  have ez : zs.toList.toArray = zs := by simp
  rw [ez]
  unfold Builtin.Tuple.tupleExact
  refine wpAny_bind (wpAny_newObj_type ?_ (by show zs.size ≤ sizeLine; rw [items.1]; exact few))
  exact wpAny_pure (h g k zs keep items)
theorem tupSrc_call {Q : Value → Shared → Prop} (src : PySem.W.KdlSrc prog w T r d n P OK) (calm : A.handled = none) (ok : OK s.heap) (few : n ≤ sizeLine)
    (h : ∀ (g : Heap) (k : Nat) (acc : Array Value), (∀ b o, s.heap.get? b = some o → g.get? b = some o) → ItemsOf P acc n → Q (.ref g.objs.size) { s with heap := g.push { cls := .type "tuple", data := .seq acc }, toks := k }) :
    wpAny (model prog w) A (call (.type "tuple") [.ref r]) Q E s := by
  refine callType_codes (Q₁ := fun x u => u.TypeIs x "tuple" ∧ Q x u) PySem.F.called_tuple (PySem.F.typeCall_tuple_1 _) PySem.F.entry_object_init ?_ ?_
  · exact tupSrc_code (A := A.in1) src calm ok few fun g k acc e i => ⟨⟨_, Heap.get?_push_size _ rfl, rfl⟩, h g k acc e i⟩
  · rintro x u ⟨y1, y2⟩
    exact ⟨y1, PySem.F.args_object_init_2 x _, object_init_meets PySem.F.called_tuple.init.lookup PySem.F.called_tuple.made (by decide) prog w A.in1 _ u ⟨y1, rfl, y2⟩⟩
end
def rTupD : List V → Hp → VK → Prop := fun xs H Q => ∃ p kvs, xs = [.ref p] ∧ H p = some (.dK kvs) ∧ ∀ q, H q = none → Q (.ref q) (upd H q (.tup (kvs.map fun kv => kV kv.1)))
theorem call_tuple_dK {X : Cx} (hc : X.calm = true) : CallR X (.type "tuple") rTupD := by
  intro pins s σ H xs us Q I r h
  obtain ⟨p, kvs, rfl, hk, q⟩ := h
  obtain ⟨u, rfl, rx⟩ := vals1 r
  obtain rfl : u = Value.ref p := rx
  obtain ⟨z, lo, vs, rk, hd⟩ := (show ObjOk X.prog X.w H s.heap p (.dK kvs) from I.hok p _ hk)
  obtain ⟨ep, hat⟩ := hd.dictAt
  have hl : kvs.length = vs.length := Paired.length rk
  refine tupSrc_call (PySem.W.kdl_dict (knd := mixKind X.prog X.w) (kvs := vs) (ep := ep) lo) (I.ok.hd hc) hat (by rw [← hl]; exact z) fun g k acc keep items => ?_
  have rv : Vals (kvs.map fun kv => kV kv.1) acc.toList := by
    refine vals_of_at (by rw [List.length_map, hl, ← items.1]; simp) fun j x w h1 h2 => ?_
    obtain ⟨c, y, hky, hi⟩ := items.2 j w (by rw [← Array.getElem?_toList]; exact h2)
    have e1 : (kvs.map (·.1))[j]? = some c := by
      rw [KV.keys rk, List.getElem?_map, hky] <;> rfl
    rw [List.getElem?_map] at e1 h1
    cases e2 : kvs[j]? with
    | none => rw [e2] at e1; cases e1
    | some kv =>
      rw [e2] at e1 h1
      cases e1
      cases h1
      exact keyIs_rel hi
  have I1 : Inv X pins σ H { s with heap := g } := I.kept (t' := s.toks) keep
  refine ⟨.ref g.objs.size, upd H g.objs.size (.tup (kvs.map fun kv => kV kv.1)), I1.laid (t' := k) (fun b o e => Heap.get?_push_of_some _ e) (Nat.le_refl _) ?_, rfl, q _ (I1.hok.fresh (Nat.le_refl _))⟩
  refine (show ObjOk X.prog X.w _ _ _ (.tup (kvs.map fun kv => kV kv.1)) from ⟨by rw [List.length_map]; exact z, acc.toList, rv, ?_⟩)
  rw [show acc.toList.toArray = acc by simp]
  exact IsTup.new g acc
section
variable {χ : Xk} {L : List Addr} {as : List Addr} {ρ : DSt} {O : List D} {k : List Addr → D → List D → Prop} {d : D}
theorem Rk.keys {F : Hp} : ∀ {kvs : List (Key × V)} {kds : List (Key × D)}, Rk F kvs kds → Rs F (kvs.map fun kv : Key × V => kV kv.1) (kds.map fun kv : Key × D => kD kv.1)
  | _, _, .nil => .nil
  | _, _, .cons _ t => .cons (r_key _) (Rk.keys t)
theorem rc_tupD {kds : List (Key × D)} (h : dkOf as O d kds) (z : k as (.tup (kds.map fun kv => kD kv.1)) O) : rc rTupD [] as O [d] k := fun F H xs hd ow r Q q => by
  cases r with
  | cons r1 r2 =>
    cases r2
    obtain ⟨a, kvs, rfl, e, rk⟩ := dk_un hd ow r1 h
    exact ⟨a, kvs, rfl, e, new_tup hd ow rk.keys z q⟩
end
end DL
namespace DL
open PySem PySem.Spec PyProof.Rows L2 PpSet
abbrev addS (S : Key → Bool) (c : Key) : Key → Bool := fun j => S j || decide (j = c)
abbrev addN (S : Key → Bool) (m : Nat) (c : Key) : Nat := if S c = true then m else m + 1
def tScK (P : Program) (w : World) (wi : TI) (g : TG) (te : TE) (vs : List Nat) : TE := fun σ H Q => wi σ H fun J H1 => ∀ N, H1 N = none → ∃ (n : Nat) (Pv : Nat → Hp → Prop), Pv 0 (upd H1 N (SetK P w N (fun _ => false) 0)) ∧
  ∀ i H, Pv i H → (J.stop i H ∧ Q (.ref N) H) ∨ (i < n ∧ J.go i H ∧ ∀ x H', J.yld i H x H' → g x (wipe σ vs) H' fun σ2 H2 => wipe σ2 vs = wipe σ vs ∧ te σ2 H2 fun y H3 =>
    ∃ (c : Key) (S : Key → Bool) (m : Nat), y = kV c ∧ H3 N = some (SetK P w N S m) ∧ m + 1 < scanBound ∧ Pv (i + 1) (upd H3 N (SetK P w N (addS S c) (addN S m c))))
section
variable {X : Cx}
theorem keyAdd {pins : List (Addr × Obj)} {σ : L2.St} {H : Hp} {s : Shared} {E : Value → Shared → Prop} {N : Addr} {S : Key → Bool} {m : Nat} {c : Key} {u : Value} {Q : Value → Shared → Prop} (I : Inv X pins σ H s) (hN : H N = some (SetK X.prog X.w N S m)) (room : m + 1 < scanBound)
    (rc : RelV (kV c) u) (h : ∀ s', Inv X pins σ (upd H N (SetK X.prog X.w N (addS S c) (addN S m c))) s' → Q .none s') : wpAny (model X.prog X.w) X.A (call (.builtin "set.add") [.ref N, u]) Q E s :=
  call_set_add (kV_is rc) (key_scan rc) (setK_get I hN) room fun g sb new => by
    have ⟨ob, _, _, _, hob, _⟩ := new
    exact h _ (I.write (e := N) (t' := s.toks + 1) (by rw [hN]; trivial) (.inl rfl) (fun b u hb hu => (sb.2 b hb).trans hu) ⟨ob, hob⟩ (setK_new new))
theorem scK_run {pins : List (Addr × Obj)} {s : Shared} {σ : L2.St} {H : Hp} {Q : VK} {elt tg iter : Expr} {scope : Scope} {own : List (PySem.Str × Nat)} {pos pos' : Pos} {wi : TI} {g : TG} {te : TE} {Qf : Value → Shared → Prop}
    (calm : X.calm = true) (nd : X.N.Nodup) (I : Inv X pins σ H s) (hi : PI X tg iter wi) (blk : BlkOk X.N X.env.scope scope own)
    (pg : ∀ (s : Shared) (H : Hp) (C : Addr) (cl : List (PySem.Str × Addr)) (fp : List Addr), PG (X.blk s H scope (compEnvC scope cl C X.env) fp) tg g)
    (pe : ∀ (s : Shared) (H : Hp) (C : Addr) (cl : List (PySem.Str × Addr)) (fp : List Addr), PE (X.blk s H scope (compEnvC scope cl C X.env) fp) elt te) (fs : ∀ x, foldedSetIterable iter X.env x = pure x)
    (h : tScK X.prog X.w wi g te (own.map (·.2)) σ H Q)
    (fin : ∀ N C s' m H', Inv X pins σ H' s' → Q (.ref N) H' → s'.heap.Ns C m → FpOk X pins H' C → compPost (model X.prog X.w) X.A X.xe none Qf (.ref N) C (.ok .next) s') :
    wpAny (model X.prog X.w) X.A (comprehension (.SetComp elt [⟨tg, iter, [], 0⟩] scope pos) scope X.env pos' (newSet (.type "set")) false (eval iter X.env) none) Qf X.xe s := by
  have free : ∀ y ∈ scope.names, y.2 = .free → ∃ c, X.env.cells.lookup y.1 = some c := fun y hy e =>
    (blk.free y hy e).elim (fun k => I.ok.has _ (.inl k)) fun k => I.ok.has _ (.inr k)
  refine wpAny_comprehension_free (use := none) rfl fs (closure_ok free) blk.kind (fun y hy e => by rw [blk.uniq y hy, e]) ?_
  refine thn (hi.run pins s σ H _ I h) fun xv s1 hx => thn hx fun itv s2 ⟨it, fp, tn, J, H2, e, I2, T, st2, f2, q⟩ => ?_
  subst e
  refine newSet_ok (newEnv_comp ?_)
  generalize hN : s2.heap.objs.size = N
  have freeN : H2 N = none := I2.hok.fresh (Nat.le_of_eq hN)
  obtain ⟨n, Pv, p0, turn⟩ := q N freeN
  have newS : ({ s2 with heap := s2.heap.push { cls := .type "set", dict := none, data := .set #[] 0 (.fresh 0 0 (!X.w.params.followText "set-order")) } } : Shared).heap.SetOf (mixKind X.prog X.w) N (fun _ => false) 0 := by
    subst hN
    exact ⟨_, #[], 0, _, Heap.get?_push_size _ rfl, ⟨rfl, rfl, rfl⟩, rfl, fun e he => (by simp at he), fun c => (by simp), by decide, by rfl, rfl⟩
  generalize hH3 : upd H2 N (SetK X.prog X.w N (fun _ => false) 0) = H3 at p0
  generalize es3 : ({ s2 with heap := s2.heap.push { cls := .type "set", dict := none, data := .set #[] 0 (.fresh 0 0 (!X.w.params.followText "set-order")) } } : Shared) = s3 at newS
  have push : ∀ b o, s2.heap.get? b = some o → s3.heap.get? b = some o := fun b o e => by rw [← es3]; exact Heap.get?_push_of_some _ e
  have I3 : Inv X pins σ H3 s3 := by
    rw [← hH3, ← es3]
    exact I2.laid (t' := s2.toks) (fun b o e => Heap.get?_push_of_some _ e) (Nat.le_of_eq hN) (by have := setK_new (H := upd H2 N (SetK X.prog X.w N (fun _ => false) 0)) newS; rw [← es3] at this; exact this)
  have size3 : s3.heap.objs.size = s2.heap.objs.size + 1 := by rw [← es3]; exact Heap.size_push ..
  have small : ∀ b ∈ fp, b < s2.heap.objs.size := fun b hb => by
    obtain ⟨o, e, _⟩ := T.obj _ _ st2 b hb
    exact Heap.lt_size e
  have f3 : ∀ b ∈ fp, FpOk X pins H3 b ∧ b < s3.heap.objs.size := fun b hb => by
    have lt := small b hb
    refine ⟨⟨?_, (f2 b hb).2⟩, by rw [size3]; exact Nat.lt_succ_of_lt lt⟩
    rw [← hH3, upd_ne (show b ≠ N by rw [← hN]; exact Nat.ne_of_lt lt)]
    exact (f2 b hb).1
  have st3 : tn 0 s3.heap := T.keep _ _ _ st2 fun b _ o e => push b o e
  have I4 := block_start I3 blk nd f3
  have pgX := pg s3 H3 s3.heap.objs.size (cellsFrom (s3.heap.objs.size + 1) scope.names (cloFrom X.env.cells scope.names [])) fp
  have peX := pe s3 H3 s3.heap.objs.size (cellsFrom (s3.heap.objs.size + 1) scope.names (cloFrom X.env.cells scope.names [])) fp
  show codeAny _ _ (.compStart (.SetComp elt [⟨tg, iter, [], 0⟩] scope pos) 0 (.ref it) (.ref N) (compEnvC scope (cellsFrom (s3.heap.objs.size + 1) scope.names (cloFrom X.env.cells scope.names [])) s3.heap.objs.size X.env)) (compPost (model X.prog X.w) X.A X.xe none Qf (.ref N) s3.heap.objs.size) { s3 with heap := pushCells (s3.heap.push { cls := .type "dict", data := .dict #[] }) scope.names }
  have none3 : ∀ b ∈ fp, H3 b = none := fun b hb => (f3 b hb).1.1
  generalize ece : compEnvC scope (cellsFrom (s3.heap.objs.size + 1) scope.names (cloFrom X.env.cells scope.names [])) s3.heap.objs.size X.env = ce at I4 pgX peX ⊢
  have eC : ce.locals = s3.heap.objs.size := by rw [← ece]; rfl
  generalize es4 : ({ s3 with heap := pushCells (s3.heap.push { cls := .type "dict", data := .dict #[] }) scope.names } : Shared) = s4 at I4 ⊢
  have st4 : tn 0 s4.heap := T.keep _ _ _ st3 fun b _ o e => by rw [← es4]; exact pushCells_keeps _ _ _ _ (Heap.get?_push_of_some _ e)
  have fpk : ∀ {σ' : L2.St} {G : Hp} {u : Shared}, Inv (X.blk s3 H3 scope ce fp) [] σ' G u → (∀ b ∈ fp, G b = none) → ∀ b ∈ fp, FpOk (X.blk s3 H3 scope ce fp) [] G b := fun {σ' G u} J' z b hb =>
    ⟨z b hb, (J'.ok.exf b hb).1, J'.ok.exfs b hb, .inl hb, fun x c e => (J'.ok.exf b hb).2 x c e, fun y hy => by have hy : y ∈ ([] : List (Addr × Obj)) ++ [] := hy; simp at hy⟩
  have loop : codeAny (model X.prog X.w) X.A (.compLoop (.SetComp elt [⟨tg, iter, [], 0⟩] scope pos) 0 (.ref it) (.ref N) ce) (compPost (model X.prog X.w) X.A X.xe none Qf (.ref N) s3.heap.objs.size) s4 := by
    refine compLoopS_any (fun left u => ∃ i G, left = n - i ∧ Inv (X.blk s3 H3 scope ce fp) [] (wipe σ (own.map (·.2))) G u ∧ tn i u.heap ∧ (∀ b ∈ fp, G b = none) ∧ Pv i G) ?_ (n - 0) ⟨0, H3, rfl, I4, st4, none3, p0⟩
    rintro left u5 ⟨i, H5, rfl, I5, st5, n5, p5⟩
    rcases turn i H5 p5 with ⟨stop, qq⟩ | ⟨lt, go, step⟩
    · have ends := T.done (X.blk s3 H3 scope ce fp) rfl rfl rfl calm i [] u5 _ H5 (fun _ _ => False) I5 (fpk I5 n5) st5 stop
      refine thnF ends fun r u6 ⟨er, I6⟩ => ?_
      subst er
      have I7 : Inv X pins σ H5 u6 := I3.call' (ch := fp) I6.os I6.base I6.hok I6.bare fun b hb => ⟨(f3 b hb).1.2.2.2.1, (f3 b hb).1.2.1, (f3 b hb).1.2.2.2.2.1, (f3 b hb).1.2.2.2.2.2⟩
      have noC : H5 s3.heap.objs.size = none := by
        rw [← eC]
        exact I6.free
      obtain ⟨m, nsm, _⟩ := I6.loc
      have nsm : u6.heap.Ns s3.heap.objs.size m := by
        rw [← eC]
        exact nsm
      exact fin N s3.heap.objs.size u6 m H5 I7 qq nsm (I3.fpOk (Nat.le_refl _) noC)
    · have item := T.item (X.blk s3 H3 scope ce fp) rfl rfl rfl calm i [] u5 _ H5 (fun _ _ => False) I5 (fpk I5 n5) st5 go
      refine thnF item fun r u6 ⟨v, er, h6⟩ => ?_
      subst er
      refine thnF h6 fun _ u7 ⟨x, H7, I7, r7, y7, st7, n7⟩ => ?_
      have I7p := I7.pinned (fpk I7 n7) (T.obj _ _ st7)
      refine thnF (pgX.run _ u7 _ H7 x v _ I7p r7 (step x H7 y7)) fun _ u8 ⟨σ8, H8, I8, ew, q8⟩ => ?_
      refine thnF ((pts_nil (X := X.blk s3 H3 scope ce fp)).run _ u8 σ8 H8 (fun b G => b = true ∧ te σ8 G _) I8 ⟨rfl, q8⟩) fun b u9 ⟨H9, I9, eb, q9⟩ => ?_
      subst eb
      simp only [if_true]
      refine thnF (peX.run _ u9 σ8 H9 _ I9 q9) fun z u10 ⟨y, H10, I10, r10, c, S, m, ey, hN10, room, p10⟩ => ?_
      subst ey
      refine keyAdd (X := X.blk s3 H3 scope ce fp) I10 hN10 room r10 fun u11 I11 => ?_
      have pinned : ∀ b ∈ fp, ∀ o, u7.heap.get? b = some o → u11.heap.get? b = some o ∧ upd H10 N (SetK X.prog X.w N (addS S c) (addN S m c)) b = none := fun b hb o e =>
        let p := I11.pin (b, o) (List.mem_append_right _ (List.mem_append_right _ (mem_pinsAt hb e)))
        ⟨p.1, p.2.1⟩
      have len : (wipe σ (own.map (·.2))).length = σ8.length := by rw [← ew, wipe_length]
      refine ⟨n - (i + 1), by omega, i + 1, _, rfl, (I11.unpinned (pins := [])).weak len (fun j w e => ?_), T.keep _ _ _ st7 fun b hb o e => (pinned b hb o e).1, fun b hb => ?_, p10⟩
      · rw [← ew] at e
        exact (wipe_some e).1
      · obtain ⟨o, e, _⟩ := T.obj _ _ st7 b hb
        exact (pinned b hb o e).2
  exact codeAny_compStart_set loop (T.self X.A 0 _ _ _ st4 loop)
theorem pe_scK {elt tg iter : Expr} {scope : Scope} {own : List (PySem.Str × Nat)} {pos : Pos} {wi : TI} {g : TG} {te : TE} (calm : X.calm = true) (nd : X.N.Nodup) (hi : PI X tg iter wi) (blk : BlkOk X.N X.env.scope scope own)
    (pg : ∀ (s : Shared) (H : Hp) (C : Addr) (cl : List (PySem.Str × Addr)) (fp : List Addr), PG (X.blk s H scope (compEnvC scope cl C X.env) fp) tg g)
    (pe : ∀ (s : Shared) (H : Hp) (C : Addr) (cl : List (PySem.Str × Addr)) (fp : List Addr), PE (X.blk s H scope (compEnvC scope cl C X.env) fp) elt te) (fs : ∀ x, foldedSetIterable iter X.env x = pure x := by intro _; rfl) :
    PE X (.SetComp elt [⟨tg, iter, [], 0⟩] scope pos) (tScK X.prog X.w wi g te (own.map (·.2))) := by
  refine ⟨fun pins s σ H Q I h => ?_⟩
  rw [eval_SetComp]
  refine scK_run calm nd I hi blk pg pe fs h fun N C s' m H' I' q hn f => ⟨m, hn, fun g sb => ?_⟩
  exact ⟨.ref N, H', I'.turned (t' := s'.toks) (fun b o hb e => (sb.2 b hb).trans e) f.1 f.2.1 f.2.2.2.1 f.2.2.2.2.1 f.2.2.2.2.2, rfl, q⟩
def rLenK (P : Program) (w : World) : List V → Hp → VK → Prop := fun xs H Q => ∃ (a : Addr) (S : Key → Bool) (m : Nat), xs = [V.ref a] ∧ H a = some (SetK P w a S m) ∧ Q (.int m) H
theorem call_lenK : CallR X (.builtin "len") (rLenK X.prog X.w) := by
  intro pins s σ H xs us Q I r h
  obtain ⟨a, S, m, rfl, ha, q⟩ := h
  obtain ⟨u, rfl, rx⟩ := vals1 r
  obtain rfl : u = Value.ref a := rx
  obtain ⟨o, es, ep, t, ho, ex, hd, _, _, few, hf, hn⟩ := setK_get I ha
  have lt : (es.size : Int) < 2 ^ 63 := by
    have e1 : es.size < 4611686018427387904 := Nat.lt_of_lt_of_le few (by decide)
    omega
  exact call_len_set ho ex hd hf lt ⟨.int m, H, I.tok _, ⟨_, by rw [hn]⟩, q⟩
end
end DL
namespace DL
open PySem PySem.Spec PyProof.Rows L2
def dist (l : List Str) : List Str := l.foldl (fun p z => if z ∈ p then p else p ++ [z]) []
theorem dist_snoc (l : List Str) (z : Str) : dist (l ++ [z]) = if z ∈ dist l then dist l else dist l ++ [z] := by
  unfold dist
  rw [List.foldl_append]
  rfl
theorem snoc_ind {C : List Str → Prop} (h0 : C []) (h1 : ∀ l z, C l → C (l ++ [z])) (l : List Str) : C l := by
  rw [← l.reverse_reverse]
  induction l.reverse with
  | nil => exact h0
  | cons z r ih =>
    rw [List.reverse_cons]
    exact h1 _ _ ih
theorem dist_len (l : List Str) : (dist l).length ≤ l.length := by
  refine snoc_ind (C := fun l => (dist l).length ≤ l.length) (Nat.le_refl _) (fun l z ih => ?_) l
  rw [dist_snoc, List.length_append]
  by_cases h : z ∈ dist l
  · rw [if_pos h]; omega
  · rw [if_neg h, List.length_append]; show _ + 1 ≤ _ + 1; omega
theorem dist_nodup (l : List Str) : l.Nodup → dist l = l := by
  refine snoc_ind (C := fun l => l.Nodup → dist l = l) (fun _ => rfl) (fun l z ih h => ?_) l
  rw [List.nodup_append] at h
  rw [dist_snoc, ih h.1, if_neg fun m => h.2.2 z m z (by simp) rfl]
def memS (p : List Str) : Key → Bool
  | .inl _ => false
  | .inr z => decide (z ∈ p)
theorem memS_nil : memS [] = fun _ => false := by
  funext k
  cases k with
  | inl i => rfl
  | inr z => simp [memS]
theorem memS_add (p : List Str) (z : Str) : addS (memS p) (.inr z) = memS (if z ∈ p then p else p ++ [z]) ∧ addN (memS p) p.length (.inr z) = (if z ∈ p then p else p ++ [z]).length := by
  have e : memS p (.inr z) = decide (z ∈ p) := rfl
  constructor
  · funext k
    cases k with
    | inl i =>
      show (false || decide ((Sum.inl i : Key) = .inr z)) = _
      rw [decide_eq_false (fun y => by cases y)]
      rfl
    | inr y =>
      show (decide (y ∈ p) || decide ((Sum.inr y : Key) = .inr z)) = decide (y ∈ _)
      by_cases h : z ∈ p
      · rw [if_pos h]
        by_cases h2 : y = z
        · subst h2; simp [h]
        · have : ¬ ((Sum.inr y : Key) = .inr z) := fun q => h2 (by cases q; rfl)
          rw [decide_eq_false this, Bool.or_false]
      · rw [if_neg h]
        by_cases h2 : y = z
        · subst h2; simp
        · have : ¬ ((Sum.inr y : Key) = .inr z) := fun q => h2 (by cases q; rfl)
          rw [decide_eq_false this, Bool.or_false]
          simp [h2]
  · show (if memS p (.inr z) = true then _ else _) = _
    rw [e]
    by_cases h : z ∈ p
    · rw [decide_eq_true h, if_pos rfl, if_pos h]
    · rw [decide_eq_false h, if_neg (by simp), if_neg h, List.length_append]; rfl
section
variable {χ : Xk} {L : List Addr} {as : List Addr} {ρ : DSt} {O : List D} {k : List Addr → D → List D → Prop} {te : TE} {P : Program} {w : World}
theorem w_lenset {α : Type} {wi : TI} {g : TG} {vs : List Nat} (hg : WG g vs) (h : dI X0 wi L as ρ O fun as1 ds O1 => ∃ (xs : List α) (em : α → D) (f : α → Str), ds = xs.map em ∧ xs.length ≤ 1000 ∧
    (∀ x ∈ xs, dG X0 g (em x) L as1 (wρ ρ vs) O1 fun as2 ρ2 O2 => as2 = as1 ∧ O2 = O1 ∧ dE X0 te L as1 ρ2 O1 fun as4 y O4 => as4 = as1 ∧ O4 = O1 ∧ y = .str (f x)) ∧
    k as1 (.int (dist (xs.map f)).length) O1) : dE χ (tCB (rLenK P w) (tCons (tScK P w wi g te vs) tNil)) L as ρ O k := fun F H σ S x Q q =>
  h F H σ S xp0 _ fun F1 H1 as1 O1 J ds g1 S1 ⟨G, Y, wk, hG, hY⟩ ⟨xs, em, f, eds, few, st, fin⟩ N hN => by
    subst eds
    have hNf := S1.hd.free hN
    have nN : N ∉ as1 := fun m => S1.own.tr m hN
    have keepN : ∀ {Fa Fb : Hp} {Ha Hb : Hp} {u : HO}, Go as1 Fa Ha as1 Fb Hb → Fa N = none → Ha N = some u → Fb N = none ∧ Hb N = some u := fun {Fa Fb Ha Hb u} g f e => by
      refine ⟨?_, g.kp _ _ e nN⟩
      cases z : Fb N with
      | none => rfl
      | some u =>
        rcases g.nw N u z with z | z | z
        · rw [f] at z; cases z
        · rw [e] at z; cases z
        · exact absurd z nN
    let p : Nat → List Str := fun i => dist ((xs.take i).map f)
    refine ⟨xs.length, fun i H' => i ≤ xs.length ∧ ∃ F', Go as1 F1 H1 as1 F' H' ∧ Hd L F' H' ∧ Own F' H' as1 O1 ∧ F' N = none ∧ H' N = some (SetK P w N (memS (p i)) (p i).length), ⟨Nat.zero_le _, F1, ?_, S1.hd.upd hNf, ?_, hNf, ?_⟩, ?_⟩
    · exact ⟨fun _ _ h => h, fun _ _ h => .inl h, fun b o e _ => by rw [upd_ne (ne_of_none e hN)]; exact e, fun b e => by
        by_cases z : b = N
        · subst z; exact hN
        · rw [upd_ne z] at e; exact e, fun _ m => .inl m⟩
    · exact S1.own.keep (fun _ _ h => h) (fun a m => S1.own.free m) fun a m o e => by rw [upd_ne (ne_of_none e hN)]; exact e
    · show upd H1 N (SetK P w N (fun _ => false) 0) N = some (SetK P w N (memS []) 0)
      rw [memS_nil]
      exact upd_same
    rintro i H' ⟨hi, F', g', hd', ow', f', e'⟩
    have hGi := hG F' H' as1 g' hd'
    rcases Nat.lt_or_ge i xs.length with lt | ge
    · refine .inr ⟨lt, wk.1 i H' (by rw [List.length_map]; exact lt) hGi, fun v H2 hy => ?_⟩
      have hy := wk.3 i H' v H2 (by rw [List.length_map]; exact lt) hGi hy
      obtain ⟨F3, d, hdi, g3, hd3, ow3, r3⟩ := hY i as1 H' H2 v F' O1 (by rw [List.length_map]; exact lt) g'.ex hd' ow' hy
      rw [List.getElem?_map, List.getElem?_eq_getElem lt] at hdi
      cases hdi
      obtain ⟨f3, e3⟩ := keepN g3 f' e'
      have S3 : Rep L as1 F3 H2 (L2.wipe σ vs) (wρ ρ vs) O1 := ⟨hd3, ow3, (S1.sl.mono fun a o h => g3.ex _ _ (g'.ex _ _ h)).wipe vs⟩
      refine hg v _ _ _ _ (fun σ2 H3 ew q2 => ⟨ew.trans (wipe_wipe fun _ m => m), q2⟩) (st xs[i] (List.getElem_mem lt) F3 H2 (L2.wipe σ vs) v S3 xp0 r3 _ fun F4 H4 as4 σ4 ρ4 O4 g4 S4 ⟨e1, e2, z4⟩ => ?_)
      subst e1
      subst e2
      obtain ⟨f4, e4⟩ := keepN g4 f3 e3
      refine z4 F4 H4 σ4 S4 xp0 _ fun F5 H5 as5 O5 y dy g5 S5 r5 ⟨e1, e2, ey⟩ => ?_
      subst e1
      subst e2
      subst ey
      obtain ⟨f5, e5⟩ := keepN g5 f4 e4
      cases r5
      have gg := g'.trans (g3.trans (g4.trans g5))
      have len : (p i).length ≤ 1000 := by
        have := dist_len ((xs.take i).map f)
        rw [List.length_map, List.length_take] at this
        show (dist _).length ≤ _
        omega
      have ep : p (i + 1) = if f xs[i] ∈ p i then p i else p i ++ [f xs[i]] := by
        show dist ((xs.take (i + 1)).map f) = _
        rw [List.take_add_one, List.getElem?_eq_getElem lt, List.map_append]
        exact dist_snoc _ _
      obtain ⟨m1, m2⟩ := memS_add (p i) (f xs[i])
      refine ⟨.inr (f xs[i]), memS (p i), (p i).length, rfl, e5, Nat.lt_of_le_of_lt (Nat.succ_le_succ len) (by decide), lt, F5, ?_, S5.hd.upd f5, ?_, f5, ?_⟩
      · refine ⟨gg.ex, gg.nw, fun b o e n => ?_, fun b e => ?_, gg.sub⟩
        · rw [upd_ne (ne_of_none e hN)]
          exact gg.kp b o e n
        · by_cases z : b = N
          · subst z; exact hN
          · rw [upd_ne z] at e; exact gg.th b e
      · exact S5.own.keep (fun _ _ h => h) (fun a m => S5.own.free m) fun a m o e => by
          have : a ≠ N := fun z => nN (by rw [← z]; exact m)
          rw [upd_ne this]; exact e
      · rw [m1, m2, ← ep]
        exact upd_same
    · have : i = xs.length := by omega
      subst this
      have stop := wk.2 H' (by exact hGi)
      rw [List.length_map] at stop
      refine .inl ⟨stop, N, _, _, rfl, e', ?_⟩
      have en : p xs.length = dist (xs.map f) := by show dist ((xs.take xs.length).map f) = _; rw [List.take_length]
      rw [en]
      exact q F' H' as1 O1 _ _ (g1.trans g') ⟨hd', ow', S1.sl.mono g'.ex⟩ (.int _) fin
end
end DL
namespace DL
open PySem PySem.Spec PyProof.Rows L2
def rLtD (K : PySem.W.Frag) : R2 := fun x y H Q => ∃ d e, Dp K H x d ∧ Dp K H y e ∧ PySem.W.alike d e = true ∧ d ≠ .none ∧ min d.depth e.depth ≤ 64 ∧ Q (.bl (PySem.W.dataLt d e)) H
theorem op_ltD {X : Cx} (hu : X.A.units + 64 < cLine) : OpR X (compareOp .Lt) (rLtD X.K) := by
  intro pins s σ H x y v u Q I rx ry h
  obtain ⟨d, e, hd, he, al, nn, dep, q⟩ := h
  obtain ⟨as, r1⟩ := Dp.reads I d x v hd rx
  obtain ⟨bs, r2⟩ := Dp.reads I e y u he ry
  exact PySem.W.rcLt_alike d e X.A s v u as bs r1 r2 al nn (by omega) X.prog X.w _ _ ⟨.bl _, H, I, rfl, q⟩
open PySem.W in
theorem ints_alike : ∀ ns ms : List Int, alikeAll (ns.map PyData.int) (ms.map PyData.int) = true
  | [], l => by cases l <;> rfl
  | _ :: _, [] => rfl
  | n :: ns, m :: ms => by
    show (alike (.int n) (.int m) && alikeAll (ns.map PyData.int) (ms.map PyData.int)) = true
    rw [ints_alike ns ms]
    rfl
open PySem.W in
theorem ints_lt : ∀ ns ms : List Int, PyProof.Rows.lexLt itemOrd (keyToksAll (ns.map PyData.int)) (keyToksAll (ms.map PyData.int)) = HT.lexLt ns ms
  | [], [] => by rfl
  | [], m :: ms => by
    rw [List.map_cons, toks_all_cons]
    rfl
  | n :: ns, [] => by
    rw [List.map_cons, toks_all_cons]
    rfl
  | n :: ns, m :: ms => by
    rw [List.map_cons, List.map_cons, HT.lexLt_cons]
    by_cases h : n = m
    · rw [if_pos h, dataLt_all_yes rfl (by subst h; exact beq_self_eq_true n), ints_lt ns ms]
    · rw [if_neg h, dataLt_all_no rfl (by show (n == m) = false; rw [beq_eq_false_iff_ne]; exact h), dataLt_int]
theorem ints_dp {K : PySem.W.Frag} {H : Hp} : ∀ ns : List Int, DpAll K H (ns.map V.int) (ns.map PyData.int)
  | [] => .nil
  | n :: r => .cons (.int n) (ints_dp r)
theorem ints_depth : ∀ ns : List Int, PyData.depthAll (ns.map PyData.int) = 0
  | [] => rfl
  | n :: r => by
    show max 0 (PyData.depthAll (r.map PyData.int)) = 0
    rw [ints_depth r]
    rfl
open PySem.W in
theorem pair_lt (n m : Int) (ns ms : List Int) : dataLt (.tuple [.int n, .list (ns.map PyData.int)]) (.tuple [.int m, .list (ms.map PyData.int)]) = if n = m then HT.lexLt ns ms else decide (n < m) := by
  rw [dataLt_tuple]
  by_cases h : n = m
  · rw [if_pos h, dataLt_all_yes rfl (by subst h; exact beq_self_eq_true n)]
    have al : alike (.list (ns.map PyData.int)) (.list (ms.map PyData.int)) = true := ints_alike ns ms
    by_cases e : PyData.eqv (.list (ns.map PyData.int)) (.list (ms.map PyData.int)) = true
    · rw [dataLt_all_yes al e]
      have h1 := (toks_eqv _ _ al).1 e
      have h2 := ints_lt ns ms
      rw [← dataLt_list] at h2
      unfold dataLt at h2
      rw [h1] at h2
      rw [← h2]
      generalize keyToks (.list (ms.map PyData.int)) = q
      show false = _
      induction q with
      | nil => rfl
      | cons x q ih => exact ih.trans (lex_self (O := itemOrd) x q q).symm
    · have e : PyData.eqv (.list (ns.map PyData.int)) (.list (ms.map PyData.int)) = false := by simpa using e
      rw [dataLt_all_no al e, dataLt_list, ints_lt]
  · rw [if_neg h, dataLt_all_no rfl (by show (n == m) = false; rw [beq_eq_false_iff_ne]; exact h), dataLt_int]
section
variable {L : List Addr} {as : List Addr} {O : List D} {k : List Addr → D → List D → Prop} {KK : PySem.W.Frag}
theorem rv_ltP {n m : Int} {ns ms : List Int} (z : k as (.bl (if n = m then HT.lexLt ns ms else decide (n < m))) O) : rv (rLtD KK) L as O (.tup [.int n, .lst (ns.map D.int)]) (.tup [.int m, .lst (ms.map D.int)]) k := fun F H x y hd ow r1 r2 Q q => by
  have dp : ∀ {v : V} {i : Int} {l : List Int}, R F v (.tup [.int i, .lst (l.map D.int)]) → Dp KK H v (.tuple [.int i, .list (l.map PyData.int)]) := fun {v i l} r => by
    cases r with
    | tup e r =>
      cases r with
      | cons q1 q2 =>
        cases q2 with
        | cons q3 q4 =>
          cases q4
          cases q1
          cases q3 with
          | lst e2 r2 =>
            rw [r2.ints] at e2
            exact .tup (hd.tq e) (.cons (.int i) (.cons (.lst (SqL.of (hd.lst e2)) (ints_dp l)) .nil))
  refine ⟨_, _, dp r1, dp r2, ?_, (fun e => by cases e), ?_, ?_⟩
  · show (true && (PySem.W.alikeAll (ns.map PyData.int) (ms.map PyData.int) && true)) = true
    rw [ints_alike]
    rfl
  · show min (max 0 (max (PyData.depthAll (ns.map PyData.int) + 1) 0) + 1) _ ≤ 64
    rw [ints_depth]
    exact Nat.le_trans (Nat.min_le_left _ _) (by decide)
  · rw [pair_lt]
    exact q F H as O _ _ (.refl ..) hd ow (.bl _) z
end
end DL
namespace DL
open PySem PySem.Spec PyProof.Rows L2
section
variable {χ : Xk} {L : List Addr} {ρ : DSt}
theorem frzAll {as0 : List Addr} {O0 : List D} {H : Hp} {σ : L2.St} : ∀ {ps : List Addr} {cs : List D} {F : Hp}, ps.length = cs.length → as0.length = O0.length → Rep L (as0 ++ ps) F H σ ρ (O0 ++ cs) →
    ∃ F', Rep L as0 F' H σ ρ O0 ∧ Go (as0 ++ ps) F H as0 F' H ∧ ∀ (i : Nat) (p : Addr) (c : D), ps[i]? = some p → cs[i]? = some c → R F' (.ref p) c
  | [], [], F, _, _, S => ⟨F, by simpa using S, by simpa using Go.refl as0 F H, fun i p c h => by simp at h⟩
  | [], _ :: _, _, l, _, _ => by cases l
  | _ :: _, [], _, l, _, _ => by cases l
  | p :: ps, c :: cs, F, l, l0, S => by
    have ha : (as0 ++ p :: ps)[as0.length]? = some p := by simp
    have hc : (O0 ++ c :: cs)[as0.length]? = some c := by rw [l0]; simp
    obtain ⟨hf, o, ho, cn⟩ := S.own.at_ _ _ _ ha hc
    have S1 := S.frz ha hc hf ho cn
    have g1 : Go (as0 ++ p :: ps) F H ((as0 ++ p :: ps).eraseIdx as0.length) (upd F p o) H := go_frz hf ha
    have ea : (as0 ++ p :: ps).eraseIdx as0.length = as0 ++ ps := by
      rw [List.eraseIdx_append_of_length_le (Nat.le_refl _)]
      simp
    have eo : (O0 ++ c :: cs).eraseIdx as0.length = O0 ++ cs := by
      rw [l0, List.eraseIdx_append_of_length_le (Nat.le_refl _)]
      simp
    rw [ea, eo] at S1
    rw [ea] at g1
    obtain ⟨F', S2, g2, all⟩ := frzAll (by simpa using l) l0 S1
    refine ⟨F', S2, g1.trans g2, fun i q d h1 h2 => ?_⟩
    cases i with
    | zero =>
      simp at h1 h2
      subst h1
      subst h2
      exact (R.of upd_same (cn.mono (ex_lay hf))).mono g2.ex
    | succ i => exact all i q d (by simpa using h1) (by simpa using h2)
def zipD (ks : List Key) (ds : List D) : List (Key × D) := List.zipWith (fun k d => (k, d)) ks ds
theorem Rk.redo {F : Hp} : ∀ {ks : List Key} {ps : List Addr} {cs : List D} {kvs : List (Key × V)}, ps.length = cs.length → (∀ (i : Nat) (p : Addr) (c : D), ps[i]? = some p → cs[i]? = some c → R F (.ref p) c) → Rk F kvs (zipD ks (ps.map D.adr)) → Rk F kvs (zipD ks cs)
  | [], _, _, _, _, _, r => by
    cases r
    exact .nil
  | _ :: _, [], [], _, _, _, r => by
    cases r
    exact .nil
  | _ :: _, [], _ :: _, _, l, _, _ => by cases l
  | _ :: _, _ :: _, [], _, l, _, _ => by cases l
  | k :: ks, p :: ps, c :: cs, kvs, l, h, r => by
    cases r with
    | cons r1 r2 =>
      cases r1
      exact .cons (h 0 p c rfl rfl) (Rk.redo (by simpa using l) (fun i q d h1 h2 => h (i + 1) q d (by simpa using h1) (by simpa using h2)) r2)
theorem s_frzDict {K : Kt} {ts : TS} {as0 ps : List Addr} {O0 cs : List D} {ks : List Key} (j : Nat) (l : ps.length = cs.length) (l0 : as0.length = O0.length) (hj : O0[j]? = some (.dk (zipD ks (ps.map D.adr))))
    (h : dS χ ts L as0 ρ (O0.set j (.dk (zipD ks cs))) K) : dS χ ts L (as0 ++ ps) ρ (O0 ++ cs) K := fun F H σ S x Z z => by
  obtain ⟨F', S', g, all⟩ := frzAll l l0 S
  have own2 : Own F' H as0 (O0.set j (.dk (zipD ks cs))) := by
    refine ⟨S'.own.nd, by rw [List.length_set]; exact S'.own.len, fun i b d' e1 e2 => ?_⟩
    by_cases q : j = i
    · subst q
      rw [List.getElem?_set_self (List.getElem?_eq_some_iff.mp hj).1] at e2
      cases e2
      obtain ⟨f1, o1, f2, f3⟩ := S'.own.at_ j b _ e1 hj
      cases f3 with
      | dk rk => exact ⟨f1, _, f2, .dk (rk.redo l all)⟩
    · rw [List.getElem?_set_ne q] at e2
      exact S'.own.at_ i b d' e1 e2
  exact h F' H σ ⟨S'.hd, own2, S'.sl⟩ (x.go g) Z (z.go g)
end
end DL
namespace DL
open PySem PySem.Spec PyProof.Rows L2
end DL
namespace PyProof.Rows
open PySem PySem.Spec PySem.Builtin
end PyProof.Rows
namespace DL
open PySem PySem.Spec PyProof.Rows L2
end DL
namespace DL
open PySem PySem.Spec PyProof.Rows L2
section
variable {χ : Xk} {L : List Addr} {as : List Addr} {ρ : DSt} {O : List D} {k : List Addr → D → List D → Prop} {ta te : TE} {t : TA} {d d1 d2 : D} {KK : PySem.W.Frag}
theorem rv_catA {ds es : List D} (hl : ds.length + es.length ≤ 100000) (z : k as (.tup (ds ++ es)) O) : rv (rCatA KK) L as O (.tup ds) (.tup es) k := fun F H x y hd ow r1 r2 Q q => by
  have r10 := r1
  have r20 := r2
  cases r1 with
  | tup e1 q1 =>
    cases r2 with
    | tup e2 q2 =>
      refine ⟨_, _, _, _, rfl, rfl, hd.tq e1, hd.tq e2, by rw [q1.length, q2.length]; exact small hl, fun h => ?_, fun _ h => ?_, fun _ _ => new_tup hd ow (q2.append q1) z q⟩
      · subst h
        cases q1
        exact q F H as O _ _ (.refl ..) hd ow r20 z
      · subst h
        cases q2
        rw [List.append_nil] at z
        exact q F H as O _ _ (.refl ..) hd ow r10 z
theorem cut_to {ds : List D} {i : Nat} (h : i ≤ ds.length) : cutD ds none (some (i : Nat)) = ds.take i := by
  unfold cutD
  rw [HT.sIx_nat, HT.sIx_none, Nat.min_eq_left h, List.drop_zero, Nat.sub_zero]
theorem cut_from {ds : List D} {i : Nat} : cutD ds (some (i : Nat)) none = ds.drop i := by
  unfold cutD
  rw [HT.sIx_nat, HT.sIx_none]
  by_cases h : i ≤ ds.length
  · rw [Nat.min_eq_left h, List.take_of_length_le (by rw [List.length_drop]; omega)]
  · rw [Nat.min_eq_right (by omega), List.drop_length, List.drop_of_length_le (by omega)]
    simp
theorem rc_dict {kds : List (Key × D)} (h : dkOf as O d kds) (z : ∀ p, k (as ++ [p]) (.adr p) (O ++ [.dk kds])) : rc (fun xs H Q => ∃ (a : Addr) (kvs : List (Key × V)), xs = [.ref a] ∧ Rd H a (.dK kvs) ∧ ∀ p, H p = none → Q (.ref p) (upd H p (.dK kvs))) L as O [d] k := fun F H xs hd ow r Q q => by
  cases r with
  | cons r1 r2 =>
    cases r2
    obtain ⟨a, kvs, rfl, e, rk⟩ := dk_at hd ow r1 h
    exact ⟨a, kvs, rfl, e, fun p hp => q F _ _ _ _ _ (go_new hp) (hd.upd (hd.free hp)) (ow.snoc (hd.free hp) hp (.dk rk)) (.adr p) (z p)⟩
end
end DL
namespace DL
open PySem PySem.Spec PyProof.Rows L2 Builtin Builtin.Str Builtin.Int Builtin.Float
theorem core_len (b : Nat) : ∀ (f n : Nat) (acc : List Char), (Nat.toDigitsCore b f n acc).length ≤ f + acc.length
  | 0, _, acc => by
    show acc.length ≤ 0 + acc.length
    omega
  | f + 1, n, acc => by
    unfold Nat.toDigitsCore
    show (if n / b = 0 then (n % b).digitChar :: acc else b.toDigitsCore f (n / b) ((n % b).digitChar :: acc)).length ≤ _
    split
    · simp
      omega
    · have := core_len b f (n / b) ((n % b).digitChar :: acc)
      simp at this
      omega
end DL
namespace PySem
open Sem (wp)
open AutoSeq1 (wpAny_loadPart')
theorem meets_enumerate_newT (l : Addr) (items : Array Value) (n : Nat) (dct : Option Addr) (sl : Array (Option Value)) :
    Meets (Builtin.«enumerate.__new__» ⟨[.type "enumerate", .ref l], []⟩) (fun _ R s => s.heap.get? l = some { cls := .type "tuple", dict := dct, data := .seq items n, slots := sl } ∧
      R (.ok (.ret (.ref (s.heap.push { cls := .type "tuple_iterator", data := .fields #[.ref l, .int 0 0] }).objs.size)))
        { s with heap := (s.heap.push { cls := .type "tuple_iterator", data := .fields #[.ref l, .int 0 0] }).push { cls := .type "enumerate", data := .fields #[.none, .bool false, .ref s.heap.objs.size, rawInt 0, .none, .none] } }) :=
  .of_wp fun prog w A R s h => by
    obtain ⟨hp, g, d, tk, os⟩ := s; obtain ⟨hl, h⟩ := h
    have hsub := sub_enumerate
    have hL : Heap.IsTuple (Shared.heap ⟨hp, g, d, tk, os⟩) l items := ⟨_, hl, rfl, n, rfl⟩
    wp_walk using wpAny_loadPart' hl
    refine wpAny_stack_any fun st => wpAny_pure ?_
    split
    · rename_i c _ _ _ _ _
      cases (c == Value.type "enumerate")
      · wp_walk using wpAny_loadPart' hl, wpAny_pyIter_tuple hL
        exact ⟨_, rfl, h⟩
      · wp_walk using wpAny_loadPart' hl, wpAny_pyIter_tuple hL
        exact ⟨_, rfl, h⟩
    · wp_walk using wpAny_loadPart' hl, wpAny_pyIter_tuple hL
      exact ⟨_, rfl, h⟩
section
variable {prog : Program} {w : World} {A : Around} {E : Value → Shared → Prop} {s : Shared}
theorem call_enumerate_tuple {l : Addr} {items : Array Value} {Q : Value → Shared → Prop} (hL : s.heap.IsTuple l items)
    (h : ∀ h', IsEnum h' (s.heap.objs.size + 1) s.heap.objs.size 0 .none → h'.IsTupleIter s.heap.objs.size l 0 → h'.objs.size = s.heap.objs.size + 2 →
      (∀ b o, s.heap.get? b = some o → h'.get? b = some o) → Q (.ref (s.heap.objs.size + 1)) { s with heap := h' }) :
    wpAny (model prog w) A (call (.type "enumerate") [.ref l]) Q E s := by
  obtain ⟨⟨c, dct, dt, sl⟩, hl, hc, n, hd⟩ := hL
  replace hc : c = .type "tuple" := hc
  replace hd : dt = .seq items n := hd
  subst hc hd
  refine callType_new F.called_enumerate (by decide) (F.typeCall_enumerate_1 _) (F.newCall_enumerate_1 _) (fun obj => F.args_object_init_2 obj _) F.entry_enumerate_new
    (meets_enumerate_newT l items n dct sl) ⟨hl, ?_⟩
  have hz : (s.heap.push { cls := .type "tuple_iterator", data := .fields #[.ref l, .int 0 0] }).objs.size = s.heap.objs.size + 1 := Heap.size_push ..
  show _ ∧ _
  rw [hz]
  have he : IsEnum ((s.heap.push { cls := .type "tuple_iterator", data := .fields #[.ref l, .int 0 0] }).push
      { cls := .type "enumerate", data := .fields #[.none, .bool false, .ref s.heap.objs.size, rawInt 0, .none, .none] }) (s.heap.objs.size + 1) s.heap.objs.size 0 .none := by
    have := Heap.get?_push_size (s.heap.push { cls := .type "tuple_iterator", data := .fields #[.ref l, .int 0 0] })
      (o := { cls := .type "enumerate", data := .fields #[.none, .bool false, .ref s.heap.objs.size, rawInt 0, .none, .none] }) rfl
    rw [hz] at this; exact this
  refine ⟨⟨_, he, rfl⟩, h _ he ⟨_, Heap.get?_push_of_some _ (Heap.get?_push_size _ rfl), rfl, rfl⟩ (by rw [Heap.size_push, hz]) fun b o x => Heap.get?_push_of_some _ (Heap.get?_push_of_some _ x)⟩
end
end PySem
namespace DL
open PySem PySem.Spec PyProof.Rows L2
def IteT (K : PySem.W.Frag) (a : Addr) : It :=
  ⟨fun i H => ∃ (xs : List V) (x : V), SqT K H a xs ∧ xs[i]? = some x, fun i H v H' => ∃ T x, v = .ref T ∧ H T = none ∧ H' = upd H T (.tup [.int (i : Nat), x]) ∧ ∀ xs, SqT K H a xs → xs[i]? = some x, fun i H => ∃ xs : List V, SqT K H a xs ∧ xs.length ≤ i⟩
theorem isT_of {h : Heap} {a : Addr} {its : Array Value} (p : IsTup h a its) : h.IsTuple a its := by
  obtain ⟨o, e, c, n, d⟩ := p
  exact ⟨o, e, c, n, d⟩
theorem turn_enumT {P : Program} {w : World} {K : PySem.W.Frag} {elts : List Expr} {kk : Nat} {tpos : Pos} (a e it : Addr) :
    Turn P w K (.Tuple elts kk tpos) (IteT K a) [e, it] e (fun i h => (∃ old, IsEnum h e it ((i : Nat) : Int) old) ∧ h.IsTupleIter it a i ∧ e ≠ it) where
  mem := by simp
  obj := fun i h st b hb => by
    obtain ⟨⟨old, he⟩, ⟨o, ho, hc, hd⟩, _⟩ := st
    have e' : b = e ∨ b = it := by simpa using hb
    rcases e' with z | z
    · rw [z]; exact ⟨_, he, fun v q => nomatch q⟩
    · rw [z]; exact ⟨o, ho, fun v q => by rw [hd] at q; cases q⟩
  keep := fun i h h' st k => let ⟨⟨old, he⟩, hi, hne⟩ := st; ⟨⟨old, k e (by simp) _ he⟩, hi.at fun o q => k it (by simp) o q, hne⟩
  item := by
    intro X hP hw hK hc i pins s σ H E I hf st hg
    subst hP hw hK
    obtain ⟨⟨old, he⟩, hit, hne⟩ := st
    obtain ⟨xs, x, hq, hx⟩ := hg
    obtain ⟨its, rv, p, hz⟩ := I.tuple hq
    have p' := isT_of p
    obtain ⟨u, hu, ru⟩ := rv.get hx
    have hel : e < s.heap.objs.size := Heap.lt_size he
    have hil : it < s.heap.objs.size := by obtain ⟨_, q, _⟩ := hit; exact Heap.lt_size q
    have hai : a ≠ it := fun z => by
      subst z
      obtain ⟨o1, q1, c1, _⟩ := p'
      obtain ⟨o2, q2, c2, _⟩ := hit
      rw [q1] at q2; cases q2
      rw [c1] at c2
      exact absurd (Value.type.inj c2) (by decide)
    have hae : e ≠ a := fun z => by
      subst z
      obtain ⟨o1, q1, c1, _⟩ := p'
      have q2 := he
      unfold IsEnum at q2
      rw [q1] at q2
      cases q2
      exact absurd (Value.type.inj c1) (by decide)
    have hi : i < its.toArray.size := by
      have := (List.getElem?_eq_some_iff.mp hu).1
      simpa using this
    refine wpAny_pyNext_enum_itemD (Draws.tuple (prog := X.prog) (w := X.w) (A := X.A.in1) (show X.A.in1.handled = none from I.ok.hd hc) it a hai its.toArray) he ⟨hit, p'⟩ hi hne (by simp; exact ⟨hne, hae⟩) fun x' h' tk hpx ho hit' hT hsz hk => ?_
    have ex : x' = u := by
      have h1 : its.toArray[i]? = some x' := hpx
      have h2 : its.toArray[i]? = some u := by simpa using hu
      rw [h2] at h1
      exact (Option.some.inj h1).symm
    subst ex
    refine ⟨_, rfl, wpAny_letOwnedTupleGo_enum (s := { s with heap := h', toks := tk + 1 }) ho fun h'' he' sb => ?_⟩
    have hT2 : h''.get? s.heap.objs.size = some { cls := .type "tuple", data := .seq #[.int i tk, x'] } := (sb.2 _ (Nat.ne_of_gt hel)).trans hT
    have new : ObjOk X.prog X.w (upd H s.heap.objs.size (.tup [.int (i : Nat), x])) h'' s.heap.objs.size (.tup [.int (i : Nat), x]) :=
      ⟨by show 2 ≤ sizeLine; decide, [.int i tk, x'], .cons ⟨_, rfl⟩ (.cons ru .nil), ⟨_, hT2, rfl, _, rfl⟩⟩
    have I1 : Inv X pins σ (upd H s.heap.objs.size (.tup [.int (i : Nat), x])) { s with heap := h'', toks := tk + 1 } :=
      I.turnedNew (ch := [e, it]) (fun b ob hb q => (sb.2 b (fun z => hb (by simp [z]))).trans (hk b ob (fun z => hb (by simp [z])) (fun z => hb (by simp [z])) q)) hf (Nat.le_refl _) new
    refine ⟨.ref s.heap.objs.size, _, I1, rfl, ⟨_, x, rfl, I.hok.fresh (Nat.le_refl _), rfl, fun ys hy => by rw [I.tuple_inj hy hq]; exact hx⟩, ⟨⟨x', ?_⟩, hit'.1.at fun o q => (sb.2 it (Ne.symm hne)).trans q, hne⟩, fun b hb => ?_⟩
    · have e1 : ((i + 1 : Nat) : Int) = (i : Int) + 1 := by omega
      rw [e1]; exact he'
    · have hb' : b < s.heap.objs.size := by
        have e' : b = e ∨ b = it := by simpa using hb
        rcases e' with z | z
        · rw [z]; exact hel
        · rw [z]; exact hil
      rw [upd_ne (Nat.ne_of_lt hb')]
      exact (hf b hb).1
  done := by
    intro X hP hw hK hc i pins s σ H E I hf st hg
    subst hP hw hK
    obtain ⟨⟨old, he⟩, hit, hne⟩ := st
    obtain ⟨xs, hq, hx⟩ := hg
    obtain ⟨its, rv, p, hz⟩ := I.tuple hq
    have p' := isT_of p
    obtain ⟨f0, f1, f2, f3, f4, f5⟩ := hf it (by simp)
    have hl := rv.length
    have hT : s.TypeIs (.ref e) "enumerate" := ⟨_, he, rfl⟩
    unfold pyNext
    refine wpAny_bind (wpAny_attempt (wpAny_callSpecial?_slot (name := Str.ofString "__next__") hT F.slot_enumerate_next
      (wpAny_call_entry F.slot_enumerate_next hT F.entry_enumerate_next ?_ (F.args_enumerate_next_1 _))))
    show wpAny _ _ (field (.ref e) 2 >>= _) _ _ _
    refine wpAny_bind (wpAny_field he rfl (x := .ref it) rfl ?_)
    refine wpAny_bind (wpAny_nextOf_tuple_end (I.ok.hd hc) hit p' (by simp; omega) fun h' x he' hx' => ?_)
    obtain ⟨o, ho, hc⟩ := hx'
    refine wpAny_bind (wpAny_isInstance (T := "StopIteration") (b := true) ⟨o, ho, hc⟩ isSubtype_stop ?_)
    exact wpAny_pure ⟨rfl, I.turned (t' := s.toks) (fun b o hb q => he' b o hb q) f0 f1 f3 f4 f5⟩
  self := fun A i s Q E st h => let ⟨⟨_, he⟩, _⟩ := st; wpAny_pyIter_enum he h
def iEnumT (K : PySem.W.Frag) (ta : TA) : TI := fun σ H R => ta σ H fun vs H1 => ∃ a xs, vs = [.ref a] ∧ SqT K H1 a xs ∧ R (IteT K a) H1
theorem pi_enumT {X : Cx} {e : Expr} {ta : TA} {p pos tpos : Pos} {elts : List Expr} {kk : Nat} (hg : Gl X "enumerate") (hm : X.mg "enumerate" = none) (ha : PA X [e] ta) (hs : starEach [e] X.env = [(false, eval e X.env)] := by rfl) :
    PI X (.Tuple elts kk tpos) (.Call (.Name "enumerate" p) [e] [] pos) (iEnumT X.K ta) := by
  refine ⟨fun pins s σ H R I h => ?_⟩
  refine Call_ (ld_blt I hg hm boot_enumerate (PyProof.Rows.callWith_type1 (thn (ha.run pos pins s σ H _ I h) fun us s1 ⟨vs, H1, I1, r1, q1⟩ => ?_) hs rfl))
  obtain ⟨a, xs, ex, hq, q⟩ := q1
  subst ex
  cases r1 with
  | cons r rr =>
    cases rr
    cases r
    obtain ⟨its, rv, p', hz⟩ := I1.tuple hq
    refine call_enumerate_tuple (isT_of p') fun h' he hit hsz hk => wpAny_pyIter_enum he ?_
    have I2 : Inv X pins σ H1 { s1 with heap := h' } := I1.kept (t' := s1.toks) hk
    refine ⟨s1.heap.objs.size + 1, [s1.heap.objs.size + 1, s1.heap.objs.size], _, _, H1, rfl, I2, turn_enumT a (s1.heap.objs.size + 1) s1.heap.objs.size, ⟨⟨.none, he⟩, hit, Nat.succ_ne_self _⟩, fun b hb => ?_, q⟩
    have e' : b = s1.heap.objs.size + 1 ∨ b = s1.heap.objs.size := by simpa using hb
    have hle : s1.heap.objs.size ≤ b := by
      rcases e' with z | z
      · rw [z]; exact Nat.le_add_right _ _
      · rw [z]; exact Nat.le_refl _
    exact I1.fpOk hle (I1.hok.fresh hle)
theorem walk_enumT {K : PySem.W.Frag} {a : Addr} {xs : List V} : Walk (IteT K a) xs.length (fun H => SqT K H a xs) (YPair (fun i => some (.int (i : Nat))) (fun i => xs[i]?)) := by
  refine ⟨fun i _ hi q => ⟨xs, xs[i], q, by simp [hi]⟩, fun _ q => ⟨xs, q, Nat.le_refl _⟩, fun i H v H' _ q y => ?_⟩
  obtain ⟨T, x, h1, h2, h3, h4⟩ := y
  exact ⟨T, .int (i : Nat), x, h1, h2, h3, rfl, h4 xs q⟩
theorem i_enumT {KK : PySem.W.Frag} {χ : Xk} {L as : List Addr} {ρ : DSt} {O : List D} {kI : List Addr → List D → List D → Prop} {ta : TA} (h : dA χ ta L as ρ O fun as ds O => ∃ es, ds = [.tup es] ∧ kI as (enumD es) O) : dI χ (iEnumT KK ta) L as ρ O kI := fun F H σ S x Q q =>
  h F H σ S x _ fun F1 H1 as1 O1 vs ds g1 S1 r1 z1 => by
    obtain ⟨es, rfl, z⟩ := z1
    cases r1 with
    | cons r1 r2 =>
      cases r2
      cases r1 with
      | @tup a xs _ e r =>
        refine ⟨a, xs, rfl, S1.hd.tq e, q F1 H1 as1 O1 _ _ g1 S1 ⟨_, _, by rw [enum_len, ← r.length]; exact walk_enumT, fun F2 H2 _ gg hd => hd.tq (e.mono gg.ex), fun i as H H' x F2 O hi ee hd ow y => ?_⟩ z⟩
        obtain ⟨T, x1, x2, rfl, hT, rfl, f1, f2⟩ := y
        cases f1
        obtain ⟨d, e2, rd⟩ := r.get' f2
        obtain ⟨F3, g3, h3, o3, r3⟩ := lay_pair hd ow hT (.int (i : Nat)) (rd.mono ee)
        refine ⟨F3, _, ?_, g3, h3, o3, r3⟩
        unfold enumD
        rw [List.getElem?_map, List.getElem?_zipIdx, e2]
        simp
end DL
namespace DL
open PySem PySem.Spec PyProof.Rows L2
mutual
def pdOf : D → PyData
  | .non => .none
  | .bl b => .bool b
  | .int i => .int i
  | .str x => .str x
  | .tup ds => .tuple (pdAll ds)
  | .lst ds => .list (pdAll ds)
  | _ => .dict []
def pdAll : List D → List PyData
  | [] => []
  | d :: r => pdOf d :: pdAll r
end
mutual
theorem dp_of {L : List Addr} {K : PySem.W.Frag} {F H : Hp} (hd : Hd L F H) : ∀ {v : V} {d : D}, R F v d → (pdOf d).canLay0 = true → Dp K H v (pdOf d)
  | _, _, .non, _ => by rw [pdOf]; exact .non
  | _, _, .bl b, _ => by rw [pdOf]; exact .bl b
  | _, _, .int i, _ => by rw [pdOf]; exact .int i
  | _, _, .str x, _ => by rw [pdOf]; exact .str x
  | _, _, .tup e r, h => by
    rw [pdOf] at h ⊢
    exact .tup (hd.tq e) (dps_of hd r h)
  | _, _, .lst e r, h => by
    rw [pdOf] at h ⊢
    exact .lst (SqL.of (hd.lst e)) (dps_of hd r h)
  | _, _, .adr _, h => by simp only [pdOf] at h; exact absurd h (by show ¬ (false = true); decide)
  | _, _, .dk _ _, h => by simp only [pdOf] at h; exact absurd h (by show ¬ (false = true); decide)
  | _, _, .ins _ _, h => by simp only [pdOf] at h; exact absurd h (by show ¬ (false = true); decide)
  | _, _, .ldk _ _, h => by simp only [pdOf] at h; exact absurd h (by show ¬ (false = true); decide)
  | _, _, .zst _ _, h => by simp only [pdOf] at h; exact absurd h (by show ¬ (false = true); decide)
  | _, _, .zkl _ _, h => by simp only [pdOf] at h; exact absurd h (by show ¬ (false = true); decide)
  | _, _, .zkt _ _, h => by simp only [pdOf] at h; exact absurd h (by show ¬ (false = true); decide)
  | _, _, .exc _ _, h => by simp only [pdOf] at h; exact absurd h (by show ¬ (false = true); decide)
  | _, _, .fz _ _, h => by simp only [pdOf] at h; exact absurd h (by show ¬ (false = true); decide)
  | _, _, .ftp _ _ _ _, h => by simp only [pdOf] at h; exact absurd h (by show ¬ (false = true); decide)
theorem dps_of {L : List Addr} {K : PySem.W.Frag} {F H : Hp} (hd : Hd L F H) : ∀ {vs : List V} {ds : List D}, Rs F vs ds → PyData.canLayAll0 (pdAll ds) = true → DpAll K H vs (pdAll ds)
  | _, _, .nil, _ => by rw [pdAll]; exact .nil
  | _, _, .cons r t, h => by
    rw [pdAll] at h ⊢
    obtain ⟨h1, h2⟩ := Bool.and_eq_true_iff.mp h
    exact .cons (dp_of hd r h1) (dps_of hd t h2)
end
def rdD (as : List Addr) (O : List D) (d c : D) : Prop := d = c ∨ ∃ (j : Nat) (a : Addr) (ds : List D), d = .adr a ∧ as[j]? = some a ∧ O[j]? = some c ∧ c = .lst ds
section
variable {L : List Addr} {as : List Addr} {O : List D} {k : List Addr → D → List D → Prop} {d1 d2 c1 c2 : D} {KK : PySem.W.Frag}
theorem rd_k {d : D} : rdD as O d d := .inl rfl
theorem dp_rd {F H : Hp} {v : V} {d c : D} (hd : Hd L F H) (ow : Own F H as O) (r : R F v d) (h : rdD as O d c) (s : (pdOf c).canLay0 = true) : Dp KK H v (pdOf c) := by
  rcases h with rfl | ⟨j, a, ds, rfl, h1, h2, rfl⟩
  · exact dp_of hd r s
  · cases r
    obtain ⟨xs, e, r⟩ := ow.lst h1 h2
    rw [pdOf] at s ⊢
    exact .lst (SqL.of e) (dps_of hd r s)
theorem rv_neP (h1 : rdD as O d1 c1) (h2 : rdD as O d2 c2) (s1 : SeqAt.shaped (pdOf c1) = true) (s2 : SeqAt.shaped (pdOf c2) = true) (z : k as (.bl (!PyData.eqv (pdOf c1) (pdOf c2))) O) : rv (rNeD KK) L as O d1 d2 k := fun F H x y hd ow r1 r2 Q q =>
  ⟨_, _, dp_rd hd ow r1 h1 (SeqAt.canLay_of_shaped s1), dp_rd hd ow r2 h2 (SeqAt.canLay_of_shaped s2), s1, s2, q F H as O _ _ (.refl ..) hd ow (.bl _) z⟩
end
def okD (n : Nat) (d : D) : Prop := (pdOf d).canLay0 = true ∧ (pdOf d).depth ≤ n
theorem okD.more {n m : Nat} {d : D} (h : okD n d) (l : n ≤ m) : okD m d := ⟨h.1, Nat.le_trans h.2 l⟩
theorem okD.sh {n : Nat} {d : D} (h : okD n d) (l : n ≤ 64) : SeqAt.shaped (pdOf d) = true := by
  unfold SeqAt.shaped
  rw [h.1, decide_eq_true (Nat.le_trans h.2 l)]
  rfl
theorem okD_int {i : Int} : okD 0 (.int i) := ⟨by rw [pdOf]; rfl, by rw [pdOf]; exact Nat.le_refl _⟩
theorem okD_str {z : Str} (h : PyData.strOk z = true) : okD 0 (.str z) := ⟨by rw [pdOf]; exact h, by rw [pdOf]; exact Nat.le_refl _⟩
theorem okAll {n : Nat} : ∀ {ds : List D}, (∀ d ∈ ds, okD n d) → PyData.canLayAll0 (pdAll ds) = true ∧ PyData.depthAll (pdAll ds) ≤ n
  | [], _ => by rw [pdAll]; exact ⟨rfl, Nat.zero_le _⟩
  | d :: r, h => by
    obtain ⟨h1, h2⟩ := h d List.mem_cons_self
    obtain ⟨h3, h4⟩ := okAll (ds := r) fun x m => h x (List.mem_cons_of_mem _ m)
    rw [pdAll]
    refine ⟨by show (_ && _) = true; rw [h1, h3]; rfl, ?_⟩
    show max _ _ ≤ n
    omega
theorem okD_lst {n : Nat} {ds : List D} (h : ∀ d ∈ ds, okD n d) : okD (n + 1) (.lst ds) := by
  obtain ⟨h1, h2⟩ := okAll h
  unfold okD
  rw [pdOf]
  exact ⟨h1, Nat.succ_le_succ h2⟩
theorem okD_map {α : Type} {n : Nat} {f : α → D} {xs : List α} (h : ∀ x ∈ xs, okD n (f x)) : ∀ d ∈ xs.map f, okD n d := fun d m => by
  obtain ⟨x, mx, rfl⟩ := List.mem_map.mp m
  exact h x mx
theorem eqv_lst (xs ys : List D) : PyData.eqv (pdOf (.lst xs)) (pdOf (.lst ys)) = PyData.eqvAll (pdAll xs) (pdAll ys) := by rw [pdOf, pdOf]; rfl
theorem eqv_lst0 (xs : List D) : PyData.eqv (pdOf (.lst xs)) (pdOf (.lst [])) = xs.isEmpty := by
  rw [eqv_lst]
  cases xs with
  | nil => rw [pdAll]; rfl
  | cons x r => rw [pdAll, pdAll]; rfl
section
variable {L : List Addr} {as : List Addr} {O : List D} {k : List Addr → D → List D → Prop} {d1 : D} {KK : PySem.W.Frag}
theorem rv_neNil {n : Nat} {ds : List D} (h1 : rdD as O d1 (.lst ds)) (s1 : okD n (.lst ds)) (hn : n ≤ 64) (z : k as (.bl (!ds.isEmpty)) O) : rv (rNeD KK) L as O d1 (.lst []) k :=
  rv_neP h1 rd_k (s1.sh hn) ((okD_lst (n := 0) fun _ m => by cases m).sh (by decide)) (by rw [eqv_lst0]; exact z)
end
end DL
namespace DL
open PySem PySem.Spec PyProof.Rows L2 NdefX DLS
section
variable {χ : Xk} {L : List Addr} {as : List Addr} {ρ : DSt} {O : List D} {kA : List Addr → List D → List D → Prop} {te : TE} {KK : PySem.W.Frag}
theorem s_raiseS {K : Kt} {C : Addr} {f z : Str} (T : OexC KK C ∧ SupC KK C C ∧ ∀ g ∈ [f], PySem.W.findIn KK (.ref C) g = some none) (hz : z.length ≤ 100000) (h : dE χ te L as ρ O fun as d O => d = .str z ∧ χ.e L C [(f, .str z)] as ρ O) :
    dS χ (fun _ σ H => tMkO C (spI KK C [f] condS) [] (tCons te tNil) σ H fun cls d H' => χ.E cls d σ H') L as ρ O K :=
  s_raise T.1 T.2.1 T.2.2 (by simp) (w_cons (h.imp fun as d O ⟨ed, z'⟩ => w_nil ⟨rfl, fun F vs r => by
    subst ed
    cases r with
    | cons r1 r2 => cases r1; cases r2; exact ⟨z, rfl, hz⟩, by subst ed; exact z'⟩))
theorem xk0 {as : List Addr} {O : List D} {φ : List Addr → List D → Prop} (z : φ as O) : ∃ new cnew Oc, ([] : List Addr) = selA as [] ++ new ∧ ([] : List D) = Oc ++ cnew ∧ Oc.length = ([] : List Nat).length ∧ φ (as ++ new) (putAll O [] Oc ++ cnew) :=
  ⟨[], [], [], rfl, rfl, rfl, by simpa [putAll] using z⟩
end
end DL
namespace DL
open PySem PySem.Spec PyProof.Rows L2 NdefX DLS
theorem num_len (n : Nat) : (Str.ofString (toString ((n : Nat) : Int))).length ≤ n + 1 := by
  show (Str.ofString (toString ((n : Nat) : Int))).cps.size ≤ _
  rw [← Array.length_toList, PySem.W.KIN.signs_num, List.length_map]
  have := core_len 10 (n + 1) n []
  simpa [Nat.toDigits] using this
theorem init1I {K : PySem.W.Frag} {D : Addr} {f c : Str} {N : List Str} {vs : List V} {H : Hp} {Q : VK} {E : XK} (h : spI K D [f] condI vs H Q E) (hN : N.length = 3) (hc : c.length ≤ 1000 := by decide) :
    tSup K D (tCons (tOp (fun x y H Q => ∃ i j, x = V.str i ∧ y = V.str j ∧ i.length + j.length ≤ sizeLine ∧ Q (.str (i ++ j)) H) (tC (.str c)) (tCB (fun xs H Q => ∃ i, xs = [V.int i] ∧ i.natAbs.log2 < 1920 ∧ Q (.str (toString i)) H) (tCons (tVar 1) tNil))) tNil) (tOst K f (tVar 0) (tVar 1)) { nx := fun _ H' => Q .non H', rt := Q } (startF N vs [some (.ref D)]) H :=
  init1 h hN fun a v σ k e ⟨n, ez, hz⟩ q => by
    cases ez
    refine ⟨_, e, _, rfl, ?_, _, _, rfl, rfl, Nat.le_trans (Nat.add_le_add hc (num_len n)) (Nat.le_trans (show 1000 + (n + 1) ≤ 100000 by omega) (by decide)), q _⟩
    rw [Int.natAbs_natCast]
    by_cases h0 : n = 0
    · subst h0
      decide
    · exact (Nat.log2_lt h0).mpr (Nat.lt_of_le_of_lt hz (by decide +kernel))
section
variable {χ : Xk} {L : List Addr} {as : List Addr} {ρ : DSt} {O : List D} {te : TE} {KK : PySem.W.Frag}
theorem s_raiseI {K : Kt} {C : Addr} {f : Str} {n : Nat} (T : OexC KK C ∧ SupC KK C C ∧ ∀ g ∈ [f], PySem.W.findIn KK (.ref C) g = some none) (hz : n ≤ 90000) (h : dE χ te L as ρ O fun as d O => d = .int (n : Nat) ∧ χ.e L C [(f, .int (n : Nat))] as ρ O) :
    dS χ (fun _ σ H => tMkO C (spI KK C [f] condI) [] (tCons te tNil) σ H fun cls d H' => χ.E cls d σ H') L as ρ O K :=
  s_raise T.1 T.2.1 T.2.2 (by simp) (w_cons (h.imp fun as d O ⟨ed, z'⟩ => w_nil ⟨rfl, fun F vs r => by
    subst ed
    cases r with
    | cons r1 r2 => cases r1; cases r2; exact ⟨n, rfl, hz⟩, by subst ed; exact z'⟩))
end
end DL
namespace DL
open PySem PySem.Spec PyProof.Rows L2
theorem s_tail {χ : Xk} {L : List Addr} {ρ : DSt} {ts : TS} {K : Kt} {as0 : List Addr} {O0 : List D} (hl : as0.length = O0.length) : ∀ {new : List Addr} {cnew : List D}, dS χ ts L as0 ρ O0 K → dS χ ts L (as0 ++ new) ρ (O0 ++ cnew) K := fun {new cnew} h => by
  have key : ∀ (new : List Addr) (cnew : List D), new.length = cnew.length → dS χ ts L (as0 ++ new) ρ (O0 ++ cnew) K := by
    intro new
    induction new with
    | nil =>
      intro cnew e
      cases cnew with
      | nil => rw [List.append_nil, List.append_nil]; exact h
      | cons _ _ => cases e
    | cons a r ih =>
      intro cnew e
      cases cnew with
      | nil => cases e
      | cons c t =>
        refine s_let as0.length ?_
        rw [List.eraseIdx_append_of_length_le (Nat.le_refl _), hl, List.eraseIdx_append_of_length_le (Nat.le_refl _)]
        simp only [Nat.sub_self, List.eraseIdx_zero, List.tail_cons]
        exact ih t (by simpa using e)
  intro F H σ S
  exact key new cnew (by have := S.own.len; rw [List.length_append, List.length_append] at this; omega) F H σ S
theorem s_eq {χ : Xk} {L : List Addr} {ts : TS} {K : Kt} {as as' : List Addr} {ρ ρ' : DSt} {O O' : List D} (h1 : as = as') (h2 : ρ = ρ') (h3 : O = O') (h : dS χ ts L as' ρ' O' K) : dS χ ts L as ρ O K := by
  subst h1
  subst h2
  subst h3
  exact h
def dP (χ : Xk) (L : List Addr) (ρ : DSt) : List (TE × TE) → List Addr → List D → (List Addr → List (Key × D) → List D → Prop) → Prop
  | [], as, O, k => k as [] O
  | (tk, tv) :: r, as, O, k => dE χ tk L as ρ O fun as1 x O1 => ∃ c : Key, x = kD c ∧ dE χ tv L as1 ρ O1 fun as2 y O2 => dP χ L ρ r as2 O2 fun as3 kds O3 => k as3 ((c, y) :: kds) O3
theorem dP_run {χ : Xk} {L : List Addr} {ρ : DSt} {σ : L2.St} : ∀ {trs : List (TE × TE)} {as : List Addr} {O : List D} {k : List Addr → List (Key × D) → List D → Prop}, dP χ L ρ trs as O k → ∀ F H, Rep L as F H σ ρ O → XP χ L as F H → ∀ Q : List (V × V) → Hp → Prop, (∀ F' H' as' O' kvs kds, Go as F H as' F' H' → Rep L as' F' H' σ ρ O' → Rk F' kvs kds → k as' kds O' → Q (kvs.map fun kv => (kV kv.1, kv.2)) H') → tPairs trs σ H Q
  | [], as, O, k, h, F, H, S, x, Q, q => q F H as O [] [] (.refl ..) S .nil h
  | (tk, tv) :: r, as, O, k, h, F, H, S, x, Q, q =>
    h F H σ S x _ fun F1 H1 as1 O1 u d g1 S1 r1 ⟨c, e, h2⟩ => h2 F1 H1 σ S1 (x.go g1) _ fun F2 H2 as2 O2 w y g2 S2 r2 h3 => dP_run h3 F2 H2 S2 (x.go (g1.trans g2)) _ fun F3 H3 as3 O3 kvs kds g3 S3 r3 z => by
      subst e
      have eu := key_at r1
      subst eu
      exact q F3 H3 as3 O3 ((c, w) :: kvs) ((c, y) :: kds) (g1.trans (g2.trans g3)) S3 (.cons (r2.mono g3.ex) r3) z
def mergeD (kds : List (Key × D)) : List (Key × D) := kds.foldl (fun acc kv => putDk acc kv.1 kv.2) []
theorem Rk.merge {F : Hp} : ∀ {kvs : List (Key × V)} {kds : List (Key × D)}, Rk F kvs kds → ∀ {acc : List (Key × V)} {acc' : List (Key × D)}, Rk F acc acc' → Rk F (kvs.foldl (fun acc kv => putK acc kv.1 kv.2) acc) (kds.foldl (fun acc kv => putDk acc kv.1 kv.2) acc')
  | _, _, .nil, _, _, q => q
  | _, _, .cons r t, _, _, q => Rk.merge t (q.put r)
theorem w_disp {χ : Xk} {L as : List Addr} {ρ : DSt} {O : List D} {k : List Addr → D → List D → Prop} {trs : List (TE × TE)} (h : ∀ p, dP χ L ρ trs (as ++ [p]) (O ++ [.dk []]) fun as1 kds O1 => as1 = as ++ [p] ∧ O1 = O ++ [.dk []] ∧ kds.length ≤ 15 ∧ k (as ++ [p]) (.adr p) (O ++ [.dk (mergeD kds)])) : dE χ (tDisp trs) L as ρ O k := fun F H σ S x Q q p hp => by
  have S1 := S.new (o := .dK []) (d := .dk []) hp (.dk .nil)
  have g1 : Go as F H (as ++ [p]) F (upd H p (.dK [])) := go_new hp
  refine dP_run (h p) F _ S1 (x.go g1) _ fun F2 H2 as2 O2 kvs kds g2 S2 rk ⟨e1, e2, hl, z⟩ => ?_
  subst e1
  subst e2
  have hlo := S.own.len
  have ha : (as ++ [p])[as.length]? = some p := by simp
  have ho : (O ++ [D.dk []])[as.length]? = some (D.dk []) := by rw [hlo]; simp
  obtain ⟨hf, o, e, cn⟩ := S2.own.at_ _ _ _ ha ho
  cases cn with
  | dk r0 =>
    cases r0
    refine ⟨e, kvs, rfl, by rw [rk.length]; exact hl, ?_⟩
    have hm : Rk F2 (mergeK [] kvs) (mergeD kds) := rk.merge .nil
    have hs : (O ++ [D.dk []]).set as.length (.dk (mergeD kds)) = O ++ [.dk (mergeD kds)] := by
      rw [hlo, List.set_append_right _ _ (Nat.le_refl _), Nat.sub_self]
      rfl
    have ow := S2.own.put (.dk hm) ha
    rw [hs] at ow
    exact q F2 _ (as ++ [p]) _ (.ref p) (.adr p) (g1.trans (g2.trans (go_upd (List.mem_of_getElem? ha)))) ⟨S2.hd.upd hf, ow, S2.sl⟩ (.adr p) z
end DL
namespace DL
open PySem PySem.Spec PyProof.Rows L2
structure FnC (P : Program) (w : World) (K : PySem.W.Frag) (mg : Str → Option Value) (base : Heap) (CX : CXT) (k : Nat) (f : Addr) (fd : FuncData) (ps : List Str) (sp : Sp) : Prop where
  len : ∀ vs H Q E, sp vs H Q E → vs.length = ps.length
  run : ∀ (A : Around) (outer : List Env) (s : Shared) (H : Hp) (args : Args) (us : List Value) (vs : List V) (Q : VK) (E : XK) (p : Addr × Obj), L2H.RoomH k A → L2H.PinOk outer H s p → Env0 P w K mg base A outer s H → BindsTo s fd args (ps.zip us) → Vals vs us → sp vs H Q E →
    codeAny (model P w) A (.call (.ref f) args) (CR CX outer P w H s Q E) s
theorem FunD.okC {P : Program} {w : World} {K : PySem.W.Frag} {mg : Str → Option Value} {base : Heap} {x : Str} {qual : Str} {params : Arguments} {body : List Stmt} {scope : Scope} {dvs : List V} {kws : List (Str × V)} {f : Addr} {fd : FuncData} {CX : CXT} {N ps : List Str} {k : Nat} {sp : Sp} (F : FunD K x qual params body scope dvs kws f fd) (S : FnScope N ps scope) (len : ∀ vs H Q E, sp vs H Q E → vs.length = ps.length)
    (hbody : ∀ (cdv : Value) (A : Around) (outer : List Env) (s : Shared) (H : Hp) (vs : List V) (Q : VK) (E : XK) (p : Addr × Obj), L2H.RoomH k (A.deeper (envOfC qual scope s.heap.objs.size f cdv)) → sp vs H Q E →
      ∃ t, PSs (L2H.cxH CX P w K mg base N qual scope f cdv A outer s H E p) body t ∧ t { nx := fun _ H' => Q .non H', rt := Q } (start N vs) H) : FnC P w K mg base CX (k + 1) f fd ps sp := by
  obtain ⟨oc, od, dV, kV, doc, pm, an, cdv, ct, osl, rfl, lk, hcd, _, _⟩ := F.ex
  refine ⟨len, fun A outer s H args us vs Q E p hr hpin e0 hb r hsp => ?_⟩
  have KX : K.In s.heap := e0.mod.kin.keeps fun b o e => (e0.bs b o e).1
  have hkind : ∀ y ∈ ps.zip us, scope.names.lookup y.1 = some .local ∨ (scope.names.lookup y.1 = some .cell ∧ ((cellsFrom (s.heap.objs.size + 1) scope.names []).lookup y.1).isSome = true) := fun ⟨n, v⟩ hy => by
    rcases S.par n (List.of_mem_zip hy).1 with q | q
    · exact .inl q
    · exact .inr ⟨q, PySem.W.cellsFrom_some _ _ _ (.inl q)⟩
  refine codeAny_call_function hr.depth (KX _ _ lk) rfl S.co S.gen rfl (PySem.W.codeRec_of KX hcd) (hb _ _ _ _ ?_)
  refine wpAny_newFunctionEnv_cells S.kind hkind fun env he s1 x => ?_
  subst he
  refine ⟨(e0.mod.nolimit.keeps fun b o e => (e0.bs b o e).1).keeps x.toInCall.keep, codeAny_func ?_⟩
  obtain ⟨t, ht, hq⟩ := hbody cdv A outer s H vs Q E p (hr.deeper _) hsp
  refine wpAny_mono (ht.run [] s1 (L2.start N vs) H _ (L2H.inv_startH S hpin e0 (len _ _ _ _ hsp) r x) hq) (fun fl s' hs => ?_) fun e s' hs => hs
  cases fl with
  | ret u =>
    obtain ⟨v, σ', H', J, rv, q⟩ := hs
    exact ⟨v, H', J.os, J.bare, J.base, J.hok, rv, q⟩
  | next =>
    obtain ⟨σ', H', J, q⟩ := hs
    exact ⟨.non, H', J.os, J.bare, J.base, J.hok, rfl, q⟩
  | brk =>
    obtain ⟨_, _, _, q⟩ := hs
    exact False.elim q
  | cont =>
    obtain ⟨_, _, _, q⟩ := hs
    exact False.elim q
theorem roomH_mark {k : Nat} {A : Around} {h : Option Value} (r : Room k A) : L2H.RoomH k (A.mark h) := ⟨r.dp, r.un⟩
section
variable {X : Cx} {CX : CXT} {k : Nat} {f : Addr} {fd : FuncData} {ps : List Str} {sp : Sp} {E : XK} {x : Str} {pos q : Pos} {e : Expr} {es : List Expr} {t : TA}
theorem pe_callC (F : FnC X.prog X.w X.K X.mg X.base CX k f fd ps sp) (hr : L2H.RoomH k X.A) {p : Addr × Obj} (hp : p ∈ X.pn) (hg : Gl X x) (hm : X.mg x = some (.ref f)) (hk : PySem.W.keepIn X.K (.ref f) = true) (hb : Binds X.K fd ps []) (hx : Passes CX X E)
    (ha : PA X (e :: es) t) (hdb : (x == ("__debug__" : Str)) = false := by decide) (he : starEach (e :: es) X.env = (false, eval e X.env) :: starEach es X.env := by rfl) (hpl : (backTo pos (starEach es X.env)).any (·.1) = false := by rfl) :
    PE X (.Call (.Name x q) (e :: es) [] pos) (tCall sp [] E t) := by
  refine ⟨fun pins s σ H Q I h => wpAny_Call_Name_kw (ld_glob I hg hm ?_ hdb)⟩
  refine PySem.W.callWith_K (h₀ := X.base) I.ok.mod.kin hk (thn (ha.run pos pins s σ H _ I h) fun us s1 ⟨vs, H1, I1, r, q1⟩ => ⟨I1.kIn, ?_⟩) he hpl
  have z : sp vs H1 Q E := by rw [← List.append_nil vs]; exact q1
  have hl : us.length = ps.length := by rw [← r.length]; exact F.len _ _ _ _ z
  have b := hb s1 us I1.kIn (by rw [List.append_nil]; exact hl)
  rw [List.append_nil] at b
  have P1 := I1.pin p (List.mem_append_left _ hp)
  have hpin : L2H.PinOk X.stack H1 s1 p := ⟨P1.1, P1.2.1, fun hm => (List.mem_cons.mp (I1.stkSub p.1 hm)).elim P1.2.2.1 P1.2.2.2.1, P1.2.2.2.2⟩
  refine wpAny_call (codeAny_mono (F.run X.A X.stack s1 H1 ⟨us, []⟩ us vs Q E p hr hpin I1.env0 b r z) fun rr s' hq => ?_)
  cases rr with
  | error ev => exact hx pins σ H1 s1 ev s' I1 hq
  | ok fl =>
    cases fl with
    | ret u => exact I1.after hq
    | next => exact False.elim hq
    | brk => exact False.elim hq
    | cont => exact False.elim hq
end
end DL
set_option maxHeartbeats 4000000
namespace DL
open PySem PySem.Spec PyProof.Rows L2 CwR
def PTT (X : Cx) (e : Expr) (t : TT) : Prop :=
  ∀ (pins : List (Addr × Obj)) (s : Shared) (σ : L2.St) (H : Hp) (Q : Bool → Hp → Prop), 1 ≤ s.toks → Inv X pins σ H s → t σ H Q → wpAny (model X.prog X.w) X.A (isTrue e X.env (eval e X.env)) (TP X pins σ Q) X.xe s
section
variable {X : Cx} {a b e o : Expr} {es : List Expr} {ta tb te to : TE} {t tA : TT} {u : TA} {pos p apos cpos : Pos}
theorem PTT.of (h : PT X e t) : PTT X e t := fun pins s σ H Q _ I q => h.run pins s σ H Q I q
end
end DL
namespace DL
open PySem PySem.Spec PyProof.Rows L2
section
variable {χ : Xk} {L : List Addr} {as : List Addr} {ρ : DSt} {O : List D} {k : List Addr → D → List D → Prop} {tt : TT}
theorem w_lcI {te : TE} {wi : TI} {g : TG} {vs : List Nat} (hg : WG g vs) (h : dI χ wi L as ρ O fun as1 ds O1 => ∃ I : Nat → List D → List D → Prop, I 0 O1 [] ∧ ds.length < sizeLine ∧
    (∀ i O' acc d, ds[i]? = some d → acc.length ≤ i → I i O' acc → dG X0 g d L as1 (wρ ρ vs) O' fun as2 ρ2 O2 => as2 = as1 ∧ O2 = O' ∧ dT X0 tt L as1 ρ2 O' fun as3 b O3 => as3 = as1 ∧
      if b = true then dE X0 te L as1 ρ2 O3 fun as4 y O4 => as4 = as1 ∧ I (i + 1) O4 (acc ++ [y]) else I (i + 1) O3 acc) ∧
    ∀ p O' acc, I ds.length O' acc → k (as1 ++ [p]) (.adr p) (O' ++ [.lst acc])) : dE χ (tLc wi g tt te vs) L as ρ O k := fun F H σ S x Q q =>
  h F H σ S x _ fun F1 H1 as1 O1 J ds g1 S1 ⟨G, Y, wk, hG, hY⟩ ⟨I, a0, al, as_, ae⟩ N hN => by
    have hNf := S1.hd.free hN
    refine lc_it wk (fun i H' => ∃ F' xs O' acc, Go as1 F1 H1 as1 F' H' ∧ Hd L F' H' ∧ Own F' H' as1 O' ∧ F' N = none ∧ H' N = some (.lst xs) ∧ Rs F' xs acc ∧ acc.length ≤ i ∧ I i O' acc)
      ⟨F1, [], O1, [], ?_, S1.hd.upd hNf, ?_, hNf, upd_same, .nil, Nat.le_refl _, a0⟩ ?_ ?_ ?_
    · exact ⟨fun _ _ h => h, fun _ _ h => .inl h, fun b o e _ => by rw [upd_ne (ne_of_none e hN)]; exact e, fun b e => by
        by_cases z : b = N
        · subst z; exact hN
        · rw [upd_ne z] at e; exact e, fun _ m => .inl m⟩
    · exact S1.own.keep (fun _ _ h => h) (fun a m => S1.own.free m) fun a m o e => by rw [upd_ne (ne_of_none e hN)]; exact e
    · rintro i H' _ ⟨F', xs, O', acc, g', hd', ow', f', e', r', _, _⟩
      exact hG F' H' as1 g' hd'
    · rintro i v H' H2 hi ⟨F', xs, O', acc, g', hd', ow', f', e', r', l', zi⟩ hy
      obtain ⟨F3, d, hdi, g3, hd3, ow3, r3⟩ := hY i as1 H' H2 v F' O' hi g'.ex hd' ow' hy
      have keepN : ∀ {Fa Fb : Hp} {Ha Hb : Hp} {xs : List V}, Go as1 Fa Ha as1 Fb Hb → Fa N = none → Ha N = some (.lst xs) → N ∉ as1 → Fb N = none ∧ Hb N = some (.lst xs) := fun {Fa Fb Ha Hb xs} g f e n => by
        refine ⟨?_, g.kp _ _ e n⟩
        cases z : Fb N with
        | none => rfl
        | some u =>
          rcases g.nw N u z with z | z | z
          · rw [f] at z; cases z
          · rw [e] at z; cases z
          · exact absurd z n
      have nN : N ∉ as1 := fun m => S1.own.tr m hN
      obtain ⟨f3, e3⟩ := keepN g3 f' e' nN
      have S3 : Rep L as1 F3 H2 (L2.wipe σ vs) (wρ ρ vs) O' := ⟨hd3, ow3, (S1.sl.mono fun a o h => g3.ex _ _ (g'.ex _ _ h)).wipe vs⟩
      have step := as_ i O' acc d hdi l' zi F3 H2 (L2.wipe σ vs) v S3 xp0 r3
      refine hg v _ _ _ _ (fun σ2 H3 ew q2 => ⟨ew.trans (wipe_wipe fun _ m => m), q2⟩) (step _ fun F4 H4 as4 σ4 ρ4 O4 g4 S4 ⟨e1, e2, z4⟩ => ?_)
      subst e1
      subst e2
      obtain ⟨f4, e4⟩ := keepN g4 f3 e3 nN
      refine z4 F4 H4 σ4 S4 xp0 _ fun F5 H5 as5 O5 b b' g5 S5 rb ⟨e1, z5⟩ => ?_
      cases rb
      subst e1
      obtain ⟨f5, e5⟩ := keepN g5 f4 e4 nN
      have gg := g'.trans (g3.trans (g4.trans g5))
      have r5 := r'.mono fun a o h => g5.ex _ _ (g4.ex _ _ (g3.ex _ _ h))
      cases b with
      | false =>
        simp only [Bool.false_eq_true, if_false] at z5 ⊢
        exact ⟨F5, xs, O5, acc, gg, S5.hd, S5.own, f5, e5, r5, by omega, z5⟩
      | true =>
        simp only [if_true] at z5 ⊢
        refine z5 F5 H5 σ4 S5 xp0 _ fun F6 H6 as6 O6 y dy g6 S6 r6 ⟨e1, z6⟩ => ?_
        subst e1
        obtain ⟨f6, e6⟩ := keepN g6 f5 e5 nN
        refine ⟨xs, e6, by rw [r'.length]; omega, F6, _, O6, acc ++ [dy], ?_, S6.hd.upd f6, ?_, f6, upd_same, ?_, ?_, z6⟩
        · refine ⟨(gg.trans g6).ex, (gg.trans g6).nw, fun b o e n => ?_, fun b e => ?_, (gg.trans g6).sub⟩
          · have h6 := (gg.trans g6).kp b o e n
            rw [upd_ne (ne_of_none e hN)]
            exact h6
          · by_cases z : b = N
            · subst z; exact hN
            · rw [upd_ne z] at e; exact (gg.trans g6).th b e
        · exact S6.own.keep (fun _ _ h => h) (fun a m => S6.own.free m) fun a m o e => by
            have : a ≠ N := fun z => nN (z ▸ m)
            rw [upd_ne this]; exact e
        · exact (r5.mono g6.ex).snoc r6
        · rw [List.length_append]
          show acc.length + 1 ≤ i + 1
          omega
    · rintro H' ⟨F', xs, O', acc, g', hd', ow', f', e', r', l', zi⟩
      refine q F' H' (as1 ++ [N]) (O' ++ [.lst acc]) _ _ ?_ ⟨hd', ?_, S1.sl.mono g'.ex⟩ (.adr N) (ae N O' acc zi)
      · have gg := g1.trans g'
        exact ⟨gg.ex, gg.nw, gg.kp, gg.th, fun b m => by
          rcases List.mem_append.mp m with m | m
          · exact gg.sub b m
          · simp at m; subst m; exact .inr (g1.th _ hN)⟩
      · have nN : N ∉ as1 := fun m => S1.own.tr m hN
        refine ⟨?_, by simp [ow'.len], fun i b d' h1 h2 => ?_⟩
        · rw [List.nodup_append]
          refine ⟨ow'.nd, by simp, fun a m b m' z => ?_⟩
          simp at m'
          subst m'; subst z
          exact nN m
        · rcases Nat.lt_trichotomy i as1.length with z | z | z
          · rw [List.getElem?_append_left z] at h1
            rw [List.getElem?_append_left (ow'.len ▸ z)] at h2
            exact ow'.at_ i b d' h1 h2
          · rw [List.getElem?_append_right (Nat.le_of_eq z.symm)] at h1
            rw [List.getElem?_append_right (by rw [← ow'.len]; exact Nat.le_of_eq z.symm), ← ow'.len] at h2
            rw [z] at h1 h2
            simp at h1 h2
            subst h1; subst h2
            exact ⟨f', _, e', .lst r'⟩
          · rw [List.getElem?_eq_none (by simp; omega)] at h1
            cases h1
end
end DL
namespace DL
open PySem PySem.Spec PyProof.Rows L2
theorem ru_negO {L as : List Addr} {O : List D} {k : List Addr → D → List D → Prop} {i : Int} (z : k as (.int (-i)) O) : ru (rU fun i => .int (-i)) L as O (.int i) k := fun F H x hd ow r Q q => by
  cases r
  exact ⟨i, rfl, q F H as O _ _ (.refl ..) hd ow (.int _) z⟩
end DL
namespace DL
open PySem PySem.Spec PyProof.Rows L2
end DL
namespace DL
open PySem PySem.Spec PyProof.Rows L2
end DL
namespace DL
open PySem PySem.Spec PyProof.Rows L2
end DL
namespace DL
open PySem PySem.Spec PyProof.Rows L2
def unlW (H0 : Hp) (W : WX) : WX := fun cls dd σ H => W cls dd σ H ∨ ∃ d u od, H0 d = some u ∧ Mut (some u) ∧ H d = some (.frz od u) ∧ W cls dd σ (upd H d u)
theorem takes_unl {X : Cx} {W : WX} {H0 : Hp} (tk : Takes X W) (hn : ∀ d u, H0 d = some u → Mut (some u) → ∀ o' u', X.H_0 d ≠ some (.frz o' u')) : Takes X (unlW H0 W) := fun u s' ⟨a, B, sI, pins, σ, H, cls, d, e, I, nb, up, sky, na, os, ag, w⟩ => by
  rcases w with w | ⟨d', v, od, h0, mu, hf, w⟩
  · exact tk u s' ⟨a, B, sI, pins, σ, H, cls, d, e, I, nb, up, sky, na, os, ag, w⟩
  · refine tk u s' ⟨a, B, sI, pins, σ, upd H d' v, cls, d, e, I.unlock hf (hn d' v h0 mu), nb, up, sky, ?_, os, ag, w⟩
    rw [upd_ne (ne_of_none hf na).symm]
    exact na
def tUnl (t : WX → TS) (W : WX) : TS := fun D σ H => t (unlW H W) D σ H
theorem pss_unl {X : Cx} {st : List Stmt} {t : WX → TS} {W : WX} (tk : Takes X W) (h : ∀ W', Takes X W' → PSs X st (t W')) : PSs X st (tUnl t W) :=
  ⟨fun pins s σ H D I hw => (h _ (takes_unl tk fun d u e mu => I.nofrz e mu)).run pins s σ H D I hw⟩
section
variable {χ : Xk} {L : List Addr} {as : List Addr} {ρ : DSt} {O : List D}
theorem s_unl {K : Kt} {t : WX → TS} (S : List Addr) (hS : ∀ a ∈ S, a ∉ L ∧ ∀ F H σ, Rep L as F H σ ρ O → ∃ kvs, F a = some (.dK kvs))
    (h : ∀ W, dS ⟨W, fun L' C fds as ρ O => (L' = L ∨ ∃ a ∈ S, L' = a :: L) ∧ χ.e L C fds as ρ O⟩ (t W) L as ρ O K) : dS χ (tUnl t χ.E) L as ρ O K := fun F H σ SS x Z z => by
  refine h (unlW H χ.E) F H σ SS (fun F' H' L' as' σ' ρ' O' cls d fds g S' xd ze => ?_) Z z
  obtain ⟨hL, ze⟩ := ze
  rcases hL with rfl | ⟨a, ma, rfl⟩
  · exact .inl (x F' H' _ as' σ' ρ' O' cls d fds g S' xd ze)
  obtain ⟨nL, hF⟩ := hS a ma
  obtain ⟨kvs, fa⟩ := hF F H σ SS
  have ha : H a = some (.dK kvs) := by
    rcases SS.hd.at_ a _ fa with ⟨_, e'⟩ | ⟨m, _⟩ | ⟨_, _, _, y, _⟩
    · exact e'
    · exact absurd m nL
    · cases y
  have fa' : F' a = some (.dK kvs) := g.ex _ _ fa
  obtain ⟨ob, ha'⟩ : ∃ ob, H' a = some (.frz ob (.dK kvs)) := by
    rcases S'.hd.at_ a _ fa' with ⟨m, _⟩ | ⟨_, kv, ob, y, e'⟩ | ⟨m, _⟩
    · exact absurd List.mem_cons_self m
    · cases y
      exact ⟨ob, e'⟩
    · exact absurd List.mem_cons_self m
  refine .inr ⟨a, .dK kvs, ob, ha, trivial, ha', ?_⟩
  have nas : a ∉ as' := fun m => by rw [S'.own.free m] at fa'; cases fa'
  have S2 : Rep L as' F' (upd H' a (.dK kvs)) σ' ρ' O' := by
    refine ⟨⟨fun b u e => ?_, fun b m => ?_⟩, S'.own.keep (fun _ _ h => h) (fun b m => S'.own.free m) fun b m o e => ?_, S'.sl⟩
    · by_cases q : b = a
      · subst q
        rw [fa'] at e
        cases e
        exact .inl ⟨nL, upd_same⟩
      · rw [upd_ne q]
        rcases S'.hd.at_ b u e with ⟨m, e'⟩ | ⟨m, e'⟩ | ⟨m, e'⟩
        · exact .inl ⟨fun y => m (List.mem_cons_of_mem _ y), e'⟩
        · exact .inr (.inl ⟨(List.mem_cons.mp m).resolve_left q, e'⟩)
        · exact .inr (.inr ⟨fun y => m (List.mem_cons_of_mem _ y), e'⟩)
    · exact S'.hd.lk b (List.mem_cons_of_mem _ m)
    · rw [upd_ne (show b ≠ a from fun q => nas (q ▸ m))]
      exact e
  refine x F' _ L as' σ' ρ' O' cls d fds ⟨g.ex, g.nw, fun b o e n => ?_, fun b e => ?_, g.sub⟩ S2 ?_ ze
  · left
    by_cases q : b = a
    · subst q
      rw [ha] at e
      cases e
      exact upd_same
    · rw [upd_ne q]
      rcases g.kp b o e n with h | ⟨m, n2, _⟩
      · exact h
      · rcases List.mem_cons.mp m with m | m
        · exact absurd m q
        · exact absurd m n2
  · by_cases q : b = a
    · subst q
      rw [upd_same] at e
      cases e
    · rw [upd_ne q] at e
      exact g.th b e
  · cases d with
    | none => exact xd
    | some dd =>
      obtain ⟨n1, fs, e1, rn⟩ := xd
      refine ⟨n1, fs, ?_, rn⟩
      rw [upd_ne (show dd ≠ a from fun q => by rw [q, ha'] at e1; cases e1)]
      exact e1
end
end DL
namespace DLX
open PySem PySem.SeqAt
open AutoSeq1 (wpAny_loadPart')
open MeetsSeq MeetsSeq2 MeetsSeq3 SeqRoads2
theorem tuple_ne (l b : Addr) (its its2 : Array Value) (n n2 : Nat) (dd dd2 : Option Addr) (sl sl2 : Array (Option Value)) (x y : Value) (r r2 : List Value) :
    Meets (Builtin.«tuple.__eq__» ⟨[.ref l, .ref b], []⟩)
      (fun A R s => s.heap.get? l = some ⟨.type "tuple", dd, .seq its n, sl⟩ ∧ s.heap.get? b = some ⟨.type "tuple", dd2, .seq its2 n2, sl2⟩ ∧ its.toList = x :: r ∧ its2.toList = y :: r2 ∧ EqAt A.in1 s x y false ∧ R (.ok (.ret (.bool false))) s) :=
  .of_wp fun prog w A R s h => by
    obtain ⟨hp, g, d, tk, os⟩ := s
    obtain ⟨hl, hb, h1, h2, he, h⟩ := h
    have f2 := AutoSeq1.sub_tuple_tuple
    have hz : its.toList.zip its2.toList = (x, y) :: r.zip r2 := by rw [h1, h2]; rfl
    wp_walk using wpAny_loadPart' hl, wpAny_loadPart' hb, wpAny_forIn_list _ (fun rest b s' => b.1 = none ∧ s' = ⟨hp, g, d, tk, os⟩ ∧ rest = (x, y) :: r.zip r2) _
    case turn =>
      rintro ⟨u, v⟩ rest b s' ⟨hb', rfl, e⟩
      injection e with e1 e2
      cases e1
      refine wpAny_bind (he prog w _ _ ?_)
      wp_walk
      exact ⟨_, rfl, h⟩
    case fin =>
      rintro ⟨b1, b2⟩ s' ⟨_, _, e⟩
      cases e
    case h => exact ⟨rfl, rfl, hz⟩
theorem rc_ne {A : Around} {s : Shared} {l b : Addr} {its its2 : Array Value} {x y : Value} {r r2 : List Value} (hl : s.heap.IsTuple l its) (hb : s.heap.IsTuple b its2) (hu : A.units < cLine) (h1 : its.toList = x :: r) (h2 : its2.toList = y :: r2) (he : EqAt A.in1 s x y false) : RcAt A s (.ref l) (.ref b) false := fun prog w E Q h => by
  obtain ⟨⟨cls, dd, data, sl⟩, ho, hc, n, hd⟩ := id hl
  obtain ⟨⟨cls2, dd2, data2, sl2⟩, ho2, hc2, n2, hd2⟩ := id hb
  simp only at hc hd hc2 hd2
  subst hc hd hc2 hd2
  exact richCompare_meets_room (op := .Eq) ⟨_, ho, rfl⟩ ⟨_, ho2, rfl⟩ F.slot_tuple_eq F.entry_tuple_eq (F.args_tuple_eq_2 _ _) (tuple_ne l b its its2 n n2 dd dd2 sl sl2 x y r r2)
    ⟨ho, ho2, h1, h2, he, show Value.bool false ≠ Value.notImplemented ∧ Q (.bool false) s from ⟨(fun x => nomatch x), h⟩⟩ hu
end DLX
namespace DL
open PySem PySem.Spec PyProof.Rows L2
def rIndexT (K : PySem.W.Frag) : V → List V → Hp → VK → Prop := fun x xs H Q => ∃ (a p q : Addr) (ys : List V) (j : Nat) (n : Str) (vs : List V), x = .ref a ∧ xs = [.ref p] ∧ SqL K H a ys ∧ SqT K H p (.str n :: vs) ∧ (∀ v ∈ vs, flatB v = true ∨ ∃ d, v = .ref d) ∧ ys[j]? = some (.ref q) ∧ SqT K H q (.str n :: vs) ∧
  (∀ m v, m ≠ j → ys[m]? = some v → ∃ q' n' vs', v = .ref q' ∧ SqT K H q' (.str n' :: vs') ∧ n' ≠ n) ∧ Q (.int (j : Nat)) H
section
variable {X : Cx}
theorem eq_part {A : Around} {s : Shared} {v : V} {u u' : Value} (r : RelV v u) (r' : RelV v u') (h : flatB v = true ∨ ∃ d, v = .ref d) : SeqAt.EqAt A s u u' true := by
  rcases h with h | ⟨d, rfl⟩
  · exact eqAt_same r r' h
  · cases r
    cases r'
    exact SeqAt.EqAt.same _
theorem mt_indexT (hu : X.A.units + 64 < cLine) : MtR X "list.index" (rIndexT X.K) := by
  intro pins s σ H x xs v us Q I rx rxs h
  obtain ⟨a, p, q, ys, j, n, vs, rfl, rfl, hs, hp, hv, hj, hq, hno, z⟩ := h
  cases rx
  cases rxs with
  | cons ry rt =>
    rename_i uy ut
    cases rt
    cases ry
    obtain ⟨its, rv, ⟨⟨cls, dd, data, sls⟩, n0, ho, hc, hdn, hdt⟩, hlen⟩ := I.list hs
    simp only at hc hdt
    subst hc hdt
    have hvl := rv.length
    have hsl := sizeLine_eq
    obtain ⟨hjy, _⟩ := List.getElem?_eq_some_iff.mp hj
    have hjl : j < its.length := by omega
    have hjs : j < its.toArray.size := by simpa using hjl
    have hu1 : X.A.in1.units < cLine := by
      have : X.A.in1.units = X.A.units + 1 := rfl
      omega
    obtain ⟨pi, rp, ⟨op, ep, cp, np, dp⟩, _⟩ := I.tuple hp
    have tp : s.heap.IsTuple p pi.toArray := ⟨op, ep, cp, np, dp⟩
    have at_ : ∀ (m : Nat) (w : Value), its[m]? = some w → ∃ v, ys[m]? = some v ∧ RelV v w := fun m w hw => by
      have hm := (List.getElem?_eq_some_iff.mp hw).1
      have hmy : m < ys.length := by omega
      obtain ⟨w', e1, r1⟩ := rv.get (List.getElem?_eq_getElem hmy)
      rw [hw] at e1
      cases e1
      exact ⟨_, List.getElem?_eq_getElem hmy, r1⟩
    have eqj : SeqAt.EqAt X.A.in1 s (.ref q) (.ref p) true := by
      by_cases hqp : q = p
      · subst hqp
        exact SeqAt.EqAt.same _
      · obtain ⟨qi, rq, ⟨oq, eq, cq, nq, dq⟩, _⟩ := I.tuple hq
        have tq : s.heap.IsTuple q qi.toArray := ⟨oq, eq, cq, nq, dq⟩
        have hlq := rq.length
        have hlp := rp.length
        have hsz : qi.toArray.size = pi.toArray.size := by simp; omega
        have key := SeqAt.EqAt.of_refs hqp (SeqAt.RcAt.tuples (e := fun _ => true) tq tp hu1 fun i i1 i2 => ?_)
        · rw [show ((List.range (min qi.toArray.size pi.toArray.size)).all (fun _ => true) && qi.toArray.size == pi.toArray.size) = true by rw [hsz]; simp] at key
          exact key
        · have i1' : i < qi.length := by simpa using i1
          have i2' : i < pi.length := by simpa using i2
          have iv : i < (V.str n :: vs).length := by omega
          obtain ⟨w1, e1, r1⟩ := rq.get (List.getElem?_eq_getElem iv)
          obtain ⟨w2, e2, r2⟩ := rp.get (List.getElem?_eq_getElem iv)
          have e1 : qi[i] = w1 := by rw [List.getElem?_eq_getElem i1'] at e1; exact Option.some.inj e1
          have e2 : pi[i] = w2 := by rw [List.getElem?_eq_getElem i2'] at e2; exact Option.some.inj e2
          have h1 : qi.toArray[i] = w1 := by simpa using e1
          have h2 : pi.toArray[i] = w2 := by simpa using e2
          rw [h1, h2]
          refine eq_part r1 r2 ?_
          rcases List.mem_cons.mp (List.getElem_mem iv) with h | h
          · rw [h]
            exact .inl rfl
          · exact hv _ h
    have neq : ∀ (m : Nat) (w : Value), m ≠ j → its[m]? = some w → w ≠ .ref q ∧ SeqAt.EqAt X.A.in1 s w (.ref p) false := fun m w hm hw => by
      obtain ⟨v, hv1, r1⟩ := at_ m w hw
      obtain ⟨q', n', vs', rfl, hq', hn⟩ := hno m v hm hv1
      cases r1
      refine ⟨fun e => ?_, ?_⟩
      · cases e
        have := I.tuple_inj hq' hq
        injection this with e1 _
        injection e1 with e1
        exact hn e1
      have hqp : q' ≠ p := fun e => by
        subst e
        have := I.tuple_inj hq' hp
        injection this with e1 _
        injection e1 with e1
        exact hn e1
      obtain ⟨qi, rq, ⟨oq, eq, cq, nq, dq⟩, _⟩ := I.tuple hq'
      have tq : s.heap.IsTuple q' qi.toArray := ⟨oq, eq, cq, nq, dq⟩
      cases rq with
      | cons rh rt =>
        cases rp with
        | cons rh2 rt2 =>
          obtain ⟨t1, rfl⟩ := rh
          obtain ⟨t2, rfl⟩ := rh2
          refine SeqAt.EqAt.of_refs hqp (DLX.rc_ne tq tp hu1 rfl rfl ?_)
          have k := SeqAt.EqAt.str_str (A := X.A.in1.in1) (s := s) n' t1 n t2
          rw [show (n' == n) = false from beq_eq_false_iff_ne.mpr hn] at k
          exact k
    have hjr : its[j]'hjl = .ref q := by
      obtain ⟨v, hv1, r1⟩ := at_ j _ (List.getElem?_eq_getElem hjl)
      rw [hj] at hv1
      cases hv1
      exact r1
    refine call_meets PySem.F.slot_list_index ⟨_, ho, rfl⟩ PySem.F.entry_list_index (PySem.F.args_list_index_2 _ _)
      (SeqAt.list_indexAt a its.toArray n0 dd sls (.ref p) (fun u => @decide (u = .ref q) (Classical.propDecidable _)) j hjs (by omega) ?_ ?_) ⟨ho, fun y my => ?_, ⟨.int (j : Nat), H, I.tok _, ⟨_, rfl⟩, z⟩⟩
    · show @decide _ (Classical.propDecidable _) = true
      exact @decide_eq_true _ (Classical.propDecidable _) (by simpa using hjr)
    · intro m hm hmj
      have hml : m < its.length := by simpa using hm
      refine @decide_eq_false _ (Classical.propDecidable _) ?_
      have := (neq m _ (by omega) (List.getElem?_eq_getElem hml)).1
      simpa using this
    · obtain ⟨m, hm⟩ := List.mem_iff_getElem?.mp (show y ∈ its by simpa using my)
      show SeqAt.EqAt X.A.in1 s y (.ref p) (@decide _ (Classical.propDecidable _))
      by_cases e : m = j
      · subst e
        rw [List.getElem?_eq_getElem hjl, hjr] at hm
        cases hm
        rw [@decide_eq_true _ (Classical.propDecidable _) rfl]
        exact eqj
      · obtain ⟨h1, h2⟩ := neq m y e hm
        rw [@decide_eq_false _ (Classical.propDecidable _) h1]
        exact h2
end
section
variable {L : List Addr} {as : List Addr} {O : List D} {k : List Addr → D → List D → Prop} {KK : PySem.W.Frag}
theorem rm_indexT {ds : List D} {n k1 f1 : Str} {a1 : Addr} {b1 : List (Key × D)} {j : Nat} (h : ds[j]? = some (.tup [.str n, .str k1, .str f1, .ldk a1 b1])) (hno : ∀ m d, m ≠ j → ds[m]? = some d → ∃ n' es, d = .tup (.str n' :: es) ∧ n' ≠ n) (z : k as (.int (j : Nat)) O) : rm (rIndexT KK) L as O (.lst ds) [.tup [.str n, .str k1, .str f1, .ldk a1 b1]] k := fun F H x vs hd ow r1 r2 Q q => by
  cases r2 with
  | cons r3 r4 =>
    cases r4
    have tup : ∀ {v : V} {n' : Str} {es : List D}, R F v (.tup (.str n' :: es)) → ∃ p ws, v = .ref p ∧ SqT KK H p (.str n' :: ws) ∧ Rs F ws es := fun {v n' es} r => by
      cases r with
      | tup e r =>
        cases r with
        | cons rh rt =>
          cases rh
          exact ⟨_, _, rfl, hd.tq e, rt⟩
    have row : ∀ {v : V}, R F v (.tup [.str n, .str k1, .str f1, .ldk a1 b1]) → ∃ p, v = .ref p ∧ SqT KK H p [.str n, .str k1, .str f1, .ref a1] := fun {v} r => by
      obtain ⟨p, ws, e, hs, rs⟩ := tup r
      cases rs with
      | cons ra rs =>
        cases rs with
        | cons rb rs =>
          cases rs with
          | cons rc rs =>
            cases rs
            cases ra
            cases rb
            cases rc
            exact ⟨p, e, hs⟩
    obtain ⟨p, rfl, hp⟩ := row r3
    cases r1 with
    | lst e r =>
      obtain ⟨v, hv, rv⟩ := r.get h
      obtain ⟨q0, rfl, hq0⟩ := row rv
      refine ⟨_, p, q0, _, j, n, [.str k1, .str f1, .ref a1], rfl, rfl, SqL.of (hd.lst e), hp, fun v m => ?_, hv, hq0, fun m v hm hv => ?_, q F H as O _ _ (.refl ..) hd ow (.int _) z⟩
      · simp at m
        rcases m with rfl | rfl | rfl
        · exact .inl rfl
        · exact .inl rfl
        · exact .inr ⟨_, rfl⟩
      · obtain ⟨d, hd2, rd⟩ := r.get' hv
        obtain ⟨n', es, rfl, hn⟩ := hno m d hm hd2
        obtain ⟨p', ws, rfl, hs', _⟩ := tup rd
        exact ⟨p', n', ws, rfl, hs', hn⟩
end
end DL
namespace DL
open PySem PySem.Spec PyProof.Rows L2
section
variable {L : List Addr} {as : List Addr} {O : List D} {k : List Addr → D → List D → Prop} {KK : PySem.W.Frag}
theorem rs_rep {F : Hp} {v : V} {d : D} (r : R F v d) : ∀ n : Nat, Rs F (List.replicate n [v]).flatten (List.replicate n d)
  | 0 => .nil
  | n + 1 => by
    rw [List.replicate_succ, List.replicate_succ, List.flatten_cons]
    exact .cons r (rs_rep r n)
theorem rv_repT1 {d : D} {n : Nat} (h1 : 2 ≤ n) (h2 : n ≤ 1000) (z : k as (.tup (List.replicate n d)) O) : rv (rRepT KK) L as O (.tup [d]) (.int (n : Nat)) k := fun F H x y hd ow r1 r2 Q q => by
  cases r2
  cases r1 with
  | tup e r =>
    cases r with
    | cons rh rt =>
      cases rt
      rename_i p v
      exact ⟨p, n, [v], rfl, rfl, hd.tq e, (fun z => by cases z), by omega, by omega, (by show 1 ≤ 1000; decide), new_tup hd ow (rs_rep rh n) z q⟩
theorem rsK {ds : List D} {lo hi : Option Int} (z : k as (.lst (cutD ds lo hi)) O) : rs (rSlL KK) L as O (.lst ds) lo hi fun as' d' O' => ∃ p as0 c O0, as' = as0 ++ [p] ∧ d' = .adr p ∧ O' = O0 ++ [c] ∧ k as0 c O0 := rs_list (.inl lo_f) fun p => ⟨p, _, _, _, rfl, rfl, rfl, z⟩
theorem rvK {ds es : List D} (hl : ds.length + es.length ≤ sizeLine) (z : k as (.lst (ds ++ es)) O) : rv rCat L as O (.lst ds) (.lst es) fun as' d' O' => ∃ p as0 c O0, as' = as0 ++ [p] ∧ d' = .adr p ∧ O' = O0 ++ [c] ∧ k as0 c O0 := rv_cat lo_f lo_f hl fun p => ⟨p, _, _, _, rfl, rfl, rfl, z⟩
theorem merge_nd {kds : List (Key × D)} (h : (kds.map (·.1)).Nodup) : mergeD kds = kds := by
  have key : ∀ (r a : List (Key × D)), ((a ++ r).map (·.1)).Nodup → r.foldl (fun acc kv => putDk acc kv.1 kv.2) a = a ++ r := by
    intro r
    induction r with
    | nil => intro a _; rw [List.append_nil]; rfl
    | cons x t ih =>
      intro a nd
      have hx : (a.any fun kv => decide (kv.1 = x.1)) = false := by
        rw [List.any_eq_false]
        intro y my e
        rw [List.map_append, List.nodup_append] at nd
        exact nd.2.2 _ (List.mem_map_of_mem my) _ (List.mem_map_of_mem List.mem_cons_self) (of_decide_eq_true e)
      have e : putDk a x.1 x.2 = a ++ [x] := by
        unfold putDk
        rw [hx]
        rfl
      rw [List.foldl_cons, e, ih (a ++ [x]) (by rw [List.append_assoc]; exact nd), List.append_assoc]
      rfl
  exact key kds [] h
end
end DL
namespace DL
open PySem PySem.Spec PyProof.Rows L2
theorem law_start {K : PySem.W.Frag} {C : Ct} {H : Hp} {a : Addr} {ns : List Int} (hO : Only H) (hS : SqL K H a (ns.map V.int))
    (hC : ∀ d, lstR [] [] K d (ns.map D.int) → C [] [] [d] [] (fun _ d _ => d = .bl true) (fun _ _ _ _ _ => False)) : spC C [.ref a] H (fun v _ => v = .bl true) fun _ _ _ => False := by
  have fin : ∀ {F' : Hp} {v : V} {d : D}, R F' v d → d = .bl true → v = .bl true := fun r e => by
    subst e
    cases r
    rfl
  rcases hS with hS | hS
  · have hz : ∃ ob, H a = some (.frz ob (.lst (ns.map V.int))) := by
      rcases hS with h | ⟨ob, h⟩
      · rcases hO a with z | ⟨o, xs, z⟩
        · rw [h] at z; cases z
        · rw [h] at z; cases z
      · exact ⟨ob, h⟩
    obtain ⟨ob, h⟩ := hz
    refine ⟨[], fun b => if b = a then some (.frz ob (.lst (ns.map V.int))) else none, [], [.zst (ns.map D.int)], [], _, _, ⟨fun b o e => ?_, fun b m => (by cases m)⟩, ⟨List.nodup_nil, rfl, fun i b d h1 => by simp at h1⟩, .cons (.zst (o := ob) (if_pos rfl) (rs_ints ns)) .nil, hC _ (.inr (.inl rfl)), ?_, ?_⟩
    · by_cases q : b = a
      · subst q
        rw [if_pos rfl] at e
        cases e
        exact .inl ⟨fun m => (by cases m), h⟩
      · rw [if_neg q] at e; cases e
    · exact fun F' H' as' O' v d _ _ _ r e => fin r e
    · exact fun F' H' L' as' O' cls d fds _ _ _ _ z => z
  · refine ⟨[], fun _ => none, [], [.zkl K (ns.map D.int)], [], _, _, ⟨fun b o e => (by cases e), fun b m => (by cases m)⟩, ⟨List.nodup_nil, rfl, fun i b d h1 => by simp at h1⟩, .cons (.zkl (fun H => .inr hS) (rs_ints ns)) .nil, hC _ (.inr (.inr rfl)), ?_, ?_⟩
    · exact fun F' H' as' O' v d _ _ _ r e => fin r e
    · exact fun F' H' L' as' O' cls d fds _ _ _ _ z => z
theorem cx_none {P : Program} {w : World} {H : Hp} {s : Shared} {e : Value} {s' : Shared} (c : L2.CX P w [] H s (fun _ _ _ => False) e s') : False := by
  obtain ⟨_, _, _, _, _, _, _, _, _, _, _, _, z⟩ := c
  exact z
theorem walk_ofW {l : PySem.W.OpenLaw} {n k : Nat} {q : Program} {loose : List Str} {XP : (Str → Option Value) → Heap → Prop} {YP : World → Heap → Prop} {d : DefRec} {CX : World → CXT} {x : Str}
    (hn : l.most = some n) (hn2 : n ≤ sizeLine) (hdf : d.params.defaults = []) (hr : Room k callerA)
    (F : ∀ (w : World) (mg : Str → Option Value) (fa : Addr) (h : Heap), YP w h → h.Ns mainGlobals mg → mg d.name = some (.ref fa) →
      ∃ (K : PySem.W.Frag) (fd : FuncData) (sp : Sp), K.In h ∧ (∀ (s : Shared) (u : Value), BindsTo s fd ⟨[u], []⟩ [(x, u)]) ∧
        (∀ (H : Hp) (a : Addr) (ns : List Int), ns.length ≤ n → Only H → SqL K H a (ns.map V.int) → sp [.ref a] H (fun v _ => v = .bl true) fun _ _ _ => False) ∧
        ∀ base : Heap, K.In base → base.Ns mainGlobals mg → FnOk l.prog w K mg base (CX w) k fa fd [x] sp)
    (hCX : ∀ (w : World) (H : Hp) (s : Shared) (e : Value) (s' : Shared), CX w [] H s (fun _ _ _ => False) e s' → False) :
    PySem.W.WalkO q loose XP YP l.row.toRowW d [] (fun f vs => PySem.call f vs) := by
  refine Att.attach_call hn hdf fun w s₀ s₁ mg mb fa o pm cd doc a vs ns G Y ho hd hcd hmg hobj hints hlen hg => ?_
  obtain ⟨K, fd, sp, KX, hb, hsp, hF⟩ := F w mg fa _ Y G.T.g hmg
  exact law_call KX G.T.g G.T.b G.T.builtins G.T.nolimit hg hobj hints (Nat.le_trans hlen hn2) hr hF hb (fun H hO hS => hsp H a ns hlen hO hS) fun H e s' => hCX w H s₁ e s'
end DL
namespace MN
open PySem L2 DL
abbrev tl (z : Str) : List Nat := z.cps.toList
def letS : Str := "ABCDEFGHIJKLMNOPQRSTUVWXYZabcdefghijklmnopqrstuvwxyz"
def digS : Str := "0123456789"
def alnS : Str := "abcdefghijklmnopqrstuvwxyzABCDEFGHIJKLMNOPQRSTUVWXYZ0123456789"
def okc (c : Nat) : Bool := decide (c ∈ tl letS) || decide (c ∈ tl digS)
def nameL : List Nat → Bool
  | [] => false
  | c :: r => decide (c ∈ tl letS) && r.all okc
def isName (z : Str) : Bool := nameL (tl z) && decide (z.length ≤ 24)
theorem aln_ok : ∀ i, i < 62 → ∃ c, (tl alnS)[i]? = some c ∧ okc c = true ∧ c < 0x110000 := by decide +kernel
theorem let_ok : ∀ i, i < 52 → ∃ c, (tl alnS)[i]? = some c ∧ decide (c ∈ tl letS) = true ∧ c < 0x110000 := by decide +kernel
theorem let_okc {c : Nat} (h : decide (c ∈ tl letS) = true) : okc c = true := by unfold okc; rw [h]; rfl
theorem aln_at {n : Int} {m : Int} (hm : 0 < m) (h62 : m ≤ 62) : ∃ c, atI (tl alnS) (n % m) = some c ∧ okc c = true ∧ c < 0x110000 := by
  have h0 := Int.emod_nonneg n (Int.ne_of_gt hm)
  have h1 := Int.emod_lt_of_pos n hm
  obtain ⟨c, e, h⟩ := aln_ok (n % m).toNat (by omega)
  exact ⟨c, by rw [show n % m = ((n % m).toNat : Int) by omega]; exact atI_nat e, h⟩
theorem let_at {n : Int} : ∃ c, atI (tl alnS) (n % 52) = some c ∧ decide (c ∈ tl letS) = true ∧ c < 0x110000 := by
  have h0 := Int.emod_nonneg n (show (52 : Int) ≠ 0 by decide)
  have h1 := Int.emod_lt_of_pos n (show (0 : Int) < 52 by decide)
  obtain ⟨c, e, h⟩ := let_ok (n % 52).toNat (by omega)
  exact ⟨c, by rw [show n % 52 = ((n % 52).toNat : Int) by omega]; exact atI_nat e, h⟩
theorem tl_app (x y : Str) : tl (x ++ y) = tl x ++ tl y := TL.tl_append x y
theorem len_tl (x : Str) : x.length = (tl x).length := TL.len_tl x
theorem nameL_app {l m : List Nat} (h : nameL l = true) (hm : m.all okc = true) : nameL (l ++ m) = true := by
  cases l with
  | nil => cases h
  | cons c r =>
    simp only [nameL, Bool.and_eq_true] at h
    show (decide (c ∈ tl letS) && (r ++ m).all okc) = true
    rw [h.1, List.all_append, h.2, hm]
    rfl
def exs (n : Nat) : Str := ⟨(List.replicate n 120).toArray⟩
theorem tl_exs (n : Nat) : tl (exs n) = List.replicate n 120 := by simp [exs, tl]
theorem exs_succ (b : Str) (n : Nat) : (b ++ exs n) ++ ("x" : Str) = b ++ exs (n + 1) := by
  apply TL.ext_tl
  show tl _ = tl _
  rw [tl_app, tl_app, tl_app, tl_exs, tl_exs, List.replicate_succ', List.append_assoc]
  rfl
theorem exs_zero (b : Str) : b ++ exs 0 = b := by
  apply TL.ext_tl
  show tl _ = tl _
  rw [tl_app, tl_exs]
  simp
theorem exs_inj (b : Str) {i j : Nat} (h : b ++ exs i = b ++ exs j) : i = j := by
  have := congrArg (fun z => (tl z).length) h
  simp only [tl_app, tl_exs, List.length_append, List.length_replicate] at this
  omega
theorem pigeon {α : Type} [BEq α] [LawfulBEq α] {f : Nat → α} (inj : ∀ i j, f i = f j → i = j) : ∀ (n : Nat) (zs : List α), (∀ j, j < n → f j ∈ zs) → n ≤ zs.length
  | 0, _, _ => Nat.zero_le _
  | n + 1, zs, h => by
    have h1 : f n ∈ zs := h n (Nat.lt_succ_self n)
    have := pigeon inj n (zs.erase (f n)) fun j hj => (List.mem_erase_of_ne (fun e => by have := inj _ _ e; omega)).mpr (h j (by omega))
    rw [List.length_erase_of_mem h1] at this
    have : 0 < zs.length := List.length_pos_of_mem h1
    omega
end MN
namespace MR
open PySem L2 DL
def byteS : Str := "byte"
structure Part where
  nm : Str
  inn : Str
  pr : Option Int
def dPart (p : Part) : D := .tup (.str p.nm :: .str p.inn :: match p.pr with
  | none => []
  | some i => [.int i])
structure Row where
  kind : Str
  maker : Str
  parts : List Part
def dRow (r : Row) : D := .tup [.str r.kind, .str r.maker, .tup (r.parts.map dPart)]
def trees (ps : List Part) : Nat := (ps.filter fun p => p.pr.isSome).length
def Part.ok (nms : List Str) (p : Part) : Prop := (p.inn = byteS ∧ p.pr = none) ∨ (p.inn ∈ nms ∧ ∃ i : Int, p.pr = some i ∧ 1 ≤ i ∧ i ≤ 1000)
structure Drawn (nms : List Str) (b : Bool) (ps : List Part) : Prop where
  len : ps.length ≤ 4
  nd : (ps.map (·.nm)).Nodup
  name : ∀ p ∈ ps, MN.nameL (MN.tl p.nm) = true ∧ p.nm.length ≤ 8
  ok : ∀ p ∈ ps, p.ok nms
  few : b = true → trees ps ≤ 2
theorem Drawn.nil {nms : List Str} {b : Bool} : Drawn nms b [] where
  len := by simp
  nd := by simp
  name := by simp
  ok := by simp
  few := fun _ => by simp [trees]
theorem trees_app (ps : List Part) (p : Part) : trees (ps ++ [p]) = trees ps + if p.pr.isSome then 1 else 0 := by
  unfold trees
  rw [List.filter_append, List.length_append]
  cases h : p.pr <;> simp [h]
theorem Drawn.snoc {nms : List Str} {b : Bool} {ps : List Part} {p : Part} (h : Drawn nms b ps) (hl : ps.length < 4) (h1 : MN.nameL (MN.tl p.nm) = true) (h2 : p.nm.length ≤ 8) (h3 : p.nm ∉ ps.map (·.nm)) (h4 : p.ok nms) (h5 : b = true → p.pr.isSome = true → trees ps < 2) : Drawn nms b (ps ++ [p]) where
  len := by rw [List.length_append]; show ps.length + 1 ≤ 4; omega
  nd := by
    rw [List.map_append, List.nodup_append]
    refine ⟨h.nd, by simp, fun a m c m' z => ?_⟩
    simp at m'
    subst m'
    subst z
    exact h3 m
  name := fun q m => by
    rcases List.mem_append.mp m with m | m
    · exact h.name q m
    · simp at m; subst m; exact ⟨h1, h2⟩
  ok := fun q m => by
    rcases List.mem_append.mp m with m | m
    · exact h.ok q m
    · simp at m; subst m; exact h4
  few := fun e => by
    rw [trees_app]
    have := h.few e
    cases z : p.pr.isSome with
    | false => simpa [z] using this
    | true => have := h5 e z; simp; omega
theorem Drawn.wide {nms ms : List Str} {b : Bool} {ps : List Part} (h : Drawn nms b ps) (s : ∀ x ∈ nms, x ∈ ms) : Drawn ms b ps :=
  ⟨h.len, h.nd, h.name, fun p m => (h.ok p m).imp id fun ⟨z, y⟩ => ⟨s _ z, y⟩, h.few⟩
structure Names (nms : List Str) : Prop where
  nd : nms.Nodup
  name : ∀ z ∈ nms, MN.nameL (MN.tl z) = true ∧ z.length ≤ 8
  byte : byteS ∉ nms
structure Some_ (nms : List Str) (n : Nat) (rows : List Row) : Prop where
  len : rows.length ≤ n
  nd : (rows.map (·.maker)).Nodup
  maker : ∀ r ∈ rows, MN.nameL (MN.tl r.maker) = true ∧ r.maker.length ≤ 14
  kind : ∀ r ∈ rows, r.kind ∈ nms
  parts : ∀ r ∈ rows, ∃ b, Drawn nms b r.parts
def Base (nms : List Str) (rows : List Row) (k : Nat) : Prop := ∃ r ∈ rows, nms[k]? = some r.kind ∧ ∀ p ∈ r.parts, p.inn = byteS ∨ p.inn ∈ nms.drop (k + 1)
theorem Base.more {nms : List Str} {rows : List Row} {k : Nat} (h : Base nms rows k) (r : Row) : Base nms (rows ++ [r]) k := by
  obtain ⟨x, m, z⟩ := h
  exact ⟨x, List.mem_append_left _ m, z⟩
theorem Some_.nil {nms : List Str} {n : Nat} : Some_ nms n [] where
  len := by simp
  nd := by simp
  maker := by simp
  kind := by simp
  parts := by simp
theorem Some_.snoc {nms : List Str} {n : Nat} {rows : List Row} {r : Row} (h : Some_ nms n rows) (h1 : MN.nameL (MN.tl r.maker) = true ∧ r.maker.length ≤ 14) (h2 : r.maker ∉ rows.map (·.maker)) (h3 : r.kind ∈ nms) (h4 : ∃ b, Drawn nms b r.parts) : Some_ nms (n + 1) (rows ++ [r]) where
  len := by rw [List.length_append]; have := h.len; show rows.length + 1 ≤ _; omega
  nd := by
    rw [List.map_append, List.nodup_append]
    refine ⟨h.nd, by simp, fun a m c m' z => ?_⟩
    simp at m'
    subst m'
    subst z
    exact h2 m
  maker := fun q m => by
    rcases List.mem_append.mp m with m | m
    · exact h.maker q m
    · simp at m; subst m; exact h1
  kind := fun q m => by
    rcases List.mem_append.mp m with m | m
    · exact h.kind q m
    · simp at m; subst m; exact h3
  parts := fun q m => by
    rcases List.mem_append.mp m with m | m
    · exact h.parts q m
    · simp at m; subst m; exact h4
theorem Some_.le {nms : List Str} {n m : Nat} {rows : List Row} (h : Some_ nms n rows) (l : n ≤ m) : Some_ nms m rows := { h with len := Nat.le_trans h.len l }
structure SomeX (nms : List Str) (rows : List Row) : Prop where
  len : rows.length ≤ 10
  nd : (rows.map (·.maker)).Nodup
  maker : ∀ r ∈ rows, MN.nameL (MN.tl r.maker) = true ∧ r.maker.length ≤ 24
  kind : ∀ r ∈ rows, r.kind ∈ nms
  parts : ∀ r ∈ rows, ∃ b, Drawn nms b r.parts
theorem Some_.x {nms : List Str} {n : Nat} {rows : List Row} (h : Some_ nms n rows) (l : n ≤ 10) : SomeX nms rows := ⟨Nat.le_trans h.len l, h.nd, fun r m => ⟨(h.maker r m).1, Nat.le_trans (h.maker r m).2 (by decide)⟩, h.kind, h.parts⟩
structure Table (nms : List Str) (rows : List Row) : Prop where
  names : Names nms
  few : nms.length ≤ 3
  ne : rows ≠ []
  some : SomeX nms rows
  base : ∀ k, k < nms.length → Base nms rows k
theorem Table.perm {nms : List Str} {rows rows' : List Row} (h : Table nms rows) (p : rows'.Perm rows) : Table nms rows' where
  names := h.names
  few := h.few
  ne := fun e => h.ne (by subst e; exact p.symm.eq_nil)
  some := ⟨by rw [p.length_eq]; exact h.some.len, (p.map _).nodup_iff.mpr h.some.nd, fun r m => h.some.maker r (p.mem_iff.mp m), fun r m => h.some.kind r (p.mem_iff.mp m), fun r m => h.some.parts r (p.mem_iff.mp m)⟩
  base := fun k hk => by
    obtain ⟨r, m, z⟩ := h.base k hk
    exact ⟨r, p.mem_iff.mpr m, z⟩
end MR
namespace MT
open PySem L2 DL
def tabF (t f n o s : D) : List (Str × D) := [("table", t), ("family", f), ("names", n), ("order", o), ("smallest", s)]
section
variable {t f n o s : D}
theorem tab_table : (tabF t f n o s).lookup ("table" : Str) = some t := by rfl
theorem tab_family : (tabF t f n o s).lookup ("family" : Str) = some f := by rfl
theorem tab_names : (tabF t f n o s).lookup ("names" : Str) = some n := by rfl
theorem tab_entry : (tabF t f n o s).lookup ("entry" : Str) = none := by rfl
theorem tab_part_of : (tabF t f n o s).lookup ("part_of" : Str) = none := by rfl
end
def dEnt (kind : Str) (tag : Nat) (ps : List MR.Part) : D := .tup [.str kind, .int (tag : Nat), .tup (ps.map MR.dPart)]
def Self (K : PySem.W.Frag) (d : D) (tds : List (Key × D)) : Prop := ∃ t f n o s, d = .ins (He.ga K "Kinds") (tabF t f n o s) ∧ dkOf [] [] t tds
theorem dk_wide {as : List Addr} {O : List D} {d : D} {kds : List (Key × D)} (h : dkOf [] [] d kds) : dkOf as O d kds := by
  rcases h with h | ⟨j, a, _, h, _⟩
  · exact .inl h
  · simp at h
end MT
namespace ML
open PySem L2 DL
theorem valD_cons {k j : Key} {d : D} {r : List (Key × D)} : valD ((j, d) :: r) k = if j = k then some d else valD r k := by
  unfold valD
  rw [List.find?_cons]
  by_cases h : j = k
  · rw [if_pos h]; simp [h]
  · rw [if_neg h]; simp [h]
theorem valD_app {k : Key} : ∀ {a b : List (Key × D)}, valD (a ++ b) k = (valD a k).or (valD b k)
  | [], b => by simp [valD]
  | (j, d) :: a, b => by
    rw [List.cons_append, valD_cons, valD_cons, valD_app (a := a)]
    by_cases h : j = k
    · rw [if_pos h, if_pos h]; rfl
    · rw [if_neg h, if_neg h]
theorem any_valD {k : Key} : ∀ {a : List (Key × D)}, (a.any fun kv => decide (kv.1 = k)) = (valD a k).isSome
  | [] => rfl
  | (j, d) :: a => by
    rw [List.any_cons, valD_cons, any_valD (a := a)]
    by_cases h : j = k
    · rw [if_pos h]; simp [h]
    · rw [if_neg h]; simp [h]
theorem valD_map {k j : Key} {y : D} : ∀ {a : List (Key × D)}, valD (a.map fun kv => if kv.1 = k then (kv.1, y) else kv) j = (valD a j).map fun d => if j = k then y else d
  | [] => rfl
  | (i, d) :: a => by
    rw [List.map_cons, valD_cons]
    by_cases h : i = k
    · rw [if_pos h, valD_cons, valD_map (a := a)]
      by_cases h2 : i = j
      · rw [if_pos h2, if_pos h2]; simp [← h2, h]
      · rw [if_neg h2, if_neg h2]
    · rw [if_neg h, valD_cons, valD_map (a := a)]
      by_cases h2 : i = j
      · rw [if_pos h2, if_pos h2]; simp [← h2, h]
      · rw [if_neg h2, if_neg h2]
theorem valD_put {k j : Key} {y : D} {a : List (Key × D)} : valD (putDk a k y) j = if j = k then some y else valD a j := by
  unfold putDk
  rw [any_valD]
  by_cases h : (valD a k).isSome = true
  · rw [if_pos h, valD_map]
    by_cases h2 : j = k
    · subst h2
      rw [if_pos rfl]
      cases e : valD a j with
      | none => rw [e] at h; cases h
      | some d => simp
    · rw [if_neg h2]
      cases valD a j <;> simp [h2]
  · rw [if_neg h, valD_app, valD_cons]
    have hn : valD a k = none := by
      cases e : valD a k with
      | none => rfl
      | some d => rw [e] at h; exact absurd rfl h
    by_cases h2 : j = k
    · subst h2
      rw [if_pos rfl, hn, if_pos rfl]
      rfl
    · rw [if_neg h2, if_neg (fun z => h2 z.symm)]
      cases valD a j <;> rfl
theorem mem_put {k : Key} {y : D} {a : List (Key × D)} {kv : Key × D} (h : kv ∈ putDk a k y) : kv.2 = y ∨ kv ∈ a := by
  unfold putDk at h
  by_cases z : (a.any fun kv => decide (kv.1 = k)) = true
  · rw [if_pos z] at h
    obtain ⟨u, m, e⟩ := List.mem_map.mp h
    by_cases q : u.1 = k
    · rw [if_pos q] at e; subst e; exact .inl rfl
    · rw [if_neg q] at e; subst e; exact .inr m
  · rw [if_neg z] at h
    rcases List.mem_append.mp h with m | m
    · exact .inr m
    · simp at m; subst m; exact .inl rfl
theorem len_put {k : Key} {y : D} {a : List (Key × D)} : (putDk a k y).length ≤ a.length + 1 := by
  unfold putDk
  by_cases z : (a.any fun kv => decide (kv.1 = k)) = true
  · rw [if_pos z, List.length_map]; omega
  · rw [if_neg z, List.length_append]; exact Nat.le_refl _
def val : List Int → Nat
  | [] => 0
  | x :: r => x.toNat * 10 ^ r.length + val r
def Dig (ns : List Int) : Prop := ∀ e ∈ ns, 0 ≤ e ∧ e < 10
theorem val_lt : ∀ {ns : List Int}, Dig ns → val ns < 10 ^ ns.length
  | [], _ => by decide
  | x :: r, h => by
    have h1 := val_lt (ns := r) fun e m => h e (List.mem_cons_of_mem _ m)
    have h2 := h x List.mem_cons_self
    have h3 : x.toNat + 1 ≤ 10 := by omega
    have h4 := Nat.mul_le_mul_right (10 ^ r.length) h3
    rw [Nat.add_mul, Nat.one_mul] at h4
    show x.toNat * 10 ^ r.length + val r < 10 ^ (r.length + 1)
    rw [Nat.pow_succ, Nat.mul_comm (10 ^ r.length)]
    omega
theorem val_lex : ∀ {ns ms : List Int}, Dig ns → Dig ms → ns.length = ms.length → HT.lexLt ns ms = true → val ns < val ms
  | [], [], _, _, _, h => by cases h
  | [], _ :: _, _, _, l, _ => by cases l
  | _ :: _, [], _, _, l, _ => by cases l
  | x :: r, y :: t, h1, h2, l, h => by
    have l : r.length = t.length := by simpa using l
    have d1 : Dig r := fun e m => h1 e (List.mem_cons_of_mem _ m)
    have d2 : Dig t := fun e m => h2 e (List.mem_cons_of_mem _ m)
    rw [HT.lexLt_cons] at h
    show x.toNat * 10 ^ r.length + val r < y.toNat * 10 ^ t.length + val t
    by_cases q : x = y
    · rw [if_pos q] at h
      have := val_lex d1 d2 l h
      rw [q, l]
      omega
    · rw [if_neg q] at h
      have h := of_decide_eq_true h
      have hx := h1 x List.mem_cons_self
      have h3 : x.toNat + 1 ≤ y.toNat := by have := h2 y List.mem_cons_self; omega
      have h4 := Nat.mul_le_mul_right (10 ^ r.length) h3
      rw [Nat.add_mul, Nat.one_mul] at h4
      have := val_lt d1
      rw [← l]
      omega
def P : Nat := 10 ^ 90
def code (ns : List Int) : Nat := ns.length * P + val ns
theorem val_P {ns : List Int} (d : Dig ns) (l : ns.length ≤ 90) : val ns < P := Nat.lt_of_lt_of_le (val_lt d) (Nat.pow_le_pow_right (by decide) l)
theorem code_lt {ns ms : List Int} (d1 : Dig ns) (d2 : Dig ms) (l1 : ns.length ≤ 90) (h : (if (ns.length : Int) = (ms.length : Int) then HT.lexLt ns ms else decide ((ns.length : Int) < (ms.length : Int))) = true) : code ns < code ms ∧ ns.length ≤ ms.length := by
  unfold code
  by_cases e : (ns.length : Int) = (ms.length : Int)
  · rw [if_pos e] at h
    have e : ns.length = ms.length := by omega
    have := val_lex d1 d2 e h
    rw [e]
    omega
  · rw [if_neg e] at h
    have h := of_decide_eq_true h
    have h3 : ns.length + 1 ≤ ms.length := by omega
    have h4 := Nat.mul_le_mul_right P h3
    rw [Nat.add_mul, Nat.one_mul] at h4
    have := val_P d1 l1
    omega
def BIG : Nat := 100 * P
theorem code_big {ns : List Int} (d : Dig ns) (l : ns.length ≤ 90) : code ns < BIG := by
  unfold code BIG
  have h1 := val_P d l
  have h2 := Nat.mul_le_mul_right P l
  omega
def sumf (f : Str → Nat) : List Str → Nat
  | [] => 0
  | k :: r => f k + sumf f r
theorem sum_out {f g : Str → Nat} {k : Str} (h : ∀ j, j ≠ k → f j = g j) : ∀ {l : List Str}, k ∉ l → sumf f l = sumf g l
  | [], _ => rfl
  | j :: r, n => by
    show f j + _ = g j + _
    rw [h j (fun z => n (z ▸ List.mem_cons_self)), sum_out h fun m => n (List.mem_cons_of_mem _ m)]
theorem sum_upd {f g : Str → Nat} {k : Str} (h : ∀ j, j ≠ k → f j = g j) : ∀ {l : List Str}, l.Nodup → k ∈ l → sumf f l + g k = sumf g l + f k
  | [], _, m => by cases m
  | j :: r, nd, m => by
    obtain ⟨n1, n2⟩ := List.nodup_cons.mp nd
    show f j + sumf f r + g k = g j + sumf g r + f k
    by_cases e : j = k
    · subst e
      rw [sum_out h n1]
      omega
    · have := sum_upd h n2 ((List.mem_cons.mp m).resolve_left fun z => e z.symm)
      rw [h j e]
      omega
theorem sum_le {f : Str → Nat} {c : Nat} (h : ∀ k, f k ≤ c) : ∀ l : List Str, sumf f l ≤ c * l.length
  | [] => Nat.le_refl _
  | k :: r => by
    have := sum_le h r
    have := h k
    show f k + sumf f r ≤ c * (r.length + 1)
    rw [Nat.mul_add, Nat.mul_one]
    omega
abbrev Fnd := Str → Option (List Int)
def one (o : Option (List Int)) : Nat := if o.isSome = true then 1 else 0
def cost : Option (List Int) → Nat
  | none => BIG
  | some ns => code ns
def cnt (nms : List Str) (g : Fnd) : Nat := sumf (fun k => one (g k)) nms
def rank (nms : List Str) (g : Fnd) : Nat := sumf (fun k => cost (g k)) nms
def B : Nat → Nat
  | 0 => 1
  | c + 1 => 1 + 4 * B c
theorem B_up (c : Nat) : B c ≤ B (c + 1) := by
  show B c ≤ 1 + 4 * B c
  omega
theorem B_three {c : Nat} (h : c ≤ 3) : B c ≤ 85 := by
  rcases (show c = 0 ∨ c = 1 ∨ c = 2 ∨ c = 3 by omega) with rfl | rfl | rfl | rfl <;> decide
theorem cnt_le (nms : List Str) (g : Fnd) : cnt nms g ≤ nms.length := by
  have := sum_le (f := fun k => one (g k)) (c := 1) (fun k => by show one (g k) ≤ 1; unfold one; split <;> omega) nms
  show sumf _ nms ≤ _
  omega
def setG (g : Fnd) (k : Str) (ns : List Int) : Fnd := fun j => if j = k then some ns else g j
theorem cnt_set {nms : List Str} {g : Fnd} {k : Str} {ns : List Int} (nd : nms.Nodup) (m : k ∈ nms) : cnt nms (setG g k ns) + one (g k) = cnt nms g + 1 := by
  have := sum_upd (f := fun j => one (setG g k ns j)) (g := fun j => one (g j)) (k := k) (fun j hj => by show one (setG g k ns j) = one (g j); unfold setG; rw [if_neg hj]) nd m
  have e : one (setG g k ns k) = 1 := by unfold setG; rw [if_pos rfl]; rfl
  simp only [e] at this
  exact this
theorem rank_set {nms : List Str} {g : Fnd} {k : Str} {ns : List Int} (nd : nms.Nodup) (m : k ∈ nms) : rank nms (setG g k ns) + cost (g k) = rank nms g + code ns := by
  have := sum_upd (f := fun j => cost (setG g k ns j)) (g := fun j => cost (g j)) (k := k) (fun j hj => by show cost (setG g k ns j) = cost (g j); unfold setG; rw [if_neg hj]) nd m
  have e : cost (setG g k ns k) = code ns := by unfold setG; rw [if_pos rfl]; rfl
  simp only [e] at this
  exact this
theorem len_put_old {k : Key} {y : D} {a : List (Key × D)} (h : (valD a k).isSome = true) : (putDk a k y).length = a.length := by
  unfold putDk
  rw [any_valD, if_pos h, List.length_map]
structure St (nms : List Str) (g : Fnd) (lds sds : List (Key × D)) : Prop where
  look : ∀ k, valD lds (.inr k) = (g k).map fun ns => D.lst (ns.map D.int)
  small : ∀ k, (valD sds (.inr k)).isSome = (g k).isSome
  cz : ∀ kv ∈ sds, Cz kv.2
  dig : ∀ k ns, g k = some ns → Dig ns ∧ ns.length ≤ B (cnt nms g)
  ll : lds.length ≤ cnt nms g
  ls : sds.length ≤ cnt nms g
theorem St.nil {nms : List Str} : St nms (fun _ => none) [] [] where
  look := fun _ => rfl
  small := fun _ => rfl
  cz := fun _ m => by cases m
  dig := fun _ _ h => by cases h
  ll := Nat.zero_le _
  ls := Nat.zero_le _
theorem St.put {nms : List Str} {g : Fnd} {lds sds : List (Key × D)} {k : Str} {ns : List Int} {y : D} (h : St nms g lds sds) (nd : nms.Nodup) (few : nms.length ≤ 3) (m : k ∈ nms) (dg : Dig ns) (cy : Cz y)
    (c : (g k = none ∧ ns.length ≤ 1 + 4 * B (cnt nms g)) ∨ ∃ old, g k = some old ∧ ns.length ≤ 85 ∧ (if (ns.length : Int) = (old.length : Int) then HT.lexLt ns old else decide ((ns.length : Int) < (old.length : Int))) = true) :
    St nms (setG g k ns) (putDk lds (.inr k) (.lst (ns.map D.int))) (putDk sds (.inr k) y) ∧ rank nms (setG g k ns) < rank nms g := by
  have hc := cnt_set (g := g) (ns := ns) nd m
  have hr := rank_set (g := g) (ns := ns) nd m
  have h3 := cnt_le nms (setG g k ns)
  have lk := h.look k
  have sk := h.small k
  have main : ns.length ≤ B (cnt nms (setG g k ns)) ∧ B (cnt nms g) ≤ B (cnt nms (setG g k ns)) ∧ (putDk lds (.inr k) (D.lst (ns.map D.int))).length ≤ cnt nms (setG g k ns) ∧ (putDk sds (.inr k) y).length ≤ cnt nms (setG g k ns) ∧ code ns < cost (g k) := by
    rcases c with ⟨e, hl⟩ | ⟨old, e, hl, hlt⟩
    · rw [e] at hc hr ⊢
      have ec : cnt nms (setG g k ns) = cnt nms g + 1 := hc
      rw [ec]
      refine ⟨hl, B_up _, ?_, ?_, ?_⟩
      · exact Nat.le_trans len_put (Nat.succ_le_succ h.ll)
      · exact Nat.le_trans len_put (Nat.succ_le_succ h.ls)
      · have := B_three (c := cnt nms g + 1) (by omega)
        have hl' : ns.length ≤ B (cnt nms g + 1) := hl
        exact code_big dg (by omega)
    · rw [e] at hc hr lk sk ⊢
      have ec : cnt nms (setG g k ns) = cnt nms g := by have : cnt nms (setG g k ns) + 1 = cnt nms g + 1 := hc; omega
      obtain ⟨d1, d2⟩ := h.dig k old e
      obtain ⟨q1, q2⟩ := code_lt dg d1 (by omega) hlt
      rw [ec]
      refine ⟨Nat.le_trans q2 d2, Nat.le_refl _, ?_, ?_, q1⟩
      · rw [len_put_old (by rw [lk]; rfl)]; exact h.ll
      · rw [len_put_old (by rw [sk]; rfl)]; exact h.ls
  obtain ⟨m1, m2, m3, m4, m5⟩ := main
  refine ⟨⟨fun j => ?_, fun j => ?_, fun kv mk => ?_, fun j ms hj => ?_, m3, m4⟩, by omega⟩
  · rw [valD_put]
    unfold setG
    by_cases q : j = k
    · subst q; rw [if_pos rfl, if_pos rfl]; rfl
    · rw [if_neg (fun z => q (by cases z; rfl)), if_neg q]; exact h.look j
  · rw [valD_put]
    unfold setG
    by_cases q : j = k
    · subst q; rw [if_pos rfl, if_pos rfl]; rfl
    · rw [if_neg (fun z => q (by cases z; rfl)), if_neg q]; exact h.small j
  · rcases mem_put mk with z | z
    · rw [z]; exact cy
    · exact h.cz kv z
  · by_cases q : j = k
    · subst q
      have : setG g j ns j = some ns := by unfold setG; rw [if_pos rfl]
      rw [this] at hj
      cases hj
      exact ⟨dg, m1⟩
    · have : setG g k ns j = g j := by unfold setG; rw [if_neg q]
      rw [this] at hj
      obtain ⟨d1, d2⟩ := h.dig j ms hj
      exact ⟨d1, Nat.le_trans d2 m2⟩
end ML
namespace MI
open PySem L2 DL
def kindsOf (rs : List MR.Row) : List Str := dist (rs.map (·.kind))
def makersOf (k : Str) (rs : List MR.Row) : List Str := (rs.filter fun r => decide (r.kind = k)).map (·.maker)
def lstD (rs : List MR.Row) (k : Str) : D := .lst ((makersOf k rs).map D.str)
def keys (rs : List MR.Row) : List Key := (kindsOf rs).map Sum.inr
theorem dist_mem {z : Str} (l : List Str) : z ∈ dist l ↔ z ∈ l := by
  refine snoc_ind (C := fun l => z ∈ dist l ↔ z ∈ l) (by simp [dist]) (fun l y ih => ?_) l
  rw [dist_snoc]
  by_cases h : y ∈ dist l
  · rw [if_pos h, ih]
    constructor
    · exact fun m => List.mem_append_left _ m
    · intro m
      rcases List.mem_append.mp m with m | m
      · exact m
      · simp at m; subst m; exact ih.mp h
  · rw [if_neg h, List.mem_append, List.mem_append, ih]
theorem dist_nd (l : List Str) : (dist l).Nodup := by
  refine snoc_ind (C := fun l => (dist l).Nodup) (by simp [dist]) (fun l y ih => ?_) l
  rw [dist_snoc]
  by_cases h : y ∈ dist l
  · rw [if_pos h]; exact ih
  · rw [if_neg h, List.nodup_append]
    refine ⟨ih, by simp, fun a m b m' z => ?_⟩
    simp at m'
    subst m'; subst z
    exact h m
theorem kinds_nd (rs : List MR.Row) : (kindsOf rs).Nodup := dist_nd _
theorem kinds_snoc (rs : List MR.Row) (r : MR.Row) : kindsOf (rs ++ [r]) = if r.kind ∈ kindsOf rs then kindsOf rs else kindsOf rs ++ [r.kind] := by
  unfold kindsOf
  rw [List.map_append]
  exact dist_snoc _ _
theorem makers_snoc (rs : List MR.Row) (r : MR.Row) (k : Str) : makersOf k (rs ++ [r]) = if r.kind = k then makersOf k rs ++ [r.maker] else makersOf k rs := by
  unfold makersOf
  rw [List.filter_append, List.map_append]
  by_cases h : r.kind = k
  · rw [if_pos h]; simp [h]
  · rw [if_neg h]; simp [h]
theorem makers_none {k : Str} {rs : List MR.Row} (h : k ∉ kindsOf rs) : makersOf k rs = [] := by
  unfold makersOf
  rw [List.filter_eq_nil_iff.mpr, List.map_nil]
  intro r m e
  have e := of_decide_eq_true e
  refine h ((dist_mem _).mpr ?_)
  rw [← e]
  exact List.mem_map_of_mem m
theorem lists_new {rs : List MR.Row} {r : MR.Row} (h : r.kind ∉ kindsOf rs) : (kindsOf rs).map (lstD rs) ++ [.lst [.str r.maker]] = (kindsOf (rs ++ [r])).map (lstD (rs ++ [r])) := by
  rw [kinds_snoc, if_neg h, List.map_append]
  congr 1
  · refine List.map_congr_left fun k m => ?_
    unfold lstD
    rw [makers_snoc, if_neg (show ¬ r.kind = k from fun z => h (by rw [z]; exact m))]
  · show _ = [lstD (rs ++ [r]) r.kind]
    unfold lstD
    rw [makers_snoc, if_pos rfl, makers_none h]
    rfl
theorem lists_old {rs : List MR.Row} {r : MR.Row} {q : Nat} (hq : (kindsOf rs)[q]? = some r.kind) : ((kindsOf rs).map (lstD rs)).set q (.lst ((makersOf r.kind rs).map D.str ++ [.str r.maker])) = (kindsOf (rs ++ [r])).map (lstD (rs ++ [r])) := by
  have m : r.kind ∈ kindsOf rs := List.mem_of_getElem? hq
  rw [kinds_snoc, if_pos m]
  apply List.ext_getElem?
  intro i
  by_cases e : q = i
  · subst e
    have hl := (List.getElem?_eq_some_iff.mp hq).1
    rw [List.getElem?_set_self (by rw [List.length_map]; exact hl), List.getElem?_map, hq]
    show _ = some (lstD (rs ++ [r]) r.kind)
    unfold lstD
    rw [makers_snoc, if_pos rfl, List.map_append]
    rfl
  · rw [List.getElem?_set_ne e, List.getElem?_map, List.getElem?_map]
    cases ei : (kindsOf rs)[i]? with
    | none => rfl
    | some k =>
      show some (lstD rs k) = some (lstD (rs ++ [r]) k)
      unfold lstD
      rw [makers_snoc, if_neg]
      intro z
      have nd : (kindsOf rs).Nodup := dist_nd _
      exact e (L2.nd_ix nd hq (z ▸ ei))
theorem val_zip : ∀ {ks : List Str} {ds : List D} {q : Nat} {k : Str}, ks.Nodup → ks[q]? = some k → ks.length = ds.length → valD (zipD (ks.map Sum.inr) ds) (.inr k) = ds[q]?
  | [], _, _, _, _, h, _ => by simp at h
  | _ :: _, [], _, _, _, _, l => by cases l
  | j :: ks, d :: ds, 0, k, _, h, _ => by
    simp at h
    subst h
    show valD ((Sum.inr j, d) :: zipD (ks.map Sum.inr) ds) (.inr j) = some d
    rw [ML.valD_cons, if_pos rfl]
  | j :: ks, d :: ds, q + 1, k, nd, h, l => by
    have h : ks[q]? = some k := by simpa using h
    obtain ⟨n1, n2⟩ := List.nodup_cons.mp nd
    show valD ((Sum.inr j, d) :: zipD (ks.map Sum.inr) ds) (.inr k) = (d :: ds)[q + 1]?
    rw [ML.valD_cons, if_neg (fun z => n1 (by cases z; exact List.mem_of_getElem? h)), val_zip (ds := ds) n2 h (by simpa using l)]
    simp
theorem val_zip_none {k : Str} : ∀ {ks : List Str} {ds : List D}, k ∉ ks → valD (zipD (ks.map Sum.inr) ds) (.inr k) = none
  | [], _, _ => rfl
  | _ :: _, [], _ => rfl
  | j :: ks, d :: ds, h => by
    show valD ((Sum.inr j, d) :: zipD (ks.map Sum.inr) ds) (.inr k) = none
    rw [ML.valD_cons, if_neg (fun z => h (by cases z; exact List.mem_cons_self)), val_zip_none fun m => h (List.mem_cons_of_mem _ m)]
def entsFrom : List MR.Row → List MR.Row → List (Key × D)
  | _, [] => []
  | pre, r :: t => (Sum.inr r.maker, MT.dEnt r.kind (makersOf r.kind pre).length r.parts) :: entsFrom (pre ++ [r]) t
theorem ents_snoc : ∀ (pre rs : List MR.Row) (r : MR.Row), entsFrom pre (rs ++ [r]) = entsFrom pre rs ++ [(Sum.inr r.maker, MT.dEnt r.kind (makersOf r.kind (pre ++ rs)).length r.parts)]
  | pre, [], r => by rw [List.append_nil]; rfl
  | pre, x :: rs, r => by
    show _ :: entsFrom (pre ++ [x]) (rs ++ [r]) = _ :: entsFrom (pre ++ [x]) rs ++ _
    rw [ents_snoc (pre ++ [x]) rs r, List.append_assoc]
    rfl
theorem ents_len : ∀ pre rs : List MR.Row, (entsFrom pre rs).length = rs.length
  | _, [] => rfl
  | pre, x :: rs => congrArg (· + 1) (ents_len (pre ++ [x]) rs)
theorem ents_none {z : Str} : ∀ {pre rs : List MR.Row}, z ∉ rs.map (·.maker) → valD (entsFrom pre rs) (.inr z) = none
  | _, [], _ => rfl
  | pre, x :: rs, h => by
    show valD ((Sum.inr x.maker, _) :: entsFrom (pre ++ [x]) rs) (.inr z) = none
    rw [ML.valD_cons, if_neg (fun q => h (by cases q; exact List.mem_cons_self)), ents_none fun m => h (List.mem_cons_of_mem _ m)]
theorem ents_put {rs : List MR.Row} {r : MR.Row} (h : r.maker ∉ rs.map (·.maker)) : putDk (entsFrom [] rs) (.inr r.maker) (MT.dEnt r.kind (makersOf r.kind rs).length r.parts) = entsFrom [] (rs ++ [r]) := by
  unfold putDk
  rw [ML.any_valD, ents_none h, ents_snoc]
  rfl
theorem nd_le : ∀ {l m : List Str}, l.Nodup → (∀ x ∈ l, x ∈ m) → l.length ≤ m.length
  | [], _, _, _ => Nat.zero_le _
  | x :: l, m, nd, h => by
    obtain ⟨n1, n2⟩ := List.nodup_cons.mp nd
    have hx := h x List.mem_cons_self
    have := nd_le (m := m.erase x) n2 fun y hy => (List.mem_erase_of_ne (show y ≠ x from fun e => n1 (by rw [← e]; exact hy))).mpr (h y (List.mem_cons_of_mem _ hy))
    rw [List.length_erase_of_mem hx] at this
    have : 0 < m.length := List.length_pos_of_mem hx
    show l.length + 1 ≤ _
    omega
theorem kinds_few {nms : List Str} {rows : List MR.Row} (hT : MR.Table nms rows) (i : Nat) : (kindsOf (rows.take i)).length ≤ 3 := by
  refine Nat.le_trans (nd_le (dist_nd _) fun x m => ?_) hT.few
  obtain ⟨r, hr, e⟩ := List.mem_map.mp ((dist_mem _).mp m)
  rw [← e]
  exact hT.some.kind r (List.mem_of_mem_take hr)
theorem isName_of {z : Str} {n : Nat} (h : MN.nameL (MN.tl z) = true ∧ z.length ≤ n) (hn : n ≤ 24) : MN.isName z = true ∧ z.length ≤ 100 := by
  refine ⟨?_, by omega⟩
  unfold MN.isName
  rw [h.1, decide_eq_true (by omega)]
  rfl
theorem maker_new {rows : List MR.Row} {i : Nat} {r : MR.Row} (nd : (rows.map (·.maker)).Nodup) (hr : rows[i]? = some r) : r.maker ∉ (rows.take i).map (·.maker) := fun m => by
  obtain ⟨q, hq, e⟩ := List.mem_map.mp m
  obtain ⟨j, hj, ej⟩ := List.mem_iff_getElem.mp hq
  rw [List.length_take] at hj
  rw [List.getElem_take] at ej
  have h1 : (rows.map (·.maker))[i]? = some r.maker := by rw [List.getElem?_map, hr]; rfl
  have h2 : (rows.map (·.maker))[j]? = some r.maker := by rw [List.getElem?_map, List.getElem?_eq_getElem (by omega), ej, ← e]; rfl
  have := L2.nd_ix nd h1 h2
  omega
theorem at_end {α : Type} (a b c p : α) (l : List α) : ([a, b, c] ++ l ++ [p])[3 + l.length]? = some p := by
  have h : ([a, b, c] ++ l).length = 3 + l.length := by
    rw [List.length_append]
    rfl
  rw [← h, List.getElem?_append_right (Nat.le_refl _), Nat.sub_self]
  rfl
theorem at_end_set {α : Type} (a b c p q : α) (l : List α) : ([a, b, c] ++ l ++ [p]).set (3 + l.length) q = [a, b, c] ++ l ++ [q] := by
  have h : ([a, b, c] ++ l).length = 3 + l.length := by
    rw [List.length_append]
    rfl
  rw [← h, List.set_append_right _ _ (Nat.le_refl _), Nat.sub_self]
  rfl
theorem at_end_erase {α : Type} (a b c p : α) (l : List α) : ([a, b, c] ++ l ++ [p]).eraseIdx (3 + l.length) = [a, b, c] ++ l := by
  have h : ([a, b, c] ++ l).length = 3 + l.length := by
    rw [List.length_append]
    rfl
  rw [← h, List.eraseIdx_append_of_length_le (Nat.le_refl _), Nat.sub_self]
  exact List.append_nil _
theorem kinds_sub {nms : List Str} {rows : List MR.Row} (hT : MR.Table nms rows) {k : Str} (m : k ∈ kindsOf rows) : k ∈ nms := by
  obtain ⟨r, hr, e⟩ := List.mem_map.mp ((dist_mem _).mp m)
  rw [← e]
  exact hT.some.kind r hr
theorem kind_mem {nms : List Str} {rows : List MR.Row} (hT : MR.Table nms rows) {k : Str} (m : k ∈ nms) : k ∈ kindsOf rows := by
  obtain ⟨i, hi, e⟩ := List.mem_iff_getElem.mp m
  obtain ⟨r, hr, er, _⟩ := hT.base i hi
  rw [List.getElem?_eq_getElem hi, e] at er
  cases er
  exact (dist_mem _).mpr (List.mem_map_of_mem hr)
theorem zip_keys : ∀ {ks : List Str} {ds : List D}, ds.length = ks.length → ((zipD (ks.map Sum.inr) ds).map fun kv => kD kv.1) = ks.map D.str
  | [], _, _ => rfl
  | _ :: _, [], l => by cases l
  | k :: ks, d :: ds, l => by
    show kD (.inr k) :: (zipD (ks.map Sum.inr) ds).map _ = _
    rw [zip_keys (by simpa using l)]
    rfl
theorem ents_keys : ∀ pre rs : List MR.Row, ((entsFrom pre rs).map fun kv => kD kv.1) = (rs.map (·.maker)).map D.str
  | _, [] => rfl
  | pre, r :: rs => by
    show kD (.inr r.maker) :: (entsFrom (pre ++ [r]) rs).map _ = _
    rw [ents_keys (pre ++ [r]) rs]
    rfl
theorem all_small {nms : List Str} {rows : List MR.Row} {sds : List (Key × D)} (hT : MR.Table nms rows) (h : ∀ r ∈ rows, (∀ p ∈ r.parts, p.inn = MR.byteS ∨ (valD sds (.inr p.inn)).isSome = true) → (valD sds (.inr r.kind)).isSome = true) :
    ∀ k, k ∈ nms → (valD sds (.inr k)).isSome = true := by
  have main : ∀ (n i : Nat), nms.length - i = n → ∀ k, k ∈ nms.drop i → (valD sds (.inr k)).isSome = true := by
    intro n
    induction n with
    | zero =>
      intro i hi k m
      rw [List.drop_of_length_le (by omega)] at m
      cases m
    | succ n ih =>
      intro i hi k m
      have hlt : i < nms.length := by omega
      rw [List.drop_eq_getElem_cons hlt] at m
      rcases List.mem_cons.mp m with m | m
      · obtain ⟨r, hr, er, hp⟩ := hT.base i hlt
        rw [List.getElem?_eq_getElem hlt, ← m] at er
        cases er
        refine h r hr fun p mp => ?_
        rcases hp p mp with z | z
        · exact .inl z
        · exact .inr (ih (i + 1) (by omega) _ z)
      · exact ih (i + 1) (by omega) k m
  exact fun k m => main nms.length 0 rfl k m
end MI
namespace MI
open PySem L2 DL
theorem ents_app : ∀ (pre a b : List MR.Row), entsFrom pre (a ++ b) = entsFrom pre a ++ entsFrom (pre ++ a) b
  | pre, [], b => by rw [List.append_nil]; rfl
  | pre, x :: a, b => by
    show _ :: entsFrom (pre ++ [x]) (a ++ b) = _ :: entsFrom (pre ++ [x]) a ++ _
    rw [ents_app (pre ++ [x]) a b, List.append_assoc]
    rfl
theorem split_at {rows : List MR.Row} {i : Nat} {r : MR.Row} (hr : rows[i]? = some r) : rows = rows.take i ++ r :: rows.drop (i + 1) := by
  obtain ⟨hi, e⟩ := List.getElem?_eq_some_iff.mp hr
  rw [← e, ← List.drop_eq_getElem_cons hi, List.take_append_drop]
theorem ents_get {rows : List MR.Row} {i : Nat} {r : MR.Row} (nd : (rows.map (·.maker)).Nodup) (hr : rows[i]? = some r) :
    valD (entsFrom [] rows) (.inr r.maker) = some (MT.dEnt r.kind (makersOf r.kind (rows.take i)).length r.parts) := by
  have e := split_at hr
  generalize ea : rows.take i = a at e
  have h1 : r.maker ∉ a.map (·.maker) := by rw [← ea]; exact maker_new nd hr
  rw [e, ents_app, ML.valD_app, ents_none h1]
  show (none : Option D).or (valD ((Sum.inr r.maker, _) :: _) (.inr r.maker)) = _
  rw [ML.valD_cons, if_pos rfl]
  rfl
theorem ents_some {z : Str} : ∀ {pre rs : List MR.Row}, (valD (entsFrom pre rs) (.inr z)).isSome = decide (z ∈ rs.map (·.maker))
  | _, [] => rfl
  | pre, x :: rs => by
    show (valD ((Sum.inr x.maker, _) :: entsFrom (pre ++ [x]) rs) (.inr z)).isSome = _
    rw [ML.valD_cons]
    by_cases h : x.maker = z
    · rw [if_pos (by rw [h])]; simp [h]
    · rw [if_neg (fun q => h (by cases q; rfl)), ents_some]
      have : ¬ z = x.maker := fun q => h q.symm
      simp [this]
theorem makers_len (k : Str) (rows : List MR.Row) : (makersOf k rows).length ≤ rows.length := by
  unfold makersOf
  rw [List.length_map]
  exact List.length_filter_le ..
theorem fam_get {rows : List MR.Row} {k : Str} (m : k ∈ kindsOf rows) : valD (zipD (keys rows) ((kindsOf rows).map (lstD rows))) (.inr k) = some (lstD rows k) := by
  obtain ⟨q, hq⟩ := List.mem_iff_getElem?.mp m
  rw [keys, val_zip (kinds_nd _) hq (by rw [List.length_map]), List.getElem?_map, hq]
  rfl
end MI
namespace ML
open PySem L2 DL
structure Ent where
  maker : Str
  kind : Str
  tag : Nat
  ps : List MR.Part
def entD (e : Ent) : Key × D := (.inr e.maker, MT.dEnt e.kind e.tag e.ps)
structure EntOk (nms : List Str) (e : Ent) : Prop where
  kind : e.kind ∈ nms
  tag : e.tag < 10
  few : e.ps.length ≤ 4
def okP (g : Fnd) (p : MR.Part) : Bool := (p.inn == MR.byteS) || (g p.inn).isSome
def rowP (g : Fnd) (p : MR.Part) : List Int := if p.inn = MR.byteS then [0] else (g p.inn).getD []
def valP (sds : List (Key × D)) (p : MR.Part) : D := if p.inn = MR.byteS then .int 0 else (valD sds (.inr p.inn)).getD .non
def made (g : Fnd) (e : Ent) : List Int := (e.tag : Nat) :: e.ps.flatMap (rowP g)
def madeT (sds : List (Key × D)) (e : Ent) : D := .tup (.str e.maker :: e.ps.map (valP sds))
def lessL (ns ms : List Int) : Bool := if (ns.length : Int) = (ms.length : Int) then HT.lexLt ns ms else decide ((ns.length : Int) < (ms.length : Int))
def LT (es : List Ent) : Nat → Str → D → List Int → Prop
  | 0 => fun _ _ _ => False
  | n + 1 => fun k d ns => ∃ e ∈ es, ∃ (vd : MR.Part → D) (vr : MR.Part → List Int), e.kind = k ∧ d = .tup (.str e.maker :: e.ps.map vd) ∧ ns = ((e.tag : Nat) : Int) :: e.ps.flatMap vr ∧
    ∀ p ∈ e.ps, (p.inn = MR.byteS ∧ vd p = .int 0 ∧ vr p = [0]) ∨ (p.inn ≠ MR.byteS ∧ LT es n p.inn (vd p) (vr p))
theorem LT.up {es : List Ent} : ∀ {n : Nat} {k : Str} {d : D} {ns : List Int}, LT es n k d ns → LT es (n + 1) k d ns
  | 0, _, _, _, h => h.elim
  | n + 1, k, d, ns, h => by
    obtain ⟨e, me, vd, vr, h1, h2, h3, h4⟩ := h
    refine ⟨e, me, vd, vr, h1, h2, h3, fun p m => ?_⟩
    rcases h4 p m with z | z
    · exact .inl z
    · exact .inr ⟨z.1, LT.up z.2⟩
theorem LT.mono {es : List Ent} {n : Nat} {k : Str} {d : D} {ns : List Int} (h : LT es n k d ns) : ∀ {m : Nat}, n ≤ m → LT es m k d ns
  | 0, l => by
    have : n = 0 := by omega
    subst this
    exact h
  | m + 1, l => by
    by_cases e : n = m + 1
    · exact e ▸ h
    · exact LT.up (LT.mono h (m := m) (by omega))
def clT (g : Fnd) (ns : List Int) (k : Str) : Nat := match g k with
  | some ms => if code ms ≤ code ns then 1 else 0
  | none => 0
def cl (nms : List Str) (g : Fnd) (ns : List Int) : Nat := sumf (clT g ns) nms
theorem sumf_mono {f g : Str → Nat} : ∀ {l : List Str}, (∀ k ∈ l, f k ≤ g k) → sumf f l ≤ sumf g l
  | [], _ => Nat.le_refl _
  | k :: r, h => Nat.add_le_add (h k List.mem_cons_self) (sumf_mono fun j m => h j (List.mem_cons_of_mem _ m))
theorem sumf_lt {f g : Str → Nat} {k : Str} : ∀ {l : List Str}, (∀ j ∈ l, f j ≤ g j) → k ∈ l → f k < g k → sumf f l < sumf g l
  | [], _, m, _ => by cases m
  | j :: r, h, m, hk => by
    have h1 := h j List.mem_cons_self
    have h2 := sumf_mono fun i m => h i (List.mem_cons_of_mem j m)
    show f j + sumf f r < g j + sumf g r
    by_cases e : j = k
    · subst e
      omega
    · have := sumf_lt (fun i m => h i (List.mem_cons_of_mem j m)) ((List.mem_cons.mp m).resolve_left fun z => e z.symm) hk
      omega
structure Fin (nms : List Str) (es : List Ent) (g : Fnd) (sds : List (Key × D)) : Prop where
  tr : ∀ k ns, g k = some ns → ∃ d, valD sds (.inr k) = some d ∧ LT es (cl nms g ns) k d ns
theorem Fin.nil {nms : List Str} {es : List Ent} : Fin nms es (fun _ => none) [] := ⟨fun _ _ h => by cases h⟩
theorem code_short {ns ms : List Int} (h : ns.length < ms.length) (d : Dig ns) (l : ns.length ≤ 90) : code ns < code ms := by
  unfold code
  have h4 := Nat.mul_le_mul_right P (show ns.length + 1 ≤ ms.length from h)
  rw [Nat.add_mul, Nat.one_mul] at h4
  have := val_P d l
  omega
theorem made_long {g : Fnd} {e : Ent} {p : MR.Part} (m : p ∈ e.ps) : (rowP g p).length < (made g e).length := by
  unfold made
  rw [List.length_cons]
  have : ∀ {ps : List MR.Part}, p ∈ ps → (rowP g p).length ≤ (ps.flatMap (rowP g)).length := fun {ps} m => by
    induction ps with
    | nil => cases m
    | cons q r ih =>
      rw [List.flatMap_cons, List.length_append]
      rcases List.mem_cons.mp m with rfl | m
      · omega
      · have := ih m
        omega
  have := this m
  omega
theorem Fin.put {nms : List Str} {es : List Ent} {g : Fnd} {sds : List (Key × D)} (h : Fin nms es g sds) {e : Ent} (me : e ∈ es) (mk : e.kind ∈ nms) (hp : ∀ p ∈ e.ps, okP g p = true) (hd : ∀ k ns, g k = some ns → Dig ns ∧ ns.length ≤ 85) (c : ∀ old, g e.kind = some old → code (made g e) < code old) :
    Fin nms es (setG g e.kind (made g e)) (putDk sds (.inr e.kind) (madeT sds e)) := by
  refine ⟨fun k ns hk => ?_⟩
  have hcl : ∀ ms j, clT g ms j ≤ clT (setG g e.kind (made g e)) ms j := fun ms j => by
    unfold clT setG
    by_cases q : j = e.kind
    · subst q
      rw [if_pos rfl]
      cases ho : g e.kind with
      | none => exact Nat.zero_le _
      | some old =>
        have := c old ho
        show (if code old ≤ code ms then 1 else 0) ≤ if code (made g e) ≤ code ms then 1 else 0
        split
        · rw [if_pos (by omega)]
          omega
        · exact Nat.zero_le _
    · rw [if_neg q]
      exact Nat.le_refl _
  by_cases q : k = e.kind
  · subst q
    unfold setG at hk
    rw [if_pos rfl] at hk
    cases hk
    refine ⟨madeT sds e, by rw [valD_put, if_pos rfl], ?_⟩
    have key : ∀ p ∈ e.ps, ∀ ms, p.inn ≠ MR.byteS → g p.inn = some ms → cl nms g ms < cl nms (setG g e.kind (made g e)) (made g e) := fun p mp ms hb hg => by
      obtain ⟨d1, l1⟩ := hd _ _ hg
      have hr : rowP g p = ms := by
        unfold rowP
        rw [if_neg hb, hg]
        rfl
      have hlt : code ms < code (made g e) := code_short (hr ▸ made_long mp) d1 (by omega)
      refine sumf_lt (k := e.kind) (fun j _ => Nat.le_trans ?_ (hcl (made g e) j)) mk ?_
      · unfold clT
        cases g j with
        | none => exact Nat.le_refl _
        | some os =>
          show (if code os ≤ code ms then 1 else 0) ≤ if code os ≤ code (made g e) then 1 else 0
          split
          · rw [if_pos (by omega)]
            omega
          · exact Nat.zero_le _
      · have e1 : clT (setG g e.kind (made g e)) (made g e) e.kind = 1 := by
          unfold clT setG
          rw [if_pos rfl]
          exact if_pos (Nat.le_refl _)
        rw [e1]
        unfold clT
        cases ho : g e.kind with
        | none => exact Nat.zero_lt_one
        | some old =>
          have := c old ho
          show (if code old ≤ code ms then 1 else 0) < 1
          rw [if_neg (by omega)]
          exact Nat.zero_lt_one
    have h1 : 1 ≤ cl nms (setG g e.kind (made g e)) (made g e) := by
      have : sumf (fun _ => 0) nms < cl nms (setG g e.kind (made g e)) (made g e) := sumf_lt (k := e.kind) (fun _ _ => Nat.zero_le _) mk (by
        unfold clT setG
        rw [if_pos rfl]
        show 0 < if code (made g e) ≤ code (made g e) then 1 else 0
        rw [if_pos (Nat.le_refl _)]
        exact Nat.zero_lt_one)
      omega
    obtain ⟨m, hm⟩ : ∃ m, cl nms (setG g e.kind (made g e)) (made g e) = m + 1 := ⟨_, (Nat.sub_add_cancel h1).symm⟩
    rw [hm]
    refine ⟨e, me, valP sds, rowP g, rfl, rfl, rfl, fun p mp => ?_⟩
    by_cases hb : p.inn = MR.byteS
    · exact .inl ⟨hb, if_pos hb, if_pos hb⟩
    · refine .inr ⟨hb, ?_⟩
      have hs : (g p.inn).isSome = true := by
        have := hp p mp
        unfold okP at this
        rw [beq_eq_false_iff_ne.mpr hb, Bool.false_or] at this
        exact this
      obtain ⟨ms, hg⟩ := Option.isSome_iff_exists.mp hs
      obtain ⟨d, h2, h3⟩ := h.tr _ _ hg
      have := key p mp ms hb hg
      have e1 : valP sds p = d := by
        unfold valP
        rw [if_neg hb, h2]
        rfl
      have e2 : rowP g p = ms := by
        unfold rowP
        rw [if_neg hb, hg]
        rfl
      rw [e1, e2]
      exact h3.mono (by omega)
  · unfold setG at hk
    rw [if_neg q] at hk
    obtain ⟨d, h2, h3⟩ := h.tr k ns hk
    refine ⟨d, ?_, h3.mono (sumf_mono fun j _ => hcl ns j)⟩
    rw [valD_put, if_neg fun z => q (Sum.inr.inj z)]
    exact h2
def Closed (es : List Ent) (g : Fnd) : Prop := ∀ e ∈ es, (∀ p ∈ e.ps, okP g p = true) → ∃ old, g e.kind = some old ∧ lessL (made g e) old = false
structure Done (nms : List Str) (es : List Ent) (g : Fnd) (sds : List (Key × D)) : Prop where
  fin : Fin nms es g sds
  closed : Closed es g
  small : ∀ k, (valD sds (.inr k)).isSome = (g k).isSome
  dig : ∀ k ns, g k = some ns → Dig ns ∧ ns.length ≤ 85
end ML
namespace MI
open PySem L2 DL
def LeastOk (rows : List MR.Row) (sds : List (Key × D)) : Prop := ∃ (nms : List Str) (es : List ML.Ent) (g : ML.Fnd), es.map ML.entD = entsFrom [] rows ∧ nms.length ≤ 3 ∧ (∀ e ∈ es, ML.EntOk nms e) ∧ ML.Done nms es g sds ∧ ∀ k ∈ nms, (g k).isSome = true
end MI
namespace MI
open PySem PySem.Spec PyProof.Rows L2 DL
section
variable {L as : List Addr} {O : List D} {k : List Addr → D → List D → Prop} {K : PySem.W.Frag}
theorem row0 (r : MR.Row) (z : k as (.str r.kind) O) : rv (rIxT K) L as O (MR.dRow r) (.int 0) k := rv_ixT rfl z
theorem row1 (r : MR.Row) (z : k as (.str r.maker) O) : rv (rIxT K) L as O (MR.dRow r) (.int 1) k := rv_ixT rfl z
theorem row2 (r : MR.Row) (z : k as (.tup (r.parts.map MR.dPart)) O) : rv (rIxT K) L as O (MR.dRow r) (.int 2) k := rv_ixT rfl z
theorem par0 (p : MR.Part) (z : k as (.str p.nm) O) : rv (rIxT K) L as O (MR.dPart p) (.int 0) k := rv_ixT (by cases p.pr <;> rfl) z
theorem par1 (p : MR.Part) (z : k as (.str p.inn) O) : rv (rIxT K) L as O (MR.dPart p) (.int 1) k := rv_ixT (by cases p.pr <;> rfl) z
end
def PartsOk (tds : List (Key × D)) : Prop := ∀ z kind tag ps, valD tds (.inr z) = some (MT.dEnt kind tag ps) → ∀ p ∈ ps, (p.inn = MR.byteS ∧ p.pr = none) ∨ (p.inn ≠ MR.byteS ∧ ∃ i, p.pr = some i)
theorem dPart_inj {p q : MR.Part} (h : MR.dPart p = MR.dPart q) : p = q := by
  obtain ⟨a, b, c⟩ := p
  obtain ⟨a', b', c'⟩ := q
  unfold MR.dPart at h
  simp only [D.tup.injEq, List.cons.injEq, D.str.injEq] at h
  obtain ⟨rfl, rfl, h⟩ := h
  cases c <;> cases c' <;> simp_all
theorem dParts_inj : ∀ {ps qs : List MR.Part}, ps.map MR.dPart = qs.map MR.dPart → ps = qs
  | [], [], _ => rfl
  | [], _ :: _, h => by cases h
  | _ :: _, [], h => by cases h
  | p :: ps, q :: qs, h => by
    rw [List.map_cons, List.map_cons, List.cons.injEq] at h
    rw [dPart_inj h.1, dParts_inj h.2]
theorem dEnt_inj {k k' : Str} {t t' : Nat} {ps qs : List MR.Part} (h : MT.dEnt k t ps = MT.dEnt k' t' qs) : k = k' ∧ t = t' ∧ ps = qs := by
  unfold MT.dEnt at h
  simp only [D.tup.injEq, List.cons.injEq, D.str.injEq, D.int.injEq, and_true] at h
  exact ⟨h.1, by omega, dParts_inj h.2.2⟩
theorem ents_from : ∀ {pre rs : List MR.Row} {z : Str} {d : D}, valD (entsFrom pre rs) (.inr z) = some d → ∃ r ∈ rs, ∃ tag, d = MT.dEnt r.kind tag r.parts
  | _, [], _, _, h => by cases h
  | pre, x :: rs, z, d, h => by
    have h : valD ((Sum.inr x.maker, MT.dEnt x.kind (makersOf x.kind pre).length x.parts) :: entsFrom (pre ++ [x]) rs) (.inr z) = some d := h
    rw [ML.valD_cons] at h
    by_cases q : (Sum.inr x.maker : Key) = .inr z
    · rw [if_pos q] at h
      cases h
      exact ⟨x, List.mem_cons_self, _, rfl⟩
    · rw [if_neg q] at h
      obtain ⟨r, m, tag, e⟩ := ents_from h
      exact ⟨r, List.mem_cons_of_mem _ m, tag, e⟩
structure Tabl (K : PySem.W.Frag) (rows : List MR.Row) (t : Addr) (tds fds sds : List (Key × D)) : Prop where
  get : ∀ i r, rows[i]? = some r → valD tds (.inr r.maker) = some (MT.dEnt r.kind (makersOf r.kind (rows.take i)).length r.parts)
  mem : ∀ z, (valD tds (.inr z)).isSome = decide (z ∈ rows.map (·.maker))
  fam : ∀ z, z ∈ kindsOf rows → valD fds (.inr z) = some (lstD rows z)
  nofam : ∀ z, z ∉ kindsOf rows → valD fds (.inr z) = none
  ok : PartsOk tds
  least : LeastOk rows sds
def tabD (K : PySem.W.Frag) (rows : List MR.Row) (t : Addr) (tds fds sds : List (Key × D)) : D := .ins (He.ga K "Kinds") (MT.tabF (.ldk t tds) (.dk fds) (.tup ((kindsOf rows).map D.str)) (.tup ((rows.map (·.maker)).map D.str)) (.dk sds))
theorem Tabl.none {K : PySem.W.Frag} {rows : List MR.Row} {t : Addr} {tds fds sds : List (Key × D)} (h : Tabl K rows t tds fds sds) {z : Str} (hz : z ∉ rows.map (·.maker)) : valD tds (.inr z) = none := by
  have := h.mem z
  rw [decide_eq_false hz] at this
  cases e : valD tds (.inr z) with
  | none => rfl
  | some d => rw [e] at this; cases this
theorem tabl_of {K : PySem.W.Frag} {nms : List Str} {rows : List MR.Row} (hT : MR.Table nms rows) (t : Addr) (sds : List (Key × D)) (hl : LeastOk rows sds) : Tabl K rows t (entsFrom [] rows) (zipD (keys rows) ((kindsOf rows).map (lstD rows))) sds where
  get := fun i r => ents_get hT.some.nd
  mem := fun z => ents_some
  fam := fun z => fam_get
  nofam := fun z hz => val_zip_none hz
  ok := fun z kind tag ps h p mp => by
    obtain ⟨r, mr, tag', e⟩ := ents_from h
    obtain ⟨_, _, rfl⟩ := dEnt_inj e
    obtain ⟨b, hd⟩ := hT.some.parts r mr
    rcases hd.ok p mp with q | ⟨q, i, e, _⟩
    · exact .inl q
    · exact .inr ⟨fun e => hT.names.byte (e ▸ q), i, e⟩
  least := hl
theorem tabD_self {K : PySem.W.Frag} {rows : List MR.Row} {t : Addr} {tds fds sds : List (Key × D)} : MT.Self K (tabD K rows t tds fds sds) tds := ⟨_, _, _, _, _, rfl, .inl (.inr ⟨_, rfl⟩)⟩
end MI
namespace MY
open PySem PySem.Spec PyProof.Rows L2 DL
abbrev le (a b : Str) : Prop := ltCps b.cps.toList a.cps.toList = false
def plusS : Str := "+"
theorem okc_all {z : Str} (h : MN.nameL (MN.tl z) = true) : (MN.tl z).all MN.okc = true := by
  cases e : MN.tl z with
  | nil => rfl
  | cons c r =>
    rw [e] at h
    have h : (decide (c ∈ MN.tl MN.letS) && r.all MN.okc) = true := h
    rw [Bool.and_eq_true] at h
    rw [List.all_cons, h.2, MN.let_okc h.1]
    rfl
theorem okc_lt {c : Nat} (h : MN.okc c = true) : c < 0x110000 ∧ c ≠ 46 ∧ c ≠ 43 := by
  unfold MN.okc at h
  rw [Bool.or_eq_true, decide_eq_true_eq, decide_eq_true_eq] at h
  have h1 : ∀ c ∈ MN.tl MN.letS, c < 0x110000 ∧ c ≠ 46 ∧ c ≠ 43 := by decide +kernel
  have h2 : ∀ c ∈ MN.tl MN.digS, c < 0x110000 ∧ c ≠ 46 ∧ c ≠ 43 := by decide +kernel
  exact h.elim (h1 c) (h2 c)
theorem ok_tl {z : Str} (h : ∀ c ∈ MN.tl z, c < 0x110000) : PyData.strOk z = true := by
  show z.cps.all (· < 0x110000) = true
  rw [← Array.all_toList, List.all_eq_true]
  exact fun c m => decide_eq_true (h c m)
theorem name_ok {z : Str} (h : MN.nameL (MN.tl z) = true) : PyData.strOk z = true := ok_tl fun c m => (okc_lt (List.all_eq_true.mp (okc_all h) c m)).1
def slotS (p : MR.Part) (b : Bool) : Str := if b then plusS ++ p.nm else p.nm
def SpecOk (ps : List MR.Part) (zs : List Str) : Prop := ∃ xs : List (MR.Part × Bool), (xs.map (·.1)).Perm ps ∧ (∀ x ∈ xs, x.2 = true → x.1.inn ≠ MR.byteS) ∧ zs = xs.map fun x => slotS x.1 x.2
theorem SpecOk.len {ps : List MR.Part} {zs : List Str} (h : SpecOk ps zs) : zs.length = ps.length := by
  obtain ⟨xs, hp, _, rfl⟩ := h
  rw [List.length_map, ← hp.length_eq, List.length_map]
theorem perm_erase {α : Type} : ∀ {l : List α} {i : Nat} (h : i < l.length), (l[i] :: l.eraseIdx i).Perm l
  | _ :: _, 0, _ => .refl _
  | x :: r, i + 1, h => by
    have h' : i < r.length := by simpa using h
    show (r[i] :: x :: r.eraseIdx i).Perm (x :: r)
    exact (List.Perm.swap x r[i] _).trans ((perm_erase h').cons x)
def hidD (rows : List MR.Row) (h : Str → List MR.Part) : List (Key × D) := rows.map fun r => (.inr r.maker, .lst ((h r.maker).map MR.dPart))
theorem perm_map {α β : Type} {f : α → β} (hf : ∀ x y, f x = f y → x = y) : ∀ {fs : List β} {ps : List α}, fs.Perm (ps.map f) → ∃ qs : List α, fs = qs.map f ∧ qs.Perm ps := fun {fs ps} h => by
  have key : ∀ {fs gs : List β}, fs.Perm gs → ∀ ps, gs = List.map f ps → ∃ qs : List α, fs = List.map f qs ∧ qs.Perm ps := by
    intro fs gs h
    induction h with
    | nil => exact fun ps e => ⟨ps, e, .refl _⟩
    | cons x _ ih =>
      intro ps e
      cases ps with
      | nil => cases e
      | cons p r =>
        rw [List.map_cons, List.cons.injEq] at e
        obtain ⟨qs, e1, p1⟩ := ih r e.2
        exact ⟨p :: qs, by rw [List.map_cons, e.1, e1], p1.cons p⟩
    | swap x y l =>
      intro ps e
      cases ps with
      | nil => cases e
      | cons p t =>
        cases t with
        | nil => simp at e
        | cons q r =>
          rw [List.map_cons, List.map_cons, List.cons.injEq, List.cons.injEq] at e
          exact ⟨q :: p :: r, by rw [List.map_cons, List.map_cons, e.1, e.2.1, e.2.2], List.Perm.swap p q r⟩
    | trans _ _ ih1 ih2 =>
      intro ps e
      obtain ⟨qs, e1, p1⟩ := ih2 ps e
      obtain ⟨rs, e2, p2⟩ := ih1 qs e1
      exact ⟨rs, e2, p2.trans p1⟩
  exact key h ps rfl
theorem put_new {β : Type} {rows : List MR.Row} {i : Nat} {r : MR.Row} (nd : (rows.map (·.maker)).Nodup) (hr : rows[i]? = some r) (g : MR.Row → D) (y : D) : putDk ((rows.take i).map fun r => ((.inr r.maker : Key), g r)) (.inr r.maker) y = ((rows.take i).map fun r => ((.inr r.maker : Key), g r)) ++ [(.inr r.maker, y)] := by
  unfold putDk
  rw [if_neg]
  rw [List.any_eq_true]
  rintro ⟨kv, m, e⟩
  obtain ⟨r', m', rfl⟩ := List.mem_map.mp m
  have e : r'.maker = r.maker := by simpa using e
  obtain ⟨j, hj⟩ := List.mem_iff_getElem?.mp m'
  have hjl : j < (rows.take i).length := (List.getElem?_eq_some_iff.mp hj).1
  have hji : j < i := by rw [List.length_take] at hjl; omega
  rw [List.getElem?_take_of_lt hji] at hj
  have h1 : (rows.map (·.maker))[j]? = some r.maker := by rw [List.getElem?_map, hj, ← e]; rfl
  have h2 : (rows.map (·.maker))[i]? = some r.maker := by rw [List.getElem?_map, hr]; rfl
  have := L2.nd_ix nd h1 h2
  omega
theorem new_maker {rows : List MR.Row} {i : Nat} {r r' : MR.Row} (nd : (rows.map (·.maker)).Nodup) (hr : rows[i]? = some r) (m : r' ∈ rows.take i) : r'.maker ≠ r.maker := fun e => by
  obtain ⟨j, hj⟩ := List.mem_iff_getElem?.mp m
  have hjl : j < (rows.take i).length := (List.getElem?_eq_some_iff.mp hj).1
  have hji : j < i := by rw [List.length_take] at hjl; omega
  rw [List.getElem?_take_of_lt hji] at hj
  have h1 : (rows.map (·.maker))[j]? = some r.maker := by rw [List.getElem?_map, hj, ← e]; rfl
  have h2 : (rows.map (·.maker))[i]? = some r.maker := by rw [List.getElem?_map, hr]; rfl
  have := L2.nd_ix nd h1 h2
  omega
theorem val_hid {rows : List MR.Row} {h : Str → List MR.Part} (nd : (rows.map (·.maker)).Nodup) {r : MR.Row} (m : r ∈ rows) : valD (hidD rows h) (.inr r.maker) = some (.lst ((h r.maker).map MR.dPart)) := by
  induction rows with
  | nil => cases m
  | cons x t ih =>
    rw [List.map_cons, List.nodup_cons] at nd
    show valD ((Sum.inr x.maker, _) :: hidD t h) _ = _
    rw [ML.valD_cons]
    by_cases q : x.maker = r.maker
    · rw [if_pos (by rw [q]), q]
    · rw [if_neg (fun e => q (Sum.inr.inj e))]
      exact ih nd.2 ((List.mem_cons.mp m).resolve_left fun e => q (by rw [e]))
end MY
namespace MF
open PySem PySem.Spec PyProof.Rows L2 DL
inductive Sm where
  | read (p : Str) | call (f p : Str) | say (n : Int)
inductive Bd where
  | fin (ss : List Sm) | br (ss : List Sm) (p : Str) (b : Int) (x y : Bd)
def readS : Str := "read"
def callS : Str := "call"
def sayS : Str := "say"
def ifS : Str := "if"
@[reducible] def dSm : Sm → D
  | .read p => .tup [.str readS, .str p]
  | .call f p => .tup [.str callS, .str f, .str p]
  | .say n => .tup [.str sayS, .int n]
@[reducible] def brD (p : Str) (b : Int) (x y : List D) : D := .tup [.str ifS, .str p, .int b, .tup x, .tup y]
def dSt : Bd → List D
  | .fin ss => ss.map dSm
  | .br ss p b x y => ss.map dSm ++ [brD p b (dSt x) (dSt y)]
def dBd (b : Bd) : D := .tup (dSt b)
def Bd.ss : Bd → List Sm
  | .fin ss => ss
  | .br ss _ _ _ _ => ss
def Bd.dp : Bd → Nat
  | .fin _ => 1
  | .br _ _ _ x y => 1 + max x.dp y.dp
def askS : Sm → List Str
  | .read p => [p]
  | .call _ p => [p]
  | .say _ => []
def asks (ss : List Sm) : List Str := ss.flatMap askS
structure Tr where
  part : Str
  fn : Str
  low : Int
deriving DecidableEq
def trS : Sm → List Tr
  | .read p => [⟨p, "", 0⟩]
  | .call f p => [⟨p, f, 0⟩]
  | .say _ => []
def trs (ss : List Sm) : List Tr := ss.flatMap trS
def callS1 : Sm → List (Str × Str)
  | .call f p => [(f, p)]
  | _ => []
def calls : Bd → List (Str × Str)
  | .fin ss => ss.flatMap callS1
  | .br ss _ _ x y => ss.flatMap callS1 ++ calls x ++ calls y
inductive Sz : Nat → Bd → Prop
  | fin {n : Nat} {ss : List Sm} : ss.length ≤ 12 → Sz (n + 1) (.fin ss)
  | br {n : Nat} {ss : List Sm} {p : Str} {b : Int} {x y : Bd} : ss.length ≤ 11 → Sz n x → Sz n y → Sz (n + 1) (.br ss p b x y)
theorem flat_len {α β : Type} {f : α → List β} (h : ∀ x, (f x).length ≤ 1) : ∀ l : List α, (l.flatMap f).length ≤ l.length
  | [] => Nat.le_refl _
  | x :: r => by
    rw [List.flatMap_cons, List.length_append, List.length_cons]
    have := h x
    have := flat_len h r
    omega
theorem calls_len1 (ss : List Sm) : (ss.flatMap callS1).length ≤ ss.length := flat_len (fun x => by cases x <;> simp [callS1]) ss
theorem Sz.calls_len {n : Nat} {b : Bd} (h : Sz n b) : (calls b).length + 12 ≤ 12 * 2 ^ n := by
  induction h with
  | @fin n ss hs =>
    have := calls_len1 ss
    have : 1 ≤ 2 ^ n := Nat.one_le_two_pow
    show (ss.flatMap callS1).length + 12 ≤ _
    rw [Nat.pow_succ]
    omega
  | @br n ss p b x y hs hx hy ih1 ih2 =>
    have := calls_len1 ss
    show (ss.flatMap callS1 ++ calls x ++ calls y).length + 12 ≤ _
    rw [List.length_append, List.length_append, Nat.pow_succ]
    omega
theorem Sz.len {n : Nat} {b : Bd} (h : Sz n b) : (dSt b).length ≤ 12 := by
  cases h with
  | fin h => simpa [dSt] using h
  | br h _ _ => simp [dSt]; omega
theorem Sz.dp {n : Nat} {b : Bd} (h : Sz n b) : b.dp ≤ n := by
  induction h with
  | fin _ => show 1 ≤ _; omega
  | br _ _ _ ih1 ih2 => show 1 + max _ _ ≤ _; omega
def okSm (ps : List MR.Part) (hd : List (Str × Str)) : Sm → Prop
  | .read p => ∃ q ∈ ps, q.nm = p ∧ q.inn = MR.byteS
  | .call f p => ∃ q ∈ ps, q.nm = p ∧ q.inn ≠ MR.byteS ∧ (f, q.inn) ∈ hd
  | .say n => 0 ≤ n ∧ n ≤ 1000
structure OkSs (ps : List MR.Part) (hd : List (Str × Str)) (a : List Str) (ss : List Sm) : Prop where
  ok : ∀ s ∈ ss, okSm ps hd s
  nd : (a ++ asks ss).Nodup
def Wf (ps : List MR.Part) (hd : List (Str × Str)) : List Str → Bd → Prop
  | a, .fin ss => OkSs ps hd a ss
  | a, .br ss p b x y => OkSs ps hd a ss ∧ (∃ q ∈ ps, q.nm = p ∧ q.inn = MR.byteS) ∧ p ∉ a ++ asks ss ∧ 1 ≤ b ∧ b ≤ 255 ∧ Wf ps hd (a ++ asks ss ++ [p]) x ∧ Wf ps hd (a ++ asks ss ++ [p]) y
theorem Wf.nd {ps : List MR.Part} {hd : List (Str × Str)} {a : List Str} {b : Bd} (h : Wf ps hd a b) : OkSs ps hd a b.ss := by
  cases b with
  | fin ss => exact h
  | br ss p b x y => exact h.1
theorem asks_app (s t : List Sm) : asks (s ++ t) = asks s ++ asks t := List.flatMap_append
structure Fn where
  name : Str
  kind : Str
  fold : Str
  ad : Addr
  bodies : List (Str × Bd)
def bdsD (bs : List (Str × Bd)) : List (Key × D) := bs.map fun p => (.inr p.1, dBd p.2)
@[reducible] def dFn (f : Fn) : D := .tup [.str f.name, .str f.kind, .str f.fold, .ldk f.ad (bdsD f.bodies)]
structure Hd where
  name : Str
  kind : Str
  fold : Str
@[reducible] def dHd (h : Hd) : D := .tup [.str h.name, .str h.kind, .str h.fold]
def sigs (fs : List Fn) : List (Str × Str) := fs.map fun f => (f.name, f.kind)
theorem bdsD_len (bs : List (Str × Bd)) : (bdsD bs).length = bs.length := List.length_map ..
theorem val_bds : ∀ (bs : List (Str × Bd)) (m : Str), valD (bdsD bs) (.inr m) = (bs.lookup m).map dBd
  | [], m => rfl
  | (x, b) :: r, m => by
    have ih := val_bds r m
    unfold bdsD valD at *
    rw [List.map_cons, List.find?_cons, List.lookup_cons]
    by_cases h : m = x
    · subst h
      simp
    · have h1 : (m == x) = false := by simp [h]
      have h2 : decide ((Sum.inr x : Key) = .inr m) = false := by
        rw [decide_eq_false_iff_not]
        exact fun e => h (Sum.inr.inj e).symm
      rw [h1]
      simp only [h2]
      exact ih
inductive St where
  | sm (s : Sm) | br (p : Str) (b : Int) (x y : Bd)
@[reducible] def dS1 : St → D
  | .sm s => dSm s
  | .br p b x y => brD p b (dSt x) (dSt y)
def Bd.sts : Bd → List St
  | .fin ss => ss.map .sm
  | .br ss p b x y => ss.map .sm ++ [.br p b x y]
theorem dSt_eq : ∀ b : Bd, dSt b = b.sts.map dS1
  | .fin ss => by show ss.map dSm = (ss.map St.sm).map dS1; rw [List.map_map]; rfl
  | .br ss p b x y => by
    show ss.map dSm ++ [brD p b (dSt x) (dSt y)] = (ss.map St.sm ++ [St.br p b x y]).map dS1
    rw [List.map_append, List.map_map]
    rfl
theorem dBd_eq (b : Bd) : dBd b = .tup (b.sts.map dS1) := by unfold dBd; rw [dSt_eq]
theorem st_at {b : Bd} {i : Nat} {c : D} (h : (dSt b)[i]? = some c) : ∃ st, b.sts[i]? = some st ∧ c = dS1 st := by
  rw [dSt_eq, List.getElem?_map] at h
  obtain ⟨st, h1, h2⟩ := Option.map_eq_some_iff.mp h
  exact ⟨st, h1, h2.symm⟩
theorem tk {α : Type} {xs : List α} {i : Nat} {x : α} (h : xs[i]? = some x) : xs.take (i + 1) = xs.take i ++ [x] := by rw [List.take_add_one, h]; rfl
theorem Sz.sub {n : Nat} {b : Bd} {p : Str} {c : Int} {x y : Bd} (h : Sz n b) (m : St.br p c x y ∈ b.sts) : ∃ m, n = m + 2 ∧ Sz (m + 1) x ∧ Sz (m + 1) y := by
  cases h with
  | fin _ =>
    obtain ⟨s, _, e⟩ := List.mem_map.mp m
    cases e
  | br _ h1 h2 =>
    rcases List.mem_append.mp m with m | m
    · obtain ⟨s, _, e⟩ := List.mem_map.mp m
      cases e
    · cases List.mem_singleton.mp m
      cases h1 with
      | fin h => exact ⟨_, rfl, .fin h, h2⟩
      | br a b c => exact ⟨_, rfl, .br a b c, h2⟩
theorem Sz.pos {n : Nat} {b : Bd} (h : Sz n b) : ∃ m, n = m + 1 := by cases h <;> exact ⟨_, rfl⟩
def callsSt : St → List (Str × Str)
  | .sm s => callS1 s
  | .br _ _ x y => calls x ++ calls y
theorem calls_sts (b : Bd) : calls b = b.sts.flatMap callsSt := by
  cases b with
  | fin ss => show ss.flatMap callS1 = (ss.map St.sm).flatMap callsSt; rw [List.flatMap_map]; rfl
  | br ss p b x y =>
    show ss.flatMap callS1 ++ calls x ++ calls y = (ss.map St.sm ++ [St.br p b x y]).flatMap callsSt
    rw [List.flatMap_append, List.flatMap_map]
    simp [callsSt]
theorem flat_take {α β : Type} (f : α → List β) (xs : List α) (i : Nat) : ((xs.take i).flatMap f).length ≤ (xs.flatMap f).length := by
  conv => rhs; rw [← List.take_append_drop i xs, List.flatMap_append, List.length_append]
  omega
@[reducible] def dPr (p : Str × Str) : D := .tup [.str p.1, .str p.2]
theorem e_rc : eqD (.str readS) (.str "call") = false := by decide +kernel
theorem e_ri : eqD (.str readS) (.str "if") = false := by decide +kernel
theorem e_rs : eqD (.str readS) (.str "say") = false := by decide +kernel
theorem e_cc : eqD (.str callS) (.str "call") = true := by decide +kernel
theorem e_ci : eqD (.str callS) (.str "if") = false := by decide +kernel
theorem e_cs : eqD (.str callS) (.str "say") = false := by decide +kernel
theorem e_sc : eqD (.str sayS) (.str "call") = false := by decide +kernel
theorem e_si : eqD (.str sayS) (.str "if") = false := by decide +kernel
theorem e_ss : eqD (.str sayS) (.str "say") = true := by decide +kernel
theorem e_ic : eqD (.str ifS) (.str "call") = false := by decide +kernel
theorem e_ii : eqD (.str ifS) (.str "if") = true := by decide +kernel
theorem e_is : eqD (.str ifS) (.str "say") = false := by decide +kernel
theorem mem_tk {α : Type} {P : α → Prop} {xs : List α} {i : Nat} {x : α} (h : xs[i]? = some x) (hp : ∀ y ∈ xs.take i, P y) (hx : P x) : ∀ y ∈ xs.take (i + 1), P y := by
  rw [tk h]
  intro y m
  rcases List.mem_append.mp m with m | m
  · exact hp y m
  · rw [List.mem_singleton.mp m]; exact hx
def askSt : St → List Str
  | .sm s => askS s
  | .br p _ _ _ => [p]
theorem e_bb : eqD (.str MR.byteS) (.str "byte") = true := by decide +kernel
theorem e_nb {z : Str} (h : z ≠ MR.byteS) : eqD (.str z) (.str "byte") = false := by show (z == MR.byteS) = false; simp [h]
end MF
namespace MF
open PySem PySem.Spec PyProof.Rows L2 DL
def bdsOf (rows : List MR.Row) (k : Str) (bd : Str → Bd) : List (Str × Bd) := (MI.makersOf k rows).map fun m => (m, bd m)
structure Table (rows : List MR.Row) (fs : List Fn) : Prop where
  ne : fs ≠ []
  few : fs.length ≤ 6
  nd : (fs.map (·.name)).Nodup
  name : ∀ f ∈ fs, MN.nameL (MN.tl f.name) = true ∧ f.name.length ≤ 11
  kind : ∀ f ∈ fs, f.kind ∈ MI.kindsOf rows
  fold : ∀ f ∈ fs, f.fold = "sum" ∨ f.fold = "max"
  body : ∀ f ∈ fs, ∃ bd, f.bodies = bdsOf rows f.kind bd ∧ ∀ r ∈ rows, r.kind = f.kind → Wf r.parts (sigs fs) [] (bd r.maker) ∧ Sz 3 (bd r.maker)
def core (f : Fn) : Str × Str × Str × List (Str × Bd) := (f.name, f.kind, f.fold, f.bodies)
theorem core_names {fs gs : List Fn} (h : gs.map core = fs.map core) : gs.map (·.name) = fs.map (·.name) := by
  have := congrArg (List.map (·.1)) h
  rw [List.map_map, List.map_map] at this
  exact this
theorem core_sigs {fs gs : List Fn} (h : gs.map core = fs.map core) : sigs gs = sigs fs := by
  have := congrArg (List.map fun c : Str × Str × Str × List (Str × Bd) => (c.1, c.2.1)) h
  rw [List.map_map, List.map_map] at this
  exact this
theorem core_mem {fs gs : List Fn} (h : gs.map core = fs.map core) {g : Fn} (m : g ∈ gs) : ∃ f ∈ fs, core g = core f := by
  have : core g ∈ fs.map core := h ▸ List.mem_map_of_mem m
  obtain ⟨f, mf, e⟩ := List.mem_map.mp this
  exact ⟨f, mf, e.symm⟩
theorem core_len {fs gs : List Fn} (h : gs.map core = fs.map core) : gs.length = fs.length := by
  have := congrArg List.length h
  rwa [List.length_map, List.length_map] at this
theorem Table.core {rows : List MR.Row} {fs gs : List Fn} (h : Table rows fs) (e : gs.map core = fs.map core) : Table rows gs := by
  have key : ∀ {P : Fn → Prop} {Q : Str × Str × Str × List (Str × Bd) → Prop}, (∀ f, P f ↔ Q (MF.core f)) → (∀ f ∈ fs, P f) → ∀ g ∈ gs, P g := fun hq hp g m => by
    obtain ⟨f, mf, ef⟩ := core_mem e m
    rw [hq, ef, ← hq]
    exact hp f mf
  refine ⟨?_, by rw [core_len e]; exact h.few, by rw [core_names e]; exact h.nd, ?_, ?_, ?_, ?_⟩
  · intro z
    subst z
    have := core_len e
    exact h.ne (List.length_eq_zero_iff.mp this.symm)
  · exact key (Q := fun c => MN.nameL (MN.tl c.1) = true ∧ c.1.length ≤ 11) (fun _ => Iff.rfl) h.name
  · exact key (Q := fun c => c.2.1 ∈ MI.kindsOf rows) (fun _ => Iff.rfl) h.kind
  · exact key (Q := fun c => c.2.2.1 = "sum" ∨ c.2.2.1 = "max") (fun _ => Iff.rfl) h.fold
  · rw [core_sigs e]
    exact key (Q := fun c => ∃ bd, c.2.2.2 = bdsOf rows c.2.1 bd ∧ ∀ r ∈ rows, r.kind = c.2.1 → Wf r.parts (sigs fs) [] (bd r.maker) ∧ Sz 3 (bd r.maker)) (fun _ => Iff.rfl) h.body
@[reducible] def dFe (f : Fn) : D := .tup [.str f.kind, .str f.fold, .ldk f.ad (bdsD f.bodies)]
def ftab (gs : List Fn) : List (Key × D) := gs.map fun f => (.inr f.name, dFe f)
theorem ftab_snoc {gs : List Fn} {f : Fn} (h : f.name ∉ gs.map (·.name)) : putDk (ftab gs) (.inr f.name) (dFe f) = ftab (gs ++ [f]) := by
  unfold putDk
  have : ((ftab gs).any fun kv => decide (kv.1 = .inr f.name)) = false := by
    rw [List.any_eq_false]
    intro x m e
    obtain ⟨g, mg, rfl⟩ := List.mem_map.mp m
    have := Sum.inr.inj (of_decide_eq_true e)
    exact h (this ▸ List.mem_map_of_mem mg)
  rw [this]
  simp [ftab]
theorem mem_makers {rows : List MR.Row} {k m : Str} : m ∈ MI.makersOf k rows ↔ ∃ r ∈ rows, r.kind = k ∧ r.maker = m := by
  unfold MI.makersOf
  rw [List.mem_map]
  constructor
  · rintro ⟨r, mr, e⟩
    rw [List.mem_filter] at mr
    exact ⟨r, mr.1, of_decide_eq_true mr.2, e⟩
  · rintro ⟨r, mr, e1, e2⟩
    exact ⟨r, List.mem_filter.mpr ⟨mr, decide_eq_true e1⟩, e2⟩
theorem okSs_calls {ps : List MR.Part} {hd : List (Str × Str)} {a : List Str} {ss : List Sm} (h : OkSs ps hd a ss) : ∀ c ∈ ss.flatMap callS1, ∃ q ∈ ps, q.nm = c.2 ∧ q.inn ≠ MR.byteS ∧ (c.1, q.inn) ∈ hd := by
  intro c m
  obtain ⟨s, ms, mc⟩ := List.mem_flatMap.mp m
  have hs := h.ok s ms
  cases s with
  | read p => cases mc
  | say n => cases mc
  | call f p =>
    cases List.mem_singleton.mp mc
    exact hs
theorem wf_calls {ps : List MR.Part} {hd : List (Str × Str)} : ∀ {b : Bd} {a : List Str}, Wf ps hd a b → ∀ c ∈ calls b, ∃ q ∈ ps, q.nm = c.2 ∧ q.inn ≠ MR.byteS ∧ (c.1, q.inn) ∈ hd
  | .fin ss, a, h, c, m => okSs_calls h c m
  | .br ss p v x y, a, h, c, m => by
    obtain ⟨h1, _, _, _, _, h6, h7⟩ := h
    rcases List.mem_append.mp m with m | m
    · rcases List.mem_append.mp m with m | m
      · exact okSs_calls h1 c m
      · exact wf_calls h6 c m
    · exact wf_calls h7 c m
theorem Sz.more : ∀ {n : Nat} {b : Bd}, Sz n b → Sz (n + 1) b
  | _, _, .fin h => .fin h
  | _, _, .br h x y => .br h (Sz.more x) (Sz.more y)
structure NewFn (rows : List MR.Row) (f : Fn) (bd : Str → Bd) : Prop where
  name : MN.isName f.name = true ∧ f.name.length ≤ 100
  kind : f.kind ∈ MI.kindsOf rows
  fold : f.fold = "sum" ∨ f.fold = "max"
  keys : f.bodies = bdsOf rows f.kind bd
  body : ∀ r ∈ rows, r.kind = f.kind → (∃ hd, Wf r.parts hd [] (bd r.maker)) ∧ Sz 3 (bd r.maker)
structure RowsOk (rows : List MR.Row) : Prop where
  len : rows.length ≤ 10
  nd : (rows.map (·.maker)).Nodup
  parts : ∀ r ∈ rows, r.parts.length ≤ 4
  names : ∀ r ∈ rows, (r.parts.map (·.nm)).Nodup
theorem RowsOk.of {nms : List Str} {rows : List MR.Row} (h : MR.Table nms rows) : RowsOk rows where
  len := h.some.len
  nd := h.some.nd
  parts := fun r m => by obtain ⟨b, q⟩ := h.some.parts r m; exact q.len
  names := fun r m => by obtain ⟨b, q⟩ := h.some.parts r m; exact q.nd
theorem Table.new {rows : List MR.Row} {fs : List Fn} (h : Table rows fs) {f : Fn} (m : f ∈ fs) : ∃ bd, NewFn rows f bd ∧ ∀ r ∈ rows, r.kind = f.kind → Wf r.parts (sigs fs) [] (bd r.maker) := by
  obtain ⟨bd, e, hb⟩ := h.body f m
  exact ⟨bd, ⟨MI.isName_of (h.name f m) (by decide), h.kind f m, h.fold f m, e, fun r mr er => ⟨⟨_, (hb r mr er).1⟩, (hb r mr er).2⟩⟩, fun r mr er => (hb r mr er).1⟩
theorem ent_of {K : PySem.W.Frag} {rows : List MR.Row} {t : Addr} {tds fds sds : List (Key × D)} (h : MI.Tabl K rows t tds fds sds) {r : MR.Row} (m : r ∈ rows) : ∃ tag : Nat, valD tds (.inr r.maker) = some (MT.dEnt r.kind tag r.parts) := by
  obtain ⟨i, hi⟩ := List.mem_iff_getElem?.mp m
  exact ⟨_, h.get i r hi⟩
theorem okSm.more {ps qs : List MR.Part} {hd : List (Str × Str)} {s : Sm} (h : okSm ps hd s) (hp : ∀ q ∈ ps, q ∈ qs) : okSm qs hd s := by
  cases s with
  | read p => obtain ⟨q, m, e⟩ := h; exact ⟨q, hp q m, e⟩
  | call f p => obtain ⟨q, m, e⟩ := h; exact ⟨q, hp q m, e⟩
  | say n => exact h
def DrawnB (hs : List Hd) (parts : List MR.Part) (b : Bd) : Prop := ∀ ps hd asked, (∀ q ∈ parts, q ∈ ps) → (asked ++ parts.map (·.nm)).Nodup → (∀ h ∈ hs, (h.name, h.kind) ∈ hd) → Wf ps hd asked b
structure DrawnS (hs : List Hd) (parts left : List MR.Part) (ss : List Sm) : Prop where
  sub : ∀ q ∈ left, q ∈ parts
  ok : ∀ ps hd, (∀ q ∈ parts, q ∈ ps) → (∀ h ∈ hs, (h.name, h.kind) ∈ hd) → ∀ s ∈ ss, okSm ps hd s
  nd : ∀ asked : List Str, (asked ++ parts.map (·.nm)).Nodup → (asked ++ asks ss ++ left.map (·.nm)).Nodup
theorem DrawnS.nil {hs : List Hd} {parts : List MR.Part} : DrawnS hs parts parts [] where
  sub := fun _ m => m
  ok := fun _ _ _ _ s m => by cases m
  nd := fun asked h => by simpa [asks] using h
theorem DrawnS.drop {hs : List Hd} {parts left : List MR.Part} {ss : List Sm} (h : DrawnS hs parts left ss) (i : Nat) : DrawnS hs parts (left.eraseIdx i) ss where
  sub := fun q m => h.sub q (List.mem_of_mem_eraseIdx m)
  ok := h.ok
  nd := fun asked ha => (h.nd asked ha).sublist (List.Sublist.append_left (List.Sublist.map _ (List.eraseIdx_sublist ..)) _)
theorem DrawnS.say {hs : List Hd} {parts left : List MR.Part} {ss : List Sm} {n : Int} (h : DrawnS hs parts left ss) (h0 : 0 ≤ n) (h1 : n ≤ 1000) : DrawnS hs parts left (ss ++ [.say n]) where
  sub := h.sub
  ok := fun ps hd hp hh s m => by
    rcases List.mem_append.mp m with m | m
    · exact h.ok ps hd hp hh s m
    · rw [List.mem_singleton.mp m]; exact ⟨h0, h1⟩
  nd := fun asked ha => by
    rw [asks_app]
    simpa [asks, askS] using h.nd asked ha
theorem erase_perm {left : List MR.Part} {i : Nat} {q : MR.Part} (hq : left[i]? = some q) : (q.nm :: (left.eraseIdx i).map (·.nm)).Perm (left.map (·.nm)) := by
  have hi := (List.getElem?_eq_some_iff.mp hq).1
  have e := (List.getElem?_eq_some_iff.mp hq).2
  have := (MY.perm_erase hi).map (·.nm)
  rw [e] at this
  exact this
theorem DrawnS.ask {hs : List Hd} {parts left : List MR.Part} {ss : List Sm} {i : Nat} {q : MR.Part} {s : Sm} (h : DrawnS hs parts left ss) (hq : left[i]? = some q) (hs' : askS s = [q.nm]) (hok : ∀ hd, (∀ h ∈ hs, (h.name, h.kind) ∈ hd) → okSm [q] hd s) : DrawnS hs parts (left.eraseIdx i) (ss ++ [s]) where
  sub := fun q m => h.sub q (List.mem_of_mem_eraseIdx m)
  ok := fun ps hd hp hh t m => by
    rcases List.mem_append.mp m with m | m
    · exact h.ok ps hd hp hh t m
    · rw [List.mem_singleton.mp m]
      exact (hok hd hh).more fun x mx => by
        rw [List.mem_singleton.mp mx]
        exact hp q (h.sub q (List.mem_of_getElem? hq))
  nd := fun asked ha => by
    have := h.nd asked ha
    rw [asks_app, show asks [s] = [q.nm] by simp [asks, hs'], ← List.append_assoc, List.append_assoc (asked ++ asks ss)]
    refine (List.Perm.nodup_iff ?_).mp this
    exact (List.Perm.append_left _ (erase_perm hq)).symm
theorem DrawnS.fin {hs : List Hd} {parts left : List MR.Part} {ss : List Sm} (h : DrawnS hs parts left ss) : DrawnB hs parts (.fin ss) := fun ps hd asked hp ha hh =>
  ⟨h.ok ps hd hp hh, (h.nd asked ha).sublist (List.sublist_append_left _ _)⟩
theorem DrawnS.br {hs : List Hd} {parts left rest : List MR.Part} {ss : List Sm} {i : Nat} {q : MR.Part} {v : Int} {x y : Bd} (h : DrawnS hs parts left ss) (hq : left[i]? = some q) (hb : q.inn = MR.byteS) (hr : rest.Sublist (left.eraseIdx i)) (h1 : 1 ≤ v) (h2 : v ≤ 255) (hx : DrawnB hs rest x) (hy : DrawnB hs rest y) : DrawnB hs parts (.br ss q.nm v x y) := fun ps hd asked hp ha hh => by
  have nd := h.nd asked ha
  have nd2 : (asked ++ asks ss ++ (q.nm :: (left.eraseIdx i).map (·.nm))).Nodup := (List.Perm.nodup_iff (List.Perm.append_left _ (erase_perm hq))).mpr nd
  have nd3 : (asked ++ asks ss ++ [q.nm] ++ rest.map (·.nm)).Nodup := by
    rw [List.append_assoc]
    exact nd2.sublist (List.Sublist.append_left (List.Sublist.cons_cons _ (List.Sublist.map _ hr)) _)
  have hsub : ∀ p ∈ rest, p ∈ ps := fun p m => hp p (h.sub p (List.mem_of_mem_eraseIdx (hr.subset m)))
  refine ⟨⟨h.ok ps hd hp hh, nd.sublist (List.sublist_append_left _ _)⟩, ⟨q, hp q (h.sub q (List.mem_of_getElem? hq)), rfl, hb⟩, ?_, h1, h2, hx ps hd _ hsub nd3 hh, hy ps hd _ hsub nd3 hh⟩
  intro m
  rw [List.nodup_append] at nd2
  exact nd2.2.2 q.nm m q.nm List.mem_cons_self rfl
structure HeadsOk (rows : List MR.Row) (hs : List Hd) : Prop where
  nd : (hs.map (·.name)).Nodup
  name : ∀ h ∈ hs, MN.nameL (MN.tl h.name) = true ∧ h.name.length ≤ 11
  kind : ∀ h ∈ hs, h.kind ∈ MI.kindsOf rows
  fold : ∀ h ∈ hs, h.fold = "sum" ∨ h.fold = "max"
theorem HeadsOk.nil {rows : List MR.Row} : HeadsOk rows [] := ⟨by simp, by simp, by simp, by simp⟩
theorem HeadsOk.snoc {rows : List MR.Row} {hs : List Hd} {h : Hd} (H : HeadsOk rows hs) (h1 : MN.nameL (MN.tl h.name) = true ∧ h.name.length ≤ 11) (h2 : h.name ∉ hs.map (·.name)) (h3 : h.kind ∈ MI.kindsOf rows) (h4 : h.fold = "sum" ∨ h.fold = "max") : HeadsOk rows (hs ++ [h]) where
  nd := by
    rw [List.map_append, List.nodup_append]
    exact ⟨H.nd, by simp, fun a m c m' z => by simp at m'; subst m'; subst z; exact h2 m⟩
  name := fun x m => by
    rcases List.mem_append.mp m with m | m
    · exact H.name x m
    · rw [List.mem_singleton.mp m]; exact h1
  kind := fun x m => by
    rcases List.mem_append.mp m with m | m
    · exact H.kind x m
    · rw [List.mem_singleton.mp m]; exact h3
  fold := fun x m => by
    rcases List.mem_append.mp m with m | m
    · exact H.fold x m
    · rw [List.mem_singleton.mp m]; exact h4
def hdOf (f : Fn) : Hd := ⟨f.name, f.kind, f.fold⟩
def DrawnF (rows : List MR.Row) (hid : Str → List MR.Part) (hs : List Hd) (f : Fn) : Prop := ∃ bd, f.bodies = bdsOf rows f.kind bd ∧ ∀ r ∈ rows, r.kind = f.kind → DrawnB hs (hid r.maker) (bd r.maker) ∧ Sz 3 (bd r.maker)
theorem table_of {rows : List MR.Row} {hid : Str → List MR.Part} {hs : List Hd} {fs : List Fn} (H : HeadsOk rows hs) (hr : ∀ r ∈ rows, (r.parts.map (·.nm)).Nodup) (hp : ∀ r ∈ rows, (hid r.maker).Perm r.parts) (h1 : hs ≠ []) (h6 : hs.length ≤ 6) (e : fs.map hdOf = hs) (hf : ∀ f ∈ fs, DrawnF rows hid hs f) : Table rows fs := by
  have key : ∀ {P : Hd → Prop}, (∀ h ∈ hs, P h) → ∀ f ∈ fs, P (hdOf f) := fun hP f m => hP _ (e ▸ List.mem_map_of_mem m)
  have el : fs.length = hs.length := by rw [← e, List.length_map]
  refine ⟨?_, by omega, ?_, key H.name, key H.kind, key H.fold, ?_⟩
  · intro z
    subst z
    exact h1 e.symm
  · have := H.nd
    rw [← e, List.map_map] at this
    exact this
  · intro f m
    obtain ⟨bd, e1, hb⟩ := hf f m
    refine ⟨bd, e1, fun r mr er => ⟨?_, (hb r mr er).2⟩⟩
    refine (hb r mr er).1 r.parts (sigs fs) [] (fun q mq => (hp r mr).mem_iff.mp mq) ?_ ?_
    · rw [List.nil_append]
      exact (List.Perm.nodup_iff ((hp r mr).map _)).mpr (hr r mr)
    · intro h mh
      rw [← e] at mh
      obtain ⟨g, mg, rfl⟩ := List.mem_map.mp mh
      exact List.mem_map.mpr ⟨g, mg, rfl⟩
theorem bds_take {rows : List MR.Row} {k : Str} {bd : Str → Bd} {i : Nat} {r : MR.Row} (hr : rows[i]? = some r) : bdsOf (rows.take (i + 1)) k bd = if r.kind = k then bdsOf (rows.take i) k bd ++ [(r.maker, bd r.maker)] else bdsOf (rows.take i) k bd := by
  unfold bdsOf
  rw [tk hr, MI.makers_snoc]
  by_cases h : r.kind = k
  · rw [if_pos h, if_pos h, List.map_append]
    rfl
  · rw [if_neg h, if_neg h]
theorem bds_congr {rows : List MR.Row} {k : Str} {f g : Str → Bd} (h : ∀ r ∈ rows, f r.maker = g r.maker) : bdsOf rows k f = bdsOf rows k g := by
  unfold bdsOf
  exact List.map_congr_left fun m mm => by
    obtain ⟨r, mr, _, rfl⟩ := mem_makers.mp mm
    rw [h r mr]
theorem bdsD_snoc {bs : List (Str × Bd)} {m : Str} {b : Bd} (h : m ∉ bs.map (·.1)) : putDk (bdsD bs) (.inr m) (dBd b) = bdsD (bs ++ [(m, b)]) := by
  unfold putDk
  have : ((bdsD bs).any fun kv => decide (kv.1 = .inr m)) = false := by
    rw [List.any_eq_false]
    intro x mx e
    obtain ⟨g, mg, rfl⟩ := List.mem_map.mp mx
    have := Sum.inr.inj (of_decide_eq_true e)
    exact h (this ▸ List.mem_map_of_mem mg)
  rw [this]
  simp [bdsD]
end MF
namespace MG
open PySem PySem.Spec PyProof.Rows L2 DL MF
inductive RS where
  | ok (s : MF.St) | odd (zs : List Str)
def oddZ : List (List Str) := [["walk", "k"], ["read", "k", "m"], ["call", "f"]]
@[reducible] def dRS : RS → D
  | .ok s => dS1 s
  | .odd zs => .tup (zs.map D.str)
def dRB (l : List RS) : D := .tup (l.map dRS)
def rs (b : Bd) : List RS := b.sts.map .ok
theorem dBd_rs (b : Bd) : dBd b = dRB (rs b) := by
  rw [dBd_eq]
  unfold dRB rs
  rw [List.map_map]
  rfl
inductive Sq : Nat → Bd → Prop
  | fin {n : Nat} {ss : List Sm} : ss.length ≤ 13 → Sq (n + 1) (.fin ss)
  | br {n : Nat} {ss : List Sm} {p : Str} {v : Int} {x y : Bd} : ss.length ≤ 12 → Sq n x → Sq n y → Sq (n + 1) (.br ss p v x y)
structure SqR (n : Nat) (l : List RS) : Prop where
  len : l.length ≤ 13
  sub : ∀ p v x y, RS.ok (.br p v x y) ∈ l → ∃ m, n = m + 1 ∧ Sq m x ∧ Sq m y
  odd : ∀ zs, RS.odd zs ∈ l → zs ∈ oddZ
theorem Sq.pos {n : Nat} {b : Bd} (h : Sq n b) : ∃ m, n = m + 1 := by cases h <;> exact ⟨_, rfl⟩
theorem Sq.rs {n : Nat} {b : Bd} (h : Sq n b) : SqR n (rs b) := by
  refine ⟨?_, fun p v x y m => ?_, fun zs m => ?_⟩
  · unfold MG.rs
    rw [List.length_map]
    cases h with
    | fin h => show (List.map _ _).length ≤ _; rw [List.length_map]; exact h
    | br h _ _ => show (List.map _ _ ++ _).length ≤ _; rw [List.length_append, List.length_map]; show _ + 1 ≤ _; omega
  · obtain ⟨s, ms, e⟩ := List.mem_map.mp m
    cases e
    cases h with
    | fin h =>
      obtain ⟨s', _, e⟩ := List.mem_map.mp ms
      cases e
    | br h hx hy =>
      rcases List.mem_append.mp ms with ms | ms
      · obtain ⟨s', _, e⟩ := List.mem_map.mp ms
        cases e
      · cases List.mem_singleton.mp ms
        exact ⟨_, rfl, hx, hy⟩
  · obtain ⟨s, ms, e⟩ := List.mem_map.mp m
    cases e
def inB (ps : List MR.Part) (p : Str) : Option Str := (ps.find? fun q => q.nm == p).map (·.inn)
def okP (ps : List MR.Part) (a : List Str) (p : Str) (call : Bool) : Bool := match inB ps p with
  | none => false
  | some k => !decide (p ∈ a) && ((k == MR.byteS) != call)
def okSm1 (ps : List MR.Part) (a : List Str) : Sm → Bool
  | .say n => decide (0 ≤ n) && decide (n ≤ 1000)
  | .read p => okP ps a p false
  | .call _ p => okP ps a p true
def okSs (ps : List MR.Part) : List Str → List Sm → Bool
  | _, [] => true
  | a, s :: r => okSm1 ps a s && okSs ps (a ++ askS s) r
def okB (ps : List MR.Part) : List Str → Bd → Bool
  | a, .fin ss => decide (ss.length ≤ 12) && okSs ps a ss
  | a, .br ss p v x y => decide (ss.length + 1 ≤ 12) && (okSs ps a ss && (okP ps (a ++ asks ss) p false && ((decide (1 ≤ v) && decide (v ≤ 255)) && (okB ps (a ++ asks ss ++ [p]) x && okB ps (a ++ asks ss ++ [p]) y))))
def okSt (ps : List MR.Part) (last : Bool) (a : List Str) : MF.St → Bool
  | .sm s => okSm1 ps a s
  | .br p v x y => okP ps a p false && (last && ((decide (1 ≤ v) && decide (v ≤ 255)) && (okB ps (a ++ [p]) x && okB ps (a ++ [p]) y)))
def okRS (ps : List MR.Part) (last : Bool) (a : List Str) : RS → Bool
  | .ok s => okSt ps last a s
  | .odd _ => false
def askR : RS → List Str
  | .ok s => askSt s
  | .odd _ => []
def okRs (ps : List MR.Part) : List Str → List RS → Bool
  | _, [] => true
  | a, e :: r => okRS ps r.isEmpty a e && okRs ps (a ++ askR e) r
def okR (ps : List MR.Part) (a : List Str) (l : List RS) : Bool := decide (l.length ≤ 12) && okRs ps a l
theorem inB_at {ps : List MR.Part} (nd : (ps.map (·.nm)).Nodup) {p : MR.Part} (m : p ∈ ps) : inB ps p.nm = some p.inn := by
  unfold inB
  induction ps with
  | nil => cases m
  | cons x t ih =>
    rw [List.map_cons, List.nodup_cons] at nd
    rw [List.find?_cons]
    rcases List.mem_cons.mp m with e | m
    · subst e
      rw [beq_self_eq_true]
      rfl
    · have : (x.nm == p.nm) = false := beq_eq_false_iff_ne.mpr fun e => nd.1 (e ▸ List.mem_map_of_mem m)
      rw [this]
      exact ih nd.2 m
theorem inB_none {ps : List MR.Part} {z : Str} (h : z ∉ ps.map (·.nm)) : inB ps z = none := by
  unfold inB
  rw [List.find?_eq_none.mpr]
  · rfl
  · intro q m e
    exact h (List.mem_map.mpr ⟨q, m, eq_of_beq e⟩)
theorem okRs_fin (ps : List MR.Part) : ∀ (ss : List Sm) (a : List Str), okRs ps a ((ss.map MF.St.sm).map RS.ok) = okSs ps a ss
  | [], _ => rfl
  | s :: r, a => by
    show (okSm1 ps a s && okRs ps (a ++ askS s) _) = (okSm1 ps a s && _)
    rw [okRs_fin ps r]
theorem okRs_br (ps : List MR.Part) (p : Str) (v : Int) (x y : Bd) : ∀ (ss : List Sm) (a : List Str), okRs ps a ((ss.map MF.St.sm).map RS.ok ++ [.ok (.br p v x y)]) = (okSs ps a ss && (okP ps (a ++ asks ss) p false && ((decide (1 ≤ v) && decide (v ≤ 255)) && (okB ps (a ++ asks ss ++ [p]) x && okB ps (a ++ asks ss ++ [p]) y))))
  | [], a => by
    show ((okP ps a p false && (true && _)) && true) = (true && (okP ps (a ++ []) p false && _))
    rw [Bool.and_true, Bool.true_and, Bool.true_and, List.append_nil, show asks [] = [] from rfl, List.append_nil]
  | s :: r, a => by
    have e : ((r.map MF.St.sm).map RS.ok ++ [RS.ok (.br p v x y)]).isEmpty = false := by
      cases r <;> rfl
    show (okRS ps ((r.map MF.St.sm).map RS.ok ++ [RS.ok (.br p v x y)]).isEmpty a (.ok (.sm s)) && okRs ps (a ++ askS s) ((r.map MF.St.sm).map RS.ok ++ [RS.ok (.br p v x y)])) = ((okSm1 ps a s && okSs ps (a ++ askS s) r) && _)
    rw [okRs_br ps p v x y r, e, show a ++ asks (s :: r) = a ++ askS s ++ asks r by rw [show asks (s :: r) = askS s ++ asks r from List.flatMap_cons, List.append_assoc]]
    exact (Bool.and_assoc _ _ _).symm
theorem okB_eq (ps : List MR.Part) (a : List Str) (b : Bd) : okB ps a b = okR ps a (rs b) := by
  cases b with
  | fin ss =>
    show (decide (ss.length ≤ 12) && okSs ps a ss) = (decide ((List.map RS.ok (ss.map MF.St.sm)).length ≤ 12) && okRs ps a ((ss.map MF.St.sm).map RS.ok))
    rw [List.length_map, List.length_map, okRs_fin]
  | br ss p v x y =>
    have e : rs (.br ss p v x y) = (ss.map MF.St.sm).map RS.ok ++ [.ok (.br p v x y)] := List.map_append
    unfold okR
    rw [e, okRs_br, List.length_append, List.length_map, List.length_map]
    rfl
theorem okRs_rs {ps : List MR.Part} : ∀ {l : List RS} {a : List Str}, okRs ps a l = true → ∃ b, l = rs b
  | [], _, _ => ⟨.fin [], by rfl⟩
  | .odd zs :: r, a, h => by
    have h : (false && _) = true := h
    cases h
  | .ok (.sm s) :: r, a, h => by
    have h : (okSm1 ps a s && okRs ps (a ++ askS s) r) = true := h
    rw [Bool.and_eq_true] at h
    obtain ⟨b, rfl⟩ := okRs_rs h.2
    cases b with
    | fin ss => exact ⟨.fin (s :: ss), rfl⟩
    | br ss p v x y => exact ⟨.br (s :: ss) p v x y, rfl⟩
  | .ok (.br p v x y) :: r, a, h => by
    have h : ((okP ps a p false && (r.isEmpty && _)) && _) = true := h
    rw [Bool.and_eq_true, Bool.and_eq_true, Bool.and_eq_true] at h
    cases r with
    | nil => exact ⟨.br [] p v x y, rfl⟩
    | cons e r => exact nomatch h.1.2.1
theorem okB_sz {ps : List MR.Part} : ∀ {n : Nat} {b : Bd} {a : List Str}, Sq n b → okB ps a b = true → Sz n b
  | _, .fin ss, a, .fin _, h => by
    have h : (decide (ss.length ≤ 12) && _) = true := h
    rw [Bool.and_eq_true] at h
    exact .fin (of_decide_eq_true h.1)
  | _, .br ss p v x y, a, .br _ hx hy, h => by
    have h : (decide (ss.length + 1 ≤ 12) && _) = true := h
    simp only [Bool.and_eq_true] at h
    exact .br (by have := of_decide_eq_true h.1; omega) (okB_sz hx h.2.2.2.2.1) (okB_sz hy h.2.2.2.2.2)
theorem okRs_step (ps : List MR.Part) {A : List Str} {l : List RS} {i : Nat} {st : RS} (h : l[i]? = some st) : okRs ps A (l.drop i) = (okRS ps (decide (i + 1 = l.length)) A st && okRs ps (A ++ askR st) (l.drop (i + 1))) := by
  have hi : i < l.length := (List.getElem?_eq_some_iff.mp h).1
  have ed : l.drop i = st :: l.drop (i + 1) := by
    rw [List.drop_eq_getElem_cons hi]
    exact congrArg (· :: _) (List.getElem?_eq_some_iff.mp h).2
  have ee : (l.drop (i + 1)).isEmpty = decide (i + 1 = l.length) := by
    have hl : (l.drop (i + 1)).length = l.length - (i + 1) := List.length_drop ..
    cases e : l.drop (i + 1) with
    | nil =>
      rw [e] at hl
      have hl : 0 = l.length - (i + 1) := hl
      rw [decide_eq_true (show i + 1 = l.length by omega)]
      rfl
    | cons x r =>
      rw [e] at hl
      have hl : r.length + 1 = l.length - (i + 1) := hl
      rw [decide_eq_false (show ¬ i + 1 = l.length by omega)]
      rfl
  rw [ed, ← ee]
  rfl
theorem take_ask {l : List RS} {i : Nat} {st : RS} (a : List Str) (h : l[i]? = some st) : a ++ (l.take (i + 1)).flatMap askR = a ++ (l.take i).flatMap askR ++ askR st := by
  rw [MF.tk h, List.flatMap_append, List.append_assoc]
  simp
theorem okP_no {ps : List MR.Part} {a : List Str} {p : Str} {c : Bool} (h : p ∉ ps.map (·.nm)) : okP ps a p c = false := by
  unfold okP
  rw [inB_none h]
theorem okP_yes {ps : List MR.Part} (nd : (ps.map (·.nm)).Nodup) {a : List Str} {q : MR.Part} (m : q ∈ ps) (c : Bool) : okP ps a q.nm c = (!decide (q.nm ∈ a) && ((q.inn == MR.byteS) != c)) := by
  unfold okP
  rw [inB_at nd m]
abbrev Core := Str × Str × Str × List (Str × List RS)
structure RFn where
  name : Str
  kind : Str
  fold : Str
  ad : Addr
  bodies : List (Str × List RS)
def core (f : RFn) : Core := (f.name, f.kind, f.fold, f.bodies)
def bdsD (bs : List (Str × List RS)) : List (Key × D) := bs.map fun p => (.inr p.1, dRB p.2)
@[reducible] def dRFn (f : RFn) : D := .tup [.str f.name, .str f.kind, .str f.fold, .ldk f.ad (bdsD f.bodies)]
theorem bdsD_len (bs : List (Str × List RS)) : (bdsD bs).length = bs.length := List.length_map ..
theorem val_bds : ∀ (bs : List (Str × List RS)) (m : Str), valD (bdsD bs) (.inr m) = (bs.lookup m).map dRB
  | [], m => rfl
  | (x, b) :: r, m => by
    have ih := val_bds r m
    rw [show bdsD ((x, b) :: r) = (.inr x, dRB b) :: bdsD r from rfl, ML.valD_cons, List.lookup_cons]
    by_cases h : x = m
    · subst h
      rw [if_pos rfl, beq_self_eq_true]
      rfl
    · rw [if_neg (fun z => h (Sum.inr.inj z)), ih, show (m == x) = false from beq_eq_false_iff_ne.mpr fun z => h z.symm]
def partsOf (rows : List MR.Row) (m : Str) : List MR.Part := match rows.find? fun r => r.maker == m with
  | some r => r.parts
  | none => []
theorem partsOf_at {rows : List MR.Row} (nd : (rows.map (·.maker)).Nodup) {r : MR.Row} (m : r ∈ rows) : partsOf rows r.maker = r.parts := by
  unfold partsOf
  induction rows with
  | nil => cases m
  | cons x t ih =>
    rw [List.map_cons, List.nodup_cons] at nd
    rw [List.find?_cons]
    rcases List.mem_cons.mp m with e | m
    · subst e
      rw [beq_self_eq_true]
    · have : (x.maker == r.maker) = false := beq_eq_false_iff_ne.mpr fun e => nd.1 (e ▸ List.mem_map_of_mem m)
      rw [this]
      exact ih nd.2 m
def newX (rows : List MR.Row) (c : Core) : Bool := decide (c.2.1 ∈ MI.kindsOf rows) && ((c.2.2.1 == "sum" || c.2.2.1 == "max") && (decide (c.2.2.2.length = (MI.makersOf c.2.1 rows).length) && (MI.makersOf c.2.1 rows).all fun m => match c.2.2.2.lookup m with
  | none => false
  | some l => okR (partsOf rows m) [] l))
def newF (rows : List MR.Row) (names : List Str) (c : Core) : Bool := MN.isName c.1 && (!decide (c.1 ∈ names) && newX rows c)
def callsR : RS → List (Str × Str)
  | .ok s => callsSt s
  | .odd _ => []
def rcalls (l : List RS) : List (Str × Str) := l.flatMap callsR
theorem rcalls_rs (b : Bd) : rcalls (rs b) = calls b := by
  rw [calls_sts]
  unfold rcalls rs
  rw [List.flatMap_map]
  rfl
def kindF (sg : List (Str × Str)) (z : Str) : Option Str := (sg.find? fun p => p.1 == z).map (·.2)
def callOk (rows : List MR.Row) (sg : List (Str × Str)) (m : Str) (c : Str × Str) : Bool := decide (kindF sg c.1 = inB (partsOf rows m) c.2)
def callsF (rows : List MR.Row) (sg : List (Str × Str)) (bs : List (Str × List RS)) : Bool := bs.all fun p => (rcalls p.2).all (callOk rows sg p.1)
def scan1 (rows : List MR.Row) : List Str → Nat → List Core → Option Nat
  | _, _, [] => none
  | ns, i, c :: r => if decide (i = 6) || !newF rows ns c then some i else scan1 rows (ns ++ [c.1]) (i + 1) r
def scan2 (rows : List MR.Row) (sg : List (Str × Str)) : Nat → List Core → Option Nat
  | _, [] => none
  | i, c :: r => if callsF rows sg c.2.2.2 then scan2 rows sg (i + 1) r else some i
def sigs (cs : List Core) : List (Str × Str) := cs.map fun c => (c.1, c.2.1)
def verdict (rows : List MR.Row) (cs : List Core) : Option Nat := if cs = [] then some 0 else match scan1 rows [] 0 cs with
  | some a => some a
  | none => scan2 rows (sigs cs) 0 cs
structure SmallF (f : RFn) : Prop where
  name : f.name.length ≤ 100
  nd : (f.bodies.map (·.1)).Nodup
  few : f.bodies.length ≤ 20
  body : ∀ p ∈ f.bodies, SqR 4 p.2
theorem sub_len : ∀ {l m : List Str}, l.Nodup → (∀ x ∈ l, x ∈ m) → l.length ≤ m.length
  | [], _, _, _ => Nat.zero_le _
  | x :: r, m, nd, h => by
    rw [List.nodup_cons] at nd
    have hx := h x List.mem_cons_self
    have := sub_len (m := m.erase x) nd.2 fun y my => (List.mem_erase_of_ne fun e => nd.1 (by rw [← e]; exact my)).mpr (h y (List.mem_cons_of_mem _ my))
    rw [List.length_erase_of_mem hx] at this
    have := List.length_pos_of_mem hx
    rw [List.length_cons]
    omega
theorem sub_all {l m : List Str} (nd : l.Nodup) (h : ∀ x ∈ l, x ∈ m) (hl : m.length ≤ l.length) {x : Str} (mx : x ∈ m) : x ∈ l := by
  rcases Classical.em (x ∈ l) with z | z
  · exact z
  · exfalso
    have := sub_len (m := m.erase x) nd fun y my => (List.mem_erase_of_ne fun e => z (by rw [← e]; exact my)).mpr (h y my)
    rw [List.length_erase_of_mem mx] at this
    have := List.length_pos_of_mem mx
    omega
theorem lookup_mem {α : Type} : ∀ {bs : List (Str × α)} {m : Str} {l : α}, bs.lookup m = some l → (m, l) ∈ bs
  | (x, b) :: r, m, l, h => by
    rw [List.lookup_cons] at h
    by_cases e : m = x
    · subst e
      rw [beq_self_eq_true] at h
      cases h
      exact List.mem_cons_self
    · rw [show (m == x) = false from beq_eq_false_iff_ne.mpr e] at h
      exact List.mem_cons_of_mem _ (lookup_mem h)
theorem lookup_nd {α : Type} : ∀ {bs : List (Str × α)} {p : Str × α}, (bs.map (·.1)).Nodup → p ∈ bs → bs.lookup p.1 = some p.2
  | (x, b) :: r, p, nd, m => by
    rw [List.map_cons, List.nodup_cons] at nd
    rw [List.lookup_cons]
    rcases List.mem_cons.mp m with rfl | m
    · rw [beq_self_eq_true]
    · have : (p.1 == x) = false := beq_eq_false_iff_ne.mpr fun e => nd.1 (by have := List.mem_map_of_mem (f := (·.1)) m; rw [e] at this; exact this)
      rw [this]
      exact lookup_nd nd.2 m
theorem newX_keys {rows : List MR.Row} {f : RFn} (hs : SmallF f) (hm : (MI.makersOf f.kind rows).Nodup) (h : newX rows (core f) = true) {p : Str × List RS} (mp : p ∈ f.bodies) : p.1 ∈ MI.makersOf f.kind rows ∧ okR (partsOf rows p.1) [] p.2 = true := by
  unfold newX at h
  simp only [Bool.and_eq_true, decide_eq_true_eq, List.all_eq_true] at h
  obtain ⟨_, _, hl, hall⟩ := h
  have hl : f.bodies.length = (MI.makersOf f.kind rows).length := hl
  have hall : ∀ m ∈ MI.makersOf f.kind rows, (match f.bodies.lookup m with | none => false | some l => okR (partsOf rows m) [] l) = true := hall
  have hsub : ∀ m ∈ MI.makersOf f.kind rows, m ∈ f.bodies.map (·.1) := fun m mm => by
    have := hall m mm
    cases e : f.bodies.lookup m with
    | none => rw [e] at this; cases this
    | some l => exact List.mem_map.mpr ⟨(m, l), lookup_mem e, rfl⟩
  have hin : p.1 ∈ MI.makersOf f.kind rows := sub_all hm hsub (by rw [List.length_map]; omega) (List.mem_map_of_mem mp)
  refine ⟨hin, ?_⟩
  have := hall p.1 hin
  rw [lookup_nd hs.nd mp] at this
  exact this
@[reducible] def dFe (f : RFn) : D := .tup [.str f.kind, .str f.fold, .ldk f.ad (bdsD f.bodies)]
def ftab (gs : List RFn) : List (Key × D) := gs.map fun f => (.inr f.name, dFe f)
theorem val_kind (z : Str) : ∀ gs : List RFn, (∃ g, valD (ftab gs) (.inr z) = some (dFe g) ∧ kindF (sigs (gs.map core)) z = some g.kind) ∨ (valD (ftab gs) (.inr z) = none ∧ kindF (sigs (gs.map core)) z = none)
  | [] => .inr ⟨rfl, rfl⟩
  | g :: r => by
    rw [show ftab (g :: r) = (.inr g.name, dFe g) :: ftab r from rfl, ML.valD_cons]
    unfold kindF
    rw [show sigs ((g :: r).map core) = (g.name, g.kind) :: sigs (r.map core) from rfl, List.find?_cons]
    by_cases h : g.name = z
    · subst h
      rw [if_pos rfl, beq_self_eq_true]
      exact .inl ⟨g, rfl, rfl⟩
    · rw [if_neg (fun e => h (Sum.inr.inj e)), show (g.name == z) = false from beq_eq_false_iff_ne.mpr h]
      exact val_kind z r
theorem val_some (z : Str) : ∀ gs : List RFn, (valD (ftab gs) (.inr z)).isSome = decide (z ∈ (gs.map core).map (·.1))
  | [] => rfl
  | g :: r => by
    rw [show ftab (g :: r) = (.inr g.name, dFe g) :: ftab r from rfl, ML.valD_cons]
    by_cases h : g.name = z
    · subst h
      rw [if_pos rfl]
      exact (decide_eq_true List.mem_cons_self).symm
    · rw [if_neg (fun e => h (Sum.inr.inj e)), val_some z r, Bool.eq_iff_iff, decide_eq_true_eq, decide_eq_true_eq]
      show _ ↔ z ∈ g.name :: _
      rw [List.mem_cons]
      exact ⟨.inr, fun q => q.resolve_left fun e => h e.symm⟩
theorem ftab_snoc {gs : List RFn} {f : RFn} (h : f.name ∉ (gs.map core).map (·.1)) : putDk (ftab gs) (.inr f.name) (dFe f) = ftab (gs ++ [f]) := by
  unfold putDk
  rw [ML.any_valD, val_some, decide_eq_false h]
  show ftab gs ++ _ = _
  unfold ftab
  rw [List.map_append]
  rfl
theorem drop_at {α : Type} {cs : List α} {i : Nat} {c : α} (h : cs[i]? = some c) : cs.drop i = c :: cs.drop (i + 1) := by
  have hi : i < cs.length := (List.getElem?_eq_some_iff.mp h).1
  rw [List.drop_eq_getElem_cons hi]
  exact congrArg (· :: _) (List.getElem?_eq_some_iff.mp h).2
theorem scan1_step (rows : List MR.Row) {cs : List Core} {i : Nat} {c : Core} (h : cs[i]? = some c) (ns : List Str) : scan1 rows ns i (cs.drop i) = if decide (i = 6) || !newF rows ns c then some i else scan1 rows (ns ++ [c.1]) (i + 1) (cs.drop (i + 1)) := by
  rw [drop_at h]
  rfl
theorem scan2_step (rows : List MR.Row) (sg : List (Str × Str)) {cs : List Core} {i : Nat} {c : Core} (h : cs[i]? = some c) : scan2 rows sg i (cs.drop i) = if callsF rows sg c.2.2.2 then scan2 rows sg (i + 1) (cs.drop (i + 1)) else some i := by
  rw [drop_at h]
  rfl
theorem okP_in {ps : List MR.Part} {a : List Str} {p : Str} {c : Bool} (h : okP ps a p c = true) : ∃ q ∈ ps, q.nm = p := by
  rcases Classical.em (p ∈ ps.map (·.nm)) with m | m
  · obtain ⟨q, mq, e⟩ := List.mem_map.mp m
    exact ⟨q, mq, e⟩
  · rw [okP_no m] at h
    cases h
theorem okSs_calls {ps : List MR.Part} : ∀ {ss : List Sm} {a : List Str}, okSs ps a ss = true → ∀ c ∈ ss.flatMap callS1, ∃ q ∈ ps, q.nm = c.2
  | [], _, _, c, m => by cases m
  | s :: r, a, h, c, m => by
    have h : (okSm1 ps a s && okSs ps (a ++ askS s) r) = true := h
    rw [Bool.and_eq_true] at h
    rw [List.flatMap_cons] at m
    rcases List.mem_append.mp m with m | m
    · cases s with
      | read p => cases m
      | say n => cases m
      | call f p =>
        cases List.mem_singleton.mp m
        exact okP_in h.1
    · exact okSs_calls h.2 c m
theorem okB_calls {ps : List MR.Part} : ∀ {b : Bd} {a : List Str}, okB ps a b = true → ∀ c ∈ calls b, ∃ q ∈ ps, q.nm = c.2
  | .fin ss, a, h, c, m => by
    have h : (decide (ss.length ≤ 12) && okSs ps a ss) = true := h
    rw [Bool.and_eq_true] at h
    exact okSs_calls h.2 c m
  | .br ss p v x y, a, h, c, m => by
    have h : (decide (ss.length + 1 ≤ 12) && (okSs ps a ss && (okP ps (a ++ asks ss) p false && ((decide (1 ≤ v) && decide (v ≤ 255)) && (okB ps (a ++ asks ss ++ [p]) x && okB ps (a ++ asks ss ++ [p]) y))))) = true := h
    simp only [Bool.and_eq_true] at h
    rcases List.mem_append.mp m with m | m
    · rcases List.mem_append.mp m with m | m
      · exact okSs_calls h.2.1 c m
      · exact okB_calls h.2.2.2.2.1 c m
    · exact okB_calls h.2.2.2.2.2 c m
theorem SqR.sq {n : Nat} {b : Bd} (h : SqR (n + 1) (rs b)) : Sq (n + 1) b := by
  have hl := h.len
  unfold rs at hl
  rw [List.length_map] at hl
  cases b with
  | fin ss =>
    have hl : (ss.map MF.St.sm).length ≤ 13 := hl
    rw [List.length_map] at hl
    exact .fin hl
  | br ss p v x y =>
    have hl : (ss.map MF.St.sm ++ [MF.St.br p v x y]).length ≤ 13 := hl
    rw [List.length_append, List.length_map] at hl
    have hl : ss.length + 1 ≤ 13 := hl
    obtain ⟨m, e, hx, hy⟩ := h.sub p v x y (List.mem_map.mpr ⟨_, List.mem_append_right _ (List.mem_singleton_self _), rfl⟩)
    cases e
    exact .br (by omega) hx hy
theorem body_of {ps : List MR.Part} {l : List RS} (hs : SqR 4 l) (h : okR ps [] l = true) : ∃ b, l = rs b ∧ Sz 4 b ∧ ∀ c ∈ calls b, ∃ q ∈ ps, q.nm = c.2 := by
  have h2 := h
  unfold okR at h2
  rw [Bool.and_eq_true] at h2
  obtain ⟨b, rfl⟩ := okRs_rs h2.2
  rw [← okB_eq] at h
  exact ⟨b, rfl, okB_sz hs.sq h, okB_calls h⟩
end MG
namespace MG
open PySem PySem.Spec PyProof.Rows L2 DL MF
def rowZ : List MR.Row := [⟨"Tree", "Node", [⟨"k", MR.byteS, none⟩, ⟨"left", "Tree", some 3⟩, ⟨"right", "Tree", some 5⟩, ⟨"m", MR.byteS, none⟩]⟩, ⟨"Tree", "Leaf", [⟨"n", MR.byteS, none⟩]⟩, ⟨"List", "Cons", [⟨"head", "Tree", some 2⟩, ⟨"tail", "List", some 1⟩]⟩, ⟨"List", "Nil", []⟩]
def rowZs : List (List MR.Row) := [rowZ, rowZ.reverse]
abbrev rd (p : Str) : RS := .ok (.sm (.read p))
abbrev cl (f p : Str) : RS := .ok (.sm (.call f p))
abbrev sy (n : Int) : RS := .ok (.sm (.say n))
abbrev iff (p : Str) (v : Int) (x y : Bd) : RS := .ok (.br p v x y)
abbrev em : Bd := .fin []
def bodyF : List (Str × List RS) := [("Node", [cl "f" "left", rd "m"]), ("Leaf", [rd "n"])]
def cF : Core := ("f", "Tree", "sum", bodyF)
def cG : Core := ("g", "List", "max", [("Cons", [cl "f" "head", cl "g" "tail"]), ("Nil", [])])
def cH : Core := ("h", "Tree", "max", [("Leaf", []), ("Node", [rd "k", cl "h" "right"])])
def tabC : Nat → List Core
  | 0 => [cF, cG, cH]
  | 1 => [cG, cH, cF]
  | _ => [cH, cF, cG]
def atC : Nat → Nat
  | 0 => 0
  | 1 => 2
  | _ => 1
def put {α : Type} (l : List α) (i : Nat) (x : α) : List α := l.take i ++ [x] ++ l.drop (i + 1)
def says : Nat → List Sm := fun n => List.replicate n (.say 1)
def fbads : List (List RS) := [[.odd ["walk", "k"]], [rd "left"], [rd "k", sy 3, rd "k"], [iff "k" 9 (.fin [.call "f" "left"]) (.fin [.read "k"])], [iff "k" 9 em em, rd "m"], [iff "k" 0 em em], [iff "k" 256 em em], [sy 1001], [sy (-1)], List.replicate 13 (sy 1),
  [.odd ["read", "k", "m"]], [rd "zz"], [iff "m" 9 (.fin [.say 1001]) em], [iff "m" 9 em (.br [] "m" 7 em em)], [iff "left" 9 em em], [.odd ["call", "f"]], [cl "f" "left", cl "h" "left"], [iff "k" 9 (.fin (says 13)) em], [cl "f" "k"]]
def q24 : Str := "qqqqqqqqqqqqqqqqqqqqqqqq"
def f25 : Str := "fffffffffffffffffffffffff"
def flate : List (List RS) := [[iff "k" 9 (.fin [.call "g" "right"]) em], [cl q24 "left"], [cl "g" "left"], [iff "k" 9 em (.fin [.call "g" "right"])]]
def mostS : List Sm := [.say 0, .say 1000] ++ says 9
def ffine : List (List RS) := [mostS.map (fun s => .ok (.sm s)) ++ [rd "k"], [iff "k" 1 (.br [] "m" 255 (.fin [.call "h" "right", .call "f" "left"]) (.fin mostS)) (.fin [.read "m"])], []]
def cB (b : List RS) : Core := ("f", "Tree", "sum", [("Node", b), ("Leaf", [])])
def nbads : List Str := ["", "1a", "a b", "a.b", "f_f", f25]
def obads : List Str := ["min", "", "Sum"]
def mid (bad fold : Str) : List Core := [(bad, "Tree", "sum", bodyF), ("f", "Nope", "sum", bodyF), ("f", "byte", "sum", bodyF), ("f", "Tree", fold, bodyF), ("f", "Tree", "sum", [("Node", [])]), ("f", "Tree", "max", [("Node", []), ("Leaf", []), ("Nil", [])]), ("f", "Tree", "max", [("Node", []), ("Nil", [])]), ("f", "Tree", "sum", [("Node", []), ("Leaf", [rd "zz"])])]
def wrongC (bad fold : Str) : List Core := fbads.map cB ++ mid bad fold ++ flate.map cB
theorem v_tab : ∀ rows ∈ rowZs, ∀ t ∈ [0, 1, 2], verdict rows (tabC t) = none := by decide +kernel
theorem v_fine : ∀ rows ∈ rowZs, ∀ t ∈ [0, 1, 2], ∀ b ∈ ffine, verdict rows (put (tabC t) (atC t) (cB b)) = none := by decide +kernel
theorem v_wrong : ∀ rows ∈ rowZs, ∀ t ∈ [0, 1, 2], ∀ b ∈ fbads ++ flate, verdict rows (put (tabC t) (atC t) (cB b)) = some (atC t) := by decide +kernel
theorem v_mid : ∀ rows ∈ rowZs, ∀ t ∈ [0, 1, 2], ∀ z ∈ nbads, ∀ o ∈ obads, ∀ x ∈ mid z o, verdict rows (put (tabC t) (atC t) x) = some (atC t) := by decide +kernel
def zz (b : List RS) : Core := ("zz", "Tree", "sum", [("Node", b), ("Leaf", [])])
def firsts (b : List RS) : List Core := [("1a", "Tree", "sum", [("Node", []), ("Leaf", [])]), ("f", "Tree", "min", [("Node", []), ("Leaf", [])]), cB b]
set_option maxHeartbeats 8000000 in
theorem v_late : ∀ rows ∈ rowZs, ∀ t ∈ [0, 1, 2], ∀ o ∈ [0, 1, 2], o ≠ atC t → ∀ b ∈ fbads.take 17, ∀ l ∈ flate, verdict rows (put (put (tabC t) (atC t) (cB l)) o (zz b)) = some o := by decide +kernel
set_option maxHeartbeats 8000000 in
theorem v_both : ∀ rows ∈ rowZs, ∀ t ∈ [0, 1, 2], ∀ o ∈ [0, 1, 2], o ≠ atC t → ∀ b ∈ fbads.take 17, ∀ x ∈ firsts b, verdict rows (put (put (tabC t) (atC t) x) o (zz b)) = some (min o (atC t)) ∧ verdict rows (put (put (tabC t) (atC t) (zz b)) o x) = some (min o (atC t)) := by decide +kernel
def nilL (z : Str) : Core := (z, "List", "max", [("Cons", []), ("Nil", [])])
def manyC : List Core := [nilL "fa", nilL "fb", nilL "fc", nilL "fd", nilL "fe", nilL "ff", nilL "fg"]
set_option maxHeartbeats 8000000 in
theorem v_many : ∀ rows ∈ rowZs, verdict rows (manyC.take 6) = none ∧ verdict rows manyC = some 6 := by decide +kernel
set_option maxHeartbeats 8000000 in
theorem v_twice : ∀ rows ∈ rowZs, ∀ t ∈ [0, 1, 2], ∀ j ∈ [0, 1], ∀ c, (tabC t)[j]? = some c → verdict rows ((tabC t).take 2 ++ [nilL c.1]) = some 2 := fun rows mr t mt j mj c h => by
  have key : ∀ rows ∈ rowZs, ∀ t ∈ [0, 1, 2], ∀ j ∈ [0, 1], (match (tabC t)[j]? with | some c => verdict rows ((tabC t).take 2 ++ [nilL c.1]) | none => some 2) = some 2 := by decide +kernel
  have := key rows mr t mt j mj
  rw [h] at this
  exact this
def sqB : Nat → Bd → Bool
  | 0, _ => false
  | _ + 1, .fin ss => decide (ss.length ≤ 13)
  | n + 1, .br ss _ _ x y => decide (ss.length ≤ 12) && (sqB n x && sqB n y)
theorem sqB_ok : ∀ {n : Nat} {b : Bd}, sqB n b = true → Sq n b
  | 0, _, h => by unfold sqB at h; cases h
  | n + 1, .fin ss, h => .fin (of_decide_eq_true h)
  | n + 1, .br ss p v x y, h => by
    have h : (decide (ss.length ≤ 12) && (sqB n x && sqB n y)) = true := h
    rw [Bool.and_eq_true, Bool.and_eq_true] at h
    exact .br (of_decide_eq_true h.1) (sqB_ok h.2.1) (sqB_ok h.2.2)
def sqS (n : Nat) : RS → Bool
  | .ok (.br _ _ x y) => sqB n x && sqB n y
  | .odd zs => decide (zs ∈ oddZ)
  | _ => true
def smallR (bs : List (Str × List RS)) : Bool := decide ((bs.map (·.1)).Nodup) && (decide (bs.length ≤ 20) && bs.all fun p => decide (p.2.length ≤ 13) && p.2.all (sqS 3))
def smallB (c : Core) : Bool := decide (c.1.length ≤ 100) && smallR c.2.2.2
theorem smallB_ok {f : RFn} (h : smallB (core f) = true) : SmallF f := by
  unfold smallB smallR at h
  simp only [Bool.and_eq_true, decide_eq_true_eq, List.all_eq_true] at h
  obtain ⟨h1, h2, h3, h4⟩ := h
  refine ⟨h1, h2, h3, fun p m => ⟨(h4 p m).1, fun q v x y mm => ?_, fun zs mm => ?_⟩⟩
  · have := (h4 p m).2 _ mm
    have this : (sqB 3 x && sqB 3 y) = true := this
    rw [Bool.and_eq_true] at this
    exact ⟨3, rfl, sqB_ok this.1, sqB_ok this.2⟩
  · exact of_decide_eq_true ((h4 p m).2 _ mm)
theorem s_tab : ∀ t ∈ [0, 1, 2], ∀ c ∈ tabC t, smallB c = true := by decide +kernel
theorem s_cB : ∀ b ∈ fbads ++ flate ++ ffine, smallB (cB b) = true ∧ smallB (zz b) = true := by decide +kernel
theorem s_mid : ∀ z ∈ nbads, ∀ o ∈ obads, ∀ x ∈ mid z o, smallB x = true := by decide +kernel
theorem s_first : ∀ b ∈ fbads, ∀ x ∈ firsts b, smallB x = true := by decide +kernel
theorem s_many : ∀ x ∈ manyC, smallB x = true := by decide +kernel
theorem s_nil {z : Str} (h : z.length ≤ 100) : smallB (nilL z) = true := by
  unfold smallB
  rw [Bool.and_eq_true]
  exact ⟨decide_eq_true h, (by decide +kernel : smallR [("Cons", []), ("Nil", [])] = true)⟩
def partB (nms : List Str) (p : MR.Part) : Bool := MN.nameL (MN.tl p.nm) && (decide (p.nm.length ≤ 8) && match p.pr with
  | none => p.inn == MR.byteS
  | some i => decide (p.inn ∈ nms) && (decide (1 ≤ i) && decide (i ≤ 1000)))
theorem drawn_of {nms : List Str} {ps : List MR.Part} (hl : ps.length ≤ 4) (nd : (ps.map (·.nm)).Nodup) (h : ps.all (partB nms) = true) : MR.Drawn nms false ps := by
  rw [List.all_eq_true] at h
  refine ⟨hl, nd, fun p m => ?_, fun p m => ?_, fun z => by cases z⟩
  · have := h p m
    unfold partB at this
    rw [Bool.and_eq_true, Bool.and_eq_true] at this
    exact ⟨this.1, of_decide_eq_true this.2.1⟩
  · have := h p m
    unfold partB at this
    rw [Bool.and_eq_true, Bool.and_eq_true] at this
    have h2 := this.2.2
    unfold MR.Part.ok
    cases e : p.pr with
    | none =>
      rw [e] at h2
      exact .inl ⟨eq_of_beq h2, rfl⟩
    | some i =>
      rw [e] at h2
      simp only [Bool.and_eq_true, decide_eq_true_eq] at h2
      exact .inr ⟨h2.1, i, rfl, h2.2⟩
theorem rowZ_table : MR.Table ["Tree", "List"] rowZ where
  names := ⟨by decide +kernel, by decide +kernel, by decide +kernel⟩
  few := by decide
  ne := by decide +kernel
  some := ⟨by decide, by decide +kernel, by decide +kernel, by decide +kernel, fun r m => ⟨false, drawn_of (this r m).1 (this r m).2.1 (this r m).2.2⟩⟩
  base := fun k hk => by
    have : k = 0 ∨ k = 1 := by
      have hk : k < 2 := hk
      omega
    rcases this with rfl | rfl
    · exact ⟨⟨"Tree", "Leaf", [⟨"n", MR.byteS, none⟩]⟩, by unfold rowZ; simp, rfl, fun p m => .inl (by rw [List.mem_singleton.mp m])⟩
    · exact ⟨⟨"List", "Nil", []⟩, by unfold rowZ; simp, rfl, fun p m => by cases m⟩
  where this : ∀ r ∈ rowZ, r.parts.length ≤ 4 ∧ (r.parts.map (·.nm)).Nodup ∧ r.parts.all (partB ["Tree", "List"]) = true := by decide +kernel
def rf (f : Fn) : RFn := ⟨f.name, f.kind, f.fold, f.ad, f.bodies.map fun p => (p.1, rs p.2)⟩
theorem rf_bds (bs : List (Str × Bd)) : bdsD (bs.map fun p => (p.1, rs p.2)) = MF.bdsD bs := by
  unfold bdsD MF.bdsD
  rw [List.map_map]
  exact List.map_congr_left fun p _ => by rw [dBd_rs]; rfl
theorem rf_d (f : Fn) : dRFn (rf f) = dFn f := by
  show D.tup [.str f.name, .str f.kind, .str f.fold, .ldk f.ad (bdsD (f.bodies.map fun p => (p.1, rs p.2)))] = dFn f
  rw [rf_bds]
theorem rf_ds (fs : List Fn) : fs.map dFn = (fs.map rf).map dRFn := by
  rw [List.map_map]
  exact List.map_congr_left fun f _ => (rf_d f).symm
theorem okSs_wf {ps : List MR.Part} {hd : List (Str × Str)} (nd : (ps.map (·.nm)).Nodup) : ∀ {ss : List Sm} {a : List Str}, (∀ s ∈ ss, okSm ps hd s) → (a ++ asks ss).Nodup → okSs ps a ss = true
  | [], _, _, _ => rfl
  | s :: r, a, h, nn => by
    have hs := h s List.mem_cons_self
    rw [show asks (s :: r) = askS s ++ asks r from List.flatMap_cons] at nn
    have nx : ∀ q ∈ askS s, q ∉ a := fun q m z => by
      rw [List.nodup_append] at nn
      exact nn.2.2 q z q (List.mem_append_left _ m) rfl
    rw [← List.append_assoc] at nn
    show (okSm1 ps a s && okSs ps (a ++ askS s) r) = true
    rw [okSs_wf nd (fun s m => h s (List.mem_cons_of_mem _ m)) nn, Bool.and_true]
    cases s with
    | read p =>
      obtain ⟨q, m, rfl, e⟩ := hs
      show okP ps a q.nm false = true
      rw [okP_yes nd m, decide_eq_false (nx _ (List.mem_singleton_self _)), e]
      decide +kernel
    | call f p =>
      obtain ⟨q, m, rfl, e, _⟩ := hs
      show okP ps a q.nm true = true
      rw [okP_yes nd m, decide_eq_false (nx _ (List.mem_singleton_self _)), beq_eq_false_iff_ne.mpr e]
      rfl
    | say n =>
      show (decide (0 ≤ n) && decide (n ≤ 1000)) = true
      rw [decide_eq_true hs.1, decide_eq_true hs.2]
      rfl
theorem okB_wf {ps : List MR.Part} {hd : List (Str × Str)} (nd : (ps.map (·.nm)).Nodup) : ∀ {n : Nat} {b : Bd} {a : List Str}, Sz n b → Wf ps hd a b → okB ps a b = true
  | _, .fin ss, a, .fin hl, h => by
    show (decide (ss.length ≤ 12) && okSs ps a ss) = true
    have h : OkSs ps hd a ss := h
    rw [decide_eq_true hl, okSs_wf nd h.ok h.nd]
    rfl
  | _, .br ss p v x y, a, .br hl hx hy, h => by
    obtain ⟨h1, ⟨q, m, rfl, e⟩, h3, h4, h5, h6, h7⟩ := h
    show (decide (ss.length + 1 ≤ 12) && (okSs ps a ss && (okP ps (a ++ asks ss) q.nm false && ((decide (1 ≤ v) && decide (v ≤ 255)) && (okB ps (a ++ asks ss ++ [q.nm]) x && okB ps (a ++ asks ss ++ [q.nm]) y))))) = true
    rw [decide_eq_true (by omega), okSs_wf nd h1.ok h1.nd, okP_yes nd m, decide_eq_false h3, e, decide_eq_true h4, decide_eq_true h5, okB_wf nd hx h6, okB_wf nd hy h7]
    decide +kernel
theorem Sz.sq : ∀ {n : Nat} {b : Bd}, Sz n b → Sq n b
  | _, _, .fin h => .fin (by omega)
  | _, _, .br h x y => .br (by omega) (Sz.sq x) (Sz.sq y)
theorem scan1_none {rows : List MR.Row} : ∀ {cs : List Core} {ns : List Str} {i : Nat}, i + cs.length ≤ 6 → (∀ c ∈ cs, MN.isName c.1 = true ∧ newX rows c = true) → (ns ++ cs.map (·.1)).Nodup → scan1 rows ns i cs = none
  | [], _, _, _, _, _ => rfl
  | c :: r, ns, i, hl, h, nd => by
    rw [List.length_cons] at hl
    obtain ⟨h1, h2⟩ := h c List.mem_cons_self
    rw [List.map_cons] at nd
    have hn : c.1 ∉ ns := fun m => by
      rw [List.nodup_append] at nd
      exact nd.2.2 _ m _ List.mem_cons_self rfl
    have e : newF rows ns c = true := by
      unfold newF
      rw [h1, decide_eq_false hn, h2]
      rfl
    unfold scan1
    rw [decide_eq_false (by omega), e, if_neg (by simp)]
    refine scan1_none (by omega) (fun c m => h c (List.mem_cons_of_mem _ m)) ?_
    rw [List.append_assoc]
    exact nd
theorem scan2_none {rows : List MR.Row} {sg : List (Str × Str)} : ∀ {cs : List Core} {i : Nat}, (∀ c ∈ cs, callsF rows sg c.2.2.2 = true) → scan2 rows sg i cs = none
  | [], _, _ => rfl
  | c :: r, i, h => by
    unfold scan2
    rw [if_pos (h c List.mem_cons_self)]
    exact scan2_none fun c m => h c (List.mem_cons_of_mem _ m)
theorem kindF_at : ∀ {sg : List (Str × Str)} {z k : Str}, (sg.map (·.1)).Nodup → (z, k) ∈ sg → kindF sg z = some k
  | (x, y) :: r, z, k, nd, m => by
    rw [List.map_cons, List.nodup_cons] at nd
    unfold kindF
    rw [List.find?_cons]
    rcases List.mem_cons.mp m with e | m
    · cases e
      rw [beq_self_eq_true]
      rfl
    · have : (x == z) = false := beq_eq_false_iff_ne.mpr fun e => nd.1 (by have := List.mem_map_of_mem (f := (·.1)) m; rw [e]; exact this)
      rw [this]
      exact kindF_at nd.2 m
theorem drawn_small {rows : List MR.Row} {fs : List Fn} (hR : RowsOk rows) (h : MF.Table rows fs) : ∀ f ∈ fs.map rf, SmallF f := fun g m => by
  obtain ⟨f, mf, rfl⟩ := List.mem_map.mp m
  obtain ⟨bd, e, hb⟩ := h.body f mf
  have hml : (MI.makersOf f.kind rows).length ≤ 10 := Nat.le_trans (MI.makers_len _ _) hR.len
  have hk : (rf f).bodies.map (·.1) = MI.makersOf f.kind rows := by
    show (f.bodies.map _).map _ = _
    rw [e, List.map_map]
    unfold bdsOf
    rw [List.map_map]
    exact List.map_id _
  refine ⟨by have := (h.name f mf).2; show f.name.length ≤ 100; omega, ?_, ?_, fun p mp => ?_⟩
  · rw [hk]
    exact hR.nd.sublist (List.Sublist.map _ List.filter_sublist)
  · have := congrArg List.length hk
    rw [List.length_map] at this
    omega
  · obtain ⟨q, mq, rfl⟩ := List.mem_map.mp (show p ∈ f.bodies.map _ from mp)
    rw [e] at mq
    obtain ⟨z, mz, rfl⟩ := List.mem_map.mp mq
    obtain ⟨r, mr, er, rfl⟩ := mem_makers.mp mz
    exact (Sz.sq (Sz.more (hb r mr er).2)).rs
theorem drawn_none {rows : List MR.Row} {fs : List Fn} (hR : RowsOk rows) (h : MF.Table rows fs) : verdict rows ((fs.map rf).map core) = none := by
  have hc : ∀ c ∈ (fs.map rf).map core, ∃ f ∈ fs, c = core (rf f) := fun c m => by
    obtain ⟨g, mg, rfl⟩ := List.mem_map.mp m
    obtain ⟨f, mf, rfl⟩ := List.mem_map.mp mg
    exact ⟨f, mf, rfl⟩
  have hne : (fs.map rf).map core ≠ [] := fun e => by
    have e := congrArg List.length e
    rw [List.length_map, List.length_map] at e
    exact h.ne (List.eq_nil_of_length_eq_zero e)
  have hnm : ((fs.map rf).map core).map (·.1) = fs.map (·.name) := by
    rw [List.map_map, List.map_map]
    rfl
  have hsg : sigs ((fs.map rf).map core) = MF.sigs fs := by
    unfold sigs
    rw [List.map_map, List.map_map]
    rfl
  have h1 : scan1 rows [] 0 ((fs.map rf).map core) = none := by
    refine scan1_none (by rw [List.length_map, List.length_map]; have := h.few; omega) (fun c m => ?_) ?_
    · obtain ⟨f, mf, rfl⟩ := hc c m
      obtain ⟨bd, e, hb⟩ := h.body f mf
      refine ⟨(MI.isName_of (h.name f mf) (by decide)).1, ?_⟩
      unfold newX
      simp only [Bool.and_eq_true, decide_eq_true_eq, List.all_eq_true]
      refine ⟨h.kind f mf, ?_, ?_, fun m mm => ?_⟩
      · show (f.fold == "sum" || f.fold == "max") = true
        rcases h.fold f mf with z | z <;> rw [z] <;> decide +kernel
      · show (f.bodies.map _).length = _
        rw [e, List.length_map]
        exact List.length_map ..
      · obtain ⟨r, mr, er, rfl⟩ := mem_makers.mp mm
        have hlk : (rf f).bodies.lookup r.maker = some (rs (bd r.maker)) := by
          refine (congrFun (congrArg List.lookup rfl) _).trans ?_
          show (f.bodies.map fun p => (p.1, rs p.2)).lookup r.maker = _
          rw [e]
          unfold bdsOf
          rw [List.map_map]
          exact look_mk mm
        show (match (rf f).bodies.lookup r.maker with | none => false | some l => okR (partsOf rows r.maker) [] l) = true
        rw [hlk, partsOf_at hR.nd mr]
        show okR r.parts [] (rs (bd r.maker)) = true
        rw [← okB_eq]
        exact okB_wf (hR.names r mr) (hb r mr er).2 (hb r mr er).1
    · rw [List.nil_append, hnm]
      exact h.nd
  have h2 : scan2 rows (sigs ((fs.map rf).map core)) 0 ((fs.map rf).map core) = none := by
    refine scan2_none fun c m => ?_
    obtain ⟨f, mf, rfl⟩ := hc c m
    obtain ⟨bd, e, hb⟩ := h.body f mf
    rw [hsg]
    refine List.all_eq_true.mpr fun p mp => List.all_eq_true.mpr fun c mc => ?_
    obtain ⟨q, mq, rfl⟩ := List.mem_map.mp (show p ∈ f.bodies.map _ from mp)
    rw [e] at mq
    obtain ⟨z, mz, rfl⟩ := List.mem_map.mp mq
    obtain ⟨r, mr, er, rfl⟩ := mem_makers.mp mz
    have mc : c ∈ rcalls (rs (bd r.maker)) := mc
    rw [rcalls_rs] at mc
    obtain ⟨q, mq, e1, _, e3⟩ := wf_calls (hb r mr er).1 c mc
    show decide (kindF (MF.sigs fs) c.1 = inB (partsOf rows r.maker) c.2) = true
    rw [partsOf_at hR.nd mr, ← e1, inB_at (hR.names r mr) mq, kindF_at ?_ e3]
    · exact decide_eq_true rfl
    · unfold MF.sigs
      rw [List.map_map]
      exact h.nd
  unfold verdict
  rw [if_neg hne, h1]
  exact h2
where
  look_mk {bd : Str → Bd} {m : Str} : ∀ {l : List Str}, m ∈ l → (l.map ((fun p : Str × Bd => (p.1, rs p.2)) ∘ fun m => (m, bd m))).lookup m = some (rs (bd m))
    | x :: r, h => by
      rw [List.map_cons]
      show List.lookup m ((x, rs (bd x)) :: _) = _
      rw [List.lookup_cons]
      by_cases e : m = x
      · subst e; rw [beq_self_eq_true]
      · rw [show (m == x) = false from beq_eq_false_iff_ne.mpr e]
        exact look_mk ((List.mem_cons.mp h).resolve_left e)
end MG
set_option pp.maxSteps 700
namespace G
open PySem PySem.Spec PyProof.Rows L2 DL DLS NdefX
local macro_rules | `(tactic| k_subL) => `(tactic| repeat (first
  | with_reducible refine s_seq ?_
  | with_reducible refine s_set ?_
  | with_reducible refine w_op ?_
  | ((with_reducible refine w_var (d := ?_) ?_ ?_); rotate_left; exact rfl)
  | with_reducible refine w_int ?_
  | with_reducible refine rv_i0 ?_
  | with_reducible refine rv_b0 ?_
  | with_reducible refine w_cb ?_
  | with_reducible refine w_cons ?_
  | with_reducible refine w_nil ?_
  | with_reducible refine rc_int ?_
  | with_reducible refine w_str ?_
  | with_reducible refine w_bl ?_
  | with_reducible refine w_non ?_
  | with_reducible refine g_name ?_
  | with_reducible refine s_ret ?_
  | with_reducible refine s_drop ?_
  | with_reducible refine s_if ?_
  | with_reducible refine w_test ?_
  | with_reducible refine w_tB ?_))
local macro_rules | `(tactic| k_clsL) => `(tactic| repeat (first
  | with_reducible refine s_seq ?_
  | with_reducible refine s_set ?_
  | with_reducible refine w_op ?_
  | ((with_reducible refine w_var (d := ?_) ?_ ?_); rotate_left; exact rfl)
  | with_reducible refine w_int ?_
  | with_reducible refine rv_i0 ?_
  | with_reducible refine rv_b0 ?_
  | with_reducible refine w_cb ?_
  | with_reducible refine w_cons ?_
  | with_reducible refine w_nil ?_
  | with_reducible refine rc_int ?_
  | with_reducible refine w_str ?_
  | with_reducible refine w_bl ?_
  | with_reducible refine w_non ?_
  | with_reducible refine g_name ?_
  | with_reducible refine s_ret ?_
  | with_reducible refine s_drop ?_
  | with_reducible refine s_if ?_
  | with_reducible refine w_test ?_
  | with_reducible refine w_tB ?_
  | with_reducible refine w_not ?_
  | with_reducible refine w_and ?_
  | with_reducible refine w_or ?_
  | with_reducible refine w_notV ?_
  | with_reducible refine w_andV ?_
  | with_reducible refine w_orV ?_
  | with_reducible refine w_if ?_
  | with_reducible refine w_chain ?_
  | with_reducible refine ex_bl ?_
  | with_reducible refine ex_int ?_
  | with_reducible refine ex_str ?_
  | with_reducible refine ex_lst ?_
  | with_reducible refine ex_tup ?_
  | with_reducible refine rc_lenM ?_
  | with_reducible refine rc_lenU ?_
  | with_reducible refine i_list ?_
  | with_reducible refine i_tup ?_
  | with_reducible refine i_range ?_
  | with_reducible refine i_str ?_
  | with_reducible refine s_for ?_
  | ((with_reducible refine rv_eq ?_ ?_); exact rfl)
  | ((with_reducible refine rv_ne ?_ ?_); exact rfl)
  | with_reducible refine MI.row0 _ ?_
  | with_reducible refine MI.row1 _ ?_
  | with_reducible refine MI.row2 _ ?_
  | with_reducible refine MI.par0 _ ?_
  | with_reducible refine MI.par1 _ ?_
  | ((with_reducible refine rv_ixT (d := ?_) ?_ ?_); rotate_left; exact rfl)))
structure Tx (P : Program) (w : World) (K : PySem.W.Frag) (mg : Str → Option Value) : Prop where
  ex : ∃ h : Heap, K.In h ∧ h.Ns mainGlobals mg
  cy : obsY fa fn xa sd wn ts K = valY fn sd wn ts w
  pf : PFile P
section
variable {P : Program} {w : World} {K : PySem.W.Frag} {mg : Str → Option Value} (Z : Tx P w K mg)
include Z
theorem Tx.c : obsX fa fn xa sd wn K = valX fn sd wn := obsY_x Z.cy
theorem Tx.says : He.SaysD fa fn K := obsX_says (Tx.c Z)
theorem Tx.glo (i : Nat) {x : Str} (h : fa[i]? = some (.glo x)) : mg x = some (.ref (He.ga K x)) := by
  obtain ⟨h0, X, G⟩ := Z.ex
  exact He.glo_ok X G (Z.says.fact i h)
theorem Tx.free (i : Nat) {x : Str} (h : fa[i]? = some (.free x)) : mg x = none := by
  obtain ⟨h0, X, G⟩ := Z.ex
  exact He.free_ok X G (Z.says.fact i h)
theorem Tx.int (i : Nat) {x : Str} {n : Int} (h : fa[i]? = some (.int x n)) : ∃ t, mg x = some (.int n t) := by
  obtain ⟨h0, X, G⟩ := Z.ex
  exact He.int_ok X G (Z.says.fact i h)
theorem Tx.str (i : Nat) {x z : Str} (h : fa[i]? = some (.str x z)) : ∃ t, mg x = some (.str z t) := by
  obtain ⟨h0, X, G⟩ := Z.ex
  exact He.str_ok X G (Z.says.fact i h)
theorem Tx.cls (i : Nat) {x : Str} (h : fa[i]? = some (.cls x)) : Cls K (He.ga K x) := He.cls_ok (Z.says.fact i h)
theorem Tx.noat (i : Nat) {x f : Str} (h : fa[i]? = some (.noat x f)) : NoAttr K (He.ga K x) f := He.noat_ok (Z.says.fact i h)
theorem Tx.meth (i : Nat) {x m : Str} (h : fa[i]? = some (.meth x m)) : Meth K (He.ga K x) m (He.ma K (He.ga K x) m) := He.meth_ok (Z.says.fact i h)
theorem Tx.mkr (i : Nat) {x : Str} (h : fa[i]? = some (.mkr x)) : Mk K (He.ga K x) (He.ma K (He.ga K x) "__init__") := He.mkr_ok (Z.says.fact i h)
theorem Tx.exc (i : Nat) {x : Str} (h : xa[i]? = some (.exc x)) : OexC K (He.ga K x) ∧ ExcC K (He.ga K x) ∧ XfC K (He.ga K x) := excB_ok (obsX_fact (Tx.c Z) i h)
theorem Tx.own (i : Nat) {x : Str} (h : xa[i]? = some (.own x)) : PySem.W.excIn K (He.ga K x) He.veBase "ValueError.__new__" = true := obsX_fact (Tx.c Z) i h
theorem Tx.sup (i : Nat) {x y : Str} (h : xa[i]? = some (.sup x y)) : SupC K (He.ga K x) (He.ga K y) := supCB_ok (obsX_fact (Tx.c Z) i h)
theorem Tx.kit (i : Nat) {x y : Str} {b : Bool} (h : xa[i]? = some (.kit x y b)) : PySem.W.kitOne K (.ref (He.ga K x)) (.ref (He.ga K y)) = some b := of_decide_eq_true (obsX_fact (Tx.c Z) i h)
theorem Tx.kitT (i : Nat) {x : Str} {n : String} {b : Bool} (h : xa[i]? = some (.kitT x n b)) : PySem.W.kitOne K (.ref (He.ga K x)) (.type n) = some b := of_decide_eq_true (obsX_fact (Tx.c Z) i h)
theorem Tx.exm (i : Nat) {x y : Str} {b : Bool} (h : xa[i]? = some (.exm x y b)) : PySem.W.exmOne K (.ref (He.ga K x)) (.ref (He.ga K y)) = some b := of_decide_eq_true (obsX_fact (Tx.c Z) i h)
theorem Tx.stat (i : Nat) {x m : Str} (h : xa[i]? = some (.stat x m)) : StatOf K (He.ga K x) m (He.ma K (He.ga K x) m) (He5.wf K (He.ga K x) "staticmethod" m) := statB_ok (obsX_fact (Tx.c Z) i h)
theorem Tx.smc (i : Nat) {x m : Str} (h : xa[i]? = some (.smc x m)) : SmC K (He.ga K x) m (He.ma K (He.ga K x) m) (He5.wf K (He.ga K x) "staticmethod" m) := smcB_ok (obsX_fact (Tx.c Z) i h)
theorem Tx.cm (i : Nat) {x m : Str} (h : xa[i]? = some (.cm x m)) : ClX.CRead K (He.ga K x) (.type "type") ∧ ClX.CMet K (He.ga K x) (.type "type") m (He.ma K (He.ga K x) m) (He5.wf K (He.ga K x) "classmethod" m) := cmB_ok (obsX_fact (Tx.c Z) i h)
theorem Tx.callo (i : Nat) {x : Str} (h : xa[i]? = some (.callo x)) : StX.CallO K (He.ga K x) (He.ma K (He.ga K x) "__call__") := calloB_ok (obsX_fact (Tx.c Z) i h)
theorem Tx.item (i : Nat) {x m : Str} (h : xa[i]? = some (.item x m)) : ItemOf K (He.ga K x) m (He.ma K (He.ga K x) m) ∧ PySem.W.fnIn K (He.ma K (He.ga K x) m) = true := itemB_ok (obsX_fact (Tx.c Z) i h)
theorem Tx.prop (i : Nat) {x m : Str} (h : xa[i]? = some (.prop x m)) : PropOf K (He.ga K x) m (He.ma K (He.ga K x) m) (He5.wf K (He.ga K x) "property" m) := propB_ok (obsX_fact (Tx.c Z) i h)
theorem Tx.bnd (i : Nat) {x m : Str} (h : xa[i]? = some (.bnd x m)) : BndM K (He.ga K x) m (He.ma K (He.ga K x) m) := bndB_ok (obsX_fact (Tx.c Z) i h)
theorem Tx.neq (i : Nat) {x : Str} (h : xa[i]? = some (.neq x)) : PySem.W.findIn K (.ref (He.ga K x)) "__ne__" = some (some (.builtin "object.__ne__")) ∧ PySem.W.subIn K (.ref (He.ga K x)) (.type "object") = some true := by
  have q := obsX_fact (Tx.c Z) i h
  simp only [Xa.ok, Bool.and_eq_true, decide_eq_true_eq] at q
  exact q
theorem Tx.bif (i : Nat) {x m : Str} {b : String} (h : xa[i]? = some (.bif x m b)) : PySem.W.findIn K (.ref (He.ga K x)) m = some (some (.builtin b)) := of_decide_eq_true (obsX_fact (Tx.c Z) i h)
theorem Tx.inh (i : Nat) {x y : Str} (h : xa[i]? = some (.inh x y)) : PySem.W.findIn K (.ref (He.ga K x)) "__init__" = some (some (.ref (He.ma K (He.ga K y) "__init__"))) := of_decide_eq_true (obsX_fact (Tx.c Z) i h)
theorem Tx.fun (i : Nat) {d : He.DefD} (h : fn[i]? = some d) : FunD K d.name d.qual d.params d.body d.scope (d.dvs K) (d.kws K) (He.fAd K d.at_) (fdAt K d.at_) := by
  obtain ⟨fd, F⟩ := Z.says.def_ i h
  have e : fdAt K d.at_ = fd := by
    obtain ⟨oc, od, dV, kV, doc, pm, an, cdv, ct, osl, _, e, _⟩ := F.ex
    unfold fdAt
    rw [e]
  rw [e]
  exact F
theorem Tx.kp (i : Nat) {d : He.DefD} (h : fn[i]? = some d) : PySem.W.keepIn K (.ref (He.fAd K d.at_)) = true := (Z.fun i h).kp
end
theorem kd_SIZES {P : Program} {w : World} {K : PySem.W.Frag} {mg : Str → Option Value} (Z : Tx P w K mg) : ∃ es n, KDict K w (He.ga K "SIZES") es n := obsY_tab Z.cy 0 rfl
theorem ke_SIZES {P : Program} {w : World} {K : PySem.W.Frag} {mg : Str → Option Value} (Z : Tx P w K mg) : ∀ e ∈ (ts.getD 0 default).2.2, entB K "SIZES" e.1 e.2 = true := fun e m => obsY_ent Z.cy 0 rfl m
theorem na_Kinds_table {P : Program} {w : World} {K : PySem.W.Frag} {mg : Str → Option Value} (Z : Tx P w K mg) : Cls K (He.ga K "Kinds") ∧ NoAttr K (He.ga K "Kinds") "table" := ⟨Z.cls 4 rfl, Z.noat 13 rfl⟩
theorem na_Kinds_family {P : Program} {w : World} {K : PySem.W.Frag} {mg : Str → Option Value} (Z : Tx P w K mg) : Cls K (He.ga K "Kinds") ∧ NoAttr K (He.ga K "Kinds") "family" := ⟨Z.cls 4 rfl, Z.noat 14 rfl⟩
theorem na_Kinds_names {P : Program} {w : World} {K : PySem.W.Frag} {mg : Str → Option Value} (Z : Tx P w K mg) : Cls K (He.ga K "Kinds") ∧ NoAttr K (He.ga K "Kinds") "names" := ⟨Z.cls 4 rfl, Z.noat 20 rfl⟩
theorem na_Kinds_order {P : Program} {w : World} {K : PySem.W.Frag} {mg : Str → Option Value} (Z : Tx P w K mg) : Cls K (He.ga K "Kinds") ∧ NoAttr K (He.ga K "Kinds") "order" := ⟨Z.cls 4 rfl, Z.noat 21 rfl⟩
theorem na_Kinds_smallest {P : Program} {w : World} {K : PySem.W.Frag} {mg : Str → Option Value} (Z : Tx P w K mg) : Cls K (He.ga K "Kinds") ∧ NoAttr K (He.ga K "Kinds") "smallest" := ⟨Z.cls 4 rfl, Z.noat 22 rfl⟩
theorem na_Functions_kinds {P : Program} {w : World} {K : PySem.W.Frag} {mg : Str → Option Value} (Z : Tx P w K mg) : Cls K (He.ga K "Functions") ∧ NoAttr K (He.ga K "Functions") "kinds" := ⟨Z.cls 36 rfl, Z.noat 51 rfl⟩
theorem na_Functions_table {P : Program} {w : World} {K : PySem.W.Frag} {mg : Str → Option Value} (Z : Tx P w K mg) : Cls K (He.ga K "Functions") ∧ NoAttr K (He.ga K "Functions") "table" := ⟨Z.cls 36 rfl, Z.noat 52 rfl⟩
theorem na_Functions_names {P : Program} {w : World} {K : PySem.W.Frag} {mg : Str → Option Value} (Z : Tx P w K mg) : Cls K (He.ga K "Functions") ∧ NoAttr K (He.ga K "Functions") "names" := ⟨Z.cls 36 rfl, Z.noat 60 rfl⟩
theorem F__law_pool {P : Program} {w : World} {K : PySem.W.Frag} {mg : Str → Option Value} (Z : Tx P w K mg) : FunD K "_law_pool" "_law_pool" (defArgs s__law_pool) (defBody s__law_pool) (defScope s__law_pool) [] [] (He.ga K "_law_pool") (fdAt K ("_law_pool", none)) := Z.fun 0 rfl
theorem b__law_pool {P : Program} {w : World} {K : PySem.W.Frag} {mg : Str → Option Value} (Z : Tx P w K mg) : Binds K (fdAt K ("_law_pool", none)) ["_law_script"] [] := FunD.bindsN (F__law_pool Z) fun _ _ _ _ _ _ us hl => match us, hl with | [_], _ => rfl
theorem F__law_take {P : Program} {w : World} {K : PySem.W.Frag} {mg : Str → Option Value} (Z : Tx P w K mg) : FunD K "_law_take" "_law_take" (defArgs s__law_take) (defBody s__law_take) (defScope s__law_take) [] [] (He.ga K "_law_take") (fdAt K ("_law_take", none)) := Z.fun 1 rfl
theorem b__law_take {P : Program} {w : World} {K : PySem.W.Frag} {mg : Str → Option Value} (Z : Tx P w K mg) : Binds K (fdAt K ("_law_take", none)) ["_law_pool_here", "_law_many"] [] := FunD.bindsN (F__law_take Z) fun _ _ _ _ _ _ us hl => match us, hl with | [_, _], _ => rfl
theorem F_Kinds___init__ {P : Program} {w : World} {K : PySem.W.Frag} {mg : Str → Option Value} (Z : Tx P w K mg) : FunD K "__init__" "Kinds.__init__" (defArgs s_Kinds___init__) (defBody s_Kinds___init__) (defScope s_Kinds___init__) [] [] (He.ma K (He.ga K "Kinds") "__init__") (fdAt K ("Kinds", some "__init__")) := Z.fun 2 rfl
theorem b_Kinds___init__ {P : Program} {w : World} {K : PySem.W.Frag} {mg : Str → Option Value} (Z : Tx P w K mg) : Binds K (fdAt K ("Kinds", some "__init__")) ["self", "rows"] [] := FunD.bindsN (F_Kinds___init__ Z) fun _ _ _ _ _ _ us hl => match us, hl with | [_, _], _ => rfl
theorem F__law_bad_row {P : Program} {w : World} {K : PySem.W.Frag} {mg : Str → Option Value} (Z : Tx P w K mg) : FunD K "_law_bad_row" "_law_bad_row" (defArgs s__law_bad_row) (defBody s__law_bad_row) (defScope s__law_bad_row) [] [] (He.ga K "_law_bad_row") (fdAt K ("_law_bad_row", none)) := Z.fun 3 rfl
theorem b__law_bad_row {P : Program} {w : World} {K : PySem.W.Frag} {mg : Str → Option Value} (Z : Tx P w K mg) : Binds K (fdAt K ("_law_bad_row", none)) ["_law_kinds", "_law_table"] [] := FunD.bindsN (F__law_bad_row Z) fun _ _ _ _ _ _ us hl => match us, hl with | [_, _], _ => rfl
theorem F__law_fine {P : Program} {w : World} {K : PySem.W.Frag} {mg : Str → Option Value} (Z : Tx P w K mg) : FunD K "_law_fine" "_law_fine" (defArgs s__law_fine) (defBody s__law_fine) (defScope s__law_fine) [] [] (He.ga K "_law_fine") (fdAt K ("_law_fine", none)) := Z.fun 4 rfl
theorem b__law_fine {P : Program} {w : World} {K : PySem.W.Frag} {mg : Str → Option Value} (Z : Tx P w K mg) : Binds K (fdAt K ("_law_fine", none)) [] [] := FunD.bindsN (F__law_fine Z) fun _ _ _ _ _ _ us hl => match us, hl with | [], _ => rfl
theorem F__law_with {P : Program} {w : World} {K : PySem.W.Frag} {mg : Str → Option Value} (Z : Tx P w K mg) : FunD K "_law_with" "_law_with" (defArgs s__law_with) (defBody s__law_with) (defScope s__law_with) [] [] (He.ga K "_law_with") (fdAt K ("_law_with", none)) := Z.fun 5 rfl
theorem b__law_with {P : Program} {w : World} {K : PySem.W.Frag} {mg : Str → Option Value} (Z : Tx P w K mg) : Binds K (fdAt K ("_law_with", none)) ["_law_table", "_law_at", "_law_row"] [] := FunD.bindsN (F__law_with Z) fun _ _ _ _ _ _ us hl => match us, hl with | [_, _, _], _ => rfl
theorem F__law_bodies {P : Program} {w : World} {K : PySem.W.Frag} {mg : Str → Option Value} (Z : Tx P w K mg) : FunD K "_law_bodies" "_law_bodies" (defArgs s__law_bodies) (defBody s__law_bodies) (defScope s__law_bodies) [] [] (He.ga K "_law_bodies") (fdAt K ("_law_bodies", none)) := Z.fun 6 rfl
theorem b__law_bodies {P : Program} {w : World} {K : PySem.W.Frag} {mg : Str → Option Value} (Z : Tx P w K mg) : Binds K (fdAt K ("_law_bodies", none)) [] [] := FunD.bindsN (F__law_bodies Z) fun _ _ _ _ _ _ us hl => match us, hl with | [], _ => rfl
theorem F__law_more {P : Program} {w : World} {K : PySem.W.Frag} {mg : Str → Option Value} (Z : Tx P w K mg) : FunD K "_law_more" "_law_more" (defArgs s__law_more) (defBody s__law_more) (defScope s__law_more) [] [] (He.ga K "_law_more") (fdAt K ("_law_more", none)) := Z.fun 7 rfl
theorem b__law_more {P : Program} {w : World} {K : PySem.W.Frag} {mg : Str → Option Value} (Z : Tx P w K mg) : Binds K (fdAt K ("_law_more", none)) ["_law_pool_here", "_law_kinds", "_law_table", "_law_at", "_law_late", "_law_early"] [] := FunD.bindsN (F__law_more Z) fun _ _ _ _ _ _ us hl => match us, hl with | [_, _, _, _, _, _], _ => rfl
theorem F_Kinds_is_new {P : Program} {w : World} {K : PySem.W.Frag} {mg : Str → Option Value} (Z : Tx P w K mg) : FunD K "is_new" "Kinds.is_new" (defArgs s_Kinds_is_new) (defBody s_Kinds_is_new) (defScope s_Kinds_is_new) [] [] (He.ma K (He.ga K "Kinds") "is_new") (fdAt K ("Kinds", some "is_new")) := Z.fun 8 rfl
theorem b_Kinds_is_new {P : Program} {w : World} {K : PySem.W.Frag} {mg : Str → Option Value} (Z : Tx P w K mg) : Binds K (fdAt K ("Kinds", some "is_new")) ["self", "row"] [] := FunD.bindsN (F_Kinds_is_new Z) fun _ _ _ _ _ _ us hl => match us, hl with | [_, _], _ => rfl
theorem F_Kinds_find_least {P : Program} {w : World} {K : PySem.W.Frag} {mg : Str → Option Value} (Z : Tx P w K mg) : FunD K "find_least" "Kinds.find_least" (defArgs s_Kinds_find_least) (defBody s_Kinds_find_least) (defScope s_Kinds_find_least) [] [] (He.ma K (He.ga K "Kinds") "find_least") (fdAt K ("Kinds", some "find_least")) := Z.fun 9 rfl
theorem b_Kinds_find_least {P : Program} {w : World} {K : PySem.W.Frag} {mg : Str → Option Value} (Z : Tx P w K mg) : Binds K (fdAt K ("Kinds", some "find_least")) ["self"] [] := FunD.bindsN (F_Kinds_find_least Z) fun _ _ _ _ _ _ us hl => match us, hl with | [_], _ => rfl
theorem F_is_name {P : Program} {w : World} {K : PySem.W.Frag} {mg : Str → Option Value} (Z : Tx P w K mg) : FunD K "is_name" "is_name" (defArgs s_is_name) (defBody s_is_name) (defScope s_is_name) [] [] (He.ga K "is_name") (fdAt K ("is_name", none)) := Z.fun 10 rfl
theorem b_is_name {P : Program} {w : World} {K : PySem.W.Frag} {mg : Str → Option Value} (Z : Tx P w K mg) : Binds K (fdAt K ("is_name", none)) ["text"] [] := FunD.bindsN (F_is_name Z) fun _ _ _ _ _ _ us hl => match us, hl with | [_], _ => rfl
theorem F_is_part {P : Program} {w : World} {K : PySem.W.Frag} {mg : Str → Option Value} (Z : Tx P w K mg) : FunD K "is_part" "is_part" (defArgs s_is_part) (defBody s_is_part) (defScope s_is_part) [] [] (He.ga K "is_part") (fdAt K ("is_part", none)) := Z.fun 11 rfl
theorem b_is_part {P : Program} {w : World} {K : PySem.W.Frag} {mg : Str → Option Value} (Z : Tx P w K mg) : Binds K (fdAt K ("is_part", none)) ["part"] [] := FunD.bindsN (F_is_part Z) fun _ _ _ _ _ _ us hl => match us, hl with | [_], _ => rfl
theorem F_Functions___init__ {P : Program} {w : World} {K : PySem.W.Frag} {mg : Str → Option Value} (Z : Tx P w K mg) : FunD K "__init__" "Functions.__init__" (defArgs s_Functions___init__) (defBody s_Functions___init__) (defScope s_Functions___init__) [] [] (He.ma K (He.ga K "Functions") "__init__") (fdAt K ("Functions", some "__init__")) := Z.fun 12 rfl
theorem b_Functions___init__ {P : Program} {w : World} {K : PySem.W.Frag} {mg : Str → Option Value} (Z : Tx P w K mg) : Binds K (fdAt K ("Functions", some "__init__")) ["self", "kinds", "rows"] [] := FunD.bindsN (F_Functions___init__ Z) fun _ _ _ _ _ _ us hl => match us, hl with | [_, _, _], _ => rfl
theorem F__law_int {P : Program} {w : World} {K : PySem.W.Frag} {mg : Str → Option Value} (Z : Tx P w K mg) : FunD K "_law_int" "_law_int" (defArgs s__law_int) (defBody s__law_int) (defScope s__law_int) [] [] (He.ga K "_law_int") (fdAt K ("_law_int", none)) := Z.fun 13 rfl
theorem b__law_int {P : Program} {w : World} {K : PySem.W.Frag} {mg : Str → Option Value} (Z : Tx P w K mg) : Binds K (fdAt K ("_law_int", none)) ["_law_value"] [] := FunD.bindsN (F__law_int Z) fun _ _ _ _ _ _ us hl => match us, hl with | [_], _ => rfl
theorem F_Functions_is_new {P : Program} {w : World} {K : PySem.W.Frag} {mg : Str → Option Value} (Z : Tx P w K mg) : FunD K "is_new" "Functions.is_new" (defArgs s_Functions_is_new) (defBody s_Functions_is_new) (defScope s_Functions_is_new) [] [] (He.ma K (He.ga K "Functions") "is_new") (fdAt K ("Functions", some "is_new")) := Z.fun 14 rfl
theorem b_Functions_is_new {P : Program} {w : World} {K : PySem.W.Frag} {mg : Str → Option Value} (Z : Tx P w K mg) : Binds K (fdAt K ("Functions", some "is_new")) ["self", "row"] [] := FunD.bindsN (F_Functions_is_new Z) fun _ _ _ _ _ _ us hl => match us, hl with | [_, _], _ => rfl
theorem F_calls_of {P : Program} {w : World} {K : PySem.W.Frag} {mg : Str → Option Value} (Z : Tx P w K mg) : FunD K "calls_of" "calls_of" (defArgs s_calls_of) (defBody s_calls_of) (defScope s_calls_of) [] [] (He.ga K "calls_of") (fdAt K ("calls_of", none)) := Z.fun 15 rfl
theorem b_calls_of {P : Program} {w : World} {K : PySem.W.Frag} {mg : Str → Option Value} (Z : Tx P w K mg) : Binds K (fdAt K ("calls_of", none)) ["body"] [] := FunD.bindsN (F_calls_of Z) fun _ _ _ _ _ _ us hl => match us, hl with | [_], _ => rfl
theorem F_Kinds_inner {P : Program} {w : World} {K : PySem.W.Frag} {mg : Str → Option Value} (Z : Tx P w K mg) : FunD K "inner" "Kinds.inner" (defArgs s_Kinds_inner) (defBody s_Kinds_inner) (defScope s_Kinds_inner) [] [] (He.ma K (He.ga K "Kinds") "inner") (fdAt K ("Kinds", some "inner")) := Z.fun 16 rfl
theorem b_Kinds_inner {P : Program} {w : World} {K : PySem.W.Frag} {mg : Str → Option Value} (Z : Tx P w K mg) : Binds K (fdAt K ("Kinds", some "inner")) ["self", "maker", "part"] [] := FunD.bindsN (F_Kinds_inner Z) fun _ _ _ _ _ _ us hl => match us, hl with | [_, _, _], _ => rfl
theorem F_Kinds_makers {P : Program} {w : World} {K : PySem.W.Frag} {mg : Str → Option Value} (Z : Tx P w K mg) : FunD K "makers" "Kinds.makers" (defArgs s_Kinds_makers) (defBody s_Kinds_makers) (defScope s_Kinds_makers) [] [] (He.ma K (He.ga K "Kinds") "makers") (fdAt K ("Kinds", some "makers")) := Z.fun 17 rfl
theorem b_Kinds_makers {P : Program} {w : World} {K : PySem.W.Frag} {mg : Str → Option Value} (Z : Tx P w K mg) : Binds K (fdAt K ("Kinds", some "makers")) ["self", "kind"] [] := FunD.bindsN (F_Kinds_makers Z) fun _ _ _ _ _ _ us hl => match us, hl with | [_, _], _ => rfl
theorem F_is_body {P : Program} {w : World} {K : PySem.W.Frag} {mg : Str → Option Value} (Z : Tx P w K mg) : FunD K "is_body" "is_body" (defArgs s_is_body) (defBody s_is_body) (defScope s_is_body) [] [] (He.ga K "is_body") (fdAt K ("is_body", none)) := Z.fun 18 rfl
theorem b_is_body {P : Program} {w : World} {K : PySem.W.Frag} {mg : Str → Option Value} (Z : Tx P w K mg) : Binds K (fdAt K ("is_body", none)) ["kinds", "maker", "body", "before"] [] := FunD.bindsN (F_is_body Z) fun _ _ _ _ _ _ us hl => match us, hl with | [_, _, _, _], _ => rfl
theorem F_Kinds_parts {P : Program} {w : World} {K : PySem.W.Frag} {mg : Str → Option Value} (Z : Tx P w K mg) : FunD K "parts" "Kinds.parts" (defArgs s_Kinds_parts) (defBody s_Kinds_parts) (defScope s_Kinds_parts) [] [] (He.ma K (He.ga K "Kinds") "parts") (fdAt K ("Kinds", some "parts")) := Z.fun 19 rfl
theorem b_Kinds_parts {P : Program} {w : World} {K : PySem.W.Frag} {mg : Str → Option Value} (Z : Tx P w K mg) : Binds K (fdAt K ("Kinds", some "parts")) ["self", "maker"] [] := FunD.bindsN (F_Kinds_parts Z) fun _ _ _ _ _ _ us hl => match us, hl with | [_, _], _ => rfl
theorem F_Kinds_entry {P : Program} {w : World} {K : PySem.W.Frag} {mg : Str → Option Value} (Z : Tx P w K mg) : FunD K "entry" "Kinds.entry" (defArgs s_Kinds_entry) (defBody s_Kinds_entry) (defScope s_Kinds_entry) [] [] (He.ma K (He.ga K "Kinds") "entry") (fdAt K ("Kinds", some "entry")) := Z.fun 20 rfl
theorem b_Kinds_entry {P : Program} {w : World} {K : PySem.W.Frag} {mg : Str → Option Value} (Z : Tx P w K mg) : Binds K (fdAt K ("Kinds", some "entry")) ["self", "maker"] [] := FunD.bindsN (F_Kinds_entry Z) fun _ _ _ _ _ _ us hl => match us, hl with | [_, _], _ => rfl
theorem F_Kinds_part_of {P : Program} {w : World} {K : PySem.W.Frag} {mg : Str → Option Value} (Z : Tx P w K mg) : FunD K "part_of" "Kinds.part_of" (defArgs s_Kinds_part_of) (defBody s_Kinds_part_of) (defScope s_Kinds_part_of) [] [] (He.ma K (He.ga K "Kinds") "part_of") (fdAt K ("Kinds", some "part_of")) := Z.fun 21 rfl
theorem b_Kinds_part_of {P : Program} {w : World} {K : PySem.W.Frag} {mg : Str → Option Value} (Z : Tx P w K mg) : Binds K (fdAt K ("Kinds", some "part_of")) ["self", "maker", "name"] [] := FunD.bindsN (F_Kinds_part_of Z) fun _ _ _ _ _ _ us hl => match us, hl with | [_, _, _], _ => rfl
theorem F__law_rows {P : Program} {w : World} {K : PySem.W.Frag} {mg : Str → Option Value} (Z : Tx P w K mg) : FunD K "_law_rows" "_law_rows" (defArgs s__law_rows) (defBody s__law_rows) (defScope s__law_rows) [] [] (He.ga K "_law_rows") (fdAt K ("_law_rows", none)) := Z.fun 22 rfl
theorem b__law_rows {P : Program} {w : World} {K : PySem.W.Frag} {mg : Str → Option Value} (Z : Tx P w K mg) : Binds K (fdAt K ("_law_rows", none)) ["_law_pool_here"] [] := FunD.bindsN (F__law_rows Z) fun _ _ _ _ _ _ us hl => match us, hl with | [_], _ => rfl
theorem F__law_functions {P : Program} {w : World} {K : PySem.W.Frag} {mg : Str → Option Value} (Z : Tx P w K mg) : FunD K "_law_functions" "_law_functions" (defArgs s__law_functions) (defBody s__law_functions) (defScope s__law_functions) [] [] (He.ga K "_law_functions") (fdAt K ("_law_functions", none)) := Z.fun 23 rfl
theorem b__law_functions {P : Program} {w : World} {K : PySem.W.Frag} {mg : Str → Option Value} (Z : Tx P w K mg) : Binds K (fdAt K ("_law_functions", none)) ["_law_pool_here", "_law_rows_here", "_law_hidden_here", "_law_cut", "_law_most"] [] := FunD.bindsN (F__law_functions Z) fun _ _ _ _ _ _ us hl => match us, hl with | [_, _, _, _, _], _ => rfl
theorem F__law_hidden {P : Program} {w : World} {K : PySem.W.Frag} {mg : Str → Option Value} (Z : Tx P w K mg) : FunD K "_law_hidden" "_law_hidden" (defArgs s__law_hidden) (defBody s__law_hidden) (defScope s__law_hidden) [] [] (He.ga K "_law_hidden") (fdAt K ("_law_hidden", none)) := Z.fun 24 rfl
theorem b__law_hidden {P : Program} {w : World} {K : PySem.W.Frag} {mg : Str → Option Value} (Z : Tx P w K mg) : Binds K (fdAt K ("_law_hidden", none)) ["_law_pool_here", "_law_rows_here"] [] := FunD.bindsN (F__law_hidden Z) fun _ _ _ _ _ _ us hl => match us, hl with | [_, _], _ => rfl
theorem F__law_name {P : Program} {w : World} {K : PySem.W.Frag} {mg : Str → Option Value} (Z : Tx P w K mg) : FunD K "_law_name" "_law_name" (defArgs s__law_name) (defBody s__law_name) (defScope s__law_name) [] [] (He.ga K "_law_name") (fdAt K ("_law_name", none)) := Z.fun 25 rfl
theorem b__law_name {P : Program} {w : World} {K : PySem.W.Frag} {mg : Str → Option Value} (Z : Tx P w K mg) : Binds K (fdAt K ("_law_name", none)) ["_law_seed", "_law_k", "_law_taken"] [] := FunD.bindsN (F__law_name Z) fun _ _ _ _ _ _ us hl => match us, hl with | [_, _, _], _ => rfl
theorem F__law_parts {P : Program} {w : World} {K : PySem.W.Frag} {mg : Str → Option Value} (Z : Tx P w K mg) : FunD K "_law_parts" "_law_parts" (defArgs s__law_parts) (defBody s__law_parts) (defScope s__law_parts) [] [] (He.ga K "_law_parts") (fdAt K ("_law_parts", none)) := Z.fun 26 rfl
theorem b__law_parts {P : Program} {w : World} {K : PySem.W.Frag} {mg : Str → Option Value} (Z : Tx P w K mg) : Binds K (fdAt K ("_law_parts", none)) ["_law_pool_here", "_law_seed", "_law_names", "_law_base"] [] := FunD.bindsN (F__law_parts Z) fun _ _ _ _ _ _ us hl => match us, hl with | [_, _, _, _], _ => rfl
theorem F__law_body {P : Program} {w : World} {K : PySem.W.Frag} {mg : Str → Option Value} (Z : Tx P w K mg) : FunD K "_law_body" "_law_body" (defArgs s__law_body) (defBody s__law_body) (defScope s__law_body) [] [] (He.ga K "_law_body") (fdAt K ("_law_body", none)) := Z.fun 27 rfl
theorem b__law_body {P : Program} {w : World} {K : PySem.W.Frag} {mg : Str → Option Value} (Z : Tx P w K mg) : Binds K (fdAt K ("_law_body", none)) ["_law_pool_here", "_law_heads", "_law_parts_here", "_law_cut", "_law_wild", "_law_nest"] [] := FunD.bindsN (F__law_body Z) fun _ _ _ _ _ _ us hl => match us, hl with | [_, _, _, _, _, _], _ => rfl
theorem F__law_shuffle {P : Program} {w : World} {K : PySem.W.Frag} {mg : Str → Option Value} (Z : Tx P w K mg) : FunD K "_law_shuffle" "_law_shuffle" (defArgs s__law_shuffle) (defBody s__law_shuffle) (defScope s__law_shuffle) [] [] (He.ga K "_law_shuffle") (fdAt K ("_law_shuffle", none)) := Z.fun 28 rfl
theorem b__law_shuffle {P : Program} {w : World} {K : PySem.W.Frag} {mg : Str → Option Value} (Z : Tx P w K mg) : Binds K (fdAt K ("_law_shuffle", none)) ["_law_pool_here", "_law_items"] [] := FunD.bindsN (F__law_shuffle Z) fun _ _ _ _ _ _ us hl => match us, hl with | [_, _], _ => rfl
theorem F_law {P : Program} {w : World} {K : PySem.W.Frag} {mg : Str → Option Value} (Z : Tx P w K mg) : FunD K "law" "law" (defArgs s_law) (defBody s_law) (defScope s_law) [] [] (He.ga K "law") (fdAt K ("law", none)) := Z.fun 29 rfl
theorem ex_BadFunctions {P : Program} {w : World} {K : PySem.W.Frag} {mg : Str → Option Value} (Z : Tx P w K mg) : OexC K (He.ga K "BadFunctions") ∧ ExcC K (He.ga K "BadFunctions") ∧ XfC K (He.ga K "BadFunctions") := Z.exc 11 rfl
theorem tp_FOLDS {P : Program} {w : World} {K : PySem.W.Frag} {mg : Str → Option Value} (Z : Tx P w K mg) : ∀ H, SqT K H (He.ga K "FOLDS") ((["sum", "max"] : List Str).map V.str) := tup_strs (obsX_fact (Tx.c Z) 13 rfl)
theorem kit_BadFunctions_BadKinds {P : Program} {w : World} {K : PySem.W.Frag} {mg : Str → Option Value} (Z : Tx P w K mg) : PySem.W.kitOne K (.ref (He.ga K "BadFunctions")) (.ref (He.ga K "BadKinds")) = some false := Z.kit 0 rfl
theorem kit_BadFunctions_BadLayout {P : Program} {w : World} {K : PySem.W.Frag} {mg : Str → Option Value} (Z : Tx P w K mg) : PySem.W.kitOne K (.ref (He.ga K "BadFunctions")) (.ref (He.ga K "BadLayout")) = some false := Z.kit 1 rfl
theorem kit_BadFunctions_BadRow {P : Program} {w : World} {K : PySem.W.Frag} {mg : Str → Option Value} (Z : Tx P w K mg) : PySem.W.kitOne K (.ref (He.ga K "BadFunctions")) (.ref (He.ga K "BadRow")) = some false := Z.kit 2 rfl
theorem kit_BadFunctions_BadTree {P : Program} {w : World} {K : PySem.W.Frag} {mg : Str → Option Value} (Z : Tx P w K mg) : PySem.W.kitOne K (.ref (He.ga K "BadFunctions")) (.ref (He.ga K "BadTree")) = some false := Z.kit 3 rfl
theorem kit_BadFunctions_NoLayout {P : Program} {w : World} {K : PySem.W.Frag} {mg : Str → Option Value} (Z : Tx P w K mg) : PySem.W.kitOne K (.ref (He.ga K "BadFunctions")) (.ref (He.ga K "NoLayout")) = some false := Z.kit 4 rfl
theorem kit_BadFunctions_NotThere {P : Program} {w : World} {K : PySem.W.Frag} {mg : Str → Option Value} (Z : Tx P w K mg) : PySem.W.kitOne K (.ref (He.ga K "BadFunctions")) (.ref (He.ga K "NotThere")) = some false := Z.kit 5 rfl
theorem kit_BadFunctions_Stuck {P : Program} {w : World} {K : PySem.W.Frag} {mg : Str → Option Value} (Z : Tx P w K mg) : PySem.W.kitOne K (.ref (He.ga K "BadFunctions")) (.ref (He.ga K "Stuck")) = some false := Z.kit 6 rfl
theorem kit_BadFunctions_WrongLayout {P : Program} {w : World} {K : PySem.W.Frag} {mg : Str → Option Value} (Z : Tx P w K mg) : PySem.W.kitOne K (.ref (He.ga K "BadFunctions")) (.ref (He.ga K "WrongLayout")) = some false := Z.kit 7 rfl
theorem kit_BadFunctions_BadFunctions {P : Program} {w : World} {K : PySem.W.Frag} {mg : Str → Option Value} (Z : Tx P w K mg) : PySem.W.kitOne K (.ref (He.ga K "BadFunctions")) (.ref (He.ga K "BadFunctions")) = some true := Z.kit 8 rfl
theorem kitT_BadFunctions_ValueError {P : Program} {w : World} {K : PySem.W.Frag} {mg : Str → Option Value} (Z : Tx P w K mg) : PySem.W.kitOne K (.ref (He.ga K "BadFunctions")) (.type "ValueError") = some true := Z.kitT 9 rfl
theorem exm_BadFunctions_GroveError {P : Program} {w : World} {K : PySem.W.Frag} {mg : Str → Option Value} (Z : Tx P w K mg) : PySem.W.exmOne K (.ref (He.ga K "BadFunctions")) (.ref (He.ga K "GroveError")) = some true := Z.exm 10 rfl
theorem I_BadFunctions {P : Program} {w : World} {K : PySem.W.Frag} {mg : Str → Option Value} {base : Heap} (Z : Tx P w K mg) : ∃ fd, FnOk P w K mg base (L2.CX P w) 1 (He.ma K (He.ga K "BadFunctions") "__init__") fd ["self", "row"] (spI K (He.ga K "BadFunctions") ["row"] condI) ∧ Binds K fd ["self", "row"] [] ∧
    PySem.W.findIn K (.ref (He.ga K "BadFunctions")) "__init__" = some (some (.ref (He.ma K (He.ga K "BadFunctions") "__init__"))) ∧ PySem.W.typeIn K (.ref (He.ma K (He.ga K "BadFunctions") "__init__")) = some (.type "function") := by
  obtain ⟨cc, cda, fd, dV, hdv, F, hfd, iC, tI⟩ := obsX_sup Z.pf (Tx.c Z) 0 (d := sd_BadFunctions) rfl
  refine ⟨fd, ?_, binds_supN hdv hfd fun _ _ _ _ _ us hl => match us, hl with | [_, _], _ => rfl, iC, tI⟩
  refine fn_super (N := N_BadFunctions) (k := 0) F sc_BadFunctions ⟨_, rfl, rfl⟩ (by decide +kernel) (Z.free 53 rfl) (fun vs H Q E h => ?_) (fun _ => rfl) (fun _ => rfl) (fun _ => rfl) (fun _ => rfl) fun A outer s H vs Q E hr h => ⟨_, _, (pa_cons (pe_op op_add_str pe_str (pe_callTy call_str_int (by rfl) (Z.free 54 rfl) PyProof.Rows.boot_str (pa_cons (pv 1) pa_nil))) pa_nil), (pss_one (ps_ost (pv 0) (pv 1))), init1I h rfl⟩
  obtain ⟨a, C, ws, rfl, hl, _⟩ := h
  simpa using hl
theorem pr_BadFunctions {X : Cx} {W : WX} {e : Expr} {es : List Expr} {ta : TA} {p pos pos' : Pos} (Z : Tx X.prog X.w X.K X.mg) (hc : X.calm = true) (hr : Room 2 X.A) (tk : Takes X W) (hg : Gl X "BadFunctions") (ha : PA X (e :: es) ta)
    (he : starEach (e :: es) X.env = (false, eval e X.env) :: starEach es X.env := by rfl) (hpl : (backTo pos (starEach es X.env)).any (·.1) = false := by rfl) : PS X (.Raise (some (.Call (.Name "BadFunctions" p) (e :: es) [] pos)) none pos') (fun _ σ H => tMkO (He.ga X.K "BadFunctions") (spI X.K (He.ga X.K "BadFunctions") ["row"] condI) [] ta σ H fun cls d H' => W cls d σ H') := by
  obtain ⟨fd, F, b, iC, tI⟩ := I_BadFunctions (w := X.w) (base := X.base) Z
  exact ps_raise hc tk (pmk_oex (Z.exc 11 rfl).1 iC tI F hr b .nil passN hg (Z.glo 47 rfl) ha (by decide) he hpl)
theorem xo_BadFunctions {P : Program} {w : World} {K : PySem.W.Frag} {mg : Str → Option Value} (Z : Tx P w K mg) : OexC K (He.ga K "BadFunctions") ∧ SupC K (He.ga K "BadFunctions") (He.ga K "BadFunctions") ∧ ∀ f ∈ (["row"] : List Str), PySem.W.findIn K (.ref (He.ga K "BadFunctions")) f = some none := by
  refine ⟨(Z.exc 11 rfl).1, Z.sup 12 rfl, fun f m => ?_⟩
  simp only [List.mem_cons, List.not_mem_nil, or_false] at m
  rcases m with rfl
  · exact Z.noat 50 rfl
theorem I_NotThere {P : Program} {w : World} {K : PySem.W.Frag} {mg : Str → Option Value} {base : Heap} (Z : Tx P w K mg) : ∃ fd, FnOk P w K mg base (L2.CX P w) 1 (He.ma K (He.ga K "NotThere") "__init__") fd ["self", "name"] (spI K (He.ga K "NotThere") ["name"] condS) ∧ Binds K fd ["self", "name"] [] ∧
    PySem.W.findIn K (.ref (He.ga K "NotThere")) "__init__" = some (some (.ref (He.ma K (He.ga K "NotThere") "__init__"))) ∧ PySem.W.typeIn K (.ref (He.ma K (He.ga K "NotThere") "__init__")) = some (.type "function") := by
  obtain ⟨cc, cda, fd, dV, hdv, F, hfd, iC, tI⟩ := obsX_sup Z.pf (Tx.c Z) 1 (d := sd_NotThere) rfl
  refine ⟨fd, ?_, binds_supN hdv hfd fun _ _ _ _ _ us hl => match us, hl with | [_, _], _ => rfl, iC, tI⟩
  refine fn_super (N := N_NotThere) (k := 0) F sc_NotThere ⟨_, rfl, rfl⟩ (by decide +kernel) (Z.free 53 rfl) (fun vs H Q E h => ?_) (fun _ => rfl) (fun _ => rfl) (fun _ => rfl) (fun _ => rfl) fun A outer s H vs Q E hr h => ⟨_, _, (pa_cons (pe_op op_add_str pe_str (pv 1)) pa_nil), (pss_one (ps_ost (pv 0) (pv 1))), init1S h rfl⟩
  obtain ⟨a, C, ws, rfl, hl, _⟩ := h
  simpa using hl
theorem pr_NotThere {X : Cx} {W : WX} {e : Expr} {es : List Expr} {ta : TA} {p pos pos' : Pos} (Z : Tx X.prog X.w X.K X.mg) (hc : X.calm = true) (hr : Room 2 X.A) (tk : Takes X W) (hg : Gl X "NotThere") (ha : PA X (e :: es) ta)
    (he : starEach (e :: es) X.env = (false, eval e X.env) :: starEach es X.env := by rfl) (hpl : (backTo pos (starEach es X.env)).any (·.1) = false := by rfl) : PS X (.Raise (some (.Call (.Name "NotThere" p) (e :: es) [] pos)) none pos') (fun _ σ H => tMkO (He.ga X.K "NotThere") (spI X.K (He.ga X.K "NotThere") ["name"] condS) [] ta σ H fun cls d H' => W cls d σ H') := by
  obtain ⟨fd, F, b, iC, tI⟩ := I_NotThere (w := X.w) (base := X.base) Z
  exact ps_raise hc tk (pmk_oex (Z.exc 14 rfl).1 iC tI F hr b .nil passN hg (Z.glo 41 rfl) ha (by decide) he hpl)
theorem xo_NotThere {P : Program} {w : World} {K : PySem.W.Frag} {mg : Str → Option Value} (Z : Tx P w K mg) : OexC K (He.ga K "NotThere") ∧ SupC K (He.ga K "NotThere") (He.ga K "NotThere") ∧ ∀ f ∈ (["name"] : List Str), PySem.W.findIn K (.ref (He.ga K "NotThere")) f = some none := by
  refine ⟨(Z.exc 14 rfl).1, Z.sup 15 rfl, fun f m => ?_⟩
  simp only [List.mem_cons, List.not_mem_nil, or_false] at m
  rcases m with rfl
  · exact Z.noat 64 rfl
def c__law_pool (K : PySem.W.Frag) : Ct := fun L as ds O k e => ∃ (d : D) (ns : List Int), as = [] ∧ ds = [d] ∧ O = [] ∧ lstR [] [] K d (ns.map D.int) ∧ ns.length ≤ 63 ∧
  ∀ (p : Addr) (ns' : List Int), k [p] (.adr p) [.lst (ns'.map D.int)]
theorem l__law_pool {K : PySem.W.Frag} : ∀ L as ds O k e, c__law_pool K L as ds O k e → ds.length = 1 := fun L as ds O k e h => by
  obtain ⟨a, ns, _, rfl, _⟩ := h
  rfl
theorem ok__law_pool {P : Program} {w : World} {K : PySem.W.Frag} {mg : Str → Option Value} {base : Heap} (Z : Tx P w K mg) : FnOk P w K mg base (L2.CX P w) 1 (He.ga K "_law_pool") (fdAt K ("_law_pool", none)) ["_law_script"] (spC (c__law_pool K)) := by
  refine FunD.ok (k := 0) (F__law_pool Z) sc__law_pool (sp_len (n := 1) l__law_pool) (fun cdv A outer s H vs Q E hr h => ⟨_, PSs.nox ((pss_cons (ps_set (i := 1) sc__law_pool.nd rfl (Or.inl rfl) (pe_lst pa_nil))
  (pss_cons (ps_for PassesOwn.never rfl (pi_list (pe_slice sl_list (pv 0) po_none (po_some pe_int))) (pg_name (i := 2) sc__law_pool.nd rfl (Or.inl rfl))
  (pss_cons (ps_set (i := 3) sc__law_pool.nd rfl (Or.inl rfl) (pe_callTy call_int1 (by rfl) (Z.free 11 rfl) PyProof.Rows.boot_int (pa_cons (pv 2) pa_nil)))
  (pss_one (ps_if (pt_cmpR op_ge (pv 3) (pe_op op_pow pe_int pe_int) (nomark _))
  (pss_one (ps_for PassesOwn.never rfl (pi_range1 (by rfl) (Z.free 12 rfl) (pa_cons pe_int pa_nil)) (pg_name (i := 4) sc__law_pool.nd rfl (Or.inl rfl))
  (pss_one (ps_if (pt_cmpR op_gt (pv 3) pe_int (nomark _))
  (pss_cons (ps_expr (pe_bm PySem.F.plainAttrs_list PySem.F.slot_list_append PySem.F.type_list_append mt_append (pv 1) (pa_cons (pe_op op_mod (pv 3) pe_int) pa_nil)))
  (pss_one (ps_set (i := 3) sc__law_pool.nd rfl (Or.inl rfl) (pe_op op_fdiv (pv 3) pe_int))))
  pss_nil))))
  (pss_cons (ps_set (i := 5) sc__law_pool.nd rfl (Or.inl rfl) (pe_op op_mod (pe_callTy call_int1 (by rfl) (Z.free 11 rfl) PyProof.Rows.boot_int (pa_cons (pe_op op_add (pe_op op_mul (pv 3) pe_int) pe_int) pa_nil)) pe_int))
  (pss_one (ps_for PassesOwn.never rfl (pi_range1 (by rfl) (Z.free 12 rfl) (pa_cons pe_int pa_nil)) (pg_name (i := 4) sc__law_pool.nd rfl (Or.inl rfl))
  (pss_cons (ps_set (i := 5) sc__law_pool.nd rfl (Or.inl rfl) (pe_op op_mod (pe_callTy call_int1 (by rfl) (Z.free 11 rfl) PyProof.Rows.boot_int (pa_cons (pe_op op_add (pe_op op_add (pe_op op_mul (pv 5) pe_int) (pe_op op_mul pe_int (pv 4))) pe_int) pa_nil)) pe_int))
  (pss_one (ps_expr (pe_bm PySem.F.plainAttrs_list PySem.F.slot_list_append PySem.F.type_list_append mt_append (pv 1) (pa_cons (pe_op op_mod (pe_callTy call_int1 (by rfl) (Z.free 11 rfl) PyProof.Rows.boot_int (pa_cons (pe_op op_fdiv (pe_op op_mul (pv 5) (pv 5)) pe_int) pa_nil)) pe_int) pa_nil))))))))))))
  (pss_one (ps_ret (pe_revL (pv 1))))))), enter h fun L as ds O k e c => ?_⟩)
  obtain ⟨d, ns, rfl, rfl, rfl, hR, hlen, hk⟩ := c
  refine s_seq (s_set (w_lst (w_nil ⟨Nat.zero_le _, fun p => ?_⟩)))
  refine s_seq (s_for (i_list (w_known (w_sl (w_var rfl (o_none (o_some (w_int ⟨_, rfl, rs_list (KK := K) (ds := ns.map D.int) hR.more fun q => ⟨q, _, _, _, rfl, rfl, rfl, _, rfl,
    fun i as ρ O => ∃ (ms : List Int) (x2 x3 x4 x5 : Option D), as = [p] ∧ ρ = [some d, some (.adr p), x2, x3, x4, x5] ∧ O = [.lst (ms.map D.int)] ∧ ms.length ≤ 60 * i, ⟨[], none, none, none, none, rfl, rfl, rfl, Nat.le_refl _⟩, ?_, ?_⟩⟩))))))))
  · rintro i as ρ O c hc ⟨ms, x2, x3, x4, x5, rfl, rfl, rfl, hl⟩
    obtain ⟨n, _, rfl⟩ := List.mem_map.mp (cut_mem hc)
    have hi : i < 63 := by
      have h1 := (List.getElem?_eq_some_iff.mp hc).1
      have h2 := cut_len (ns.map D.int) none (some 63)
      rw [List.length_map] at h2
      omega
    k_subL
    refine rv_i ⟨by decide, by decide, by decide⟩ ?_
    k_subL
    refine b_dec (fun h1 => ?_) fun h1 => ?_
    · refine s_for (i_range ?_)
      k_subL
      refine ⟨_, rfl, by decide, by decide, fun j as ρ O => ∃ (ms : List Int) (m : Int) (x4 : Option D), as = [p] ∧ ρ = [some d, some (.adr p), some (.int n), some (.int m), x4, x5] ∧ O = [.lst (ms.map D.int)] ∧ ms.length ≤ 60 * i + j, ⟨ms, n, x4, rfl, rfl, rfl, hl⟩, ?_, ?_⟩
      · rintro j as ρ O c hc ⟨ms, m, x4, rfl, rfl, rfl, hl⟩
        obtain ⟨hj, rfl⟩ := upto_at hc
        have hj : j < 60 := hj
        k_subL
        refine b_dec (fun h2 => ?_) fun h2 => ?_
        · refine s_seq (s_append 0 rfl rfl rfl ?_)
          k_subL
          refine rv_i (by decide) ⟨_, rfl, rfl, smallt (by rw [List.length_map]; omega), ?_⟩
          k_subL
          refine rv_i ⟨by decide, by decide⟩ ⟨ms ++ [m % 1000000], m / 1000000, _, rfl, rfl, ?_, ?_⟩
          · show [D.lst (ms.map D.int ++ [.int (m % 1000000)])] = _
            rw [List.map_append]
            rfl
          · rw [List.length_append]
            show ms.length + 1 ≤ _
            omega
        · exact s_next ⟨ms, m, _, rfl, rfl, rfl, by omega⟩
      · rintro as ρ O ⟨ms, m, x4, rfl, rfl, rfl, hl⟩
        exact ⟨ms, _, _, _, _, rfl, rfl, rfl, by rw [upto_len] at hl; show _ ≤ 60 * (i + 1); have : (60 : Int).toNat = 60 := rfl; omega⟩
    · k_subL
      refine rv_i (.inr ⟨by decide, by decide⟩) ?_
      k_subL
      refine rv_i (by decide) ?_
      have hx : 0 ≤ (n * 48271 + 12345) % 2147483647 ∧ (n * 48271 + 12345) % 2147483647 < 2147483647 := ⟨Int.emod_nonneg _ (by decide), Int.emod_lt_of_pos _ (by decide)⟩
      generalize (n * 48271 + 12345) % 2147483647 = x at hx
      refine s_for (i_range ?_)
      k_subL
      refine ⟨_, rfl, by decide, by decide, fun j as ρ O => ∃ (ms : List Int) (m : Int) (x4 : Option D), as = [p] ∧ ρ = [some d, some (.adr p), some (.int n), some (.int n), x4, some (.int m)] ∧ O = [.lst (ms.map D.int)] ∧ ms.length ≤ 60 * i + j ∧ 0 ≤ m ∧ m < 2147483647, ⟨ms, x, x4, rfl, rfl, rfl, hl, hx⟩, ?_, ?_⟩
      · rintro j as ρ O c hc ⟨ms, m, x4, rfl, rfl, rfl, hl, hm⟩
        obtain ⟨hj, rfl⟩ := upto_at hc
        have hj : j < 12 := hj
        k_subL
        refine rv_i (.inr ⟨by decide, by decide⟩) ?_
        k_subL
        refine rv_i (.inl ⟨by decide, by decide⟩) ?_
        k_subL
        refine rv_i (by decide) ?_
        have hy : 0 ≤ (m * 69621 + 7 * (j : Int) + 1) % 2147483629 ∧ (m * 69621 + 7 * (j : Int) + 1) % 2147483629 < 2147483629 := ⟨Int.emod_nonneg _ (by decide), Int.emod_lt_of_pos _ (by decide)⟩
        generalize (m * 69621 + 7 * (j : Int) + 1) % 2147483629 = y at hy
        refine s_append 0 rfl rfl rfl ?_
        k_subL
        refine rv_i (.inl ⟨by omega, by omega⟩) ?_
        k_subL
        refine rv_i ⟨by decide, by decide⟩ ?_
        k_subL
        refine rv_i (by decide) ⟨_, rfl, rfl, smallt (by rw [List.length_map]; omega), ms ++ [y * y / 4096 % 1000000], y, _, rfl, rfl, ?_, ?_, by omega, by omega⟩
        · show [D.lst (ms.map D.int ++ [.int (y * y / 4096 % 1000000)])] = _
          rw [List.map_append]
          rfl
        · rw [List.length_append]
          show ms.length + 1 ≤ _
          omega
      · rintro as ρ O ⟨ms, m, x4, rfl, rfl, rfl, hl, _⟩
        exact ⟨ms, _, _, _, _, rfl, rfl, rfl, by rw [upto_len] at hl; show _ ≤ 60 * (i + 1); have : (12 : Int).toNat = 12 := rfl; omega⟩
  · rintro as ρ O ⟨ms, x2, x3, x4, x5, rfl, rfl, rfl, hl⟩
    refine s_ret (w_let 0 (w_rev (w_var rfl ⟨_, .inl (lo_o 0 rfl rfl), fun q => ?_⟩)))
    show k [q] (.adr q) [.lst (ms.map D.int).reverse]
    rw [← List.map_reverse]
    exact hk q _
def c__law_take (K : PySem.W.Frag) : Ct := fun L as ds O k e => ∃ (a : Addr) (m : Int) (ns : List Int), as = [a] ∧ ds = [.adr a, .int m] ∧ O = [.lst (ns.map D.int)] ∧ 0 < m ∧
  ∀ (r : Int) (ns' : List Int), 0 ≤ r → r < m → k [a] (.int r) [.lst (ns'.map D.int)]
theorem l__law_take {K : PySem.W.Frag} : ∀ L as ds O k e, c__law_take K L as ds O k e → ds.length = 2 := fun L as ds O k e h => by
  obtain ⟨a, m, ns, _, rfl, _⟩ := h
  rfl
theorem ok__law_take {P : Program} {w : World} {K : PySem.W.Frag} {mg : Str → Option Value} {base : Heap} (Z : Tx P w K mg) : FnOk P w K mg base (L2.CX P w) 1 (He.ga K "_law_take") (fdAt K ("_law_take", none)) ["_law_pool_here", "_law_many"] (spC (c__law_take K)) := by
  refine FunD.ok (k := 0) (F__law_take Z) sc__law_take (sp_len (n := 2) l__law_take) (fun cdv A outer s H vs Q E hr h => ⟨_, PSs.nox ((pss_cons (ps_if (pt_cmpR (r := rEqD K) (op_eqD hr.units) (pv 0) (pe_lst pa_nil) (nomark _))
  (pss_one (ps_ret pe_int))
  pss_nil)
  (pss_one (ps_ret (pe_op op_mod (pe_callTy call_int1 (by rfl) (Z.free 11 rfl) PyProof.Rows.boot_int (pa_cons (pe_bm0 PySem.F.plainAttrs_list PySem.F.slot_list_pop PySem.F.type_list_pop mt_pop (pv 0)) pa_nil)) (pv 1)))))), enter h fun L as ds O k e c => ?_⟩)
  obtain ⟨a, m, ns, rfl, rfl, rfl, hm, hk⟩ := c
  refine s_seq (s_if (w_test (w_op (w_var rfl (w_lstF (w_nil ⟨Nat.zero_le _, rv_isNil 0 rfl rfl ⟨_, rfl, ?_⟩⟩))))))
  cases ns with
  | nil => exact s_ret (w_int (hk 0 [] (by omega) hm))
  | cons n r =>
    obtain ⟨v, hv⟩ : ∃ v, (((n :: r).map D.int))[((n :: r).map D.int).length - 1]? = some (.int v) := by
      rw [List.getElem?_map, List.length_map, List.getElem?_eq_getElem (by simp)]
      exact ⟨_, rfl⟩
    refine s_next (s_ret (w_op (w_cb (w_cons (w_bm0 a (w_var rfl ⟨rfl, ⟨0, _, rfl, rfl⟩, rfl, rc_pop 0 rfl rfl hv (w_nil (rc_int (w_var rfl (rv_i hm ?_))))⟩))))))
    have e : ((n :: r).map D.int).dropLast = (n :: r).dropLast.map D.int := (List.map_dropLast ..).symm
    show k [a] (.int (v % m)) [.lst ((n :: r).map D.int).dropLast]
    rw [e]
    exact hk _ _ (Int.emod_nonneg _ (by omega)) (Int.emod_lt_of_pos _ hm)
theorem call_take {K : PySem.W.Frag} {χ : Xk} {L as : List Addr} {ρ : DSt} {O : List D} {k : List Addr → D → List D → Prop} {j : Nat} {a : Addr} {ns : List Int} {m : Int} (ha : as[j]? = some a) (ho : O[j]? = some (.lst (ns.map D.int))) (hm : 0 < m)
    (hk : ∀ (r : Int) (ns' : List Int), 0 ≤ r → r < m → k as (.int r) (O.set j (.lst (ns'.map D.int)))) : cc (c__law_take K) χ ρ [j] L as [.adr a, .int m] O k := by
  obtain ⟨s1, s2, s3, s4, s5⟩ := sel1 ha ho
  refine ⟨s1, s2, ?_⟩
  rw [s3, s4]
  exact ⟨a, m, ns, rfl, rfl, rfl, hm, fun r ns' h1 h2 => by
    have := ck1 (O := O) s5 (hk r ns' h1 h2)
    rw [s3] at this
    exact this⟩
def c_is_name (K : PySem.W.Frag) : Ct := fun L as ds O k e => ∃ (z : Str), as = [] ∧ ds = [.str z] ∧ O = [] ∧ z.length ≤ 10000 ∧ k [] (.bl (MN.isName z)) []
theorem l_is_name {K : PySem.W.Frag} : ∀ L as ds O k e, c_is_name K L as ds O k e → ds.length = 1 := fun L as ds O k e h => by
  obtain ⟨i, _, rfl, _⟩ := h
  rfl
theorem ok_is_name {P : Program} {w : World} {K : PySem.W.Frag} {mg : Str → Option Value} {base : Heap} (Z : Tx P w K mg) : FnOk P w K mg base (L2.CX P w) 1 (He.ga K "is_name") (fdAt K ("is_name", none)) ["text"] (spC (c_is_name K)) := by
  refine FunD.ok (k := 0) (F_is_name Z) sc_is_name (sp_len (n := 1) l_is_name) (fun cdv A outer s H vs Q E hr h => ⟨_, PSs.nox ((pss_cons (ps_if (PW.pt (pw_or (pt_cmpR op_eq (pv 0) pe_str (nomark _)) (pw_or (pt_cmpR op_gt (pe_callB (r := fun xs H Q => ∃ x n, xs = [x] ∧ LenV K x H n ∧ Q (.int n) H) call_len (by rfl) (Z.free 10 rfl) PySem.boot_len (pa_cons (pv 0) pa_nil)) (pe_gi (by rfl) (Z.int 29 rfl)) (nomark _)) (pw_or1 (pt_cmpR op_notIn_sign (pe_ix (r := rIxS) ix_str (pv 0) pe_int (fun _ _ => rfl)) (pe_gs (by rfl) (Z.str 30 rfl)) (by rfl))))))
  (pss_one (ps_ret pe_bl))
  pss_nil)
  (pss_one (ps_ret (pe_callB (r := rAll K) (cr_all rfl) (by rfl) (Z.free 27 rfl) (by decide +kernel) (pa_cons (pe_lc rfl sc_is_name.nd (pi_str (pv 0)) (blkOk_by (own := [("char", 1)]) (N := N_is_name) (sc := defScope s_is_name) (by decide +kernel)) (fun _ _ _ _ _ => (pg_name (i := 1) sc_is_name.nd rfl (by first | exact Or.inl rfl | exact Or.inr rfl))) (fun _ _ _ _ _ => pts_nil) (fun _ _ _ _ _ => (pe_or (pe_cmpR op_in_sign (pv 1) (pe_gs (by rfl) (Z.str 30 rfl)) (by rfl)) (pe_one (pe_cmpR op_in_sign (pv 1) (pe_gs (by rfl) (Z.str 31 rfl)) (by rfl)))))) pa_nil)))))), enter h fun L as ds O k e c => ?_⟩)
  obtain ⟨z, rfl, rfl, rfl, hz, hk⟩ := c
  refine s_seq (s_if (w_or ?_))
  k_subL
  refine rv_eq rfl ⟨_, rfl, ?_⟩
  show if (z == ("" : Str)) = true then _ else _
  refine i_bl (fun e => ?_) fun e => ?_
  · have : z = "" := eq_of_beq e
    subst this
    exact s_ret (w_bl hk)
  have ne : MN.tl z ≠ [] := fun y => by
    have : z = "" := TL.ext_tl y
    subst this
    cases e
  refine w_or ?_
  k_subL
  refine rc_len (n := z.length) ⟨small (by omega), rfl⟩ ?_
  k_subL
  refine ⟨_, rfl, ?_⟩
  refine i_dec (fun h => ?_) fun h => ?_
  · have : MN.isName z = false := by
      unfold MN.isName
      rw [decide_eq_false (by omega), Bool.and_false]
    rw [this] at hk
    exact s_ret (w_bl hk)
  obtain ⟨c, r, ez⟩ : ∃ c r, MN.tl z = c :: r := by
    cases y : MN.tl z with
    | nil => exact absurd y ne
    | cons c r => exact ⟨c, r, rfl⟩
  k_subL
  refine rv_ixS (c := c) (small (by omega)) (by show atI (MN.tl z) 0 = _; rw [ez]; exact atI_nat (xs := c :: r) (j := 0) rfl) ?_
  k_subL
  refine rv_ninS ?_
  refine ⟨_, rfl, ?_⟩
  have en : MN.isName z = (decide (c ∈ MN.tl MN.letS) && r.all MN.okc) := by
    unfold MN.isName
    rw [ez, decide_eq_true (by omega), Bool.and_true]
    rfl
  refine i_bl (fun h => ?_) fun h => ?_
  · have h' : decide (c ∈ MN.tl MN.letS) = false := by rwa [Bool.not_eq_true'] at h
    rw [en, h'] at hk
    exact s_ret (w_bl hk)
  have h' : decide (c ∈ MN.tl MN.letS) = true := by rwa [Bool.not_eq_false'] at h
  refine s_next ?_
  refine s_ret (w_cb (w_cons (w_known (w_map (wg_name (by decide)) (i_str (w_var rfl ⟨z, rfl, MN.tl z, fun c => .str ⟨#[c]⟩, fun c => .bl (MN.okc c), rfl, smallt (by rw [← MN.len_tl]; omega), fun d m => ?_, fun q => ⟨q, _, _, _, rfl, rfl, rfl, w_nil ?_⟩⟩))))))
  · refine g_name ⟨rfl, rfl, w_orV (w_op (w_var rfl (w_str (rv_inS ⟨_, rfl, ?_⟩))))⟩
    refine i_bl (fun h => ⟨rfl, rfl, ?_⟩) fun h => ?_
    · show D.bl true = D.bl (MN.okc d)
      rw [MN.let_okc h]
    · refine w_op (w_var rfl (w_str (rv_inS ⟨rfl, rfl, ?_⟩)))
      show D.bl (decide (d ∈ MN.tl MN.digS)) = D.bl (decide (d ∈ MN.tl MN.letS) || decide (d ∈ MN.tl MN.digS))
      rw [show decide (d ∈ MN.tl MN.letS) = false from h, Bool.false_or]
  · refine rc_all (bs := (MN.tl z).map MN.okc) (.inl (by rw [List.map_map]; rfl)) ?_
    have : ((MN.tl z).map MN.okc).all id = MN.isName z := by
      rw [en, ez, h', List.map_cons, List.all_cons, List.all_map]
      show (MN.okc c && _) = _
      rw [MN.let_okc h', Bool.true_and, Bool.true_and]
      rfl
    rw [this]
    exact hk
theorem call_is_name {K : PySem.W.Frag} {χ : Xk} {L as : List Addr} {ρ : DSt} {O : List D} {k : List Addr → D → List D → Prop} {z : Str} (hz : z.length ≤ 10000) (hk : k as (.bl (MN.isName z)) O) : cc (c_is_name K) χ ρ [] L as [.str z] O k :=
  ⟨(no_js (as := as)).1, (no_js (as := as)).2, z, rfl, rfl, rfl, hz, ck0 hk⟩
def c_is_part (K : PySem.W.Frag) : Ct := fun L as ds O k e => ∃ (p : MR.Part), as = [] ∧ ds = [MR.dPart p] ∧ O = [] ∧ MN.isName p.nm = true ∧ p.nm.length ≤ 100 ∧
  ((p.inn = MR.byteS ∧ p.pr = none) ∨ (MN.isName p.inn = true ∧ p.inn.length ≤ 100 ∧ p.inn ≠ MR.byteS ∧ ∃ i : Int, p.pr = some i ∧ 1 ≤ i ∧ i ≤ 1000)) ∧ k [] (.bl true) []
theorem l_is_part {K : PySem.W.Frag} : ∀ L as ds O k e, c_is_part K L as ds O k e → ds.length = 1 := fun L as ds O k e h => by
  obtain ⟨i, _, rfl, _⟩ := h
  rfl
theorem ok_is_part {P : Program} {w : World} {K : PySem.W.Frag} {mg : Str → Option Value} {base : Heap} (Z : Tx P w K mg) : FnOk P w K mg base (L2.CX P w) 2 (He.ga K "is_part") (fdAt K ("is_part", none)) ["part"] (spC (c_is_part K)) := by
  refine FunD.ok (k := 1) (F_is_part Z) sc_is_part (sp_len (n := 1) l_is_part) (fun cdv A outer s H vs Q E hr h => ⟨_, PSs.nox ((pss_cons (ps_if (pt_not (pt_val (pe_call (ok_is_name Z) (hr.mono (by decide)) (by rfl) (Z.glo 24 rfl) (Z.kp 10 rfl) (b_is_name Z) .nil passN (pa_cons (pe_ix (r := rIxT K) ix_tup (pv 0) pe_int (fun _ _ => rfl)) pa_nil))))
  (pss_one (ps_ret pe_bl))
  pss_nil)
  (pss_cons (ps_if (pt_cmpR op_eq (pe_callB (r := fun xs H Q => ∃ x n, xs = [x] ∧ LenV K x H n ∧ Q (.int n) H) call_len (by rfl) (Z.free 10 rfl) PySem.boot_len (pa_cons (pv 0) pa_nil)) pe_int (nomark _))
  (pss_one (ps_ret (pe_cmpR op_eq (pe_ix (r := rIxT K) ix_tup (pv 0) pe_int (fun _ _ => rfl)) (pe_gs (by rfl) (Z.str 19 rfl)) (nomark _))))
  pss_nil)
  (pss_one (ps_ret (pe_and (pe_cmpR op_eq (pe_callB (r := fun xs H Q => ∃ x n, xs = [x] ∧ LenV K x H n ∧ Q (.int n) H) call_len (by rfl) (Z.free 10 rfl) PySem.boot_len (pa_cons (pv 0) pa_nil)) pe_int (nomark _)) (pe_and (pe_call (ok_is_name Z) (hr.mono (by decide)) (by rfl) (Z.glo 24 rfl) (Z.kp 10 rfl) (b_is_name Z) .nil passN (pa_cons (pe_ix (r := rIxT K) ix_tup (pv 0) pe_int (fun _ _ => rfl)) pa_nil)) (pe_and (pe_cmpR op_ne (pe_ix (r := rIxT K) ix_tup (pv 0) pe_int (fun _ _ => rfl)) (pe_gs (by rfl) (Z.str 19 rfl)) (nomark _)) (pe_one (pe_chain op_le op_le pe_int (pe_ix (r := rIxT K) ix_tup (pv 0) pe_int (fun _ _ => rfl)) (pe_gi (by rfl) (Z.int 32 rfl)))))))))))), enter h fun L as ds O k e c => ?_⟩)
  obtain ⟨⟨nm, inn, pr⟩, rfl, rfl, rfl, h1, h2, h3, hk⟩ := c
  simp only at h1 h2 h3
  refine s_seq (s_if (w_not (w_test ?_)))
  refine d_call [] ?_
  k_subL
  refine rv_ixT (d := .str nm) (by cases pr <;> rfl) ?_
  k_subL
  refine call_is_name (by omega) ?_
  rw [h1]
  refine ⟨_, rfl, ?_⟩
  refine s_next ?_
  rcases h3 with ⟨rfl, rfl⟩ | ⟨n1, n2, n3, i, rfl, i1, i2⟩
  · k_subL
    refine rc_len (n := 2) rfl ?_
    k_subL
    refine rv_eq rfl ⟨_, rfl, ?_⟩
    refine s_ret ?_
    k_subL
    refine rv_ixT (d := .str MR.byteS) rfl ?_
    k_subL
    exact rv_eq rfl hk
  · k_subL
    refine rc_len (n := 3) rfl ?_
    k_subL
    refine rv_eq rfl ⟨_, rfl, ?_⟩
    refine s_next ?_
    refine s_ret (w_andV ?_)
    k_subL
    refine rc_len (n := 3) rfl ?_
    k_subL
    refine rv_eq rfl ⟨_, rfl, ?_⟩
    refine w_andV ?_
    refine d_call [] ?_
    k_subL
    refine rv_ixT (d := .str inn) rfl ?_
    k_subL
    refine call_is_name (by omega) ?_
    rw [n1]
    refine ⟨_, rfl, ?_⟩
    refine w_andV ?_
    k_subL
    refine rv_ixT (d := .str inn) rfl ?_
    k_subL
    refine rv_ne rfl ⟨_, rfl, ?_⟩
    rw [show eqD (.str inn) (.str "byte") = false from by show (inn == MR.byteS) = false; simp [n3]]
    refine w_chain ?_
    k_subL
    refine rv_ixT (d := .int i) rfl ?_
    refine rv_b0 ⟨_, rfl, ?_⟩
    rw [show decide ((1 : Int) ≤ i) = true from decide_eq_true i1]
    refine w_int (rv_b0 ?_)
    rw [show decide (i ≤ (1000 : Int)) = true from decide_eq_true i2]
    exact hk
theorem call_is_part {K : PySem.W.Frag} {χ : Xk} {L as : List Addr} {ρ : DSt} {O : List D} {k : List Addr → D → List D → Prop} {p : MR.Part} (h1 : MN.isName p.nm = true) (h2 : p.nm.length ≤ 100)
    (h3 : (p.inn = MR.byteS ∧ p.pr = none) ∨ (MN.isName p.inn = true ∧ p.inn.length ≤ 100 ∧ p.inn ≠ MR.byteS ∧ ∃ i : Int, p.pr = some i ∧ 1 ≤ i ∧ i ≤ 1000)) (hk : k as (.bl true) O) : cc (c_is_part K) χ ρ [] L as [MR.dPart p] O k :=
  ⟨(no_js (as := as)).1, (no_js (as := as)).2, p, rfl, rfl, rfl, h1, h2, h3, ck0 hk⟩
structure NewRow (r : MR.Row) (tds fds : List (Key × D)) : Prop where
  kind : MN.isName r.kind = true ∧ r.kind.length ≤ 100
  byte : r.kind ≠ MR.byteS
  maker : MN.isName r.maker = true ∧ r.maker.length ≤ 100
  new : valD tds (.inr r.maker) = none
  few : (valD fds (.inr r.kind)).isSome = true ∨ fds.length ≠ 4
  parts : r.parts.length ≤ 4
  part : ∀ p ∈ r.parts, MN.isName p.nm = true ∧ p.nm.length ≤ 100 ∧ ((p.inn = MR.byteS ∧ p.pr = none) ∨ (MN.isName p.inn = true ∧ p.inn.length ≤ 100 ∧ p.inn ≠ MR.byteS ∧ ∃ i : Int, p.pr = some i ∧ 1 ≤ i ∧ i ≤ 1000))
  nd : (r.parts.map (·.nm)).Nodup
def c_Kinds_is_new (K : PySem.W.Frag) : Ct := fun L as ds O k e => ∃ (s t f : Addr) (fl : List (Str × D)) (tds fds : List (Key × D)) (r : MR.Row), L = [] ∧ as = [s, t, f] ∧ ds = [.adr s, MR.dRow r] ∧ O = [.ins (He.ga K "Kinds") fl, .dk tds, .dk fds] ∧
  fl.lookup ("table" : Str) = some (.adr t) ∧ fl.lookup ("family" : Str) = some (.adr f) ∧ NewRow r tds fds ∧ k [s, t, f] (.bl true) [.ins (He.ga K "Kinds") fl, .dk tds, .dk fds]
theorem l_Kinds_is_new {K : PySem.W.Frag} : ∀ L as ds O k e, c_Kinds_is_new K L as ds O k e → ds.length = 2 := fun L as ds O k e h => by
  obtain ⟨s, t, f, fl, tds, fds, r, _, _, rfl, _⟩ := h
  rfl
theorem ok_Kinds_is_new {P : Program} {w : World} {K : PySem.W.Frag} {mg : Str → Option Value} {base : Heap} (Z : Tx P w K mg) : FnOk P w K mg base (L2.CX P w) 3 (He.ma K (He.ga K "Kinds") "is_new") (fdAt K ("Kinds", some "is_new")) ["self", "row"] (spC (c_Kinds_is_new K)) := by
  refine FunD.ok (k := 2) (F_Kinds_is_new Z) sc_Kinds_is_new (sp_len (n := 2) l_Kinds_is_new) (fun cdv A outer s H vs Q E hr h => ⟨_, PSs.nox ((pss_cons (ps_asg (pv 1) (pg_tup rfl (pgs_cons (pg_name (i := 2) sc_Kinds_is_new.nd rfl (Or.inl rfl)) (pgs_cons (pg_name (i := 3) sc_Kinds_is_new.nd rfl (Or.inl rfl)) (pgs_cons (pg_name (i := 4) sc_Kinds_is_new.nd rfl (Or.inl rfl)) pgs_nil)))))
  (pss_cons (ps_if (PW.pt (pw_or (pt_not (pt_val (pe_call (ok_is_name Z) (hr.mono (by decide)) (by rfl) (Z.glo 24 rfl) (Z.kp 10 rfl) (b_is_name Z) .nil passN (pa_cons (pv 2) pa_nil)))) (pw_or (pt_cmpR op_eq (pv 2) (pe_gs (by rfl) (Z.str 19 rfl)) (nomark _)) (pw_or (pt_not (pt_val (pe_call (ok_is_name Z) (hr.mono (by decide)) (by rfl) (Z.glo 24 rfl) (Z.kp 10 rfl) (b_is_name Z) .nil passN (pa_cons (pv 3) pa_nil)))) (pw_or1 (pt_cmp (pc_din (hu_of hr) (pv 3) (show PE _ _ (tFld K _ _) from pe_fld (pv 0) rfl))))))))
  (pss_one (ps_ret pe_bl))
  pss_nil)
  (pss_cons (ps_if (PW.pt (pw_and (pt_cmp (pc_dnotin (hu_of hr) (pv 2) (show PE _ _ (tFld K _ _) from pe_fld (pv 0) rfl))) (pw_and1 (pt_cmpR op_eq (pe_callB call_lenD (by rfl) (Z.free 10 rfl) PySem.boot_len (pa_cons (show PE _ _ (tFld K _ _) from pe_fld (pv 0) rfl) pa_nil)) (pe_gi (by rfl) (Z.int 25 rfl)) (nomark _)))))
  (pss_one (ps_ret pe_bl))
  pss_nil)
  (pss_cons (ps_if (PW.pt (pw_or (pt_cmpR op_gt (pe_callB (r := fun xs H Q => ∃ x n, xs = [x] ∧ LenV K x H n ∧ Q (.int n) H) call_len (by rfl) (Z.free 10 rfl) PySem.boot_len (pa_cons (pv 4) pa_nil)) (pe_gi (by rfl) (Z.int 26 rfl)) (nomark _)) (pw_or1 (pt_not (pt_val (pe_callB (r := rAll K) (cr_all rfl) (by rfl) (Z.free 27 rfl) (by decide +kernel) (pa_cons (pe_lc rfl sc_Kinds_is_new.nd (pi_tup (pv 4)) (blkOk_by (own := [("part", 5)]) (N := N_Kinds_is_new) (sc := defScope s_Kinds_is_new) (by decide +kernel)) (fun _ _ _ _ _ => (pg_name (i := 5) sc_Kinds_is_new.nd rfl (by first | exact Or.inl rfl | exact Or.inr rfl))) (fun _ _ _ _ _ => pts_nil) (fun _ _ _ _ _ => (pe_call (ok_is_part Z) (hr.mono (by decide)) (by rfl) (Z.glo 28 rfl) (Z.kp 11 rfl) (b_is_part Z) .nil passN (pa_cons (pv 5) pa_nil)))) pa_nil)))))))
  (pss_one (ps_ret pe_bl))
  pss_nil)
  (pss_one (ps_ret (pe_cmpR op_eq (pe_callB call_lenK (by rfl) (Z.free 10 rfl) PySem.boot_len (pa_cons (pe_scK rfl sc_Kinds_is_new.nd (pi_tup (pv 4)) (blkOk_by (own := [("part", 5)]) (N := N_Kinds_is_new) (sc := defScope s_Kinds_is_new) (by decide +kernel)) (fun _ _ _ _ _ => (pg_name (i := 5) sc_Kinds_is_new.nd rfl (by first | exact Or.inl rfl | exact Or.inr rfl))) (fun _ _ _ _ _ => (pe_ix (r := rIxT K) ix_tup (pv 5) pe_int (fun _ _ => rfl)))) pa_nil)) (pe_callB (r := fun xs H Q => ∃ x n, xs = [x] ∧ LenV K x H n ∧ Q (.int n) H) call_len (by rfl) (Z.free 10 rfl) PySem.boot_len (pa_cons (pv 4) pa_nil)) (nomark _))))))))), enter h fun L as ds O k e c => ?_⟩)
  obtain ⟨s, t, f, fl, tds, fds, ⟨kind, maker, parts⟩, rfl, rfl, rfl, rfl, ht, hf, nw, hk⟩ := c
  obtain ⟨k1, k2, k3, k4, k5, k6, k7, k8⟩ := nw
  simp only at k1 k2 k3 k4 k5 k6 k7 k8
  refine s_seq (s_asg (w_var rfl (g_tup rfl (gs_cons (g_name (gs_cons (g_name (gs_cons (g_name (gs_nil ?_))))))))))
  refine s_seq (s_if (w_or (w_not (w_test (d_call [] ?_)))))
  k_subL
  refine call_is_name (z := kind) (by omega) ?_
  rw [k1.1]
  refine ⟨_, rfl, ?_⟩
  refine w_or ?_
  k_subL
  refine rv_eq rfl ⟨_, rfl, ?_⟩
  rw [show eqD (.str kind) (.str "byte") = false from by show (kind == MR.byteS) = false; simp [k2]]
  refine w_or (w_not (w_test (d_call [] ?_)))
  k_subL
  refine call_is_name (z := maker) (by omega) ?_
  rw [k3.1]
  refine ⟨_, rfl, ?_⟩
  show dT _ _ _ _ _ _ _
  refine w_test (w_din ?_)
  k_subL
  refine w_fld (w_var rfl ⟨_, fl, .adr t, .inr ⟨0, s, rfl, rfl, rfl⟩, (na_Kinds_table Z).1, (na_Kinds_table Z).2, ht, .inr maker, tds, rfl, .inr ⟨1, t, rfl, rfl, rfl⟩, ?_⟩)
  rw [k4]
  refine ⟨_, rfl, ?_⟩
  refine s_next ?_
  refine s_mid (N := fun as ρ O => as = [s, t, f] ∧ ρ = [some (.adr s), some (MR.dRow ⟨kind, maker, parts⟩), some (.str kind), some (.str maker), some (.tup (parts.map MR.dPart)), none] ∧ O = [.ins (He.ga K "Kinds") fl, .dk tds, .dk fds]) ?_ ?_
  · refine s_if (w_and (w_test (w_dnin ?_)))
    k_subL
    refine w_fld (w_var rfl ⟨_, fl, .adr f, .inr ⟨0, s, rfl, rfl, rfl⟩, (na_Kinds_family Z).1, (na_Kinds_family Z).2, hf, .inr kind, fds, rfl, .inr ⟨2, f, rfl, rfl, rfl⟩, ?_⟩)
    refine ⟨_, rfl, ?_⟩
    cases e : (valD fds (.inr kind)).isSome with
    | true => exact s_next ⟨rfl, rfl, rfl⟩
    | false =>
      show dT _ _ _ _ _ _ _
      have h4 : fds.length ≠ 4 := k5.resolve_left (by rw [e]; simp)
      k_subL
      refine w_fld (w_var rfl ⟨_, fl, .adr f, .inr ⟨0, s, rfl, rfl, rfl⟩, (na_Kinds_family Z).1, (na_Kinds_family Z).2, hf, ?_⟩)
      k_subL
      refine rc_lenD (.inr ⟨2, f, rfl, rfl, rfl⟩) ?_
      k_subL
      refine rv_eq rfl ⟨_, rfl, ?_⟩
      rw [show eqD (.int fds.length) (.int 4) = false from by show ((fds.length : Int) == 4) = false; rw [beq_eq_false_iff_ne]; omega]
      exact s_next ⟨rfl, rfl, rfl⟩
  · rintro as ρ O ⟨rfl, rfl, rfl⟩
    refine s_seq (s_if (w_or ?_))
    k_subL
    refine rc_len (n := parts.length) (List.length_map ..).symm ?_
    k_subL
    refine ⟨_, rfl, ?_⟩
    refine i_dec (fun h => by omega) fun h => ?_
    refine w_not (w_test (w_cb (w_cons (w_known (w_map (wg_name (by decide)) (i_tup (w_var rfl ⟨_, rfl, parts, MR.dPart, fun _ => .bl true, rfl, smallt (by omega), fun p m => ?_, fun q => ⟨q, _, _, _, rfl, rfl, rfl, w_nil ?_⟩⟩)))))))
    · refine g_name ⟨rfl, rfl, d_call [] (w_cons (w_var rfl (w_nil ?_)))⟩
      obtain ⟨a1, a2, a3⟩ := k7 p m
      exact call_is_part a1 a2 a3 ⟨rfl, rfl, rfl⟩
    refine rc_all (bs := parts.map fun _ => true) (.inl (by rw [List.map_map]; rfl)) ?_
    rw [show (parts.map fun _ => true).all id = true from by rw [List.all_map]; exact List.all_eq_true.mpr fun _ _ => rfl]
    refine ⟨_, rfl, ?_⟩
    refine s_next (s_ret (w_op ?_))
    refine w_lenset (wg_name (by decide)) (i_tup (w_var rfl ⟨_, rfl, parts, MR.dPart, fun p => p.nm, rfl, by omega, fun p m => ?_, ?_⟩))
    · exact g_name ⟨rfl, rfl, w_op (w_var rfl (w_int (rv_ixT (d := .str p.nm) (by cases p.pr <;> rfl) ⟨rfl, rfl, rfl⟩)))⟩
    k_subL
    refine rc_len (n := parts.length) (List.length_map ..).symm ?_
    refine rv_eq rfl ?_
    rw [dist_nodup _ k8, List.length_map]
    rw [show eqD (.int parts.length) (.int parts.length) = true from beq_self_eq_true _]
    exact hk
theorem call_is_new {K : PySem.W.Frag} {χ : Xk} {as : List Addr} {ρ : DSt} {O : List D} {k : List Addr → D → List D → Prop} {s t f : Addr} {fl : List (Str × D)} {tds fds : List (Key × D)} {r : MR.Row} (ea : selA as [0, 1, 2] = [s, t, f]) (eO : selO O [0, 1, 2] = [.ins (He.ga K "Kinds") fl, .dk tds, .dk fds])
    (la : 3 ≤ as.length) (hO : putAll O [0, 1, 2] [.ins (He.ga K "Kinds") fl, .dk tds, .dk fds] = O) (ht : fl.lookup ("table" : Str) = some (.adr t)) (hf : fl.lookup ("family" : Str) = some (.adr f)) (nw : NewRow r tds fds) (hk : k as (.bl true) O) : cc (c_Kinds_is_new K) χ ρ [0, 1, 2] [] as [.adr s, MR.dRow r] O k := by
  refine ⟨by decide, fun j m => by simp at m; omega, ?_⟩
  rw [ea, eO]
  refine ⟨s, t, f, fl, tds, fds, r, rfl, rfl, rfl, rfl, ht, hf, nw, [], [], [.ins (He.ga K "Kinds") fl, .dk tds, .dk fds], ?_, ?_, rfl, ?_⟩
  · rfl
  · rfl
  · rw [hO, List.append_nil, List.append_nil]
    exact hk
abbrev Ent := ML.Ent
abbrev EntOk := ML.EntOk
abbrev entD := ML.entD
def c_Kinds_find_least (K : PySem.W.Frag) : Ct := fun L as ds O k e => ∃ (s t sm : Addr) (fl : List (Str × D)) (es : List Ent) (nms : List Str), L = [] ∧ as = [s, sm] ∧ ds = [.adr s] ∧ O = [.ins (He.ga K "Kinds") fl, .dk []] ∧
  fl.lookup ("table" : Str) = some (.ldk t (es.map entD)) ∧ fl.lookup ("smallest" : Str) = some (.adr sm) ∧ nms.Nodup ∧ nms.length ≤ 3 ∧ (∀ e ∈ es, EntOk nms e) ∧
  ∀ lr lds sds, (∀ kv ∈ sds, Cz kv.2) → (∀ kv ∈ lds, Cz kv.2) → (∃ g, ML.Done nms es g sds) → k [s, sm, lr] .non [.ins (He.ga K "Kinds") fl, .dk sds, .dk lds]
theorem l_Kinds_find_least {K : PySem.W.Frag} : ∀ L as ds O k e, c_Kinds_find_least K L as ds O k e → ds.length = 1 := fun L as ds O k e h => by
  obtain ⟨s, t, sm, fl, es, nms, _, _, rfl, _⟩ := h
  rfl
theorem ok_Kinds_find_least {P : Program} {w : World} {K : PySem.W.Frag} {mg : Str → Option Value} {base : Heap} (Z : Tx P w K mg) : FnOk P w K mg base (L2.CX P w) 1 (He.ma K (He.ga K "Kinds") "find_least") (fdAt K ("Kinds", some "find_least")) ["self"] (spC (c_Kinds_find_least K)) := by
  refine FunD.ok (k := 0) (F_Kinds_find_least Z) sc_Kinds_find_least (sp_len (n := 1) l_Kinds_find_least) (fun cdv A outer s H vs Q E hr h => ⟨_, PSs.nox ((pss_cons (ps_set (i := 1) sc_Kinds_find_least.nd rfl (Or.inr rfl) pe_dnewK)
  (pss_cons (ps_set (i := 2) sc_Kinds_find_least.nd rfl (Or.inl rfl) pe_bl)
  (pss_one (ps_while PassesOwn.never (pt_val (pv 2))
  (pss_cons (ps_set (i := 2) sc_Kinds_find_least.nd rfl (Or.inl rfl) pe_bl)
  (pss_one (ps_lock (ps_for PassesOwn.never rfl (pi_items (show PE _ _ (tFld K _ _) from pe_fld (pv 0) rfl)) (pg_tup rfl (pgs_cons (pg_name (i := 3) sc_Kinds_find_least.nd rfl (Or.inl rfl)) (pgs_cons (pg_tup rfl (pgs_cons (pg_name (i := 7) sc_Kinds_find_least.nd rfl (Or.inl rfl)) (pgs_cons (pg_name (i := 8) sc_Kinds_find_least.nd rfl (Or.inl rfl)) (pgs_cons (pg_name (i := 9) sc_Kinds_find_least.nd rfl (Or.inl rfl)) pgs_nil)))) pgs_nil)))
  (pss_cons (ps_if (pt_not (pt_val (pe_callB (r := rAll K) (cr_all rfl) (by rfl) (Z.free 27 rfl) (by decide +kernel) (pa_cons (pe_lc rfl sc_Kinds_find_least.nd (pi_tup (pv 9)) (blkOk_by (own := [("part", 6)]) (N := N_Kinds_find_least) (sc := defScope s_Kinds_find_least) (by decide +kernel)) (fun _ _ _ _ _ => (pg_name (i := 6) sc_Kinds_find_least.nd rfl (by first | exact Or.inl rfl | exact Or.inr rfl))) (fun _ _ _ _ _ => pts_nil) (fun _ _ _ _ _ => (pe_or (pe_cmpR op_eq (pe_ix (r := rIxT K) ix_tup (pv 6) pe_int (fun _ _ => rfl)) (pe_gs (by rfl) (Z.str 19 rfl)) (nomark _)) (pe_one (pe_cmp (pc_din (hu_of hr) (pe_ix (r := rIxT K) ix_tup (pv 6) pe_int (fun _ _ => rfl)) (pv 1))))))) pa_nil))))
  (pss_one ps_continue)
  pss_nil)
  (pss_cons (ps_set (i := 4) sc_Kinds_find_least.nd rfl (Or.inl rfl) (pe_lst (pa_cons (pv 8) pa_nil)))
  (pss_cons (ps_set (i := 5) sc_Kinds_find_least.nd rfl (Or.inl rfl) (pe_lst (pa_cons (pv 3) pa_nil)))
  (pss_cons (ps_for PassesOwn.never rfl (pi_tup (pv 9)) (pg_name (i := 6) sc_Kinds_find_least.nd rfl (Or.inl rfl))
  (pss_cons (ps_expr (pe_bm PySem.F.plainAttrs_list PySem.F.slot_list_extend PySem.F.type_list_extend mt_extend (pv 4) (pa_cons (pe_ifExp (pt_cmpR op_eq (pe_ix (r := rIxT K) ix_tup (pv 6) pe_int (fun _ _ => rfl)) (pe_gs (by rfl) (Z.str 19 rfl)) (nomark _)) (pe_lst (pa_cons pe_int pa_nil)) (pe_dget (hu_of hr) (pv 1) (pe_ix (r := rIxT K) ix_tup (pv 6) pe_int (fun _ _ => rfl)) (fun _ _ => rfl))) pa_nil)))
  (pss_one (ps_expr (pe_bm PySem.F.plainAttrs_list PySem.F.slot_list_append PySem.F.type_list_append mt_append (pv 5) (pa_cons (pe_ifExp (pt_cmpR op_eq (pe_ix (r := rIxT K) ix_tup (pv 6) pe_int (fun _ _ => rfl)) (pe_gs (by rfl) (Z.str 19 rfl)) (nomark _)) pe_int (pe_dget (hu_of hr) (show PE _ _ (tFld K _ _) from pe_fld (pv 0) rfl) (pe_ix (r := rIxT K) ix_tup (pv 6) pe_int (fun _ _ => rfl)) (fun _ _ => rfl))) pa_nil))))))
  (pss_one (ps_if (PW.pt (pw_or (pt_cmp (pc_dnotin (hu_of hr) (pv 7) (pv 1))) (pw_or1 (pt_cmpR (op_ltD hr.units) (pe_tup (pa_cons (pe_callB (r := fun xs H Q => ∃ x n, xs = [x] ∧ LenV K x H n ∧ Q (.int n) H) call_len (by rfl) (Z.free 10 rfl) PySem.boot_len (pa_cons (pv 4) pa_nil)) (pa_cons (pv 4) pa_nil))) (pe_tup (pa_cons (pe_callB (r := fun xs H Q => ∃ x n, xs = [x] ∧ LenV K x H n ∧ Q (.int n) H) call_len (by rfl) (Z.free 10 rfl) PySem.boot_len (pa_cons (pe_dget (hu_of hr) (pv 1) (pv 7) (fun _ _ => rfl)) pa_nil)) (pa_cons (pe_dget (hu_of hr) (pv 1) (pv 7) (fun _ _ => rfl)) pa_nil))) (nomark _)))))
  (pss_cons (ps_dput (hu_of hr) (pv 1) (pv 7) (pv 4) rfl)
  (pss_cons (ps_dput (hu_of hr) (show PE _ _ (tFld K _ _) from pe_fld (pv 0) rfl) (pv 7) (pe_callTy call_tuple_of (by rfl) (Z.free 18 rfl) PyProof.Rows.boot_tuple (pa_cons (pv 5) pa_nil)) rfl)
  (pss_one (ps_set (i := 2) sc_Kinds_find_least.nd rfl (Or.inl rfl) pe_bl))))
  pss_nil))))))))))))))), enter h fun L as ds O k e c => ?_⟩)
  obtain ⟨s, t, sm, fl, es, nms, rfl, rfl, rfl, rfl, ht, hs, nd, n3, hes, hk⟩ := c
  refine s_seq (s_set (w_dnew fun lr => ?_))
  refine s_seq (s_set (w_bl ?_))
  refine s_while (fun m as ρ O => ∃ (g : ML.Fnd) (lds sds : List (Key × D)) (ch : Bool) (x3 x4 x5 x6 x7 x8 x9 : Option D), as = [s, sm, lr] ∧ ρ = [some (.adr s), some (.adr lr), some (.bl ch), x3, x4, x5, x6, x7, x8, x9] ∧ O = [.ins (He.ga K "Kinds") fl, .dk sds, .dk lds] ∧
    ML.St nms g lds sds ∧ ML.Fin nms es g sds ∧ (∀ kv ∈ lds, Cz kv.2) ∧ (ch = true → m = ML.rank nms g + 1) ∧ (ch = false → ML.Closed es g)) (ML.rank nms (fun _ => none) + 1)
    ⟨fun _ => none, [], [], true, none, none, none, none, none, none, none, rfl, rfl, rfl, ML.St.nil, ML.Fin.nil, (fun _ m => by cases m), fun _ => rfl, fun z => by cases z⟩ ?_
  rintro m as ρ O ⟨g0, lds0, sds0, ch, x3, x4, x5, x6, x7, x8, x9, rfl, rfl, rfl, hst0, hfi0, hcz0, hm, hcl⟩
  refine w_tB (w_var rfl ⟨ch, rfl, ?_⟩)
  cases ch with
  | false =>
    exact hk lr lds0 sds0 hst0.cz hcz0 ⟨g0, hfi0, hcl rfl, hst0.small, fun k ns e => ⟨(hst0.dig k ns e).1, Nat.le_trans (hst0.dig k ns e).2 (ML.B_three (Nat.le_trans (ML.cnt_le nms g0) n3))⟩⟩
  | true =>
    have hm := hm rfl
    rw [if_pos rfl]
    refine s_seq (s_set (w_bl ?_))
    refine s_lock t (He.ga K "Kinds") (es.map entD) 0 "table" fl (by simp) rfl ht ?_
    refine s_for (i_items (w_fld (w_var rfl ⟨_, fl, _, .inr ⟨0, s, rfl, rfl, rfl⟩, (na_Kinds_table Z).1, (na_Kinds_table Z).2, ht, t, _, rfl, List.mem_cons_self, ?_⟩)))
    refine ⟨fun i as ρ O => ∃ (g : ML.Fnd) (lds sds : List (Key × D)) (ch : Bool) (x3 x4 x5 x6 x7 x8 x9 : Option D), as = [s, sm, lr] ∧ ρ = [some (.adr s), some (.adr lr), some (.bl ch), x3, x4, x5, x6, x7, x8, x9] ∧ O = [.ins (He.ga K "Kinds") fl, .dk sds, .dk lds] ∧
      ML.St nms g lds sds ∧ ML.Fin nms es g sds ∧ (∀ kv ∈ lds, Cz kv.2) ∧ (ch = true → ML.rank nms g < ML.rank nms g0) ∧ (ch = false → g = g0 ∧ ∀ j e, j < i → es[j]? = some e → (∀ p ∈ e.ps, ML.okP g p = true) → ∃ old, g e.kind = some old ∧ ML.lessL (ML.made g e) old = false),
      ⟨g0, lds0, sds0, false, x3, x4, x5, x6, x7, x8, x9, rfl, rfl, rfl, hst0, hfi0, hcz0, (fun z => by cases z), fun _ => ⟨rfl, fun j e z => by omega⟩⟩, ?_, ?_⟩
    · rintro i as ρ O c hc ⟨g, lds, sds, ch, x3, x4, x5, x6, x7, x8, x9, rfl, rfl, rfl, hst, hfi, hcz, hlt, hno⟩
      obtain ⟨ent, he, rfl⟩ : ∃ ent, es[i]? = some ent ∧ c = .tup [.str ent.maker, MT.dEnt ent.kind ent.tag ent.ps] := by
        unfold pairsD at hc
        rw [List.map_map, List.getElem?_map] at hc
        cases e : es[i]? with
        | none => rw [e] at hc; cases hc
        | some ent => rw [e] at hc; cases hc; exact ⟨ent, rfl, rfl⟩
      obtain ⟨maker, kind, tag, ps⟩ := ent
      obtain ⟨e1, e2, e3⟩ := hes _ (List.mem_of_getElem? he)
      simp only at e1 e2 e3
      refine g_tup rfl (gs_cons (g_name (gs_cons (g_tup rfl (gs_cons (g_name (gs_cons (g_name (gs_cons (g_name (gs_nil (gs_nil ?_))))))))))))
      refine s_seq (s_if (w_not (w_test (w_cb (w_cons (w_known (w_map (α := MR.Part) (wg_name (by decide)) (i_tup (w_var rfl ⟨_, rfl, ps, MR.dPart, fun p => .bl (ML.okP g p), rfl, smallt (by omega), fun p mp => ?_, fun q => ⟨q, _, _, _, rfl, rfl, rfl, w_nil ?_⟩⟩)))))))))
      · refine g_name ⟨rfl, rfl, w_orV (w_op (w_op (w_var rfl (w_int ?_))))⟩
        refine rv_ixT (d := .str p.inn) (by cases p.pr <;> rfl) ?_
        refine w_str ?_
        refine rv_eq rfl ⟨_, rfl, ?_⟩
        show if (p.inn == MR.byteS) = true then _ else _
        refine i_bl (fun h => ⟨rfl, rfl, ?_⟩) fun h => ?_
        · show D.bl true = D.bl ((p.inn == MR.byteS) || (g p.inn).isSome)
          rw [h]; rfl
        · refine w_din (w_op (w_var rfl (w_int ?_)))
          refine rv_ixT (d := .str p.inn) (by cases p.pr <;> rfl) ?_
          refine w_var rfl ⟨.inr p.inn, lds, rfl, .inr ⟨2, lr, rfl, rfl, rfl⟩, rfl, rfl, ?_⟩
          show _ = D.bl ((p.inn == MR.byteS) || (g p.inn).isSome)
          rw [h, hst.look, Option.isSome_map, Bool.false_or]
      refine rc_all (bs := ps.map (ML.okP g)) (.inl (by rw [List.map_map]; rfl)) ?_
      refine ⟨_, rfl, ?_⟩
      cases hal : (ps.map (ML.okP g)).all id with
      | false =>
        refine s_cont ⟨g, lds, sds, ch, _, _, _, _, _, _, _, rfl, rfl, rfl, hst, hfi, hcz, hlt, fun z => ⟨(hno z).1, fun j e hj ej hp => ?_⟩⟩
        rcases Nat.lt_or_ge j i with z' | z'
        · exact (hno z).2 j e z' ej hp
        · have : j = i := by omega
          subst this
          rw [he] at ej
          cases ej
          have : (ps.map (ML.okP g)).all id = true := by rw [List.all_map, List.all_eq_true]; exact hp
          rw [hal] at this
          cases this
      | true =>
        have hall : ∀ p ∈ ps, ML.okP g p = true := by rw [List.all_map, List.all_eq_true] at hal; exact hal
        refine s_next ?_
        have hb : ML.B (ML.cnt nms g) ≥ 1 := by cases ML.cnt nms g with
          | zero => exact Nat.le_refl _
          | succ n => show 1 + 4 * ML.B n ≥ 1; omega
        have hb3 := ML.B_three (Nat.le_trans (ML.cnt_le nms g) n3)
        refine s_seq (s_set (w_lst (w_cons (w_var rfl (w_nil ⟨small (n := 1) (by decide), fun rw_ => ?_⟩)))))
        refine s_seq (s_set (w_lst (w_cons (w_var rfl (w_nil ⟨small (n := 1) (by decide), fun tr => ?_⟩)))))
        refine s_seq (s_for (i_tup (w_var rfl ⟨_, rfl, fun j as ρ O => ∃ (ns : List Int) (trs : List D) (x6 : Option D), as = [s, sm, lr, rw_, tr] ∧ ρ = [some (.adr s), some (.adr lr), some (.bl ch), some (.str maker), some (.adr rw_), some (.adr tr), x6, some (.str kind), some (.int (tag : Nat)), some (.tup (ps.map MR.dPart))] ∧
          O = [.ins (He.ga K "Kinds") fl, .dk sds, .dk lds, .lst (ns.map D.int), .lst trs] ∧ ML.Dig ns ∧ ns.length ≤ 1 + j * ML.B (ML.cnt nms g) ∧ trs.length ≤ 1 + j ∧ (∀ d ∈ trs, Cz d) ∧ ns = ((tag : Nat) : Int) :: (ps.take j).flatMap (ML.rowP g) ∧ trs = .str maker :: (ps.take j).map (ML.valP sds), ⟨[(tag : Nat)], [.str maker], x6, rfl, rfl, rfl, ?_, ?_, ?_, ?_, rfl, rfl⟩, ?_, ?_⟩)))
        · intro e m
          simp at m
          subst m
          omega
        · show 1 ≤ _
          omega
        · show 1 ≤ _
          omega
        · intro d m
          simp at m
          subst m
          exact .str _
        · rintro j as ρ O c hc ⟨ns, trs, x6, rfl, rfl, rfl, hdg, hln, hlt', hct, hns, htrs⟩
          rw [List.getElem?_map] at hc
          cases ej : ps[j]? with
          | none => rw [ej] at hc; cases hc
          | some p =>
            rw [ej] at hc
            cases hc
            have hj : j < ps.length := (List.getElem?_eq_some_iff.mp ej).1
            have etk : ps.take (j + 1) = ps.take j ++ [p] := by rw [List.take_succ, ej]; rfl
            have hj4 : j < 4 := by omega
            have hjb : j * ML.B (ML.cnt nms g) ≤ 3 * 85 := Nat.le_trans (Nat.mul_le_mul_left j hb3) (by have := Nat.mul_le_mul_right 85 (show j ≤ 3 by omega); exact this)
            have hp := hall p (List.mem_of_getElem? ej)
            have mulS : (j + 1) * ML.B (ML.cnt nms g) = j * ML.B (ML.cnt nms g) + ML.B (ML.cnt nms g) := by rw [Nat.add_mul, Nat.one_mul]
            refine g_name ?_
            refine s_seq (s_drop (w_extend 3 rfl rfl rfl (w_if (w_test (w_op (w_op (w_var rfl (w_int ?_))))))))
            refine rv_ixT (d := .str p.inn) (by cases p.pr <;> rfl) ?_
            refine w_str ?_
            refine rv_eq rfl ⟨_, rfl, ?_⟩
            show if (p.inn == MR.byteS) = true then _ else _
            refine i_bl (fun h => ?_) fun h => ?_
            · refine w_lstF (w_cons (w_int (w_nil ⟨small (n := 1) (by decide), _, _, rfl, rfl, lo_f, small (by rw [List.length_map]; show _ + 1 ≤ _; omega), ?_⟩)))
              refine s_drop (w_append 4 rfl rfl rfl (w_if (w_test (w_op (w_op (w_var rfl (w_int ?_)))))))
              refine rv_ixT (d := .str p.inn) (by cases p.pr <;> rfl) ?_
              refine w_str ?_
              refine rv_eq rfl ⟨_, rfl, ?_⟩
              show if (p.inn == MR.byteS) = true then _ else _
              rw [if_pos h]
              refine w_int ⟨_, rfl, rfl, smallt (by omega), ns ++ [0], trs ++ [.int 0], _, rfl, rfl, ?_, ?_, ?_, ?_, ?_, ?_, ?_⟩
              · rw [List.map_append]; rfl
              · intro e m
                rcases List.mem_append.mp m with m | m
                · exact hdg e m
                · simp at m; subst m; omega
              · rw [List.length_append, mulS]; show ns.length + 1 ≤ _; omega
              · rw [List.length_append]; show trs.length + 1 ≤ _; omega
              · intro d m
                rcases List.mem_append.mp m with m | m
                · exact hct d m
                · simp at m; subst m; exact .int _
              · rw [hns, etk, List.flatMap_append, List.cons_append]; congr 2; show [0] = ML.rowP g p ++ []; unfold ML.rowP; rw [if_pos (beq_iff_eq.mp h)]; rfl
              · rw [htrs, etk, List.map_append, List.cons_append]; congr 2; show [D.int 0] = [ML.valP sds p]; unfold ML.valP; rw [if_pos (beq_iff_eq.mp h)]
            · have hg : (g p.inn).isSome = true := by unfold ML.okP at hp; rw [h, Bool.false_or] at hp; exact hp
              obtain ⟨ms, hms⟩ := Option.isSome_iff_exists.mp hg
              obtain ⟨dm, lm⟩ := hst.dig _ _ hms
              obtain ⟨td, htd⟩ := Option.isSome_iff_exists.mp ((hst.small p.inn).trans hg)
              have ctd : Cz td := by
                unfold valD at htd
                obtain ⟨kv, hkv, rfl⟩ := Option.map_eq_some_iff.mp htd
                exact hst.cz kv (List.mem_of_find?_eq_some hkv)
              refine w_dget (w_var rfl (w_op (w_var rfl (w_int ?_))))
              refine rv_ixT (d := .str p.inn) (by cases p.pr <;> rfl) ?_
              refine ⟨rfl, rfl, .inr p.inn, lds, .lst (ms.map D.int), rfl, .inr ⟨2, lr, rfl, rfl, rfl⟩, by rw [hst.look, hms]; rfl, _, _, rfl, rfl, lo_f, small (by rw [List.length_map, List.length_map]; omega), ?_⟩
              refine s_drop (w_append 4 rfl rfl rfl (w_if (w_test (w_op (w_op (w_var rfl (w_int ?_)))))))
              refine rv_ixT (d := .str p.inn) (by cases p.pr <;> rfl) ?_
              refine w_str ?_
              refine rv_eq rfl ⟨_, rfl, ?_⟩
              show if (p.inn == MR.byteS) = true then _ else _
              rw [if_neg (by rw [h]; exact Bool.false_ne_true)]
              refine w_dget (w_fld (w_var rfl ⟨_, fl, .adr sm, .inr ⟨0, s, rfl, rfl, rfl⟩, (na_Kinds_smallest Z).1, (na_Kinds_smallest Z).2, hs, ?_⟩))
              refine w_op (w_var rfl (w_int ?_))
              refine rv_ixT (d := .str p.inn) (by cases p.pr <;> rfl) ?_
              refine ⟨rfl, rfl, .inr p.inn, sds, td, rfl, .inr ⟨1, sm, rfl, rfl, rfl⟩, htd, ?_⟩
              refine ⟨_, rfl, rfl, smallt (by omega), ns ++ ms, trs ++ [td], _, rfl, rfl, ?_, ?_, ?_, ?_, ?_, ?_, ?_⟩
              · rw [List.map_append]; rfl
              · intro e m
                rcases List.mem_append.mp m with m | m
                · exact hdg e m
                · exact dm e m
              · rw [List.length_append, mulS]; omega
              · rw [List.length_append]; show trs.length + 1 ≤ _; omega
              · intro d m
                rcases List.mem_append.mp m with m | m
                · exact hct d m
                · simp at m; subst m; exact ctd
              · rw [hns, etk, List.flatMap_append, List.cons_append]; congr 2; show ms = ML.rowP g p ++ []; unfold ML.rowP; rw [if_neg (beq_eq_false_iff_ne.mp h), hms, List.append_nil]; rfl
              · rw [htrs, etk, List.map_append, List.cons_append]; congr 2; show [td] = [ML.valP sds p]; unfold ML.valP; rw [if_neg (beq_eq_false_iff_ne.mp h), htd]; rfl
        · rintro as ρ O ⟨ns, trs, x6, rfl, rfl, rfl, hdg, hln, hlt', hct, hns, htrs⟩
          rw [List.length_map] at hln hlt'
          rw [List.length_map, List.take_length] at hns htrs
          have hns : ns = ML.made g ⟨maker, kind, tag, ps⟩ := hns
          refine s_freeze 3 rw_ (.lst (ns.map D.int)) 4 rfl rfl rfl ?_
          have hl4 : ns.length ≤ 1 + 4 * ML.B (ML.cnt nms g) := by
            have h4 : ps.length * ML.B (ML.cnt nms g) ≤ 4 * ML.B (ML.cnt nms g) := Nat.mul_le_mul_right (ML.B (ML.cnt nms g)) e3
            have hln : ns.length ≤ 1 + ps.length * ML.B (ML.cnt nms g) := hln
            exact Nat.le_trans hln (Nat.add_le_add_left h4 1)
          have hcn := ML.cnt_le nms g
          have hll := hst.ll
          have hls := hst.ls
          have hlook := hst.look kind
          refine s_if (dW.imp (k := fun as' b' O' => as' = [s, sm, lr, tr] ∧ O' = [.ins (He.ga K "Kinds") fl, .dk sds, .dk lds, .lst trs] ∧
            (b' = true → (g kind = none ∧ ns.length ≤ 1 + 4 * ML.B (ML.cnt nms g)) ∨ ∃ old, g kind = some old ∧ ns.length ≤ 85 ∧ (if (ns.length : Int) = (old.length : Int) then HT.lexLt ns old else decide ((ns.length : Int) < (old.length : Int))) = true) ∧
            (b' = false → ∃ old, g kind = some old ∧ ML.lessL ns old = false)) ?_ ?_)
          · refine w_or (w_test (w_dnin (w_var rfl (w_var rfl ⟨.inr kind, lds, rfl, .inr ⟨2, lr, rfl, rfl, rfl⟩, _, rfl, ?_⟩))))
            rw [hlook, Option.isSome_map]
            cases hgk : g kind with
            | none => exact ⟨rfl, rfl, fun _ => .inl ⟨rfl, hl4⟩, fun z => by cases z⟩
            | some old =>
              rw [hgk] at hlook
              obtain ⟨do_, lo_⟩ := hst.dig _ _ hgk
              show dT _ _ _ _ _ _ _
              refine w_test (w_op (w_tup ?_))
              k_subL
              refine rc_len (n := ns.length) (List.length_map ..).symm ?_
              k_subL
              refine ⟨small (n := 2) (by decide), ?_⟩
              refine w_tup ?_
              k_subL
              refine w_dget (w_var rfl (w_var rfl ⟨rfl, rfl, .inr kind, lds, .lst (old.map D.int), rfl, .inr ⟨2, lr, rfl, rfl, rfl⟩, hlook, ?_⟩))
              k_subL
              refine rc_len (n := old.length) (List.length_map ..).symm ?_
              k_subL
              refine w_dget (w_var rfl (w_var rfl ⟨rfl, rfl, .inr kind, lds, .lst (old.map D.int), rfl, .inr ⟨2, lr, rfl, rfl, rfl⟩, hlook, ?_⟩))
              k_subL
              refine ⟨small (n := 2) (by decide), ?_⟩
              refine rv_ltP (ns := ns) (ms := old) ⟨_, rfl, rfl, rfl, fun h => .inr ⟨old, rfl, ?_, h⟩, fun h => ⟨old, rfl, h⟩⟩
              by_cases q : (ns.length : Int) = (old.length : Int)
              · omega
              · rw [if_neg q] at h
                have h := of_decide_eq_true h
                omega
          · rintro _ b _ ⟨rfl, rfl, h1, h2⟩
            refine i_bl (fun hb' => ?_) fun hb' => ?_
            · obtain ⟨hst', hrk⟩ := hst.put nd n3 e1 hdg (.tup (czs_of hct)) (h1 hb')
              have hfi' := hfi.put (List.mem_of_getElem? he) e1 hall (fun k ns e => ⟨(hst.dig k ns e).1, Nat.le_trans (hst.dig k ns e).2 hb3⟩) fun old ho => by
                rcases h1 hb' with ⟨z, _⟩ | ⟨old', z, zl, zc⟩
                · rw [z] at ho; cases ho
                · rw [z] at ho
                  cases ho
                  rw [← hns]
                  exact (ML.code_lt hdg (hst.dig _ _ z).1 (by omega) zc).1
              have hfi' : ML.Fin nms es (ML.setG g kind ns) (putDk sds (.inr kind) (.tup trs)) := by rw [hns, htrs]; exact hfi'
              refine s_seq (s_dput (w_var rfl (w_var rfl (w_var rfl ⟨2, lr, .inr kind, lds, rfl, rfl, rfl, rfl, smallt (by omega), ?_⟩))))
              refine s_seq (s_dput (w_cb (w_cons (w_var rfl (w_nil (rc_tupL (ds := trs) (.inl (lo_o 3 rfl rfl)) ?_))))))
              refine w_fld (w_var rfl ⟨_, fl, .adr sm, .inr ⟨0, s, rfl, rfl, rfl⟩, (na_Kinds_smallest Z).1, (na_Kinds_smallest Z).2, hs, ?_⟩)
              refine w_var rfl ⟨1, sm, .inr kind, sds, rfl, rfl, rfl, rfl, smallt (by omega), ?_⟩
              refine s_let 3 (s_set (w_bl ?_))
              refine ⟨ML.setG g kind ns, _, _, true, _, _, _, _, _, _, _, rfl, rfl, rfl, hst', hfi', ?_, fun _ => ?_, fun z => by cases z⟩
              · intro kv mk
                rcases ML.mem_put mk with z | z
                · rw [z]
                  exact .lst (czs_of fun d m => by obtain ⟨r, _, rfl⟩ := List.mem_map.mp m; exact .int _)
                · exact hcz kv z
              · cases ch with
                | true => have := hlt rfl; omega
                | false => rw [← (hno rfl).1]; exact hrk
            · refine s_let 3 (s_next ⟨g, lds, sds, ch, _, _, _, _, _, _, _, rfl, rfl, rfl, hst, hfi, hcz, hlt, fun z => ⟨(hno z).1, fun j e hj ej hp => ?_⟩⟩)
              rcases Nat.lt_or_ge j i with z' | z'
              · exact (hno z).2 j e z' ej hp
              · have : j = i := by omega
                subst this
                rw [he] at ej
                cases ej
                rw [← hns]
                exact h2 hb'
    · rintro as ρ O ⟨g, lds, sds, ch, x3, x4, x5, x6, x7, x8, x9, rfl, rfl, rfl, hst, hfi, hcz, hlt, hno⟩
      cases ch with
      | true => exact ⟨ML.rank nms g + 1, by have := hlt rfl; omega, g, lds, sds, true, _, _, _, _, _, _, _, rfl, rfl, rfl, hst, hfi, hcz, fun _ => rfl, fun z => by cases z⟩
      | false =>
        refine ⟨0, by omega, g, lds, sds, false, _, _, _, _, _, _, _, rfl, rfl, rfl, hst, hfi, hcz, (fun z => by cases z), fun _ e me hp => ?_⟩
        obtain ⟨j, hj, ej⟩ := List.mem_iff_getElem.mp me
        exact (hno rfl).2 j e (by unfold pairsD; rw [List.length_map, List.length_map]; exact hj) (by rw [List.getElem?_eq_getElem hj, ej]) hp
def c_Kinds___init__ (K : PySem.W.Frag) : Ct := fun L as ds O k e => ∃ (s : Addr) (rd : D) (nms : List Str) (rows : List MR.Row), L = [] ∧ as = [s] ∧ ds = [.adr s, rd] ∧ O = [.ins (He.ga K "Kinds") []] ∧ lstF K rd (rows.map MR.dRow) ∧ MR.Table nms rows ∧
  ∀ (t : Addr) (sds : List (Key × D)), (∀ kv ∈ sds, Cz kv.2) → MI.LeastOk rows sds → k [s] .non [.ins (He.ga K "Kinds") (MT.tabF (.ldk t (MI.entsFrom [] rows)) (.dk (zipD (MI.keys rows) ((MI.kindsOf rows).map (MI.lstD rows)))) (.tup ((MI.kindsOf rows).map D.str)) (.tup ((rows.map (·.maker)).map D.str)) (.dk sds))]
theorem l_Kinds___init__ {K : PySem.W.Frag} : ∀ L as ds O k e, c_Kinds___init__ K L as ds O k e → ds.length = 2 := fun L as ds O k e h => by
  obtain ⟨s, rd, nms, rows, _, _, rfl, _⟩ := h
  rfl
theorem newRow {nms : List Str} {rows : List MR.Row} {i : Nat} {r : MR.Row} {ds : List D} (hT : MR.Table nms rows) (hr : rows[i]? = some r) (hl : ds.length = (MI.kindsOf (rows.take i)).length) : NewRow r (MI.entsFrom [] (rows.take i)) (zipD (MI.keys (rows.take i)) ds) := by
  have mr : r ∈ rows := List.mem_of_getElem? hr
  have hk := hT.some.kind r mr
  obtain ⟨b, hd⟩ := hT.some.parts r mr
  refine ⟨MI.isName_of (hT.names.name _ hk) (by decide), fun e => hT.names.byte (e ▸ hk), MI.isName_of (hT.some.maker r mr) (by decide), MI.ents_none (MI.maker_new hT.some.nd hr), .inr ?_, hd.len, fun p m => ?_, hd.nd⟩
  · have := MI.kinds_few hT i
    unfold zipD MI.keys
    rw [List.length_zipWith, List.length_map, hl]
    omega
  · obtain ⟨n1, n2⟩ := MI.isName_of (hd.name p m) (by decide)
    refine ⟨n1, n2, ?_⟩
    rcases hd.ok p m with h | ⟨h1, h2⟩
    · exact .inl h
    · obtain ⟨n3, n4⟩ := MI.isName_of (hT.names.name _ h1) (by decide)
      exact .inr ⟨n3, n4, fun e => hT.names.byte (e ▸ h1), h2⟩
theorem entsOf {nms : List Str} {rows : List MR.Row} (hT : MR.Table nms rows) : ∃ es : List Ent, es.map entD = MI.entsFrom [] rows ∧ (∀ e ∈ es, EntOk nms e) ∧ ∀ r ∈ rows, ∃ e ∈ es, e.kind = r.kind ∧ e.ps = r.parts := by
  have main : ∀ (rs pre : List MR.Row), (∀ r ∈ rs, r ∈ rows) → pre.length + rs.length ≤ 10 → ∃ es : List Ent, es.map entD = MI.entsFrom pre rs ∧ (∀ e ∈ es, EntOk nms e) ∧ ∀ r ∈ rs, ∃ e ∈ es, e.kind = r.kind ∧ e.ps = r.parts := by
    intro rs
    induction rs with
    | nil => exact fun pre _ _ => ⟨[], rfl, (fun _ m => by cases m), fun _ m => by cases m⟩
    | cons r rs ih =>
      intro pre hm hl
      obtain ⟨es, h1, h2, h3⟩ := ih (pre ++ [r]) (fun x m => hm x (List.mem_cons_of_mem _ m)) (by rw [List.length_append]; simp at hl ⊢; omega)
      refine ⟨⟨r.maker, r.kind, (MI.makersOf r.kind pre).length, r.parts⟩ :: es, ?_, fun e m => ?_, fun x m => ?_⟩
      · rw [List.map_cons, h1]
        rfl
      · rcases List.mem_cons.mp m with m | m
        · subst m
          obtain ⟨b, hd⟩ := hT.some.parts r (hm r List.mem_cons_self)
          refine ⟨hT.some.kind r (hm r List.mem_cons_self), ?_, hd.len⟩
          have : (MI.makersOf r.kind pre).length ≤ pre.length := by
            unfold MI.makersOf
            rw [List.length_map]
            exact List.length_filter_le ..
          show (MI.makersOf r.kind pre).length < 10
          simp at hl
          omega
        · exact h2 e m
      · rcases List.mem_cons.mp m with m | m
        · subst m
          exact ⟨_, List.mem_cons_self, rfl, rfl⟩
        · obtain ⟨e, me, z⟩ := h3 x m
          exact ⟨e, List.mem_cons_of_mem _ me, z⟩
  exact main rows [] (fun _ m => m) (by have := hT.some.len; simpa using this)
theorem ok_Kinds___init__ {P : Program} {w : World} {K : PySem.W.Frag} {mg : Str → Option Value} {base : Heap} (Z : Tx P w K mg) : FnOk P w K mg base (L2.CX P w) 4 (He.ma K (He.ga K "Kinds") "__init__") (fdAt K ("Kinds", some "__init__")) ["self", "rows"] (spC (c_Kinds___init__ K)) := by
  refine FunD.ok (k := 3) (F_Kinds___init__ Z) sc_Kinds___init__ (sp_len (n := 2) l_Kinds___init__) (fun cdv A outer s H vs Q E hr h => ⟨_, PSs.nox ((pss_cons (ps_fld (pv 0) pe_dnewK rfl)
  (pss_cons (ps_fld (pv 0) pe_dnewK rfl)
  (pss_cons (ps_if (pt_cmpR op_eq (pe_callB (r := fun xs H Q => ∃ x n, xs = [x] ∧ LenV K x H n ∧ Q (.int n) H) call_len (by rfl) (Z.free 10 rfl) PySem.boot_len (pa_cons (pv 1) pa_nil)) pe_int (nomark _))
  (pss_one ps_never)
  pss_nil)
  (pss_cons (ps_for PassesOwn.never rfl (pi_enum (by rfl) (Z.free 15 rfl) (pa_cons (pv 1) pa_nil)) (pg_tup rfl (pgs_cons (pg_name (i := 3) sc_Kinds___init__.nd rfl (Or.inl rfl)) (pgs_cons (pg_name (i := 4) sc_Kinds___init__.nd rfl (Or.inl rfl)) pgs_nil)))
  (pss_cons (ps_if (PW.pt (pw_or (pt_cmpR op_eq (pv 3) (pe_gi (by rfl) (Z.int 16 rfl)) (nomark _)) (pw_or1 (pt_not (pt_val (pe_meth (pv 0) (Z.cls 4 rfl) (Z.meth 17 rfl) (ok_Kinds_is_new Z) (hr.mono (by decide)) (b_Kinds_is_new Z) .nil passN (pa_cons (pv 4) pa_nil)))))))
  (pss_one ps_never)
  pss_nil)
  (pss_cons (ps_asg (pv 4) (pg_tup rfl (pgs_cons (pg_name (i := 2) sc_Kinds___init__.nd rfl (Or.inl rfl)) (pgs_cons (pg_name (i := 7) sc_Kinds___init__.nd rfl (Or.inl rfl)) (pgs_cons (pg_name (i := 8) sc_Kinds___init__.nd rfl (Or.inl rfl)) pgs_nil)))))
  (pss_cons (ps_set (i := 5) sc_Kinds___init__.nd rfl (Or.inl rfl) (pe_dsetd (show PE _ _ (tFld K _ _) from pe_fld (pv 0) rfl) (pv 2) (pe_lst pa_nil) ⟨rfl, rfl, rfl, rfl⟩))
  (pss_cons (ps_dput (hu_of hr) (show PE _ _ (tFld K _ _) from pe_fld (pv 0) rfl) (pv 7) (pe_tup (pa_cons (pv 2) (pa_cons (pe_callB (r := fun xs H Q => ∃ x n, xs = [x] ∧ LenV K x H n ∧ Q (.int n) H) call_len (by rfl) (Z.free 10 rfl) PySem.boot_len (pa_cons (pv 5) pa_nil)) (pa_cons (pe_callTy call_tuple_of (by rfl) (Z.free 18 rfl) PyProof.Rows.boot_tuple (pa_cons (pv 8) pa_nil)) pa_nil)))) rfl)
  (pss_one (ps_expr (pe_bm PySem.F.plainAttrs_list PySem.F.slot_list_append PySem.F.type_list_append mt_append (pv 5) (pa_cons (pv 7) pa_nil)))))))))
  (pss_cons (ps_for PassesOwn.never rfl (pi_enum (by rfl) (Z.free 15 rfl) (pa_cons (pv 1) pa_nil)) (pg_tup rfl (pgs_cons (pg_name (i := 3) sc_Kinds___init__.nd rfl (Or.inl rfl)) (pgs_cons (pg_name (i := 4) sc_Kinds___init__.nd rfl (Or.inl rfl)) pgs_nil)))
  (pss_one (ps_for PassesOwn.never rfl (pi_tup (pe_ix (r := rIxT K) ix_tup (pv 4) pe_int (fun _ _ => rfl))) (pg_name (i := 6) sc_Kinds___init__.nd rfl (Or.inl rfl))
  (pss_one (ps_if (PW.pt (pw_and (pt_cmpR op_ne (pe_ix (r := rIxT K) ix_tup (pv 6) pe_int (fun _ _ => rfl)) (pe_gs (by rfl) (Z.str 19 rfl)) (nomark _)) (pw_and1 (pt_cmp (pc_dnotin (hu_of hr) (pe_ix (r := rIxT K) ix_tup (pv 6) pe_int (fun _ _ => rfl)) (show PE _ _ (tFld K _ _) from pe_fld (pv 0) rfl))))))
  (pss_one ps_never)
  pss_nil)))))
  (pss_cons (ps_fld (pv 0) (pe_callTy (call_tuple_dK rfl) (by rfl) (Z.free 18 rfl) PyProof.Rows.boot_tuple (pa_cons (show PE _ _ (tFld K _ _) from pe_fld (pv 0) rfl) pa_nil)) rfl)
  (pss_cons (ps_fld (pv 0) (pe_callTy (call_tuple_dK rfl) (by rfl) (Z.free 18 rfl) PyProof.Rows.boot_tuple (pa_cons (show PE _ _ (tFld K _ _) from pe_fld (pv 0) rfl) pa_nil)) rfl)
  (pss_cons (ps_fld (pv 0) pe_dnewK rfl)
  (pss_cons (ps_expr (pe_meth0 (pv 0) (Z.cls 4 rfl) (Z.meth 23 rfl) (ok_Kinds_find_least Z) (hr.mono (by decide)) (b_Kinds_find_least Z) .nil passN))
  (pss_one (ps_for PassesOwn.never rfl (pi_tup (show PE _ _ (tFld K _ _) from pe_fld (pv 0) rfl)) (pg_name (i := 2) sc_Kinds___init__.nd rfl (Or.inl rfl))
  (pss_one (ps_if (pt_cmp (pc_dnotin (hu_of hr) (pv 2) (show PE _ _ (tFld K _ _) from pe_fld (pv 0) rfl)))
  (pss_one ps_never)
  pss_nil)))))))))))))), enter h fun L as ds O k e c => ?_⟩)
  obtain ⟨s, rd, nms, rows, rfl, rfl, rfl, rfl, hrd, hT, hk⟩ := c
  refine s_seq (s_fld (w_dnew fun t => w_var rfl ⟨0, s, _, [], rfl, rfl, rfl, (na_Kinds_table Z).1, (na_Kinds_table Z).2, by decide, ?_⟩))
  refine s_seq (s_fld (w_dnew fun f => w_var rfl ⟨0, s, _, _, rfl, rfl, rfl, (na_Kinds_family Z).1, (na_Kinds_family Z).2, by show 1 < 1000; decide, ?_⟩))
  have hlen : rows.length ≤ 10 := hT.some.len
  have hpos : 1 ≤ rows.length := by
    have := hT.ne
    cases rows with
    | nil => exact absurd rfl this
    | cons x y => show 1 ≤ y.length + 1; omega
  refine s_seq (s_if (w_test (w_op (w_cb (w_cons (w_var rfl (w_nil (rc_lenF hrd ?_))))))))
  refine w_int ?_
  refine rv_eq rfl ⟨_, rfl, ?_⟩
  rw [List.length_map]
  rw [show eqD (.int rows.length) (.int 0) = false from by show ((rows.length : Int) == 0) = false; rw [beq_eq_false_iff_ne]; omega]
  refine s_next ?_
  refine s_seq (s_for (i_enumF (w_cons (w_var rfl (w_nil ⟨_, _, rfl, hrd, fun i as ρ O => ∃ (ps : List Addr) (x2 x3 x4 x5 x7 x8 : Option D), as = [s, t, f] ++ ps ∧ ρ = [some (.adr s), some rd, x2, x3, x4, x5, none, x7, x8] ∧
    O = [.ins (He.ga K "Kinds") [("table", .adr t), ("family", .adr f)], .dk (MI.entsFrom [] (rows.take i)), .dk (zipD (MI.keys (rows.take i)) (ps.map D.adr))] ++ (MI.kindsOf (rows.take i)).map (MI.lstD (rows.take i)) ∧ ps.length = (MI.kindsOf (rows.take i)).length,
    ⟨[], none, none, none, none, none, none, rfl, rfl, rfl, rfl⟩, ?_, ?_⟩)))))
  · rintro i as ρ O c hc ⟨ps, x2, x3, x4, x5, x7, x8, rfl, rfl, rfl, hps⟩
    obtain ⟨d, hd, rfl⟩ := enum_at hc
    rw [List.getElem?_map] at hd
    obtain ⟨r, hr, rfl⟩ := Option.map_eq_some_iff.mp hd
    have hi : i < rows.length := (List.getElem?_eq_some_iff.mp hr).1
    have mr : r ∈ rows := List.mem_of_getElem? hr
    have et : rows.take (i + 1) = rows.take i ++ [r] := by rw [List.take_add_one, hr]; rfl
    refine g_tup rfl (gs_cons (g_name (gs_cons (g_name (gs_nil ?_)))))
    refine s_seq (s_if (w_or ?_))
    k_subL
    refine rv_eq rfl ⟨_, rfl, ?_⟩
    rw [show eqD (.int (i : Nat)) (.int 12) = false from by show (((i : Nat) : Int) == 12) = false; rw [beq_eq_false_iff_ne]; omega]
    refine w_not (w_test ?_)
    refine d_meth [0, 1, 2] ?_
    refine w_var rfl ⟨⟨_, .inr ⟨0, s, rfl, rfl, rfl⟩, rfl⟩, w_cons (w_var rfl (w_nil ?_))⟩
    refine call_is_new (fl := [("table", .adr t), ("family", .adr f)]) rfl rfl (by simp) rfl rfl rfl (newRow hT hr (by rw [List.length_map]; exact hps)) ?_
    refine ⟨_, rfl, ?_⟩
    refine s_next ?_
    obtain ⟨kind, maker, parts⟩ := r
    refine s_seq (s_asg (w_var rfl (g_tup rfl (gs_cons (g_name (gs_cons (g_name (gs_cons (g_name (gs_nil ?_))))))))))
    have hfew := MI.kinds_few hT i
    have hml := MI.maker_new hT.some.nd hr
    by_cases hin : kind ∈ MI.kindsOf (rows.take i)
    · obtain ⟨q, hq⟩ := List.mem_iff_getElem?.mp hin
      have hqp : q < ps.length := by rw [hps]; exact (List.getElem?_eq_some_iff.mp hq).1
      obtain ⟨p, hpq⟩ : ∃ p, ps[q]? = some p := ⟨_, List.getElem?_eq_getElem hqp⟩
      have hsome : valD (zipD (MI.keys (rows.take i)) (ps.map D.adr)) (.inr kind) = some (.adr p) := by
        rw [MI.keys, MI.val_zip (MI.kinds_nd _) hq (by rw [List.length_map]; exact hps.symm), List.getElem?_map, hpq]
        rfl
      have hz : (zipD (MI.keys (rows.take i)) (ps.map D.adr)).length ≤ 3 := by
        unfold zipD MI.keys
        rw [List.length_zipWith, List.length_map, List.length_map]
        omega
      have hlm : ((MI.kindsOf (rows.take i)).map (MI.lstD (rows.take i))).length = ps.length := by rw [List.length_map]; exact hps.symm
      refine s_seq (s_set (w_let (3 + ps.length) (w_dsetd (w_fld (w_var rfl ⟨_, _, .adr f, .inr ⟨0, s, rfl, rfl, rfl⟩, (na_Kinds_family Z).1, (na_Kinds_family Z).2, rfl, ⟨_, .inr ⟨2, f, rfl, rfl, rfl⟩⟩, ?_⟩)))))
      refine w_var rfl (w_lst (w_nil ⟨Nat.zero_le _, fun p' => ⟨2, f, .inr kind, _, rfl, rfl, rfl, rfl, smallt (by omega), fun e he => ?_, fun h0 => ?_⟩⟩))
      rotate_left
      · rw [hsome] at h0
        cases h0
      rw [hsome] at he
      cases he
      have ea : (([s, t, f] ++ ps ++ [p']).eraseIdx (3 + ps.length)) = [s, t, f] ++ ps := MI.at_end_erase _ _ _ _ _
      have eo : (([D.ins (He.ga K "Kinds") [("table", .adr t), ("family", .adr f)], .dk (MI.entsFrom [] (rows.take i)), .dk (zipD (MI.keys (rows.take i)) (ps.map D.adr))] ++ (MI.kindsOf (rows.take i)).map (MI.lstD (rows.take i)) ++ [D.lst []]).eraseIdx (3 + ps.length)) = [D.ins (He.ga K "Kinds") [("table", .adr t), ("family", .adr f)], .dk (MI.entsFrom [] (rows.take i)), .dk (zipD (MI.keys (rows.take i)) (ps.map D.adr))] ++ (MI.kindsOf (rows.take i)).map (MI.lstD (rows.take i)) := by
        rw [← hlm]
        exact MI.at_end_erase _ _ _ _ _
      rw [ea, eo]
      have hp : ([s, t, f] ++ ps)[q + 3]? = some p := hpq
      have hO : ∀ (x y z : D), ([x, y, z] ++ (MI.kindsOf (rows.take i)).map (MI.lstD (rows.take i)))[q + 3]? = some (MI.lstD (rows.take i) kind) := fun x y z => by
        show ((MI.kindsOf (rows.take i)).map (MI.lstD (rows.take i)))[q]? = _
        rw [List.getElem?_map, hq]
        rfl
      have hml9 : (MI.makersOf kind (rows.take i)).length ≤ 10 := by
        unfold MI.makersOf
        rw [List.length_map]
        exact Nat.le_trans (List.length_filter_le ..) (by rw [List.length_take]; omega)
      refine s_seq (s_dput (w_tup (w_cons (w_var rfl (w_cons (w_cb (w_cons (w_var rfl (w_nil ?_)))))))))
      refine rc_len (n := (MI.makersOf kind (rows.take i)).length) ⟨q + 3, _, hp, hO _ _ _, (List.length_map ..).symm⟩ ?_
      refine w_cons (w_cb (w_cons (w_var rfl (w_nil (rc_tupT ?_)))))
      refine w_nil ⟨small (n := 3) (by decide), ?_⟩
      refine w_fld (w_var rfl ⟨_, _, .adr t, .inr ⟨0, s, rfl, rfl, rfl⟩, (na_Kinds_table Z).1, (na_Kinds_table Z).2, rfl, ?_⟩)
      have hel : (MI.entsFrom [] (rows.take i)).length ≤ 10 := by rw [MI.ents_len, List.length_take]; omega
      refine w_var rfl ⟨1, t, .inr maker, MI.entsFrom [] (rows.take i), rfl, rfl, rfl, rfl, smallt (by omega), ?_⟩
      refine s_drop (w_append (q + 3) rfl hp (hO _ _ _) (w_var rfl ⟨_, hp, hO _ _ _, smallt (by rw [List.length_map]; omega), ?_⟩))
      have e1 := MI.ents_put (rs := rows.take i) (r := ⟨kind, maker, parts⟩) hml
      have e2 := MI.lists_old (rs := rows.take i) (r := ⟨kind, maker, parts⟩) hq
      have e3 := MI.kinds_snoc (rows.take i) ⟨kind, maker, parts⟩
      rw [if_pos hin] at e3
      refine ⟨ps, _, _, _, _, _, _, rfl, rfl, ?_, ?_⟩
      · have e5 : MI.keys (rows.take i ++ [⟨kind, maker, parts⟩]) = MI.keys (rows.take i) := by unfold MI.keys; rw [e3]
        rw [et, ← e1, ← e2, e5]
        rfl
      · rw [et, e3]
        exact hps
    · refine s_seq (s_set (w_dsetd (w_fld (w_var rfl ⟨_, _, .adr f, .inr ⟨0, s, rfl, rfl, rfl⟩, (na_Kinds_family Z).1, (na_Kinds_family Z).2, rfl, ⟨_, .inr ⟨2, f, rfl, rfl, rfl⟩⟩, ?_⟩))))
      have hnone : valD (zipD (MI.keys (rows.take i)) (ps.map D.adr)) (.inr kind) = none := MI.val_zip_none hin
      have hz : (zipD (MI.keys (rows.take i)) (ps.map D.adr)).length ≤ 3 := by
        unfold zipD MI.keys
        rw [List.length_zipWith, List.length_map, List.length_map]
        omega
      refine w_var rfl (w_lst (w_nil ⟨Nat.zero_le _, fun p => ⟨2, f, .inr kind, _, rfl, rfl, rfl, rfl, smallt (by omega), fun e he => ?_, fun _ => ?_⟩⟩))
      · rw [hnone] at he
        cases he
      have hp : ([s, t, f] ++ ps ++ [p])[3 + ps.length]? = some p := MI.at_end _ _ _ _ _
      have hlm : ((MI.kindsOf (rows.take i)).map (MI.lstD (rows.take i))).length = ps.length := by rw [List.length_map]; exact hps.symm
      have hO : ∀ (x y z : D), ([x, y, z] ++ (MI.kindsOf (rows.take i)).map (MI.lstD (rows.take i)) ++ [D.lst []])[3 + ps.length]? = some (D.lst []) := fun x y z => by
        rw [← hlm]
        exact MI.at_end _ _ _ _ _
      refine s_seq (s_dput (w_tup (w_cons (w_var rfl (w_cons (w_cb (w_cons (w_var rfl (w_nil ?_)))))))))
      refine rc_len (n := 0) ⟨3 + ps.length, [], hp, hO _ _ _, rfl⟩ ?_
      refine w_cons (w_cb (w_cons (w_var rfl (w_nil (rc_tupT ?_)))))
      refine w_nil ⟨small (n := 3) (by decide), ?_⟩
      refine w_fld (w_var rfl ⟨_, _, .adr t, .inr ⟨0, s, rfl, rfl, rfl⟩, (na_Kinds_table Z).1, (na_Kinds_table Z).2, rfl, ?_⟩)
      have hel : (MI.entsFrom [] (rows.take i)).length ≤ 10 := by rw [MI.ents_len, List.length_take]; omega
      refine w_var rfl ⟨1, t, .inr maker, MI.entsFrom [] (rows.take i), rfl, rfl, rfl, rfl, smallt (by omega), ?_⟩
      refine s_drop (w_append (3 + ps.length) rfl hp (hO _ _ _) (w_var rfl ⟨[], hp, hO _ _ _, smallt (by decide), ?_⟩))
      have e1 := MI.ents_put (rs := rows.take i) (r := ⟨kind, maker, parts⟩) hml
      have e2 := MI.lists_new (rs := rows.take i) (r := ⟨kind, maker, parts⟩) hin
      have e3 := MI.kinds_snoc (rows.take i) ⟨kind, maker, parts⟩
      rw [if_neg hin] at e3
      have e4 : putDk (zipD (MI.keys (rows.take i)) (ps.map D.adr)) (.inr kind) (.adr p) = zipD (MI.keys (rows.take i ++ [⟨kind, maker, parts⟩])) ((ps ++ [p]).map D.adr) := by
        unfold putDk
        rw [ML.any_valD, hnone]
        show _ ++ _ = _
        unfold zipD MI.keys
        rw [e3, List.map_append, List.map_append, List.zipWith_append (by rw [List.length_map, List.length_map]; exact hps.symm)]
        rfl
      refine ⟨ps ++ [p], _, _, _, _, _, _, ?_, rfl, ?_, ?_⟩
      · exact List.append_assoc ..
      · rw [MI.makers_none hin] at e1
        rw [et, ← e1, ← e2, ← e4, ← hlm]
        exact (MI.at_end_set _ _ _ _ _ _).trans (List.append_assoc ..)
      · rw [et, e3, List.length_append, List.length_append, hps]
        rfl
  · rintro as ρ O ⟨ps, x2, x3, x4, x5, x7, x8, rfl, rfl, rfl, hps⟩
    have erl : rows.take (enumD (rows.map MR.dRow)).length = rows := by rw [enum_len, List.length_map, List.take_length]
    rw [erl] at hps ⊢
    have hnd := MI.kinds_nd rows
    refine s_frzDict (as0 := [s, t, f]) (O0 := [.ins (He.ga K "Kinds") [("table", .adr t), ("family", .adr f)], .dk (MI.entsFrom [] rows), .dk (zipD (MI.keys rows) (ps.map D.adr))]) 2 (by rw [List.length_map]; exact hps) rfl rfl ?_
    refine s_frzFld 2 0 f (He.ga K "Kinds") (.dk (zipD (MI.keys rows) ((MI.kindsOf rows).map (MI.lstD rows)))) (.dk (zipD (MI.keys rows) ((MI.kindsOf rows).map (MI.lstD rows)))) "family" [("table", .adr t), ("family", .adr f)] rfl rfl (fun F o e c => .of e c) rfl rfl ?_
    refine s_frzFld 1 0 t (He.ga K "Kinds") (.dk (MI.entsFrom [] rows)) (.ldk t (MI.entsFrom [] rows)) "table" [("table", .adr t), ("family", .dk (zipD (MI.keys rows) ((MI.kindsOf rows).map (MI.lstD rows))))] rfl rfl (fun F o e c => by cases c with | dk r => exact .ldk e r) rfl rfl ?_
    generalize efd : zipD (MI.keys rows) ((MI.kindsOf rows).map (MI.lstD rows)) = fds
    generalize etd : MI.entsFrom [] rows = tds
    have hfds : ∀ k, k ∈ MI.kindsOf rows → (valD fds (.inr k)).isSome = true := fun k m => by
      obtain ⟨q, hq⟩ := List.mem_iff_getElem?.mp m
      rw [← efd]
      rw [MI.keys, MI.val_zip hnd hq (by rw [List.length_map])]
      rw [List.getElem?_map, hq]
      rfl
    refine s_seq (s_for (i_enumF (w_cons (w_var rfl (w_nil ⟨_, _, rfl, hrd, fun i as ρ O => ∃ (x2 x3 x4 x5 x6 x7 x8 : Option D), as = [s] ∧ ρ = [some (.adr s), some rd, x2, x3, x4, x5, x6, x7, x8] ∧
      O = [.ins (He.ga K "Kinds") [("table", .ldk t tds), ("family", .dk fds)]], ⟨x2, x3, x4, x5, none, x7, x8, rfl, rfl, rfl⟩, ?_, ?_⟩)))))
    · rintro i as ρ O c hc ⟨x2, x3, x4, x5, x6, x7, x8, rfl, rfl, rfl⟩
      obtain ⟨d, hd, rfl⟩ := enum_at hc
      rw [List.getElem?_map] at hd
      obtain ⟨r, hr, rfl⟩ := Option.map_eq_some_iff.mp hd
      have mr : r ∈ rows := List.mem_of_getElem? hr
      refine g_tup rfl (gs_cons (g_name (gs_cons (g_name (gs_nil ?_)))))
      refine s_for (i_tup (w_op (w_var rfl (w_int (rv_ixT (d := .tup (r.parts.map MR.dPart)) rfl ⟨_, rfl, fun q as ρ O => ∃ (x6 : Option D), as = [s] ∧ ρ = [some (.adr s), some rd, x2, some (.int (i : Nat)), some (MR.dRow r), x5, x6, x7, x8] ∧
        O = [.ins (He.ga K "Kinds") [("table", .ldk t tds), ("family", .dk fds)]], ⟨x6, rfl, rfl, rfl⟩, ?_, ?_⟩)))))
      · rintro q as ρ O c hc ⟨x6, rfl, rfl, rfl⟩
        rw [List.getElem?_map] at hc
        obtain ⟨p, hp, rfl⟩ := Option.map_eq_some_iff.mp hc
        have mp : p ∈ r.parts := List.mem_of_getElem? hp
        obtain ⟨b, hdr⟩ := hT.some.parts r mr
        have hpk : p.inn = MR.byteS ∨ p.inn ∈ MI.kindsOf rows := (hdr.ok p mp).elim (fun z => .inl z.1) fun z => .inr (MI.kind_mem hT z.1)
        have hx : ∀ {k : List Addr → D → List D → Prop} {as : List Addr} {O : List D}, k as (.str p.inn) O → rv (rIxT K) [] as O (MR.dPart p) (.int 1) k := fun z => rv_ixT (d := .str p.inn) (by cases p.pr <;> rfl) z
        refine g_name (s_if (w_and (w_test (w_op (w_op (w_var rfl (w_int (hx (w_str ?_)))))))))
        refine rv_ne rfl ⟨_, rfl, ?_⟩
        show if (!(p.inn == MR.byteS)) = true then _ else _
        refine i_bl (fun h => ?_) fun h => s_next ⟨_, rfl, rfl, rfl⟩
        have hk2 : p.inn ∈ MI.kindsOf rows := hpk.resolve_left fun z => by rw [z] at h; simp at h
        refine w_test (w_dnin (w_op (w_var rfl (w_int (hx ?_)))))
        refine w_fld (w_var rfl ⟨_, _, .dk fds, .inr ⟨0, s, rfl, rfl, rfl⟩, (na_Kinds_family Z).1, (na_Kinds_family Z).2, rfl, .inr p.inn, fds, rfl, .inl (.inl rfl), ?_⟩)
        rw [hfds _ hk2]
        exact ⟨_, rfl, s_next ⟨_, rfl, rfl, rfl⟩⟩
      · rintro as ρ O ⟨x6, rfl, rfl, rfl⟩
        exact ⟨_, _, _, _, _, _, _, rfl, rfl, rfl⟩
    · rintro as ρ O ⟨x2, x3, x4, x5, x6, x7, x8, rfl, rfl, rfl⟩
      refine s_seq (s_fld (w_cb (w_cons (w_fld (w_var rfl ⟨_, _, .dk fds, .inr ⟨0, s, rfl, rfl, rfl⟩, (na_Kinds_family Z).1, (na_Kinds_family Z).2, rfl, w_nil (rc_tupD (kds := fds) (.inl (.inl rfl)) ?_)⟩)))))
      refine w_var rfl ⟨0, s, _, _, rfl, rfl, rfl, (na_Kinds_names Z).1, (na_Kinds_names Z).2, by show 2 < 1000; decide, ?_⟩
      refine s_seq (s_fld (w_cb (w_cons (w_fld (w_var rfl ⟨_, _, .ldk t tds, .inr ⟨0, s, rfl, rfl, rfl⟩, (na_Kinds_table Z).1, (na_Kinds_table Z).2, rfl, w_nil (rc_tupD (kds := tds) (.inl (.inr ⟨_, rfl⟩)) ?_)⟩)))))
      refine w_var rfl ⟨0, s, _, _, rfl, rfl, rfl, (na_Kinds_order Z).1, (na_Kinds_order Z).2, by show 3 < 1000; decide, ?_⟩
      rw [show (fds.map fun kv => kD kv.1) = (MI.kindsOf rows).map D.str from by rw [← efd]; exact MI.zip_keys (by rw [List.length_map])]
      rw [show (tds.map fun kv => kD kv.1) = (rows.map (·.maker)).map D.str from by rw [← etd]; exact MI.ents_keys [] rows]
      refine s_seq (s_fld (w_dnew fun sm => w_var rfl ⟨0, s, _, _, rfl, rfl, rfl, (na_Kinds_smallest Z).1, (na_Kinds_smallest Z).2, by show 4 < 1000; decide, ?_⟩))
      obtain ⟨es, ees, hes, hent⟩ := entsOf hT
      refine s_seq (s_drop (d_meth [0, 1] (w_var rfl ⟨⟨_, .inr ⟨0, s, rfl, rfl, rfl⟩, rfl⟩, w_nil ?_⟩)))
      refine ⟨by decide, fun j m => by simp at m; show j < 2; omega, s, t, sm, _, es, nms, rfl, rfl, rfl, rfl, (by rw [ees, etd]; rfl), rfl, hT.names.nd, hT.few, hes, fun lr lds sds hcz hcl hfin0 => ?_⟩
      obtain ⟨gg, hdone⟩ := hfin0
      have hfin : ∀ e ∈ es, (∀ p ∈ e.ps, p.inn = MR.byteS ∨ (valD sds (.inr p.inn)).isSome = true) → (valD sds (.inr e.kind)).isSome = true := fun e me hp => by
        obtain ⟨old, ho, _⟩ := hdone.closed e me fun p mp => by
          unfold ML.okP
          rcases hp p mp with z | z
          · rw [z]; rfl
          · rw [hdone.small] at z; rw [z, Bool.or_true]
        rw [hdone.small, ho]
        rfl
      refine ⟨[lr], [.dk lds], [_, .dk sds], rfl, rfl, rfl, ?_⟩
      refine s_let 2 ?_
      refine s_frzFld 1 0 sm (He.ga K "Kinds") (.dk sds) (.dk sds) "smallest" _ rfl rfl (fun F o e c => .of e c) rfl rfl ?_
      have hall : ∀ k, k ∈ nms → (valD sds (.inr k)).isSome = true := MI.all_small hT fun r m hr => by
        obtain ⟨e, me, e1, e2⟩ := hent r m
        have := hfin e me fun p mp => hr p (by rw [← e2]; exact mp)
        rw [e1] at this
        exact this
      refine s_for (i_tup (w_fld (w_var rfl ⟨_, _, .tup ((MI.kindsOf rows).map D.str), .inr ⟨0, s, rfl, rfl, rfl⟩, (na_Kinds_names Z).1, (na_Kinds_names Z).2, rfl, _, rfl, fun i as ρ O => ∃ (x2 : Option D), as = [s] ∧ ρ = [some (.adr s), some rd, x2, x3, x4, x5, x6, x7, x8] ∧
        O = [.ins (He.ga K "Kinds") (MT.tabF (.ldk t tds) (.dk fds) (.tup ((MI.kindsOf rows).map D.str)) (.tup ((rows.map (·.maker)).map D.str)) (.dk sds))], ⟨x2, rfl, rfl, rfl⟩, ?_, ?_⟩)))
      · rintro i as ρ O c hc ⟨x2, rfl, rfl, rfl⟩
        rw [List.getElem?_map] at hc
        obtain ⟨z, hz, rfl⟩ := Option.map_eq_some_iff.mp hc
        refine g_name (s_if (w_test (w_dnin (w_var rfl ?_))))
        refine w_fld (w_var rfl ⟨_, _, .dk sds, .inr ⟨0, s, rfl, rfl, rfl⟩, (na_Kinds_smallest Z).1, (na_Kinds_smallest Z).2, rfl, .inr z, sds, rfl, .inl (.inl rfl), ?_⟩)
        rw [hall z (MI.kinds_sub hT (List.mem_of_getElem? hz))]
        exact ⟨_, rfl, s_next ⟨_, rfl, rfl, rfl⟩⟩
      · rintro as ρ O ⟨x2, rfl, rfl, rfl⟩
        have := hk t sds hcz ⟨nms, es, gg, ees, hT.few, hes, hdone, fun k m => by rw [← hdone.small]; exact hall k m⟩
        rw [efd, etd] at this
        exact this
def c_Kinds_makers (K : PySem.W.Frag) : Ct := fun L as ds O k e => ∃ (t f n o s : D) (fds : List (Key × D)) (kind : Str), as = [] ∧ ds = [.ins (He.ga K "Kinds") (MT.tabF t f n o s), .str kind] ∧ O = [] ∧ dkOf [] [] f fds ∧
  ((∃ ms : List Str, valD fds (.inr kind) = some (.lst (ms.map D.str)) ∧ k [] (.tup (ms.map D.str)) []) ∨ (valD fds (.inr kind) = none ∧ kind.length ≤ 100000 ∧ e L (He.ga K "NotThere") [("name", .str kind)] [] []))
theorem l_Kinds_makers {K : PySem.W.Frag} : ∀ L as ds O k e, c_Kinds_makers K L as ds O k e → ds.length = 2 := fun L as ds O k e h => by
  obtain ⟨t, f, n, o, s, fds, kind, _, rfl, _⟩ := h
  rfl
theorem ok_Kinds_makers {P : Program} {w : World} {K : PySem.W.Frag} {mg : Str → Option Value} {base : Heap} (Z : Tx P w K mg) : FnOk P w K mg base (L2.CX P w) 3 (He.ma K (He.ga K "Kinds") "makers") (fdAt K ("Kinds", some "makers")) ["self", "kind"] (spC (c_Kinds_makers K)) := by
  refine FunD.ok (k := 2) (F_Kinds_makers Z) sc_Kinds_makers (sp_len (n := 2) l_Kinds_makers) (fun cdv A outer s H vs Q E hr h => ⟨_, ((pss_cons (ps_if (pt_cmp (pc_dnotin (hu_of hr) (pv 1) (show PE _ _ (tFld K _ _) from pe_fld (pv 0) rfl)))
  (pss_one (pr_NotThere Z rfl (hr.mono (by decide)) (takes_of rfl rfl rfl rfl) (by rfl) (pa_cons (pv 1) pa_nil)))
  pss_nil)
  (pss_one (ps_ret (pe_callTy call_tuple_of (by rfl) (Z.free 18 rfl) PyProof.Rows.boot_tuple (pa_cons (pe_dget (hu_of hr) (show PE _ _ (tFld K _ _) from pe_fld (pv 0) rfl) (pv 1) (fun _ _ => rfl)) pa_nil)))))), enter h fun L as ds O k e c => ?_⟩)
  obtain ⟨t, f, n, o, s, fds, kind, rfl, rfl, rfl, hd, h⟩ := c
  refine s_seq (s_if (w_test (w_dnin (w_var rfl (w_fld (w_var rfl ⟨_, _, f, .inl rfl, (na_Kinds_family Z).1, (na_Kinds_family Z).2, MT.tab_family, .inr kind, fds, rfl, MT.dk_wide hd, ?_⟩))))))
  rcases h with ⟨ms, he, hk⟩ | ⟨he, hz, hx⟩
  · rw [he]
    refine ⟨_, rfl, ?_⟩
    refine s_next (s_ret (w_cb (w_cons (w_dget (w_fld (w_var rfl ⟨_, _, f, .inl rfl, (na_Kinds_family Z).1, (na_Kinds_family Z).2, MT.tab_family, w_var rfl ⟨rfl, rfl, .inr kind, fds, _, rfl, hd, he, w_nil ?_⟩⟩))))))
    exact rc_tupL (ds := ms.map D.str) (.inl (.inl rfl)) hk
  · rw [he]
    exact ⟨_, rfl, s_raiseS (xo_NotThere Z) hz (w_var rfl ⟨rfl, hx⟩)⟩
theorem call_Kinds_makers {K : PySem.W.Frag} {χ : Xk} {L as : List Addr} {ρ : DSt} {O : List D} {k : List Addr → D → List D → Prop} {t f n o s : D} {fds : List (Key × D)} {kind : Str} {ms : List Str} (hd : dkOf [] [] f fds) (he : valD fds (.inr kind) = some (.lst (ms.map D.str))) (hk : k as (.tup (ms.map D.str)) O) :
    cc (c_Kinds_makers K) χ ρ [] L as [.ins (He.ga K "Kinds") (MT.tabF t f n o s), .str kind] O k :=
  ⟨(no_js (as := as)).1, (no_js (as := as)).2, t, f, n, o, s, fds, kind, rfl, rfl, rfl, hd, .inl ⟨ms, he, ck0 hk⟩⟩
def c_Kinds_entry (K : PySem.W.Frag) : Ct := fun L as ds O k e => ∃ (d : D) (tds : List (Key × D)) (z : Str), as = [] ∧ ds = [d, .str z] ∧ O = [] ∧ MT.Self K d tds ∧
  ((∃ (kind : Str) (tag : Nat) (ps : List MR.Part), valD tds (.inr z) = some (MT.dEnt kind tag ps) ∧ k [] (MT.dEnt kind tag ps) []) ∨ (valD tds (.inr z) = none ∧ z.length ≤ 100000 ∧ e L (He.ga K "NotThere") [("name", .str z)] [] []))
theorem l_Kinds_entry {K : PySem.W.Frag} : ∀ L as ds O k e, c_Kinds_entry K L as ds O k e → ds.length = 2 := fun L as ds O k e h => by
  obtain ⟨d, tds, z, _, rfl, _⟩ := h
  rfl
theorem ok_Kinds_entry {P : Program} {w : World} {K : PySem.W.Frag} {mg : Str → Option Value} {base : Heap} (Z : Tx P w K mg) : FnOk P w K mg base (L2.CX P w) 3 (He.ma K (He.ga K "Kinds") "entry") (fdAt K ("Kinds", some "entry")) ["self", "maker"] (spC (c_Kinds_entry K)) := by
  refine FunD.ok (k := 2) (F_Kinds_entry Z) sc_Kinds_entry (sp_len (n := 2) l_Kinds_entry) (fun cdv A outer s H vs Q E hr h => ⟨_, ((pss_cons (ps_if (pt_cmp (pc_dnotin (hu_of hr) (pv 1) (show PE _ _ (tFld K _ _) from pe_fld (pv 0) rfl)))
  (pss_one (pr_NotThere Z rfl (hr.mono (by decide)) (takes_of rfl rfl rfl rfl) (by rfl) (pa_cons (pv 1) pa_nil)))
  pss_nil)
  (pss_one (ps_ret (pe_dget (hu_of hr) (show PE _ _ (tFld K _ _) from pe_fld (pv 0) rfl) (pv 1) (fun _ _ => rfl)))))), enter h fun L as ds O k e c => ?_⟩)
  obtain ⟨_, tds, z, rfl, rfl, rfl, ⟨t, f, n, o, s, rfl, hd⟩, h⟩ := c
  refine s_seq (s_if (w_test (w_dnin (w_var rfl (w_fld (w_var rfl ⟨_, _, t, .inl rfl, (na_Kinds_table Z).1, (na_Kinds_table Z).2, MT.tab_table, .inr z, tds, rfl, hd, ?_⟩))))))
  rcases h with ⟨kind, tag, ps, he, hk⟩ | ⟨he, hz, hx⟩
  · rw [he]
    refine ⟨_, rfl, ?_⟩
    refine s_next (s_ret (w_dget (w_fld (w_var rfl ⟨_, _, t, .inl rfl, (na_Kinds_table Z).1, (na_Kinds_table Z).2, MT.tab_table, w_var rfl ⟨rfl, rfl, .inr z, tds, _, rfl, hd, he, hk⟩⟩))))
  · rw [he]
    exact ⟨_, rfl, s_raiseS (xo_NotThere Z) hz (w_var rfl ⟨rfl, hx⟩)⟩
theorem call_Kinds_entry {K : PySem.W.Frag} {χ : Xk} {L as : List Addr} {ρ : DSt} {O : List D} {k : List Addr → D → List D → Prop} {d : D} {tds : List (Key × D)} {z kind : Str} {tag : Nat} {ps : List MR.Part} (h : MT.Self K d tds) (he : valD tds (.inr z) = some (MT.dEnt kind tag ps)) (hk : k as (MT.dEnt kind tag ps) O) : cc (c_Kinds_entry K) χ ρ [] L as [d, .str z] O k :=
  ⟨(no_js (as := as)).1, (no_js (as := as)).2, d, tds, z, rfl, rfl, rfl, h, .inl ⟨kind, tag, ps, he, ck0 hk⟩⟩
theorem call_Kinds_entryX {K : PySem.W.Frag} {χ : Xk} {L as : List Addr} {ρ : DSt} {O : List D} {k : List Addr → D → List D → Prop} {d : D} {tds : List (Key × D)} {z : Str} (h : MT.Self K d tds) (he : valD tds (.inr z) = none) (hz : z.length ≤ 100000) (hx : χ.e L (He.ga K "NotThere") [("name", .str z)] as ρ O) : cc (c_Kinds_entry K) χ ρ [] L as [d, .str z] O k :=
  ⟨(no_js (as := as)).1, (no_js (as := as)).2, d, tds, z, rfl, rfl, rfl, h, .inr ⟨he, hz, xk0 (φ := fun as O => χ.e L (He.ga K "NotThere") [("name", .str z)] as ρ O) hx⟩⟩
def c_Kinds_parts (K : PySem.W.Frag) : Ct := fun L as ds O k e => ∃ (d : D) (tds : List (Key × D)) (z : Str), as = [] ∧ ds = [d, .str z] ∧ O = [] ∧ MT.Self K d tds ∧
  ((∃ (kind : Str) (tag : Nat) (ps : List MR.Part), valD tds (.inr z) = some (MT.dEnt kind tag ps) ∧ ps.length ≤ 4 ∧ k [] (.tup ((ps.map (·.nm)).map D.str)) []) ∨ (valD tds (.inr z) = none ∧ z.length ≤ 100000 ∧ e L (He.ga K "NotThere") [("name", .str z)] [] []))
theorem l_Kinds_parts {K : PySem.W.Frag} : ∀ L as ds O k e, c_Kinds_parts K L as ds O k e → ds.length = 2 := fun L as ds O k e h => by
  obtain ⟨d, tds, z, _, rfl, _⟩ := h
  rfl
theorem ok_Kinds_parts {P : Program} {w : World} {K : PySem.W.Frag} {mg : Str → Option Value} {base : Heap} (Z : Tx P w K mg) : FnOk P w K mg base (L2.CX P w) 4 (He.ma K (He.ga K "Kinds") "parts") (fdAt K ("Kinds", some "parts")) ["self", "maker"] (spC (c_Kinds_parts K)) := by
  refine FunD.ok (k := 3) (F_Kinds_parts Z) sc_Kinds_parts (sp_len (n := 2) l_Kinds_parts) (fun cdv A outer s H vs Q E hr h => ⟨_, ((pss_one (ps_ret (pe_callTy call_tuple_of (by rfl) (Z.free 18 rfl) PyProof.Rows.boot_tuple (pa_cons (pe_lc rfl sc_Kinds_parts.nd (pi_tup (pe_ix (r := rIxT K) ix_tup (pe_methX (pv 0) (Z.cls 4 rfl) (Z.meth 70 rfl) (ok_Kinds_entry Z) (hr.mono (by decide)) (b_Kinds_entry Z) .nil (takes_of rfl rfl rfl rfl) (pa_cons (pv 1) pa_nil)) pe_int (fun _ _ => rfl))) (blkOk_by (own := [("part", 2)]) (N := N_Kinds_parts) (sc := defScope s_Kinds_parts) (by decide +kernel)) (fun _ _ _ _ _ => (pg_name (i := 2) sc_Kinds_parts.nd rfl (by first | exact Or.inl rfl | exact Or.inr rfl))) (fun _ _ _ _ _ => pts_nil) (fun _ _ _ _ _ => (pe_ix (r := rIxT K) ix_tup (pv 2) pe_int (fun _ _ => rfl)))) pa_nil))))), enter h fun L as ds O k e c => ?_⟩)
  obtain ⟨_, tds, z, rfl, rfl, rfl, hs, h⟩ := c
  have hs2 := hs
  obtain ⟨t, f, n, o, s, rfl, hd⟩ := hs2
  refine s_ret (w_cb (w_cons (w_known (w_map (α := MR.Part) (wg_name (by decide)) (i_tup (w_op (d_methW [] (w_var rfl ⟨⟨_, .inl rfl, MT.tab_entry⟩, w_cons (w_var rfl (w_nil ?_))⟩))))))))
  rcases h with ⟨kind, tag, ps, he, hm, hk⟩ | ⟨he, hz, hx⟩
  rotate_left
  · exact call_Kinds_entryX hs he hz hx
  refine call_Kinds_entry hs he ?_
  refine w_int (rv_ixT (d := .tup (ps.map MR.dPart)) rfl ⟨_, rfl, ps, MR.dPart, fun p => .str p.nm, rfl, smallt (by omega), fun p m => ?_, fun q => ⟨q, _, _, _, rfl, rfl, rfl, w_nil ?_⟩⟩)
  · exact g_name ⟨rfl, rfl, w_op (w_var rfl (w_int (rv_ixT (d := .str p.nm) (by cases p.pr <;> rfl) ⟨rfl, rfl, rfl⟩)))⟩
  refine rc_tupL (ds := (ps.map (·.nm)).map D.str) (.inl (.inl (by rw [List.map_map]; rfl))) hk
theorem call_Kinds_parts {K : PySem.W.Frag} {χ : Xk} {L as : List Addr} {ρ : DSt} {O : List D} {k : List Addr → D → List D → Prop} {d : D} {tds : List (Key × D)} {z kind : Str} {tag : Nat} {ps : List MR.Part} (h : MT.Self K d tds) (he : valD tds (.inr z) = some (MT.dEnt kind tag ps)) (h1 : ps.length ≤ 4) (hk : k as (.tup ((ps.map (·.nm)).map D.str)) O) : cc (c_Kinds_parts K) χ ρ [] L as [d, .str z] O k :=
  ⟨(no_js (as := as)).1, (no_js (as := as)).2, d, tds, z, rfl, rfl, rfl, h, .inl ⟨kind, tag, ps, he, h1, ck0 hk⟩⟩
def PartOf (K : PySem.W.Frag) (tds : List (Key × D)) (z y : Str) (r : MR.Part → D) (L : List Addr) (k : KN) (e : KX) : Prop :=
  (∃ (kind : Str) (tag : Nat) (ps : List MR.Part) (p : MR.Part), valD tds (.inr z) = some (MT.dEnt kind tag ps) ∧ p ∈ ps ∧ p.nm = y ∧ (ps.map (·.nm)).Nodup ∧ k [] (r p) []) ∨
  (valD tds (.inr z) = none ∧ z.length ≤ 100000 ∧ e L (He.ga K "NotThere") [("name", .str z)] [] []) ∨
  (∃ (kind : Str) (tag : Nat) (ps : List MR.Part), valD tds (.inr z) = some (MT.dEnt kind tag ps) ∧ y ∉ ps.map (·.nm) ∧ y.length ≤ 100000 ∧ e L (He.ga K "NotThere") [("name", .str y)] [] [])
def c_Kinds_part_of (K : PySem.W.Frag) : Ct := fun L as ds O k e => ∃ (d : D) (tds : List (Key × D)) (z y : Str), as = [] ∧ ds = [d, .str z, .str y] ∧ O = [] ∧ MT.Self K d tds ∧ PartOf K tds z y MR.dPart L k e
theorem l_Kinds_part_of {K : PySem.W.Frag} : ∀ L as ds O k e, c_Kinds_part_of K L as ds O k e → ds.length = 3 := fun L as ds O k e h => by
  obtain ⟨d, tds, z, y, _, rfl, _⟩ := h
  rfl
theorem ok_Kinds_part_of {P : Program} {w : World} {K : PySem.W.Frag} {mg : Str → Option Value} {base : Heap} (Z : Tx P w K mg) : FnOk P w K mg base (L2.CX P w) 4 (He.ma K (He.ga K "Kinds") "part_of") (fdAt K ("Kinds", some "part_of")) ["self", "maker", "name"] (spC (c_Kinds_part_of K)) := by
  refine FunD.ok (k := 3) (F_Kinds_part_of Z) sc_Kinds_part_of (sp_len (n := 3) l_Kinds_part_of) (fun cdv A outer s H vs Q E hr h => ⟨_, ((pss_cons (ps_for (passes_of rfl) rfl (pi_tup (pe_ix (r := rIxT K) ix_tup (pe_methX (pv 0) (Z.cls 4 rfl) (Z.meth 70 rfl) (ok_Kinds_entry Z) (hr.mono (by decide)) (b_Kinds_entry Z) .nil (takes_of rfl rfl rfl rfl) (pa_cons (pv 1) pa_nil)) pe_int (fun _ _ => rfl))) (pg_name (i := 3) sc_Kinds_part_of.nd rfl (Or.inl rfl))
  (pss_one (ps_if (pt_cmpR op_eq (pe_ix (r := rIxT K) ix_tup (pv 3) pe_int (fun _ _ => rfl)) (pv 2) (nomark _))
  (pss_one (ps_ret (pv 3)))
  pss_nil)))
  (pss_one (pr_NotThere Z rfl (hr.mono (by decide)) (takes_of rfl rfl rfl rfl) (by rfl) (pa_cons (pv 2) pa_nil))))), enter h fun L as ds O k e c => ?_⟩)
  obtain ⟨_, tds, z, y, rfl, rfl, rfl, hs, h⟩ := c
  have hs2 := hs
  obtain ⟨t, f, n, o, s, rfl, hd⟩ := hs2
  refine s_seq (s_for (i_tup (w_op (d_methW [] (w_var rfl ⟨⟨_, .inl rfl, MT.tab_entry⟩, w_cons (w_var rfl (w_nil ?_))⟩)))))
  rcases h with ⟨kind, tag, ps, p, he, hm, rfl, hnd, hk⟩ | ⟨he, hz, hx⟩ | ⟨kind, tag, ps, he, hm, hz, hx⟩
  · refine call_Kinds_entry hs he ?_
    refine w_int (rv_ixT (d := .tup (ps.map MR.dPart)) rfl ⟨_, rfl, fun i as ρ O => ∃ x3, as = [] ∧ O = [] ∧ ρ = [some (.ins (He.ga K "Kinds") (MT.tabF t f n o s)), some (.str z), some (.str p.nm), x3] ∧ p ∈ ps.drop i, ⟨none, rfl, rfl, rfl, hm⟩, ?_, ?_⟩)
    · rintro i as ρ O c hc ⟨x3, rfl, rfl, rfl, hp⟩
      rw [List.getElem?_map] at hc
      cases e : ps[i]? with
      | none => rw [e] at hc; cases hc
      | some q =>
        rw [e] at hc
        cases hc
        have hi := (List.getElem?_eq_some_iff.mp e).1
        have eq : ps[i] = q := (List.getElem?_eq_some_iff.mp e).2
        rw [List.drop_eq_getElem_cons hi, eq] at hp
        refine g_name (s_if (w_test (w_op (w_op (w_var rfl (w_int ?_))))))
        refine rv_ixT (d := .str q.nm) (by cases q.pr <;> rfl) ?_
        refine w_var rfl ?_
        refine rv_eq rfl ⟨_, rfl, ?_⟩
        show if (q.nm == p.nm) = true then _ else _
        refine i_bl (fun h => ?_) fun h => ?_
        · have : q = p := by
            have h := eq_of_beq h
            rcases List.mem_cons.mp hp with h' | h'
            · exact h'.symm
            · exfalso
              obtain ⟨j, hj, ej⟩ := List.mem_iff_getElem.mp h'
              rw [List.getElem_drop] at ej
              rw [List.length_drop] at hj
              have hnd' := List.pairwise_iff_getElem.mp (List.nodup_iff_pairwise_ne.mp hnd) i (i + 1 + j) (by rw [List.length_map]; exact hi) (by rw [List.length_map]; omega) (by omega)
              rw [List.getElem_map, List.getElem_map, eq, ej] at hnd'
              exact hnd' h
          subst this
          exact s_ret (w_var rfl hk)
        · refine s_next ⟨_, rfl, rfl, rfl, ?_⟩
          rcases List.mem_cons.mp hp with h' | h'
          · rw [h'] at h; simp at h
          · exact h'
    · rintro as ρ O ⟨x3, rfl, rfl, rfl, hp⟩
      rw [List.length_map, List.drop_length] at hp
      cases hp
  · exact call_Kinds_entryX hs he hz hx
  · refine call_Kinds_entry hs he ?_
    refine w_int (rv_ixT (d := .tup (ps.map MR.dPart)) rfl ⟨_, rfl, fun i as ρ O => ∃ x3, as = [] ∧ O = [] ∧ ρ = [some (.ins (He.ga K "Kinds") (MT.tabF t f n o s)), some (.str z), some (.str y), x3], ⟨none, rfl, rfl, rfl⟩, ?_, ?_⟩)
    · rintro i as ρ O c hc ⟨x3, rfl, rfl, rfl⟩
      rw [List.getElem?_map] at hc
      obtain ⟨q, hq, rfl⟩ := Option.map_eq_some_iff.mp hc
      refine g_name (s_if (w_test (w_op (w_op (w_var rfl (w_int ?_))))))
      refine rv_ixT (d := .str q.nm) (by cases q.pr <;> rfl) ?_
      refine w_var rfl (rv_eq rfl ⟨_, rfl, ?_⟩)
      show if (q.nm == y) = true then _ else _
      rw [show (q.nm == y) = false from by rw [beq_eq_false_iff_ne]; exact fun e => hm (e ▸ List.mem_map_of_mem (List.mem_of_getElem? hq))]
      exact s_next ⟨_, rfl, rfl, rfl⟩
    · rintro as ρ O ⟨x3, rfl, rfl, rfl⟩
      exact s_raiseS (xo_NotThere Z) hz (w_var rfl ⟨rfl, hx⟩)
theorem PartOf.imp {K : PySem.W.Frag} {tds : List (Key × D)} {z y : Str} {r r' : MR.Part → D} {L : List Addr} {k k' : KN} {e e' : KX} (h : PartOf K tds z y r L k e) (hk : ∀ kind tag ps p, valD tds (.inr z) = some (MT.dEnt kind tag ps) → p ∈ ps → k [] (r p) [] → k' [] (r' p) []) (he : ∀ fds, e L (He.ga K "NotThere") fds [] [] → e' L (He.ga K "NotThere") fds [] []) : PartOf K tds z y r' L k' e' := by
  rcases h with ⟨kind, tag, ps, p, h1, h2, h3, h4, h5⟩ | ⟨h1, h2, h3⟩ | ⟨kind, tag, ps, h1, h2, h3, h4⟩
  · exact .inl ⟨kind, tag, ps, p, h1, h2, h3, h4, hk _ _ _ _ h1 h2 h5⟩
  · exact .inr (.inl ⟨h1, h2, he _ h3⟩)
  · exact .inr (.inr ⟨kind, tag, ps, h1, h2, h3, he _ h4⟩)
theorem call_Kinds_part_of {K : PySem.W.Frag} {χ : Xk} {L as : List Addr} {ρ : DSt} {O : List D} {k : List Addr → D → List D → Prop} {d : D} {tds : List (Key × D)} {z y : Str} (h : MT.Self K d tds) (hp : PartOf K tds z y MR.dPart L (fun _ d _ => k as d O) fun L C fds _ _ => χ.e L C fds as ρ O) : cc (c_Kinds_part_of K) χ ρ [] L as [d, .str z, .str y] O k :=
  ⟨(no_js (as := as)).1, (no_js (as := as)).2, d, tds, z, y, rfl, rfl, rfl, h, hp.imp (fun _ _ _ _ _ _ z => ck0 z) fun fds z => xk0 (φ := fun as O => χ.e L (He.ga K "NotThere") fds as ρ O) z⟩
def c_Kinds_inner (K : PySem.W.Frag) : Ct := fun L as ds O k e => ∃ (d : D) (tds : List (Key × D)) (z y : Str), as = [] ∧ ds = [d, .str z, .str y] ∧ O = [] ∧ MT.Self K d tds ∧ PartOf K tds z y (fun p => .str p.inn) L k e
theorem l_Kinds_inner {K : PySem.W.Frag} : ∀ L as ds O k e, c_Kinds_inner K L as ds O k e → ds.length = 3 := fun L as ds O k e h => by
  obtain ⟨d, tds, z, y, _, rfl, _⟩ := h
  rfl
theorem ok_Kinds_inner {P : Program} {w : World} {K : PySem.W.Frag} {mg : Str → Option Value} {base : Heap} (Z : Tx P w K mg) : FnOk P w K mg base (L2.CX P w) 5 (He.ma K (He.ga K "Kinds") "inner") (fdAt K ("Kinds", some "inner")) ["self", "maker", "part"] (spC (c_Kinds_inner K)) := by
  refine FunD.ok (k := 4) (F_Kinds_inner Z) sc_Kinds_inner (sp_len (n := 3) l_Kinds_inner) (fun cdv A outer s H vs Q E hr h => ⟨_, ((pss_one (ps_ret (pe_ix (r := rIxT K) ix_tup (pe_methX (pv 0) (Z.cls 4 rfl) (Z.meth 71 rfl) (ok_Kinds_part_of Z) (hr.mono (by decide)) (b_Kinds_part_of Z) .nil (takes_of rfl rfl rfl rfl) (pa_cons (pv 1) (pa_cons (pv 2) pa_nil))) pe_int (fun _ _ => rfl))))), enter h fun L as ds O k e c => ?_⟩)
  obtain ⟨_, tds, z, y, rfl, rfl, rfl, hs, h⟩ := c
  have hs2 := hs
  obtain ⟨t, f, n, o, s, rfl, hd⟩ := hs2
  refine s_ret (w_op (d_methW [] (w_var rfl ⟨⟨_, .inl rfl, MT.tab_part_of⟩, w_cons (w_var rfl (w_cons (w_var rfl (w_nil ?_))))⟩)))
  refine call_Kinds_part_of hs (h.imp (fun _ _ _ p _ _ hk => ?_) fun _ z => z)
  exact w_int (rv_ixT (d := .str p.inn) (by cases p.pr <;> rfl) hk)
theorem call_Kinds_inner {K : PySem.W.Frag} {χ : Xk} {L as : List Addr} {ρ : DSt} {O : List D} {k : List Addr → D → List D → Prop} {d : D} {tds : List (Key × D)} {z y : Str} (h : MT.Self K d tds) (hp : PartOf K tds z y (fun p => .str p.inn) L (fun _ d _ => k as d O) fun L C fds _ _ => χ.e L C fds as ρ O) : cc (c_Kinds_inner K) χ ρ [] L as [d, .str z, .str y] O k :=
  ⟨(no_js (as := as)).1, (no_js (as := as)).2, d, tds, z, y, rfl, rfl, rfl, h, hp.imp (fun _ _ _ _ _ _ z => ck0 z) fun fds z => xk0 (φ := fun as O => χ.e L (He.ga K "NotThere") fds as ρ O) z⟩
def c_is_body (K : PySem.W.Frag) : Nat → Ct
  | 0 => fun _ _ _ _ _ _ => False
  | n + 1 => fun L as ds O k e => ∃ (T z : D) (tds : List (Key × D)) (m kind : Str) (tag : Nat) (ps : List MR.Part) (a : List Str) (l : List MG.RS), as = [] ∧ ds = [T, .str m, MG.dRB l, z] ∧ O = [] ∧ lstF K z (a.map D.str) ∧ MT.Self K T tds ∧ valD tds (.inr m) = some (MT.dEnt kind tag ps) ∧
    ps.length ≤ 4 ∧ (ps.map (·.nm)).Nodup ∧ a.length + 20 * n ≤ 1000 ∧ n ≤ 9 ∧ MG.SqR (n + 1) l ∧ k [] (.bl (MG.okR ps a l)) []
theorem l_is_body {K : PySem.W.Frag} : ∀ n L as ds O k e, c_is_body K n L as ds O k e → ds.length = 4
  | 0, _, _, _, _, _, _, h => h.elim
  | n + 1, _, _, _, _, _, _, h => by
    obtain ⟨T, z, tds, m, kind, tag, ps, a, l, _, rfl, _⟩ := h
    rfl
theorem call_is_bodyR {K : PySem.W.Frag} {χ : Xk} {L as : List Addr} {ρ : DSt} {O : List D} {k : List Addr → D → List D → Prop} {n : Nat} {T z : D} {tds : List (Key × D)} {m kind : Str} {tag : Nat} {ps : List MR.Part} {a : List Str} {l : List MG.RS} (h1 : lstF K z (a.map D.str)) (h2 : MT.Self K T tds) (h3 : valD tds (.inr m) = some (MT.dEnt kind tag ps))
    (h4 : ps.length ≤ 4) (h5 : (ps.map (·.nm)).Nodup) (h6 : a.length + 20 * n ≤ 1020) (hn : n ≤ 10) (h0 : ∃ m, n = m + 1) (hz : MG.SqR n l) (hk : k as (.bl (MG.okR ps a l)) O) : cc (c_is_body K n) χ ρ [] L as [T, .str m, MG.dRB l, z] O k := by
  obtain ⟨m', rfl⟩ := h0
  exact ⟨(no_js (as := as)).1, (no_js (as := as)).2, T, z, tds, m, kind, tag, ps, a, l, rfl, rfl, rfl, h1, h2, h3, h4, h5, by omega, by omega, hz, ck0 hk⟩
theorem call_is_bodyB {K : PySem.W.Frag} {χ : Xk} {L as : List Addr} {ρ : DSt} {O : List D} {k : List Addr → D → List D → Prop} {n : Nat} {T z : D} {tds : List (Key × D)} {m kind : Str} {tag : Nat} {ps : List MR.Part} {a : List Str} {b : MF.Bd} (h1 : lstF K z (a.map D.str)) (h2 : MT.Self K T tds) (h3 : valD tds (.inr m) = some (MT.dEnt kind tag ps))
    (h4 : ps.length ≤ 4) (h5 : (ps.map (·.nm)).Nodup) (h6 : a.length + 20 * n ≤ 1020) (hn : n ≤ 10) (hz : MG.Sq n b) (hk : k as (.bl (MG.okB ps a b)) O) : cc (c_is_body K n) χ ρ [] L as [T, .str m, MF.dBd b, z] O k := by
  rw [MG.okB_eq] at hk
  rw [MG.dBd_rs]
  exact call_is_bodyR h1 h2 h3 h4 h5 h6 hn hz.pos hz.rs hk
theorem ok_is_body {P : Program} {w : World} {K : PySem.W.Frag} {mg : Str → Option Value} {base : Heap} (Z : Tx P w K mg) (n : Nat) : FnOk P w K mg base (L2.CX P w) (6 + n) (He.ga K "is_body") (fdAt K ("is_body", none)) ["kinds", "maker", "body", "before"] (spC (c_is_body K n)) := by
  induction n with
  | zero => exact FunD.ok (k := 5) (F_is_body Z) sc_is_body (sp_len (n := 4) (l_is_body 0)) (fun cdv A outer s H vs Q E hr h => by obtain ⟨_, _, _, _, _, _, _, _, _, _, c, _⟩ := h; exact c.elim)
  | succ n ih =>
  refine FunD.ok (k := 6 + n) (F_is_body Z) sc_is_body (sp_len (n := 4) (l_is_body (n + 1))) (fun cdv A outer s H vs Q E hr h => ⟨_, PSs.nox ((pss_cons (ps_set (i := 4) sc_is_body.nd rfl (Or.inl rfl) (pe_callTy call_list_of (by rfl) (Z.free 37 rfl) PyProof.Rows.boot_list (pa_cons (pv 3) pa_nil)))
  (pss_cons (ps_if (pt_cmpR op_gt (pe_callB (r := fun xs H Q => ∃ x n, xs = [x] ∧ LenV K x H n ∧ Q (.int n) H) call_len (by rfl) (Z.free 10 rfl) PySem.boot_len (pa_cons (pv 2) pa_nil)) (pe_gi (by rfl) (Z.int 65 rfl)) (nomark _))
  (pss_one (ps_ret pe_bl))
  pss_nil)
  (pss_cons (ps_for PassesOwn.never rfl (pi_enumT (by rfl) (Z.free 15 rfl) (pa_cons (pv 2) pa_nil)) (pg_tup rfl (pgs_cons (pg_name (i := 5) sc_is_body.nd rfl (Or.inl rfl)) (pgs_cons (pg_name (i := 6) sc_is_body.nd rfl (Or.inl rfl)) pgs_nil)))
  (pss_cons (ps_if (PW.pt (pw_or (pt_cmpR op_eq (pe_callB (r := fun xs H Q => ∃ x n, xs = [x] ∧ LenV K x H n ∧ Q (.int n) H) call_len (by rfl) (Z.free 10 rfl) PySem.boot_len (pa_cons (pv 6) pa_nil)) pe_int (nomark _)) (pw_or1 (pt_cmpR op_ne (pe_kget2 (kd_SIZES Z).choose_spec.choose_spec (by rfl) (Z.glo 66 rfl) (pe_ix (r := rIxT K) ix_tup (pv 6) pe_int (fun _ _ => rfl)) pe_int ⟨rfl, rfl, rfl, rfl⟩) (pe_callB (r := fun xs H Q => ∃ x n, xs = [x] ∧ LenV K x H n ∧ Q (.int n) H) call_len (by rfl) (Z.free 10 rfl) PySem.boot_len (pa_cons (pv 6) pa_nil)) (nomark _)))))
  (pss_one (ps_ret pe_bl))
  pss_nil)
  (pss_cons (ps_if (pt_cmpR op_eq (pe_ix (r := rIxT K) ix_tup (pv 6) pe_int (fun _ _ => rfl)) pe_str (nomark _))
  (pss_cons (ps_if (pt_not (pt_chain op_le op_le pe_int (pe_ix (r := rIxT K) ix_tup (pv 6) pe_int (fun _ _ => rfl)) (pe_gi (by rfl) (Z.int 67 rfl))))
  (pss_one (ps_ret pe_bl))
  pss_nil)
  (pss_one ps_continue))
  pss_nil)
  (pss_cons (ps_set (i := 7) sc_is_body.nd rfl (Or.inl rfl) (pe_ifExp (pt_cmpR op_eq (pe_ix (r := rIxT K) ix_tup (pv 6) pe_int (fun _ _ => rfl)) pe_str (nomark _)) (pe_ix (r := rIxT K) ix_tup (pv 6) pe_int (fun _ _ => rfl)) (pe_ix (r := rIxT K) ix_tup (pv 6) pe_int (fun _ _ => rfl))))
  (pss_cons (ps_if (PW.pt (pw_or (pt_cmpR (r := rIn K true) op_notIn_seq (pv 7) (pe_meth (pv 0) (Z.cls 4 rfl) (Z.meth 68 rfl) (ok_Kinds_parts Z) (hr.mono (by omega)) (b_Kinds_parts Z) .nil passN (pa_cons (pv 1) pa_nil)) (by rfl)) (pw_or1 (pt_cmpR (r := rIn K false) op_in_seq (pv 7) (pv 4) (by rfl)))))
  (pss_one (ps_ret pe_bl))
  pss_nil)
  (pss_cons (ps_if (pt_cmpR op_eq (pe_cmpR op_eq (pe_meth (pv 0) (Z.cls 4 rfl) (Z.meth 59 rfl) (ok_Kinds_inner Z) (hr.mono (by omega)) (b_Kinds_inner Z) .nil passN (pa_cons (pv 1) (pa_cons (pv 7) pa_nil))) (pe_gs (by rfl) (Z.str 19 rfl)) (nomark _)) (pe_cmpR op_eq (pe_ix (r := rIxT K) ix_tup (pv 6) pe_int (fun _ _ => rfl)) pe_str (nomark _)) (nomark _))
  (pss_one (ps_ret pe_bl))
  pss_nil)
  (pss_cons (ps_expr (pe_bm PySem.F.plainAttrs_list PySem.F.slot_list_append PySem.F.type_list_append mt_append (pv 4) (pa_cons (pv 7) pa_nil)))
  (pss_one (ps_if (pt_cmpR op_eq (pe_ix (r := rIxT K) ix_tup (pv 6) pe_int (fun _ _ => rfl)) pe_str (nomark _))
  (pss_cons (ps_if (PW.pt (pw_or (pt_cmpR op_lt (pe_op op_add (pv 5) pe_int) (pe_callB (r := fun xs H Q => ∃ x n, xs = [x] ∧ LenV K x H n ∧ Q (.int n) H) call_len (by rfl) (Z.free 10 rfl) PySem.boot_len (pa_cons (pv 2) pa_nil)) (nomark _)) (pw_or1 (pt_not (pt_chain op_le op_le pe_int (pe_ix (r := rIxT K) ix_tup (pv 6) pe_int (fun _ _ => rfl)) (pe_gi (by rfl) (Z.int 69 rfl)))))))
  (pss_one (ps_ret pe_bl))
  pss_nil)
  (pss_one (ps_if (PW.pt (pw_or (pt_not (pt_val (pe_call ih (hr.mono (by omega)) (by rfl) (Z.glo 63 rfl) (Z.kp 18 rfl) (b_is_body Z) .nil passN (pa_cons (pv 0) (pa_cons (pv 1) (pa_cons (pe_ix (r := rIxT K) ix_tup (pv 6) pe_int (fun _ _ => rfl)) (pa_cons (pv 4) pa_nil))))))) (pw_or1 (pt_not (pt_val (pe_call ih (hr.mono (by omega)) (by rfl) (Z.glo 63 rfl) (Z.kp 18 rfl) (b_is_body Z) .nil passN (pa_cons (pv 0) (pa_cons (pv 1) (pa_cons (pe_ix (r := rIxT K) ix_tup (pv 6) pe_int (fun _ _ => rfl)) (pa_cons (pv 4) pa_nil))))))))))
  (pss_one (ps_ret pe_bl))
  pss_nil)))
  pss_nil)))))))))
  (pss_one (ps_ret pe_bl)))))), enter h fun L as ds O k e c => ?_⟩)
  obtain ⟨T, z, tds, m, kind, tag, ps, a, l, rfl, rfl, rfl, hzl, hself, hent, h4, hnd, hal, hn, hz, hk⟩ := c
  have hsl := hz.len
  have hs2 := hself
  obtain ⟨t, f, n', o, s', rfl, hdk⟩ := hs2
  have hF12 : (decide (l.length ≤ 12)) = false → k [] (.bl false) [] := fun h => by
    have e : MG.okR ps a l = false := by unfold MG.okR; rw [h]; rfl
    rw [e] at hk
    exact hk
  have hT12 : l.length ≤ 12 → k [] (.bl (MG.okRs ps a l)) [] := fun h => by
    have e : MG.okR ps a l = MG.okRs ps a l := by unfold MG.okR; rw [decide_eq_true h]; rfl
    rw [e] at hk
    exact hk
  clear hk
  have hnb : ∀ i, ((l.take i).flatMap MG.askR).length ≤ 13 := fun i => by
    have h1 := MF.flat_len (f := MG.askR) (fun x => by rcases x with ((_ | _ | _) | _) | _ <;> simp [MG.askR, MF.askSt, MF.askS]) (l.take i)
    rw [List.length_take] at h1
    omega
  refine s_seq (s_set (w_cb (w_cons (w_var rfl (w_nil (rc_listL (ds := a.map D.str) (by rcases hzl with h | h | h; exact .inl (.inl h); exact .inr (.inl h); exact .inr (.inr h)) fun q => ?_))))))
  k_clsL
  refine rc_len (n := l.length) (by show _ = (l.map MG.dRS).length; rw [List.length_map]) ?_
  k_clsL
  refine i_bl (fun h => ?_) fun h => s_next ?_
  · have h : decide ((12 : Int) < (l.length : Int)) = true := h
    exact s_ret (w_let 0 (w_bl (hF12 (decide_eq_false (by have := of_decide_eq_true h; omega)))))
  have h12 : l.length ≤ 12 := by
    have h : decide ((12 : Int) < (l.length : Int)) = false := h
    have := of_decide_eq_false h
    omega
  have hk := hT12 h12
  refine s_seq (s_for (i_enumT (w_cons (w_var rfl (w_nil ⟨_, rfl, fun i as ρ O => ∃ x5 x6 x7, as = [q] ∧ ρ = [some (.ins (He.ga K "Kinds") (MT.tabF t f n' o s')), some (.str m), some (MG.dRB l), some z, some (.adr q), x5, x6, x7] ∧ O = [.lst ((a ++ (l.take i).flatMap MG.askR).map D.str)] ∧ MG.okRs ps a l = MG.okRs ps (a ++ (l.take i).flatMap MG.askR) (l.drop i), ⟨none, none, none, rfl, rfl, by simp, by simp⟩, ?_, ?_⟩)))))
  · rintro i as ρ O c hc ⟨x5, x6, x7, rfl, rfl, rfl, hinv⟩
    obtain ⟨c', hc', rfl⟩ := enum_at hc
    rw [List.getElem?_map] at hc'
    obtain ⟨st, hst, rfl⟩ := Option.map_eq_some_iff.mp hc'
    have et := MF.tk hst
    have hb := hnb i
    have hi : i < l.length := (List.getElem?_eq_some_iff.mp hst).1
    have ed : l.drop i = st :: l.drop (i + 1) := by
      rw [List.drop_eq_getElem_cons hi]
      exact congrArg (· :: _) (List.getElem?_eq_some_iff.mp hst).2
    generalize hA : a ++ (l.take i).flatMap MG.askR = A at hinv ⊢
    have hA13 : A.length ≤ a.length + 13 := by rw [← hA, List.length_append]; omega
    have hst2 := MG.okRs_step ps (A := A) hst
    have hF : MG.okRS ps (decide (i + 1 = l.length)) A st = false → k [] (.bl false) [] := fun h => by
      have e : MG.okRs ps a l = false := by rw [hinv, hst2, h]; rfl
      rw [e] at hk
      exact hk
    have hN : MG.okRS ps (decide (i + 1 = l.length)) A st = true → MG.okRs ps a l = MG.okRs ps (a ++ (l.take (i + 1)).flatMap MG.askR) (l.drop (i + 1)) := fun h => by
      rw [hinv, hst2, h, MG.take_ask a hst, hA]
      rfl
    have hO : (a ++ (l.take (i + 1)).flatMap MG.askR) = A ++ MG.askR st := by rw [MG.take_ask a hst, hA]
    have eO : ∀ z : Str, MG.askR st = [z] → [D.lst ((a ++ (l.take (i + 1)).flatMap MG.askR).map D.str)] = [D.lst (A.map D.str ++ [D.str z])] := fun z e => by rw [hO, e, List.map_append]; rfl
    refine g_tup rfl (gs_cons (g_name (gs_cons (g_name (gs_nil ?_)))))
    rcases st with ((q' | ⟨f', q'⟩ | v) | ⟨q', v, x, y⟩) | zs
    · -- read
      obtain ⟨tk, hk2⟩ := entB_int (ke_SIZES Z ("read", some 2) (by decide))
      k_clsL
      refine rc_len (n := 2) rfl ?_
      k_clsL
      refine i_F rfl ?_
      k_clsL
      refine w_kget ?_
      k_clsL
      refine .inl ⟨2, tk, hk2, ?_⟩
      k_clsL
      refine rc_len (n := 2) rfl ?_
      k_clsL
      refine i_F rfl (s_next ?_)
      k_clsL
      refine i_F MF.e_rs (s_next ?_)
      k_clsL
      refine i_F MF.e_rc ?_
      k_clsL
      refine d_meth [] (w_var rfl ⟨⟨_, .inl rfl, rfl⟩, w_cons (w_var rfl (w_nil (call_Kinds_parts hself hent h4 ?_)))⟩)
      refine rv_inT (zs := ps.map (·.nm)) (neg := true) ?_
      refine ⟨_, rfl, i_bl (fun h => s_ret (w_let 0 (w_bl (hF ?_)))) fun h => ?_⟩
      · have h : (!decide (q' ∈ ps.map (·.nm))) = true := h
        rw [Bool.not_eq_true', decide_eq_false_iff_not] at h
        show MG.okP ps A q' false = false
        rw [MG.okP_no h]
        
      have h : (!decide (q' ∈ ps.map (·.nm))) = false := h
      rw [Bool.not_eq_false', decide_eq_true_eq] at h
      obtain ⟨pt, mpt, rfl⟩ := List.mem_map.mp h
      have hP : MG.okP ps A pt.nm false = (!decide (pt.nm ∈ A) && ((pt.inn == MR.byteS) != false)) := MG.okP_yes hnd mpt _
      k_clsL
      refine rv_inL (zs := A) (neg := false) (.inl (lo_o 0 rfl rfl)) ?_
      refine ⟨_, rfl, i_bl (fun h => s_ret (w_let 0 (w_bl (hF ?_)))) fun h => s_next ?_⟩
      · have h : decide (pt.nm ∈ A) = true := h
        rw [h] at hP
        show MG.okP ps A pt.nm false = false
        rw [hP]
        rfl
      have h : decide (pt.nm ∈ A) = false := h
      rw [h] at hP
      k_clsL
      refine d_meth [] (w_var rfl ⟨⟨_, .inl rfl, rfl⟩, w_cons (w_var rfl (w_cons (w_var rfl (w_nil (call_Kinds_inner hself (.inl ⟨kind, tag, ps, pt, hent, mpt, rfl, hnd, ?_⟩))))))⟩)
      k_clsL
      refine i_bl (fun h => s_ret (w_let 0 (w_bl (hF ?_)))) fun h => s_next ?_
      · have h : ((pt.inn == MR.byteS) == eqD (.str MF.readS) (.str "call")) = true := h
        rw [MF.e_rc] at h
        show MG.okP ps A pt.nm false = false
        rw [hP]
        cases hb : (pt.inn == MR.byteS) <;> rw [hb] at h <;> first | rfl | exact nomatch h
      have hP2 : MG.okP ps A pt.nm false = true := by
        have h : ((pt.inn == MR.byteS) == eqD (.str MF.readS) (.str "call")) = false := h
        rw [MF.e_rc] at h
        rw [hP]
        cases hb : (pt.inn == MR.byteS) <;> rw [hb] at h <;> first | rfl | exact nomatch h
      refine s_seq (s_drop (w_append 0 rfl rfl rfl (w_var rfl ⟨_, rfl, rfl, smallt (by rw [List.length_map]; omega), ?_⟩)))
      k_clsL
      refine i_F MF.e_ri ?_
      exact s_next ⟨_, _, _, rfl, rfl, (eO _ rfl).symm, hN hP2⟩
    · -- call
      obtain ⟨tk, hk2⟩ := entB_int (ke_SIZES Z ("call", some 3) (by decide))
      k_clsL
      refine rc_len (n := 3) rfl ?_
      k_clsL
      refine i_F rfl ?_
      k_clsL
      refine w_kget ?_
      k_clsL
      refine .inl ⟨3, tk, hk2, ?_⟩
      k_clsL
      refine rc_len (n := 3) rfl ?_
      k_clsL
      refine i_F rfl (s_next ?_)
      k_clsL
      refine i_F MF.e_cs (s_next ?_)
      k_clsL
      refine i_T MF.e_cc ?_
      k_clsL
      refine d_meth [] (w_var rfl ⟨⟨_, .inl rfl, rfl⟩, w_cons (w_var rfl (w_nil (call_Kinds_parts hself hent h4 ?_)))⟩)
      refine rv_inT (zs := ps.map (·.nm)) (neg := true) ?_
      refine ⟨_, rfl, i_bl (fun h => s_ret (w_let 0 (w_bl (hF ?_)))) fun h => ?_⟩
      · have h : (!decide (q' ∈ ps.map (·.nm))) = true := h
        rw [Bool.not_eq_true', decide_eq_false_iff_not] at h
        show MG.okP ps A q' true = false
        rw [MG.okP_no h]
        
      have h : (!decide (q' ∈ ps.map (·.nm))) = false := h
      rw [Bool.not_eq_false', decide_eq_true_eq] at h
      obtain ⟨pt, mpt, rfl⟩ := List.mem_map.mp h
      have hP : MG.okP ps A pt.nm true = (!decide (pt.nm ∈ A) && ((pt.inn == MR.byteS) != true)) := MG.okP_yes hnd mpt _
      k_clsL
      refine rv_inL (zs := A) (neg := false) (.inl (lo_o 0 rfl rfl)) ?_
      refine ⟨_, rfl, i_bl (fun h => s_ret (w_let 0 (w_bl (hF ?_)))) fun h => s_next ?_⟩
      · have h : decide (pt.nm ∈ A) = true := h
        rw [h] at hP
        show MG.okP ps A pt.nm true = false
        rw [hP]
        rfl
      have h : decide (pt.nm ∈ A) = false := h
      rw [h] at hP
      k_clsL
      refine d_meth [] (w_var rfl ⟨⟨_, .inl rfl, rfl⟩, w_cons (w_var rfl (w_cons (w_var rfl (w_nil (call_Kinds_inner hself (.inl ⟨kind, tag, ps, pt, hent, mpt, rfl, hnd, ?_⟩))))))⟩)
      k_clsL
      refine i_bl (fun h => s_ret (w_let 0 (w_bl (hF ?_)))) fun h => s_next ?_
      · have h : ((pt.inn == MR.byteS) == eqD (.str MF.callS) (.str "call")) = true := h
        rw [MF.e_cc] at h
        show MG.okP ps A pt.nm true = false
        rw [hP]
        cases hb : (pt.inn == MR.byteS) <;> rw [hb] at h <;> first | rfl | exact nomatch h
      have hP2 : MG.okP ps A pt.nm true = true := by
        have h : ((pt.inn == MR.byteS) == eqD (.str MF.callS) (.str "call")) = false := h
        rw [MF.e_cc] at h
        rw [hP]
        cases hb : (pt.inn == MR.byteS) <;> rw [hb] at h <;> first | rfl | exact nomatch h
      refine s_seq (s_drop (w_append 0 rfl rfl rfl (w_var rfl ⟨_, rfl, rfl, smallt (by rw [List.length_map]; omega), ?_⟩)))
      k_clsL
      refine i_F MF.e_ci ?_
      exact s_next ⟨_, _, _, rfl, rfl, (eO _ rfl).symm, hN hP2⟩
    · -- say
      obtain ⟨tk, hk2⟩ := entB_int (ke_SIZES Z ("say", some 2) (by decide))
      k_clsL
      refine rc_len (n := 2) rfl ?_
      k_clsL
      refine i_F rfl ?_
      k_clsL
      refine w_kget ?_
      k_clsL
      refine .inl ⟨2, tk, hk2, ?_⟩
      k_clsL
      refine rc_len (n := 2) rfl ?_
      k_clsL
      refine i_F rfl (s_next ?_)
      k_clsL
      refine i_T MF.e_ss ?_
      k_clsL
      refine i_bl (fun h1 => ?_) fun h1 => ?_
      · have h1 : decide ((0 : Int) ≤ v) = true := h1
        k_clsL
        refine i_bl (fun h2 => ?_) fun h2 => ?_
        · have h2 : (!decide (v ≤ 1000)) = true := h2
          refine s_ret (w_let 0 (w_bl (hF ?_)))
          show (decide (0 ≤ v) && decide (v ≤ 1000)) = false
          rw [Bool.not_eq_true'] at h2
          rw [h2, Bool.and_false]
        · have h2 : (!decide (v ≤ 1000)) = false := h2
          rw [Bool.not_eq_false'] at h2
          refine s_next (s_cont ⟨_, _, _, rfl, rfl, ?_, hN ?_⟩)
          · rw [hO, show MG.askR (.ok (.sm (.say v))) = [] from rfl, List.append_nil]
          · show (decide (0 ≤ v) && decide (v ≤ 1000)) = true
            rw [h1, h2]
            rfl
      · have h1 : decide ((0 : Int) ≤ v) = false := h1
        k_clsL
        refine i_T rfl (s_ret (w_let 0 (w_bl (hF ?_))))
        show (decide (0 ≤ v) && decide (v ≤ 1000)) = false
        rw [h1]
        rfl
    · -- if
      obtain ⟨tk, hk2⟩ := entB_int (ke_SIZES Z ("if", some 5) (by decide))
      k_clsL
      refine rc_len (n := 5) rfl ?_
      k_clsL
      refine i_F rfl ?_
      k_clsL
      refine w_kget ?_
      k_clsL
      refine .inl ⟨5, tk, hk2, ?_⟩
      k_clsL
      refine rc_len (n := 5) rfl ?_
      k_clsL
      refine i_F rfl (s_next ?_)
      k_clsL
      refine i_F MF.e_is (s_next ?_)
      k_clsL
      refine i_F MF.e_ic ?_
      k_clsL
      refine d_meth [] (w_var rfl ⟨⟨_, .inl rfl, rfl⟩, w_cons (w_var rfl (w_nil (call_Kinds_parts hself hent h4 ?_)))⟩)
      refine rv_inT (zs := ps.map (·.nm)) (neg := true) ?_
      refine ⟨_, rfl, i_bl (fun h => s_ret (w_let 0 (w_bl (hF ?_)))) fun h => ?_⟩
      · have h : (!decide (q' ∈ ps.map (·.nm))) = true := h
        rw [Bool.not_eq_true', decide_eq_false_iff_not] at h
        show (MG.okP ps A q' false && _) = false
        rw [MG.okP_no h]
        rfl
      have h : (!decide (q' ∈ ps.map (·.nm))) = false := h
      rw [Bool.not_eq_false', decide_eq_true_eq] at h
      obtain ⟨pt, mpt, rfl⟩ := List.mem_map.mp h
      have hP : MG.okP ps A pt.nm false = (!decide (pt.nm ∈ A) && ((pt.inn == MR.byteS) != false)) := MG.okP_yes hnd mpt _
      k_clsL
      refine rv_inL (zs := A) (neg := false) (.inl (lo_o 0 rfl rfl)) ?_
      refine ⟨_, rfl, i_bl (fun h => s_ret (w_let 0 (w_bl (hF ?_)))) fun h => s_next ?_⟩
      · have h : decide (pt.nm ∈ A) = true := h
        rw [h] at hP
        show (MG.okP ps A pt.nm false && _) = false
        rw [hP]
        rfl
      have h : decide (pt.nm ∈ A) = false := h
      rw [h] at hP
      k_clsL
      refine d_meth [] (w_var rfl ⟨⟨_, .inl rfl, rfl⟩, w_cons (w_var rfl (w_cons (w_var rfl (w_nil (call_Kinds_inner hself (.inl ⟨kind, tag, ps, pt, hent, mpt, rfl, hnd, ?_⟩))))))⟩)
      k_clsL
      refine i_bl (fun h => s_ret (w_let 0 (w_bl (hF ?_)))) fun h => s_next ?_
      · have h : ((pt.inn == MR.byteS) == eqD (.str MF.ifS) (.str "call")) = true := h
        rw [MF.e_ic] at h
        show (MG.okP ps A pt.nm false && _) = false
        rw [hP]
        cases hb : (pt.inn == MR.byteS) <;> rw [hb] at h <;> first | rfl | exact nomatch h
      have hP2 : MG.okP ps A pt.nm false = true := by
        have h : ((pt.inn == MR.byteS) == eqD (.str MF.ifS) (.str "call")) = false := h
        rw [MF.e_ic] at h
        rw [hP]
        cases hb : (pt.inn == MR.byteS) <;> rw [hb] at h <;> first | rfl | exact nomatch h
      refine s_seq (s_drop (w_append 0 rfl rfl rfl (w_var rfl ⟨_, rfl, rfl, smallt (by rw [List.length_map]; omega), ?_⟩)))
      k_clsL
      refine i_T MF.e_ii ?_
      k_clsL
      refine rc_len (n := l.length) (by show _ = (l.map MG.dRS).length; rw [List.length_map]) ?_
      k_clsL
      have hlast : decide ((i : Int) + 1 < (l.length : Int)) = !decide (i + 1 = l.length) := by
        by_cases h : i + 1 = l.length
        · rw [decide_eq_true h, decide_eq_false (by omega)]
          rfl
        · rw [decide_eq_false h, decide_eq_true (by omega)]
          rfl
      refine i_bl (fun h => s_ret (w_let 0 (w_bl (hF ?_)))) fun h => ?_
      · have h : decide ((i : Int) + 1 < (l.length : Int)) = true := h
        rw [hlast, Bool.not_eq_true'] at h
        show (MG.okP ps A pt.nm false && (decide (i + 1 = l.length) && _)) = false
        rw [hP2, h]
        rfl
      have h : decide ((i : Int) + 1 < (l.length : Int)) = false := h
      rw [hlast, Bool.not_eq_false'] at h
      k_clsL
      refine i_bl (fun h1 => ?_) fun h1 => ?_
      rotate_left
      · have h1 : decide ((1 : Int) ≤ v) = false := h1
        k_clsL
        refine i_T rfl (s_ret (w_let 0 (w_bl (hF ?_))))
        show (MG.okP ps A pt.nm false && (decide (i + 1 = l.length) && ((decide (1 ≤ v) && decide (v ≤ 255)) && _))) = false
        rw [hP2, h, h1]
        rfl
      have h1 : decide ((1 : Int) ≤ v) = true := h1
      k_clsL
      refine i_bl (fun h2 => s_ret (w_let 0 (w_bl (hF ?_)))) fun h2 => s_next ?_
      · have h2 : (!decide (v ≤ 255)) = true := h2
        rw [Bool.not_eq_true'] at h2
        show (MG.okP ps A pt.nm false && (decide (i + 1 = l.length) && ((decide (1 ≤ v) && decide (v ≤ 255)) && _))) = false
        rw [hP2, h, h1, h2]
        rfl
      have h2 : (!decide (v ≤ 255)) = false := h2
      rw [Bool.not_eq_false'] at h2
      obtain ⟨m', em, zx, zy⟩ := hz.sub _ _ _ _ (List.mem_of_getElem? hst)
      cases em
      have hcz : ∀ c ∈ ([] : List D), Cz c := fun c m => by cases m
      have hR : MG.okRS ps (decide (i + 1 = l.length)) A (.ok (.br pt.nm v x y)) = (MG.okB ps (A ++ [pt.nm]) x && MG.okB ps (A ++ [pt.nm]) y) := by
        show (MG.okP ps A pt.nm false && (decide (i + 1 = l.length) && ((decide (1 ≤ v) && decide (v ≤ 255)) && _))) = _
        rw [hP2, h, h1, h2]
        rfl
      have el : A.map D.str ++ [D.str pt.nm] = (A ++ [pt.nm]).map D.str := by simp
      rw [show List.set [D.lst (A.map D.str)] 0 (D.lst (A.map D.str ++ [D.str pt.nm])) = [D.lst ((A ++ [pt.nm]).map D.str)] from by rw [el]; rfl]
      have hal2 : (A ++ [pt.nm]).length + 20 * n ≤ 1020 := by
        rw [List.length_append]
        show _ + 1 + _ ≤ _
        omega
      refine s_if (w_or (w_not (w_test (w_lend 0 4 q _ rfl rfl rfl (d_call [] ?_)))))
      k_clsL
      refine call_is_bodyB (b := x) (.inr (.inl rfl)) hself hent h4 hnd hal2 (by omega) zx ⟨.bl _, hcz, _, rfl, ?_⟩
      refine i_bl (fun h3 => s_ret (w_let 0 (w_bl (hF ?_)))) fun h3 => ?_
      · have h3 : (!MG.okB ps (A ++ [pt.nm]) x) = true := h3
        rw [Bool.not_eq_true'] at h3
        rw [hR, h3]
        rfl
      have h3 : (!MG.okB ps (A ++ [pt.nm]) x) = false := h3
      rw [Bool.not_eq_false'] at h3
      refine w_not (w_test (w_lend 0 4 q _ rfl rfl rfl (d_call [] ?_)))
      k_clsL
      refine call_is_bodyB (b := y) (.inr (.inl rfl)) hself hent h4 hnd hal2 (by omega) zy ⟨.bl _, hcz, _, rfl, ?_⟩
      refine i_bl (fun h4 => s_ret (w_let 0 (w_bl (hF ?_)))) fun h4 => s_next ⟨_, _, _, rfl, rfl, ?_, hN ?_⟩
      · have h4 : (!MG.okB ps (A ++ [pt.nm]) y) = true := h4
        rw [Bool.not_eq_true'] at h4
        rw [hR, h4, Bool.and_false]
      · rw [hO]
        rfl
      · have h4 : (!MG.okB ps (A ++ [pt.nm]) y) = false := h4
        rw [Bool.not_eq_false'] at h4
        rw [hR, h3, h4]
        rfl
    · -- odd
      have hzs := hz.odd zs (List.mem_of_getElem? hst)
      simp only [MG.oddZ, List.mem_cons, List.not_mem_nil, or_false] at hzs
      rcases hzs with rfl | rfl | rfl
      · -- walk
        k_clsL
        refine i_F rfl ?_
        k_clsL
        refine w_kget ?_
        k_clsL
        have hk2 := entB_none (ke_SIZES Z ("walk", none) (by decide))
        refine .inr ⟨hk2, ?_⟩
        k_clsL
        exact i_T rfl (s_ret (w_let 0 (w_bl (hF rfl))))
      · -- read
        k_clsL
        refine i_F rfl ?_
        k_clsL
        refine w_kget ?_
        k_clsL
        obtain ⟨tk, hk2⟩ := entB_int (ke_SIZES Z ("read", some 2) (by decide))
        refine .inl ⟨2, tk, hk2, ?_⟩
        k_clsL
        exact i_T rfl (s_ret (w_let 0 (w_bl (hF rfl))))
      · -- call
        k_clsL
        refine i_F rfl ?_
        k_clsL
        refine w_kget ?_
        k_clsL
        obtain ⟨tk, hk2⟩ := entB_int (ke_SIZES Z ("call", some 3) (by decide))
        refine .inl ⟨3, tk, hk2, ?_⟩
        k_clsL
        exact i_T rfl (s_ret (w_let 0 (w_bl (hF rfl))))
  · rintro as ρ O ⟨x5, x6, x7, rfl, rfl, rfl, hinv⟩
    rw [enum_len, List.length_map, List.take_length, List.drop_length] at hinv
    rw [hinv] at hk
    exact s_ret (w_let 0 (w_bl hk))
def c_Functions_is_new (K : PySem.W.Frag) : Ct := fun L as ds O k e => ∃ (s t tk : Addr) (fl : List (Str × D)) (ftds tds fds sds : List (Key × D)) (rows : List MR.Row) (f : MG.RFn) (names : List Str), L = [] ∧ as = [s, t] ∧ ds = [.adr s, MG.dRFn f] ∧ O = [.ins (He.ga K "Functions") fl, .dk ftds] ∧
  fl.lookup ("kinds" : Str) = some (MI.tabD K rows tk tds fds sds) ∧ fl.lookup ("table" : Str) = some (.adr t) ∧ MI.Tabl K rows tk tds fds sds ∧ MF.RowsOk rows ∧ (∀ z, (valD ftds (.inr z)).isSome = decide (z ∈ names)) ∧ MG.SmallF f ∧ k [s, t] (.bl (MG.newF rows names (MG.core f))) [.ins (He.ga K "Functions") fl, .dk ftds]
theorem l_Functions_is_new {K : PySem.W.Frag} : ∀ L as ds O k e, c_Functions_is_new K L as ds O k e → ds.length = 2 := fun L as ds O k e h => by
  obtain ⟨s, t, tk, fl, ftds, tds, fds, sds, rows, f, names, _, _, rfl, _⟩ := h
  rfl
def bodyB (rows : List MR.Row) (bs : List (Str × List MG.RS)) (m : Str) : Bool := match bs.lookup m with
  | none => false
  | some l => MG.okR (MG.partsOf rows m) [] l
theorem ok_Functions_is_new {P : Program} {w : World} {K : PySem.W.Frag} {mg : Str → Option Value} {base : Heap} (Z : Tx P w K mg) : FnOk P w K mg base (L2.CX P w) 11 (He.ma K (He.ga K "Functions") "is_new") (fdAt K ("Functions", some "is_new")) ["self", "row"] (spC (c_Functions_is_new K)) := by
  refine FunD.ok (k := 10) (F_Functions_is_new Z) sc_Functions_is_new (sp_len (n := 2) l_Functions_is_new) (fun cdv A outer s H vs Q E hr h => ⟨_, PSs.nox ((pss_cons (ps_asg (pv 1) (pg_tup rfl (pgs_cons (pg_name (i := 4) sc_Functions_is_new.nd rfl (Or.inl rfl)) (pgs_cons (pg_name (i := 5) sc_Functions_is_new.nd rfl (Or.inl rfl)) (pgs_cons (pg_name (i := 6) sc_Functions_is_new.nd rfl (Or.inl rfl)) (pgs_cons (pg_name (i := 7) sc_Functions_is_new.nd rfl (Or.inl rfl)) pgs_nil))))))
  (pss_cons (ps_if (PW.pt (pw_or (pt_not (pt_val (pe_call (ok_is_name Z) (hr.mono (by decide)) (by rfl) (Z.glo 24 rfl) (Z.kp 10 rfl) (b_is_name Z) .nil passN (pa_cons (pv 4) pa_nil)))) (pw_or (pt_cmp (pc_din (hu_of hr) (pv 4) (show PE _ _ (tFld K _ _) from pe_fld (pv 0) rfl))) (pw_or (pt_cmpR (r := rIn K true) op_notIn_seq (pv 5) (show PE _ _ (tFld K _ _) from pe_fld (show PE _ _ (tFld K _ _) from pe_fld (pv 0) rfl) rfl) (by rfl)) (pw_or1 (pt_cmpR (r := rIn K true) op_notIn_seq (pv 6) (pe_glob (v := .ref (He.ga K "FOLDS")) (by rfl) (Z.glo 61 rfl) rfl) (by rfl)))))))
  (pss_one (ps_ret pe_bl))
  pss_nil)
  (pss_cons (ps_set (i := 2) sc_Functions_is_new.nd rfl (Or.inl rfl) (pe_meth (show PE _ _ (tFld K _ _) from pe_fld (pv 0) rfl) (Z.cls 4 rfl) (Z.meth 62 rfl) (ok_Kinds_makers Z) (hr.mono (by decide)) (b_Kinds_makers Z) .nil passN (pa_cons (pv 5) pa_nil)))
  (pss_cons (ps_if (pt_cmpR op_ne (pe_callB call_lenD (by rfl) (Z.free 10 rfl) PySem.boot_len (pa_cons (pv 7) pa_nil)) (pe_callB (r := fun xs H Q => ∃ x n, xs = [x] ∧ LenV K x H n ∧ Q (.int n) H) call_len (by rfl) (Z.free 10 rfl) PySem.boot_len (pa_cons (pv 2) pa_nil)) (nomark _))
  (pss_one (ps_ret pe_bl))
  pss_nil)
  (pss_cons (ps_for PassesOwn.never rfl (pi_tup (pv 2)) (pg_name (i := 3) sc_Functions_is_new.nd rfl (Or.inl rfl))
  (pss_one (ps_if (PW.pt (pw_or (pt_cmp (pc_dnotin (hu_of hr) (pv 3) (pv 7))) (pw_or1 (pt_not (pt_val (pe_call (ok_is_body Z 4) (hr.mono (by decide)) (by rfl) (Z.glo 63 rfl) (Z.kp 18 rfl) (b_is_body Z) .nil passN (pa_cons (show PE _ _ (tFld K _ _) from pe_fld (pv 0) rfl) (pa_cons (pv 3) (pa_cons (pe_dget (hu_of hr) (pv 7) (pv 3) (fun _ _ => rfl)) (pa_cons (pe_lst pa_nil) pa_nil))))))))))
  (pss_one (ps_ret pe_bl))
  pss_nil)))
  (pss_one (ps_ret pe_bl)))))))), enter h fun L as ds O k e c => ?_⟩)
  obtain ⟨s, t, tk, fl, ftds, tds, fds, sds, rows, f, names, rfl, rfl, rfl, rfl, hfk, hft, hTab, hR, hnm, hS, hk⟩ := c
  have hself : MT.Self K (MI.tabD K rows tk tds fds sds) tds := MI.tabD_self
  have hv : MG.newF rows names (MG.core f) = (MN.isName f.name && (!decide (f.name ∈ names) && (decide (f.kind ∈ MI.kindsOf rows) && ((f.fold == "sum" || f.fold == "max") && (decide (f.bodies.length = (MI.makersOf f.kind rows).length) && (MI.makersOf f.kind rows).all (bodyB rows f.bodies)))))) := rfl
  rw [hv] at hk
  clear hv
  have hlen := hS.name
  refine s_seq (s_asg (w_var rfl (g_tup rfl (gs_cons (g_name (gs_cons (g_name (gs_cons (g_name (gs_cons (g_name (gs_nil ?_))))))))))))
  refine s_seq (s_if (w_or (w_not (w_test (d_call [] (w_cons (w_var rfl (w_nil (call_is_name (by omega) ?_)))))))))
  refine ⟨_, rfl, i_bl (fun h => s_ret (w_bl ?_)) fun h => ?_⟩
  · have h : (!MN.isName f.name) = true := h
    rw [Bool.not_eq_true'] at h
    rw [h] at hk
    exact hk
  have h : (!MN.isName f.name) = false := h
  rw [Bool.not_eq_false'] at h
  rw [h, Bool.true_and] at hk
  refine w_or (w_test (w_din (w_var rfl (w_fld (w_var rfl ⟨_, fl, .adr t, .inr ⟨0, s, rfl, rfl, rfl⟩, (na_Functions_table Z).1, (na_Functions_table Z).2, hft, .inr f.name, ftds, rfl, .inr ⟨1, t, rfl, rfl, rfl⟩, ?_⟩)))))
  refine ⟨_, rfl, i_bl (fun h => s_ret (w_bl ?_)) fun h => ?_⟩
  · have h : (valD ftds (.inr f.name)).isSome = true := h
    rw [hnm] at h
    rw [h] at hk
    exact hk
  have h : (valD ftds (.inr f.name)).isSome = false := h
  rw [hnm] at h
  rw [h, Bool.not_false, Bool.true_and] at hk
  refine w_or (w_test (w_op (w_var rfl (w_fld (w_fld (w_var rfl ⟨_, fl, _, .inr ⟨0, s, rfl, rfl, rfl⟩, (na_Functions_kinds Z).1, (na_Functions_kinds Z).2, hfk, _, _, _, .inl rfl, (na_Kinds_names Z).1, (na_Kinds_names Z).2, MT.tab_names, ?_⟩))))))
  refine rv_inT (zs := MI.kindsOf rows) (neg := true) ?_
  refine ⟨_, rfl, i_bl (fun h => s_ret (w_bl ?_)) fun h => ?_⟩
  · have h : (!decide (f.kind ∈ MI.kindsOf rows)) = true := h
    rw [Bool.not_eq_true'] at h
    rw [h] at hk
    exact hk
  have h : (!decide (f.kind ∈ MI.kindsOf rows)) = false := h
  rw [Bool.not_eq_false'] at h
  rw [h, Bool.true_and] at hk
  have n2 := of_decide_eq_true h
  refine w_test (w_op (w_var rfl (w_ktup (tp_FOLDS Z) (rv_inZ ?_))))
  have ef : decide (f.fold ∈ (["sum", "max"] : List Str)) = (f.fold == "sum" || f.fold == "max") := by
    rw [Bool.eq_iff_iff, decide_eq_true_eq, Bool.or_eq_true, beq_iff_eq, beq_iff_eq, List.mem_cons, List.mem_singleton]
  refine ⟨_, rfl, i_bl (fun h => s_ret (w_bl ?_)) fun h => s_next ?_⟩
  · have h : (!decide (f.fold ∈ (["sum", "max"] : List Str))) = true := h
    rw [Bool.not_eq_true', ef] at h
    rw [h] at hk
    exact hk
  have h : (!decide (f.fold ∈ (["sum", "max"] : List Str))) = false := h
  rw [Bool.not_eq_false', ef] at h
  rw [h, Bool.true_and] at hk
  refine s_seq (s_set (d_meth [] (w_fld (w_var rfl ⟨_, fl, _, .inr ⟨0, s, rfl, rfl, rfl⟩, (na_Functions_kinds Z).1, (na_Functions_kinds Z).2, hfk, ⟨_, .inl rfl, rfl⟩, w_cons (w_var rfl (w_nil (call_Kinds_makers (.inl (.inl rfl)) (hTab.fam _ n2) ?_)))⟩))))
  have hml : (MI.makersOf f.kind rows).length ≤ 10 := Nat.le_trans (MI.makers_len _ _) hR.len
  refine s_seq (s_if (w_test (w_op (w_cb (w_cons (w_var rfl (w_nil (rc_lenD (.inl (.inr ⟨f.ad, rfl⟩)) (w_cb (w_cons (w_var rfl (w_nil (rc_lenU ?_)))))))))))))
  refine rv_ne rfl ⟨_, rfl, i_bl (fun h => s_ret (w_bl ?_)) fun h => s_next ?_⟩
  · have h : (!(((MG.bdsD f.bodies).length : Int) == ((MI.makersOf f.kind rows).length : Int))) = true := h
    rw [Bool.not_eq_true', beq_eq_false_iff_ne, MG.bdsD_len] at h
    rw [decide_eq_false (by omega)] at hk
    exact hk
  have h : (!(((MG.bdsD f.bodies).length : Int) == ((MI.makersOf f.kind rows).length : Int))) = false := h
  rw [Bool.not_eq_false', beq_iff_eq, MG.bdsD_len] at h
  rw [decide_eq_true (by omega), Bool.true_and] at hk
  refine s_seq (s_for (i_tup (w_var rfl ⟨_, rfl, fun i as ρ O => ∃ x3, as = [s, t] ∧ ρ = [some (.adr s), some (MG.dRFn f), some (.tup ((MI.makersOf f.kind rows).map D.str)), x3, some (.str f.name), some (.str f.kind), some (.str f.fold), some (.ldk f.ad (MG.bdsD f.bodies))] ∧ O = [.ins (He.ga K "Functions") fl, .dk ftds] ∧ ((MI.makersOf f.kind rows).take i).all (bodyB rows f.bodies) = true, ⟨none, rfl, rfl, rfl, rfl⟩, ?_, ?_⟩)))
  · rintro i as ρ O c hc ⟨x3, rfl, rfl, rfl, hall⟩
    rw [List.getElem?_map] at hc
    obtain ⟨m, hm, rfl⟩ := Option.map_eq_some_iff.mp hc
    have mm := List.mem_of_getElem? hm
    obtain ⟨r, mr, er, rfl⟩ := MF.mem_makers.mp mm
    obtain ⟨tag, hent⟩ := MF.ent_of hTab mr
    have hno : bodyB rows f.bodies r.maker = false → k [s, t] (.bl false) [.ins (He.ga K "Functions") fl, .dk ftds] := fun h => by
      have e : (MI.makersOf f.kind rows).all (bodyB rows f.bodies) = false := by
        rw [Bool.eq_false_iff]
        intro z
        rw [List.all_eq_true] at z
        rw [z _ mm] at h
        cases h
      rw [e] at hk
      exact hk
    have hv : valD (MG.bdsD f.bodies) (.inr r.maker) = (f.bodies.lookup r.maker).map MG.dRB := MG.val_bds _ _
    refine g_name (s_if (w_or (w_test (w_dnin (w_var rfl (w_var rfl ⟨.inr r.maker, MG.bdsD f.bodies, rfl, .inl (.inr ⟨f.ad, rfl⟩), ?_⟩))))))
    cases hl : f.bodies.lookup r.maker with
    | none =>
      rw [hv, hl]
      refine ⟨_, rfl, i_T rfl (s_ret (w_bl (hno ?_)))⟩
      unfold bodyB
      rw [hl]
    | some l =>
      rw [hv, hl]
      have hsq := hS.body (r.maker, l) (MG.lookup_mem hl)
      have hb : bodyB rows f.bodies r.maker = MG.okR r.parts [] l := by
        unfold bodyB
        rw [hl, MG.partsOf_at hR.nd mr]
      refine ⟨_, rfl, i_F rfl ?_⟩
      refine w_not (w_test (d_call [] (w_cons (w_fld (w_var rfl ⟨_, fl, _, .inr ⟨0, s, rfl, rfl, rfl⟩, (na_Functions_kinds Z).1, (na_Functions_kinds Z).2, hfk, ?_⟩)))))
      refine w_cons (w_var rfl (w_cons (w_dget (w_var rfl (w_var rfl ⟨rfl, rfl, .inr r.maker, _, _, rfl, .inl (.inr ⟨f.ad, rfl⟩), hv.trans (congrArg _ hl), ?_⟩)))))
      refine w_cons (w_lstF (w_nil ⟨Nat.zero_le _, w_nil (call_is_bodyR (a := []) (.inl rfl) hself hent (hR.parts r mr) (hR.names r mr) (by decide) (by decide) ⟨_, rfl⟩ hsq ?_)⟩))
      refine ⟨_, rfl, i_bl (fun h => s_ret (w_bl (hno ?_))) fun h => s_next ⟨_, rfl, rfl, rfl, ?_⟩⟩
      · have h : (!MG.okR r.parts [] l) = true := h
        rw [hb]
        simpa using h
      · have h : (!MG.okR r.parts [] l) = false := h
        rw [MF.tk hm, List.all_append, hall, List.all_cons, List.all_nil, hb]
        simpa using h
  · rintro as ρ O ⟨x3, rfl, rfl, rfl, hall⟩
    rw [List.length_map, List.take_length] at hall
    rw [hall] at hk
    exact s_ret (w_bl hk)
def c_calls_of (K : PySem.W.Frag) : Nat → Ct
  | 0 => fun _ _ _ _ _ _ => False
  | n + 1 => fun L as ds O k e => ∃ (b : MF.Bd), as = [] ∧ ds = [MF.dBd b] ∧ O = [] ∧ n ≤ 9 ∧ MF.Sz (n + 1) b ∧ ∀ p, k [p] (.adr p) [.lst ((MF.calls b).map MF.dPr)]
theorem l_calls_of {K : PySem.W.Frag} : ∀ n L as ds O k e, c_calls_of K n L as ds O k e → ds.length = 1
  | 0, _, _, _, _, _, _, h => h.elim
  | n + 1, _, _, _, _, _, _, h => by
    obtain ⟨b, _, rfl, _⟩ := h
    rfl
theorem call_calls {K : PySem.W.Frag} {χ : Xk} {L as : List Addr} {ρ : DSt} {O : List D} {k : List Addr → D → List D → Prop} {n : Nat} {b : MF.Bd} (hn : n ≤ 10) (hz : MF.Sz n b) (z : ∀ p, k (as ++ [p]) (.adr p) (O ++ [.lst ((MF.calls b).map MF.dPr)])) : cc (c_calls_of K n) χ ρ [] L as [MF.dBd b] O k := by
  obtain ⟨m, rfl⟩ := hz.pos
  exact ⟨(no_js (as := as)).1, (no_js (as := as)).2, b, rfl, rfl, rfl, by omega, hz, fun p => ckN (z p)⟩
theorem ok_calls_of {P : Program} {w : World} {K : PySem.W.Frag} {mg : Str → Option Value} {base : Heap} (Z : Tx P w K mg) (n : Nat) : FnOk P w K mg base (L2.CX P w) (1 + n) (He.ga K "calls_of") (fdAt K ("calls_of", none)) ["body"] (spC (c_calls_of K n)) := by
  induction n with
  | zero => exact FunD.ok (k := 0) (F_calls_of Z) sc_calls_of (sp_len (n := 1) (l_calls_of 0)) (fun cdv A outer s H vs Q E hr h => by obtain ⟨_, _, _, _, _, _, _, _, _, _, c, _⟩ := h; exact c.elim)
  | succ n ih =>
  refine FunD.ok (k := 1 + n) (F_calls_of Z) sc_calls_of (sp_len (n := 1) (l_calls_of (n + 1))) (fun cdv A outer s H vs Q E hr h => ⟨_, PSs.nox ((pss_cons (ps_set (i := 1) sc_calls_of.nd rfl (Or.inl rfl) (pe_lst pa_nil))
  (pss_cons (ps_for PassesOwn.never rfl (pi_tup (pv 0)) (pg_name (i := 2) sc_calls_of.nd rfl (Or.inl rfl))
  (pss_cons (ps_if (pt_cmpR op_eq (pe_ix (r := rIxT K) ix_tup (pv 2) pe_int (fun _ _ => rfl)) pe_str (nomark _))
  (pss_one (ps_expr (pe_bm PySem.F.plainAttrs_list PySem.F.slot_list_append PySem.F.type_list_append mt_append (pv 1) (pa_cons (pe_tup (pa_cons (pe_ix (r := rIxT K) ix_tup (pv 2) pe_int (fun _ _ => rfl)) (pa_cons (pe_ix (r := rIxT K) ix_tup (pv 2) pe_int (fun _ _ => rfl)) pa_nil))) pa_nil))))
  pss_nil)
  (pss_one (ps_if (pt_cmpR op_eq (pe_ix (r := rIxT K) ix_tup (pv 2) pe_int (fun _ _ => rfl)) pe_str (nomark _))
  (pss_cons (ps_expr (pe_bm PySem.F.plainAttrs_list PySem.F.slot_list_extend PySem.F.type_list_extend mt_extend (pv 1) (pa_cons (pe_call ih (hr.mono (by omega)) (by rfl) (Z.glo 58 rfl) (Z.kp 15 rfl) (b_calls_of Z) .nil passN (pa_cons (pe_ix (r := rIxT K) ix_tup (pv 2) pe_int (fun _ _ => rfl)) pa_nil)) pa_nil)))
  (pss_one (ps_expr (pe_bm PySem.F.plainAttrs_list PySem.F.slot_list_extend PySem.F.type_list_extend mt_extend (pv 1) (pa_cons (pe_call ih (hr.mono (by omega)) (by rfl) (Z.glo 58 rfl) (Z.kp 15 rfl) (b_calls_of Z) .nil passN (pa_cons (pe_ix (r := rIxT K) ix_tup (pv 2) pe_int (fun _ _ => rfl)) pa_nil)) pa_nil)))))
  pss_nil))))
  (pss_one (ps_ret (pv 1)))))), enter h fun L as ds O k e c => ?_⟩)
  obtain ⟨b, rfl, rfl, rfl, hn, hz, hk⟩ := c
  have hlen := hz.calls_len
  have hpow : 2 ^ (n + 1) ≤ 2 ^ 10 := Nat.pow_le_pow_right (by decide) (by omega)
  have h10 : 2 ^ 10 = 1024 := rfl
  have hbd : ∀ i, ((b.sts.take i).flatMap MF.callsSt).length ≤ 12300 := fun i => by
    have := MF.flat_take MF.callsSt b.sts i
    rw [← MF.calls_sts] at this
    omega
  refine s_seq (s_set (w_lst (w_nil ⟨Nat.zero_le _, fun p => ?_⟩)))
  refine s_seq (s_for (i_tup (w_var rfl ⟨_, rfl, fun i as ρ O => ∃ x2, as = [p] ∧ ρ = [some (MF.dBd b), some (.adr p), x2] ∧ O = [.lst (((b.sts.take i).flatMap MF.callsSt).map MF.dPr)], ⟨none, rfl, rfl, rfl⟩, ?_, ?_⟩)))
  · rintro i as ρ O c hc ⟨x2, rfl, rfl, rfl⟩
    obtain ⟨st, hst, rfl⟩ := MF.st_at hc
    have et := MF.tk hst
    have hb1 := hbd (i + 1)
    rw [et, List.flatMap_append, List.length_append] at hb1
    refine g_name ?_
    rcases st with (q | ⟨f, q⟩ | v) | ⟨q, v, x, y⟩
    · k_clsL
      refine i_F MF.e_rc (s_next ?_)
      k_clsL
      refine i_F MF.e_ri (s_next ⟨_, rfl, rfl, ?_⟩)
      simp [et, MF.callsSt, MF.callS1]
    · k_clsL
      refine i_T MF.e_cc ?_
      refine s_drop (w_append 0 rfl rfl rfl (w_tup ?_))
      k_clsL
      refine ⟨small (n := 2) (by decide), _, rfl, rfl, smallt (by rw [List.length_map]; have := hbd i; omega), ?_⟩
      k_clsL
      refine i_F MF.e_ci (s_next ⟨_, rfl, rfl, ?_⟩)
      simp [et, MF.callsSt, MF.callS1, MF.dPr]
    · k_clsL
      refine i_F MF.e_sc (s_next ?_)
      k_clsL
      refine i_F MF.e_si (s_next ⟨_, rfl, rfl, ?_⟩)
      simp [et, MF.callsSt, MF.callS1]
    · obtain ⟨m, em, zx, zy⟩ := hz.sub (List.mem_of_getElem? hst)
      cases em
      have hb2 : ((b.sts.take i).flatMap MF.callsSt).length + ((MF.calls x).length + (MF.calls y).length) ≤ 12300 := by
        simpa [MF.callsSt] using hb1
      k_clsL
      refine i_F MF.e_ic (s_next ?_)
      k_clsL
      refine i_T MF.e_ii ?_
      k_clsL
      refine w_extend 0 rfl rfl rfl (w_known (d_call [] ?_))
      k_clsL
      refine call_calls (b := x) (by omega) zx fun r => ⟨r, _, _, _, rfl, rfl, rfl, _, _, rfl, rfl, lo_f, small (by rw [List.length_map, List.length_map]; omega), ?_⟩
      k_clsL
      refine w_extend 0 rfl rfl rfl (w_known (d_call [] ?_))
      k_clsL
      refine call_calls (b := y) (by omega) zy fun r => ⟨r, _, _, _, rfl, rfl, rfl, _, _, rfl, rfl, lo_f, small (by rw [List.length_append, List.length_map, List.length_map, List.length_map]; omega), ?_⟩
      refine ⟨_, rfl, rfl, ?_⟩
      simp [et, MF.callsSt]
  · rintro as ρ O ⟨x2, rfl, rfl, rfl⟩
    rw [show b.sts.take (MF.dSt b).length = b.sts from by rw [MF.dSt_eq, List.length_map, List.take_length], ← MF.calls_sts]
    exact s_ret (w_var rfl (hk p))
def FunOut (K : PySem.W.Frag) (s : Addr) (fs : List MG.RFn) (k : KN) (e : KX) : Option Nat → Prop
  | none => ∀ c, k [s] .non [c]
  | some a => ∀ L' new c cnew, (L' = [] ∨ ∃ f ∈ fs, L' = [f.ad]) → e L' (He.ga K "BadFunctions") [("row", .int (a : Nat))] (s :: new) (c :: cnew)
def c_Functions___init__ (K : PySem.W.Frag) : Ct := fun L as ds O k e => ∃ (s tk : Addr) (tds fds sds : List (Key × D)) (rows : List MR.Row) (fs : List MG.RFn), L = [] ∧ as = [s] ∧ ds = [.adr s, MI.tabD K rows tk tds fds sds, .lst (fs.map MG.dRFn)] ∧ O = [.ins (He.ga K "Functions") []] ∧ MI.Tabl K rows tk tds fds sds ∧ MF.RowsOk rows ∧ (∀ f ∈ fs, MG.SmallF f) ∧ fs.length ≤ 20 ∧ FunOut K s fs k e (MG.verdict rows (fs.map MG.core))
theorem l_Functions___init__ {K : PySem.W.Frag} : ∀ L as ds O k e, c_Functions___init__ K L as ds O k e → ds.length = 3 := fun L as ds O k e h => by
  obtain ⟨s, tk, tds, fds, sds, rows, fs, _, _, rfl, _⟩ := h
  rfl
theorem ok_Functions___init__ {P : Program} {w : World} {K : PySem.W.Frag} {mg : Str → Option Value} {base : Heap} (Z : Tx P w K mg) : FnOk P w K mg base (L2.CX P w) 12 (He.ma K (He.ga K "Functions") "__init__") (fdAt K ("Functions", some "__init__")) ["self", "kinds", "rows"] (spC (c_Functions___init__ K)) := by
  refine FunD.ok (k := 11) (F_Functions___init__ Z) sc_Functions___init__ (sp_len (n := 3) l_Functions___init__) (fun cdv A outer s H vs Q E hr h => ⟨_, ((pss_cons (ps_fld (pv 0) (pv 1) rfl)
  (pss_cons (ps_fld (pv 0) pe_dnewK rfl)
  (pss_cons (ps_if (pt_cmpR op_eq (pe_callB (r := fun xs H Q => ∃ x n, xs = [x] ∧ LenV K x H n ∧ Q (.int n) H) call_len (by rfl) (Z.free 10 rfl) PySem.boot_len (pa_cons (pv 2) pa_nil)) pe_int (nomark _))
  (pss_one (pr_BadFunctions Z rfl (hr.mono (by decide)) (takes_of rfl rfl rfl rfl) (by rfl) (pa_cons pe_int pa_nil)))
  pss_nil)
  (pss_cons (ps_for (passes_of rfl) rfl (pi_enum (by rfl) (Z.free 15 rfl) (pa_cons (pv 2) pa_nil)) (pg_tup rfl (pgs_cons (pg_name (i := 3) sc_Functions___init__.nd rfl (Or.inl rfl)) (pgs_cons (pg_name (i := 4) sc_Functions___init__.nd rfl (Or.inl rfl)) pgs_nil)))
  (pss_cons (ps_if (PW.pt (pw_or (pt_cmpR op_eq (pv 3) (pe_gi (by rfl) (Z.int 55 rfl)) (nomark _)) (pw_or1 (pt_not (pt_val (pe_meth (pv 0) (Z.cls 36 rfl) (Z.meth 56 rfl) (ok_Functions_is_new Z) (hr.mono (by decide)) (b_Functions_is_new Z) .nil passN (pa_cons (pv 4) pa_nil)))))))
  (pss_one (pr_BadFunctions Z rfl (hr.mono (by decide)) (takes_of rfl rfl rfl rfl) (by rfl) (pa_cons (pv 3) pa_nil)))
  pss_nil)
  (pss_cons (ps_asg (pv 4) (pg_tup rfl (pgs_cons (pg_name (i := 5) sc_Functions___init__.nd rfl (Or.inl rfl)) (pgs_cons (pg_name (i := 6) sc_Functions___init__.nd rfl (Or.inl rfl)) (pgs_cons (pg_name (i := 7) sc_Functions___init__.nd rfl (Or.inl rfl)) (pgs_cons (pg_name (i := 8) sc_Functions___init__.nd rfl (Or.inl rfl)) pgs_nil))))))
  (pss_one (ps_dput (hu_of hr) (show PE _ _ (tFld K _ _) from pe_fld (pv 0) rfl) (pv 5) (pe_tup (pa_cons (pv 6) (pa_cons (pv 7) (pa_cons (pe_callTy call_dictD (by rfl) (Z.free 57 rfl) PyProof.Rows.boot_dict (pa_cons (pv 8) pa_nil)) pa_nil)))) rfl)))))
  (pss_cons (ps_for (passes_of rfl) rfl (pi_enum (by rfl) (Z.free 15 rfl) (pa_cons (pv 2) pa_nil)) (pg_tup rfl (pgs_cons (pg_name (i := 3) sc_Functions___init__.nd rfl (Or.inl rfl)) (pgs_cons (pg_name (i := 4) sc_Functions___init__.nd rfl (Or.inl rfl)) pgs_nil)))
  (pss_one (ps_lock (ps_for (passes_of rfl) rfl (pi_items (pe_ix (r := rIxT K) ix_tup (pv 4) pe_int (fun _ _ => rfl))) (pg_tup rfl (pgs_cons (pg_name (i := 9) sc_Functions___init__.nd rfl (Or.inl rfl)) (pgs_cons (pg_name (i := 10) sc_Functions___init__.nd rfl (Or.inl rfl)) pgs_nil)))
  (pss_one (ps_for (passes_of rfl) rfl (pi_list (pe_call (ok_calls_of Z 4) (hr.mono (by decide)) (by rfl) (Z.glo 58 rfl) (Z.kp 15 rfl) (b_calls_of Z) .nil passN (pa_cons (pv 10) pa_nil))) (pg_tup rfl (pgs_cons (pg_name (i := 11) sc_Functions___init__.nd rfl (Or.inl rfl)) (pgs_cons (pg_name (i := 12) sc_Functions___init__.nd rfl (Or.inl rfl)) pgs_nil)))
  (pss_one (ps_if (PW.pt (pw_or (pt_cmp (pc_dnotin (hu_of hr) (pv 11) (show PE _ _ (tFld K _ _) from pe_fld (pv 0) rfl))) (pw_or1 (pt_cmpR op_ne (pe_ix (r := rIxT K) ix_tup (pe_dget (hu_of hr) (show PE _ _ (tFld K _ _) from pe_fld (pv 0) rfl) (pv 11) (fun _ _ => rfl)) pe_int (fun _ _ => rfl)) (pe_methX (pv 1) (Z.cls 4 rfl) (Z.meth 59 rfl) (ok_Kinds_inner Z) (hr.mono (by decide)) (b_Kinds_inner Z) .nil (takes_of rfl rfl rfl rfl) (pa_cons (pv 9) (pa_cons (pv 12) pa_nil))) (nomark _)))))
  (pss_one (pr_BadFunctions Z rfl (hr.mono (by decide)) (takes_of rfl rfl rfl rfl) (by rfl) (pa_cons (pv 3) pa_nil)))
  pss_nil))))))))
  (pss_one (ps_fld (pv 0) (pe_callTy (call_tuple_dK rfl) (by rfl) (Z.free 18 rfl) PyProof.Rows.boot_tuple (pa_cons (show PE _ _ (tFld K _ _) from pe_fld (pv 0) rfl) pa_nil)) rfl)))))))), enter h fun L as ds O k e c => ?_⟩)
  obtain ⟨s, tk, tds, fds, sds, rows, fs, rfl, rfl, rfl, rfl, hTab, hR, hS, hfl, hout⟩ := c
  have hself : MT.Self K (MI.tabD K rows tk tds fds sds) tds := MI.tabD_self
  generalize hT : MI.tabD K rows tk tds fds sds = T
  rw [hT] at hself
  generalize hcs : fs.map MG.core = cs at hout
  have hcl : cs.length = fs.length := by rw [← hcs, List.length_map]
  have hcat : ∀ {i : Nat} {f : MG.RFn}, fs[i]? = some f → cs[i]? = some (MG.core f) := fun {i f} h => by rw [← hcs, List.getElem?_map, h]; rfl
  refine s_seq (s_fld (w_var rfl (w_var rfl ⟨0, s, _, [], rfl, rfl, rfl, (na_Functions_kinds Z).1, (na_Functions_kinds Z).2, by decide, ?_⟩)))
  refine s_seq (s_fld (w_dnew fun t => w_var rfl ⟨0, s, _, _, rfl, rfl, rfl, (na_Functions_table Z).1, (na_Functions_table Z).2, by show 1 < 1000; decide, ?_⟩))
  k_clsL
  refine i_bl (fun h => ?_) fun h => s_next ?_
  · have h : ((fs.length : Int) == 0) = true := h
    rw [beq_iff_eq] at h
    have e : MG.verdict rows cs = some 0 := by
      unfold MG.verdict
      rw [if_pos (List.eq_nil_of_length_eq_zero (by omega))]
    rw [e] at hout
    exact s_raiseI (n := 0) (xo_BadFunctions Z) (by omega) (w_int ⟨rfl, hout _ _ _ _ (.inl rfl)⟩)
  have hne : cs ≠ [] := fun e => by
    have h : ((fs.length : Int) == 0) = false := h
    rw [beq_eq_false_iff_ne] at h
    rw [e] at hcl
    exact h (by rw [← hcl]; rfl)
  have hverd : MG.verdict rows cs = match MG.scan1 rows [] 0 cs with
    | some a => some a
    | none => MG.scan2 rows (MG.sigs cs) 0 cs := by
    unfold MG.verdict
    refine (if_neg hne).trans ?_
    cases MG.scan1 rows [] 0 cs <;> rfl
  refine s_seq (s_for (i_enum (w_cons (w_var rfl (w_nil ⟨_, rfl, fun i as ρ O => ∃ (gs : List MG.RFn) (x3 x4 x5 x6 x7 x8 : Option D), as = [s, t] ∧ ρ = [some (.adr s), some T, some (.lst (fs.map MG.dRFn)), x3, x4, x5, x6, x7, x8, none, none, none, none] ∧ O = [.ins (He.ga K "Functions") [("kinds", T), ("table", .adr t)], .dk (MG.ftab gs)] ∧ gs.map MG.core = cs.take i ∧ i ≤ 6 ∧ (∀ c ∈ cs.take i, MG.newX rows c = true) ∧ MG.scan1 rows [] 0 cs = MG.scan1 rows ((cs.take i).map (·.1)) i (cs.drop i), ⟨[], none, none, none, none, none, none, rfl, rfl, rfl, rfl, Nat.zero_le _, (fun c m => by cases m), rfl⟩, ?_, ?_⟩)))))
  · rintro i as ρ O c hc ⟨gs, x3, x4, x5, x6, x7, x8, rfl, rfl, rfl, hgs, hi6, hok, hinv⟩
    obtain ⟨c, hc', rfl⟩ := enum_at hc
    rw [List.getElem?_map] at hc'
    obtain ⟨f, hf, rfl⟩ := Option.map_eq_some_iff.mp hc'
    have mf := List.mem_of_getElem? hf
    have hcf := hcat hf
    rw [MG.scan1_step rows hcf] at hinv
    have hbad : (decide (i = 6) || !MG.newF rows ((cs.take i).map (·.1)) (MG.core f)) = true → FunOut K s fs k e (some i) := fun h => by
      rw [h, if_pos rfl] at hinv
      rw [hverd, hinv] at hout
      exact hout
    refine g_tup rfl (gs_cons (g_name (gs_cons (g_name (gs_nil ?_)))))
    k_clsL
    refine i_bl (fun h => ?_) fun h => ?_
    · have h : ((i : Int) == 6) = true := h
      rw [beq_iff_eq] at h
      exact s_raiseI (n := i) (xo_BadFunctions Z) (by omega) (w_var rfl ⟨rfl, hbad (by rw [decide_eq_true (by omega)]; rfl) _ _ _ _ (.inl rfl)⟩)
    have h : ((i : Int) == 6) = false := h
    rw [beq_eq_false_iff_ne] at h
    have hi : i ≠ 6 := fun e => h (by rw [e]; rfl)
    rw [decide_eq_false hi, Bool.false_or] at hbad hinv
    refine w_not (w_test (d_meth [0, 1] (w_var rfl ⟨⟨_, .inr ⟨0, s, rfl, rfl, rfl⟩, rfl⟩, w_cons (w_var rfl (w_nil ?_))⟩)))
    refine ⟨by decide, fun j m => by simp at m; show j < 2; omega, s, t, tk, _, MG.ftab gs, tds, fds, sds, rows, f, (cs.take i).map (·.1), rfl, rfl, rfl, rfl, (show some T = some (MI.tabD K rows tk tds fds sds) by rw [hT]), rfl, hTab, hR, (fun z => by rw [MG.val_some, hgs]), hS f mf, [], [], [_, _], rfl, rfl, rfl, ?_⟩
    refine ⟨_, rfl, i_bl (fun h => ?_) fun h => s_next ?_⟩
    · exact s_raiseI (n := i) (xo_BadFunctions Z) (by omega) (w_var rfl ⟨rfl, hbad h _ _ _ _ (.inl rfl)⟩)
    have h : (!MG.newF rows ((cs.take i).map (·.1)) (MG.core f)) = false := h
    rw [h, if_neg (by simp)] at hinv
    rw [Bool.not_eq_false'] at h
    have h2 := h
    unfold MG.newF at h2
    rw [Bool.and_eq_true, Bool.and_eq_true, Bool.not_eq_true', decide_eq_false_iff_not] at h2
    obtain ⟨_, hnew, hnx⟩ := h2
    have hnew : f.name ∉ (gs.map MG.core).map (·.1) := by rw [hgs]; exact hnew
    refine s_seq (s_asg (w_var rfl (g_tup rfl (gs_cons (g_name (gs_cons (g_name (gs_cons (g_name (gs_cons (g_name (gs_nil ?_))))))))))))
    refine s_dput (w_tup (w_cons (w_var rfl (w_cons (w_var rfl (w_cons (w_knownL (w_cb (w_cons (w_var rfl (w_nil (rc_dict (kds := MG.bdsD f.bodies) (.inl (.inr ⟨f.ad, rfl⟩)) fun p => ⟨p, _, _, _, rfl, rfl, rfl, ?_⟩)))))))))))) 
    have hgl : gs.length ≤ 6 := by
      have := congrArg List.length hgs
      rw [List.length_map, List.length_take] at this
      omega
    refine w_nil ⟨small (n := 3) (by decide), w_fld (w_var rfl ⟨_, _, .adr t, .inr ⟨0, s, rfl, rfl, rfl⟩, (na_Functions_table Z).1, (na_Functions_table Z).2, rfl, w_var rfl ⟨1, t, .inr f.name, MG.ftab gs, rfl, rfl, rfl, rfl, smallt (by show (List.map _ gs).length < _; rw [List.length_map]; omega), ?_⟩⟩)⟩
    have et := MF.tk hcf
    refine ⟨gs ++ [{ f with ad := p }], _, _, _, _, _, _, rfl, rfl, ?_, ?_, by omega, ?_, ?_⟩
    · rw [← MG.ftab_snoc (f := { f with ad := p }) hnew]
      rfl
    · rw [et, List.map_append, hgs]
      rfl
    · rw [et]
      intro c m
      rcases List.mem_append.mp m with m | m
      · exact hok c m
      · rw [List.mem_singleton.mp m]
        exact hnx
    · rw [hinv, et, List.map_append]
      rfl
  · rintro as ρ O ⟨gs, x3, x4, x5, x6, x7, x8, rfl, rfl, rfl, hgs, hi6, hok, hinv⟩
    have elen : (enumD (fs.map MG.dRFn)).length = cs.length := by rw [enum_len, List.length_map, hcl]
    rw [elen] at hgs hi6 hok hinv
    rw [List.take_length] at hgs hok hinv
    rw [List.drop_length] at hinv
    rw [show MG.scan1 rows [] 0 cs = none from hinv] at hverd
    have hverd : MG.verdict rows cs = MG.scan2 rows (MG.sigs cs) 0 cs := hverd
    rw [hverd] at hout
    refine s_seq (s_for (i_enum (w_cons (w_var rfl (w_nil ⟨_, rfl, fun i as ρ O => ∃ (x3 x4 x5 x6 x7 x8 x9 x10 x11 x12 : Option D), as = [s, t] ∧ ρ = [some (.adr s), some T, some (.lst (fs.map MG.dRFn)), x3, x4, x5, x6, x7, x8, x9, x10, x11, x12] ∧ O = [.ins (He.ga K "Functions") [("kinds", T), ("table", .adr t)], .dk (MG.ftab gs)] ∧ MG.scan2 rows (MG.sigs cs) 0 cs = MG.scan2 rows (MG.sigs cs) i (cs.drop i), ⟨_, _, _, _, _, _, _, _, _, _, rfl, rfl, rfl, rfl⟩, ?_, ?_⟩)))))
    · rintro i as ρ O c hc ⟨x3, x4, x5, x6, x7, x8, x9, x10, x11, x12, rfl, rfl, rfl, hinv⟩
      obtain ⟨c, hc', rfl⟩ := enum_at hc
      rw [List.getElem?_map] at hc'
      obtain ⟨f, hf, rfl⟩ := Option.map_eq_some_iff.mp hc'
      have mf := List.mem_of_getElem? hf
      have hcf := hcat hf
      have hi : i < fs.length := (List.getElem?_eq_some_iff.mp hf).1
      have hnx := hok _ (List.mem_of_getElem? hcf)
      rw [MG.scan2_step rows _ hcf] at hinv
      have hmn : (MI.makersOf f.kind rows).Nodup := hR.nd.sublist (List.Sublist.map _ List.filter_sublist)
      have hbad : MG.callsF rows (MG.sigs cs) f.bodies = false → FunOut K s fs k e (some i) := fun h => by
        have h : MG.callsF rows (MG.sigs cs) (MG.core f).2.2.2 = false := h
        rw [h, if_neg (by simp)] at hinv
        rw [hinv] at hout
        exact hout
      refine g_tup rfl (gs_cons (g_name (gs_cons (g_name (gs_nil ?_)))))
      refine s_lockF f.ad (by simp) (hF_slot (i := 4) rfl (.tup (List.mem_cons_of_mem _ (List.mem_cons_of_mem _ (List.mem_cons_of_mem _ List.mem_cons_self))) .refl)) ?_
      refine s_for (i_items (w_op (w_var rfl (w_int (rv_ixT (d := .ldk f.ad (MG.bdsD f.bodies)) rfl ⟨f.ad, _, rfl, List.mem_cons_self, fun j as ρ O => ∃ (x9 x10 x11 x12 : Option D), as = [s, t] ∧ ρ = [some (.adr s), some T, some (.lst (fs.map MG.dRFn)), some (.int (i : Nat)), some (MG.dRFn f), x5, x6, x7, x8, x9, x10, x11, x12] ∧ O = [.ins (He.ga K "Functions") [("kinds", T), ("table", .adr t)], .dk (MG.ftab gs)] ∧ ∀ p ∈ f.bodies.take j, (MG.rcalls p.2).all (MG.callOk rows (MG.sigs cs) p.1) = true, ⟨_, _, _, _, rfl, rfl, rfl, (fun p m => by cases m)⟩, ?_, ?_⟩)))))
      · rintro j as ρ O c hc ⟨x9, x10, x11, x12, rfl, rfl, rfl, hall⟩
        unfold pairsD MG.bdsD at hc
        rw [List.map_map, List.getElem?_map] at hc
        obtain ⟨⟨m, l⟩, hml, rfl⟩ := Option.map_eq_some_iff.mp hc
        have mml := List.mem_of_getElem? hml
        obtain ⟨hmk, hokl⟩ := MG.newX_keys (hS f mf) hmn hnx mml
        simp only at hmk hokl
        obtain ⟨r, mr, er, rfl⟩ := MF.mem_makers.mp hmk
        rw [MG.partsOf_at hR.nd mr] at hokl
        obtain ⟨tag, hent⟩ := MF.ent_of hTab mr
        obtain ⟨b, rfl, hsz, hcin⟩ := MG.body_of ((hS f mf).body _ mml) hokl
        have hbad2 : ∀ c ∈ MF.calls b, MG.callOk rows (MG.sigs cs) r.maker c = false → FunOut K s fs k e (some i) := fun c mc h => by
          refine hbad ?_
          rw [Bool.eq_false_iff]
          intro z
          unfold MG.callsF at z
          rw [List.all_eq_true] at z
          have z2 := z _ mml
          rw [List.all_eq_true] at z2
          rw [z2 c (by rw [MG.rcalls_rs]; exact mc)] at h
          cases h
        refine g_tup rfl (gs_cons (g_name (gs_cons (g_name (gs_nil ?_)))))
        refine s_for (i_list (w_known (d_call [] (w_cons (w_var (d := MF.dBd b) (by rw [MG.dBd_rs]; rfl) (w_nil (call_calls (by decide) hsz fun q => ⟨q, _, _, _, rfl, rfl, rfl, _, rfl, fun v as ρ O => ∃ (x11 x12 : Option D), as = [s, t] ∧ ρ = [some (.adr s), some T, some (.lst (fs.map MG.dRFn)), some (.int (i : Nat)), some (MG.dRFn f), x5, x6, x7, x8, some (.str r.maker), some (MG.dRB (MG.rs b)), x11, x12] ∧ O = [.ins (He.ga K "Functions") [("kinds", T), ("table", .adr t)], .dk (MG.ftab gs)] ∧ ∀ c ∈ (MF.calls b).take v, MG.callOk rows (MG.sigs cs) r.maker c = true, ⟨_, _, rfl, rfl, rfl, (fun c m => by cases m)⟩, ?_, ?_⟩)))))))
        · rintro v as ρ O c hc ⟨x11, x12, rfl, rfl, rfl, hcall⟩
          rw [List.getElem?_map] at hc
          obtain ⟨⟨fn, pn⟩, hc2, rfl⟩ := Option.map_eq_some_iff.mp hc
          have mc := List.mem_of_getElem? hc2
          obtain ⟨q, mq, eq⟩ := hcin _ mc
          simp only at eq
          subst eq
          have hcO : MG.callOk rows (MG.sigs cs) r.maker (fn, q.nm) = decide (MG.kindF (MG.sigs cs) fn = some q.inn) := by
            unfold MG.callOk
            rw [MG.partsOf_at hR.nd mr, MG.inB_at (hR.names r mr) mq]
          have hvk := MG.val_kind fn gs
          rw [hgs] at hvk
          refine g_tup rfl (gs_cons (g_name (gs_cons (g_name (gs_nil ?_)))))
          refine s_if (w_or (w_test (w_dnin (w_var rfl (w_fld (w_var rfl ⟨_, _, .adr t, .inr ⟨0, s, rfl, rfl, rfl⟩, (na_Functions_table Z).1, (na_Functions_table Z).2, rfl, .inr fn, MG.ftab gs, rfl, .inr ⟨1, t, rfl, rfl, rfl⟩, ?_⟩))))))
          rcases hvk with ⟨g, hv, hk2⟩ | ⟨hv, hk2⟩
          rotate_left
          · rw [hv]
            refine ⟨_, rfl, i_T rfl ?_⟩
            exact s_raiseI (n := i) (xo_BadFunctions Z) (by omega) (w_var rfl ⟨rfl, hbad2 _ mc (by rw [hcO, hk2]; exact decide_eq_false (fun z => by cases z)) _ _ _ _ (.inr ⟨f, mf, rfl⟩)⟩)
          rw [hv]
          refine ⟨_, rfl, i_F rfl ?_⟩
          refine w_test (w_op (w_op (w_dget (w_fld (w_var rfl ⟨_, _, .adr t, .inr ⟨0, s, rfl, rfl, rfl⟩, (na_Functions_table Z).1, (na_Functions_table Z).2, rfl, w_var rfl ⟨rfl, rfl, .inr fn, MG.ftab gs, _, rfl, .inr ⟨1, t, rfl, rfl, rfl⟩, hv, w_int (rv_ixT rfl ?_)⟩⟩)))))
          have hs2 := hself
          obtain ⟨t1, f1, n1, o1, s1, rfl, _⟩ := hs2
          refine d_meth [] (w_var rfl ⟨⟨_, .inl rfl, rfl⟩, w_cons (w_var rfl (w_cons (w_var rfl (w_nil (call_Kinds_inner hself (.inl ⟨r.kind, tag, r.parts, q, hent, mq, rfl, hR.names r mr, ?_⟩))))))⟩)
          refine rv_ne rfl ⟨_, rfl, i_bl (fun h => ?_) fun h => s_next ⟨_, _, rfl, rfl, rfl, ?_⟩⟩
          · have h : (!(g.kind == q.inn)) = true := h
            rw [Bool.not_eq_true', beq_eq_false_iff_ne] at h
            exact s_raiseI (n := i) (xo_BadFunctions Z) (by omega) (w_var rfl ⟨rfl, hbad2 _ mc (by rw [hcO, hk2]; exact decide_eq_false (fun z => h (Option.some.inj z))) _ _ _ _ (.inr ⟨f, mf, rfl⟩)⟩)
          · have h : (!(g.kind == q.inn)) = false := h
            rw [Bool.not_eq_false', beq_iff_eq] at h
            refine MF.mem_tk hc2 hcall ?_
            rw [hcO, hk2, h]
            exact decide_eq_true rfl
        · rintro as ρ O ⟨x11, x12, rfl, rfl, rfl, hcall⟩
          rw [List.length_map, List.take_length] at hcall
          refine ⟨_, _, _, _, rfl, rfl, rfl, MF.mem_tk hml hall ?_⟩
          rw [MG.rcalls_rs, List.all_eq_true]
          exact hcall
      · rintro as ρ O ⟨x9, x10, x11, x12, rfl, rfl, rfl, hall⟩
        have e2 : (pairsD (MG.bdsD f.bodies)).length = f.bodies.length := by unfold pairsD MG.bdsD; rw [List.length_map, List.length_map]
        rw [e2, List.take_length] at hall
        refine ⟨_, _, _, _, _, _, _, _, _, _, rfl, rfl, rfl, ?_⟩
        have h : MG.callsF rows (MG.sigs cs) (MG.core f).2.2.2 = true := List.all_eq_true.mpr hall
        rw [hinv, h, if_pos rfl]
    · rintro as ρ O ⟨x3, x4, x5, x6, x7, x8, x9, x10, x11, x12, rfl, rfl, rfl, hinv⟩
      rw [elen, List.drop_length] at hinv
      rw [hinv] at hout
      refine s_frzFld 1 0 t (He.ga K "Functions") (.dk (MG.ftab gs)) (.ldk t (MG.ftab gs)) "table" [("kinds", T), ("table", .adr t)] rfl rfl (fun F o e c => by cases c with | dk r => exact .ldk e r) rfl rfl ?_
      refine s_fld (w_cb (w_cons (w_fld (w_var rfl ⟨_, _, .ldk t (MG.ftab gs), .inr ⟨0, s, rfl, rfl, rfl⟩, (na_Functions_table Z).1, (na_Functions_table Z).2, rfl, w_nil (rc_tupD (kds := MG.ftab gs) (.inl (.inr ⟨_, rfl⟩)) ?_)⟩))))
      refine w_var rfl ⟨0, s, _, _, rfl, rfl, rfl, (na_Functions_names Z).1, (na_Functions_names Z).2, by show 2 < 1000; decide, ?_⟩
      exact hout _
def c__law_int (K : PySem.W.Frag) : Ct := fun L as ds O k e => ∃ (i : Int), as = [] ∧ ds = [.int i] ∧ O = [] ∧ k [] (.bl true) []
theorem l__law_int {K : PySem.W.Frag} : ∀ L as ds O k e, c__law_int K L as ds O k e → ds.length = 1 := fun L as ds O k e h => by
  obtain ⟨i, _, rfl, _⟩ := h
  rfl
theorem call_int' {K : PySem.W.Frag} {χ : Xk} {L as : List Addr} {ρ : DSt} {O : List D} {k : List Addr → D → List D → Prop} {i : Int} (hk : k as (.bl true) O) : cc (c__law_int K) χ ρ [] L as [.int i] O k :=
  ⟨(no_js (as := as)).1, (no_js (as := as)).2, i, rfl, rfl, rfl, ck0 hk⟩
theorem okC__law_int {P : Program} {w : World} {K : PySem.W.Frag} {mg : Str → Option Value} {base : Heap} (Z : Tx P w K mg) : FnC P w K mg base (L2.CX P w) 1 (He.ga K "_law_int") (fdAt K ("_law_int", none)) ["_law_value"] (spC (c__law_int K)) := by
  refine FunD.okC (k := 0) (F__law_int Z) sc__law_int (sp_len (n := 1) l__law_int) (fun cdv A outer s H vs Q E p hr h => ⟨_, (pss_one (ps_ret (pe_and (pe_callB (r := rIsi K) call_isi (by rfl) (Z.free 38 rfl) PyProof.Rows.boot_isinstance (pa_cons (pv 0) (pa_cons (pe_bltn (v := .ty "int") (by rfl) (Z.free 11 rfl) PyProof.Rows.boot_int rfl) pa_nil))) (pe_one (pe_not (pe_callB (r := rIsi K) call_isi (by rfl) (Z.free 38 rfl) PyProof.Rows.boot_isinstance (pa_cons (pv 0) (pa_cons (pe_bltn (v := .ty "bool") (by rfl) (Z.free 72 rfl) PyProof.Rows.boot_bool rfl) pa_nil)))))))), enter h fun L as ds O k e c => ?_⟩)
  obtain ⟨i, rfl, rfl, rfl, hk⟩ := c
  refine s_ret (w_andV ?_)
  refine w_ty (d := .int i) (t := "int") (n := "int") (b := true) (tr := tNil) (kA := fun _ _ _ => True) rfl (by rfl) ⟨_, rfl, ?_⟩ (w_var rfl ⟨rfl, rfl, rfl⟩)
  refine w_notV ?_
  exact w_ty (d := .int i) (t := "int") (n := "bool") (b := false) (tr := tNil) (kA := fun _ _ _ => True) rfl (by rfl) ⟨_, rfl, hk⟩ (w_var rfl ⟨rfl, rfl, rfl⟩)
def vI : Option Nat → Int
  | none => -1
  | some a => (a : Nat)
def c__law_bad_row (K : PySem.W.Frag) : Ct := fun L as ds O k e => ∃ (tk : Addr) (tds fds sds : List (Key × D)) (rows : List MR.Row) (fs : List MG.RFn), L = [] ∧ as.length = O.length ∧ ds = [MI.tabD K rows tk tds fds sds, .lst (fs.map MG.dRFn)] ∧ MI.Tabl K rows tk tds fds sds ∧ MF.RowsOk rows ∧ (∀ f ∈ fs, MG.SmallF f) ∧ fs.length ≤ 20 ∧ k as (.int (vI (MG.verdict rows (fs.map MG.core)))) O
theorem l__law_bad_row {K : PySem.W.Frag} : ∀ L as ds O k e, c__law_bad_row K L as ds O k e → ds.length = 2 := fun L as ds O k e h => by
  obtain ⟨tk, tds, fds, sds, rows, fs, _, _, rfl, _⟩ := h
  rfl
theorem ok__law_bad_row {P : Program} {w : World} {K : PySem.W.Frag} {mg : Str → Option Value} {base : Heap} (Z : Tx P w K mg) : FnOk P w K mg base (L2.CX P w) 14 (He.ga K "_law_bad_row") (fdAt K ("_law_bad_row", none)) ["_law_kinds", "_law_table"] (spC (c__law_bad_row K)) := by
  refine FunD.ok (k := 13) (F__law_bad_row Z) sc__law_bad_row (sp_len (n := 2) l__law_bad_row) (fun cdv A outer s H vs Q E hr h => ⟨_, PSs.nox ((pss_cons (ps_tryA (i := 2) rfl rfl sc__law_bad_row.nd rfl rfl ⟨(by rfl), (by decide), .inl (Z.glo 33 rfl)⟩ takesN (fun W pn xe tk po => (pss_unl tk (fun W tk => (pss_one (ps_expr (pe_makeX (Z.mkr 35 rfl) (ok_Functions___init__ Z) (hr.mono (by decide)) (by rfl) (Z.glo 34 rfl) (b_Functions___init__ Z) .nil tk (pa_cons (pv 0) (pa_cons (pe_callTy (r := fun xs H Q => ∃ p ys, xs = [V.ref p] ∧ (SqL K H p ys ∨ SqT K H p ys) ∧ ∀ l, H l = none → Q (.ref l) (upd H l (.lst ys))) call_list_of (by rfl) (Z.free 37 rfl) PyProof.Rows.boot_list (pa_cons (pv 1) pa_nil)) pa_nil))))))))
  (fun a oe cls d pn hz hf => (pss_cons (ps_if (pt_val (pe_callB (call_isX hz hf) (by rfl) (Z.free 38 rfl) PyProof.Rows.boot_isinstance (pa_cons (pv 2) (pa_cons (pe_tup (pa_cons (pe_glob (v := .ref (He.ga K "BadKinds")) (by rfl) (Z.glo 46 rfl) rfl) (pa_cons (pe_glob (v := .ref (He.ga K "BadLayout")) (by rfl) (Z.glo 45 rfl) rfl) (pa_cons (pe_glob (v := .ref (He.ga K "BadRow")) (by rfl) (Z.glo 44 rfl) rfl) (pa_cons (pe_glob (v := .ref (He.ga K "BadTree")) (by rfl) (Z.glo 43 rfl) rfl) (pa_cons (pe_glob (v := .ref (He.ga K "NoLayout")) (by rfl) (Z.glo 42 rfl) rfl) (pa_cons (pe_glob (v := .ref (He.ga K "NotThere")) (by rfl) (Z.glo 41 rfl) rfl) (pa_cons (pe_glob (v := .ref (He.ga K "Stuck")) (by rfl) (Z.glo 40 rfl) rfl) (pa_cons (pe_glob (v := .ref (He.ga K "WrongLayout")) (by rfl) (Z.glo 39 rfl) rfl) pa_nil))))))))) pa_nil))))
  (pss_one (ps_ret (pe_un un_neg pe_int)))
  pss_nil)
  (pss_cons (ps_if (PW.pt (pw_or (pt_not (pt_val (pe_callB (call_isX hz hf) (by rfl) (Z.free 38 rfl) PyProof.Rows.boot_isinstance (pa_cons (pv 2) (pa_cons (pe_glob (v := .ref (He.ga K "BadFunctions")) (by rfl) (Z.glo 47 rfl) rfl) pa_nil))))) (pw_or (pt_not (pt_val (pe_callB (call_isX hz hf) (by rfl) (Z.free 38 rfl) PyProof.Rows.boot_isinstance (pa_cons (pv 2) (pa_cons (pe_bltn (v := .ty "ValueError") (by rfl) (Z.free 48 rfl) (by decide +kernel) rfl) pa_nil))))) (pw_or1 (pt_not (pt_val (pe_callC (okC__law_int Z) (roomH_mark (hr.mono (by decide))) List.mem_cons_self (by rfl) (Z.glo 49 rfl) (Z.kp 13 rfl) (b__law_int Z) passN (pa_cons (pe_xf (C := He.ga K "BadFunctions") (Z.exc 11 rfl).2.2 (Z.noat 50 rfl) hz hf (pv 2)) pa_nil))))))))
  (pss_one (ps_ret (pe_un un_neg pe_int)))
  pss_nil)
  (pss_one (ps_ret (pe_xf (C := He.ga K "BadFunctions") (Z.exc 11 rfl).2.2 (Z.noat 50 rfl) hz hf (pv 2))))))))
  (pss_one (ps_ret (pe_un un_neg pe_int))))), enter h fun L as ds O k e c => ?_⟩)
  obtain ⟨tk, tds, fds, sds, rows, fs, rfl, hl, rfl, hTab, hR, hS, hfl, hk⟩ := c
  generalize hv : MG.verdict rows (fs.map MG.core) = v at hk
  generalize hT : MI.tabD K rows tk tds fds sds = T
  refine s_x0 (s_seq (s_try (fun L' C fds' as' ρ O' => ∃ a : Nat, v = some a ∧ L' = [] ∧ C = He.ga K "BadFunctions" ∧ fds' = [(("row" : Str), D.int (a : Nat))] ∧ (∃ new cnew, as' = as ++ new ∧ O' = O ++ cnew) ∧ ρ = [some T, some (.lst (fs.map MG.dRFn)), none]) ?_ fun W => ?_))
  rotate_left
  · refine s_unl (fs.map (·.ad)) (fun a m => ⟨(fun z => by cases z), fun F H σ S => ?_⟩) fun W2 => ?_
    · obtain ⟨f, mf, rfl⟩ := List.mem_map.mp m
      refine hF_slot (i := 1) rfl (.lst (List.mem_map_of_mem mf) (.tup (List.mem_cons_of_mem _ (List.mem_cons_of_mem _ (List.mem_cons_of_mem _ List.mem_cons_self))) .refl)) F H σ S
    refine s_drop (w_makeW [] (w_cons (w_var rfl (w_cons (w_known (w_cb (w_cons (w_var rfl (w_nil (rc_listL (KK := K) (.inl lo_f) fun q => ⟨q, _, _, _, rfl, rfl, rfl, w_nil fun p => ?_⟩))))))))))
    have ha : (as ++ [p])[as.length]? = some p := by simp
    have ho : (O ++ [D.ins (He.ga K "Functions") []])[as.length]? = some (D.ins (He.ga K "Functions") []) := by rw [hl]; simp
    obtain ⟨s1, s2, s3, s4, s5⟩ := sel1 ha ho
    refine ⟨by simp, (fun _ m => by cases m), s1, s2, ?_⟩
    show c_Functions___init__ K [] (selA (as ++ [p]) [as.length]) _ (selO (O ++ [D.ins (He.ga K "Functions") []]) [as.length]) _ _
    rw [s3, s4]
    refine ⟨p, tk, tds, fds, sds, rows, fs, rfl, rfl, (by rw [← hT]), rfl, hTab, hR, hS, hfl, ?_⟩
    rw [hv]
    cases v with
    | none =>
      refine fun c => ⟨[], [], [c], (by rw [List.append_nil]; exact s3.symm), rfl, rfl, rfl, ?_⟩
      have e1 : DL.putAll (O ++ [D.ins (He.ga K "Functions") []]) ([] ++ [as.length]) [c] = O ++ [c] := by
        show (O ++ [D.ins (He.ga K "Functions") []]).set as.length c = _
        rw [hl, List.set_append_right _ _ (Nat.le_refl _), Nat.sub_self]
        rfl
      rw [e1, List.append_nil, List.append_nil]
      exact s_tail hl (s_ret (w_un (w_int (ru_negO hk))))
    | some a =>
      refine fun L' new c cnew hL => ⟨new, cnew, [c], ?_⟩
      refine ⟨by rw [List.nil_append, s3]; rfl, rfl, rfl, ?_, a, rfl, rfl, rfl, rfl, ⟨[p] ++ new, [c] ++ cnew, (List.append_assoc ..), ?_⟩, rfl⟩
      · rcases hL with h | ⟨f, mf, h⟩
        · exact .inl h
        · exact .inr ⟨f.ad, List.mem_map_of_mem mf, h⟩
      · show (O ++ [D.ins (He.ga K "Functions") []]).set as.length c ++ cnew = _
        rw [hl, List.set_append_right _ _ (Nat.le_refl _), Nat.sub_self, List.append_assoc]
        rfl
  rintro L' C fds' as' ρ O' ⟨a, hu, rfl, rfl, rfl, ⟨new, cnew, rfl, rfl⟩, rfl⟩
  subst hu
  refine ⟨true, exm_BadFunctions_GroveError Z, fun _ => ⟨rfl, (fun q => by cases q), fun a dd => ?_⟩, fun q => by cases q⟩
  have hE := (ex_BadFunctions Z).2.1
  refine s_tail hl ?_
  refine s_seq (s_if (w_test (w_cb (w_cons (w_var rfl (w_cons ?_))))))
  refine w_tup (w_cons (w_c (fun _ => .adr _) (w_cons (w_c (fun _ => .adr _) (w_cons (w_c (fun _ => .adr _) (w_cons (w_c (fun _ => .adr _) (w_cons (w_c (fun _ => .adr _) (w_cons (w_c (fun _ => .adr _) (w_cons (w_c (fun _ => .adr _) (w_cons (w_c (fun _ => .adr _) (w_nil ⟨small (n := 8) (by decide), w_nil ?_⟩)))))))))))))))))
  refine rc_isXT (cs := [He.ga K "BadKinds", He.ga K "BadLayout", He.ga K "BadRow", He.ga K "BadTree", He.ga K "NoLayout", He.ga K "NotThere", He.ga K "Stuck", He.ga K "WrongLayout"]) (b := false) hE ?_ ⟨_, rfl, s_next ?_⟩
  · exact kitAny_cons (kit_BadFunctions_BadKinds Z) (fun _ => kitAny_cons (kit_BadFunctions_BadLayout Z) (fun _ => kitAny_cons (kit_BadFunctions_BadRow Z) (fun _ => kitAny_cons (kit_BadFunctions_BadTree Z) (fun _ => kitAny_cons (kit_BadFunctions_NoLayout Z) (fun _ => kitAny_cons (kit_BadFunctions_NotThere Z) (fun _ => kitAny_cons (kit_BadFunctions_Stuck Z) (fun _ => kitAny_cons (kit_BadFunctions_WrongLayout Z) (fun _ => kitAny_nil) nofun) nofun) nofun) nofun) nofun) nofun) nofun) nofun
  refine s_seq (s_if (w_or (w_not (w_test (w_cb (w_cons (w_var rfl (w_cons (w_c (fun _ => .adr _) (w_nil (rc_isX hE (kit_BadFunctions_BadFunctions Z) ⟨_, rfl, ?_⟩)))))))))))
  refine w_or (w_not (w_test (w_isXt hE (kitT_BadFunctions_ValueError Z) (w_var rfl ⟨rfl, _, rfl, ?_⟩))))
  refine w_not (w_test (d_call [] (w_cons (w_xf (w_var rfl ⟨_, _, rfl, rfl, w_nil (call_int' ⟨_, rfl, ?_⟩)⟩)))))
  refine s_next (s_ret (w_xf (w_var rfl ⟨_, _, rfl, rfl, ?_⟩)))
  exact hk
theorem call_bad {K : PySem.W.Frag} {χ : Xk} {as : List Addr} {ρ : DSt} {O : List D} {k : List Addr → D → List D → Prop} {tk : Addr} {tds fds sds : List (Key × D)} {rows : List MR.Row} {fs : List MG.RFn} {ds : List D} (hd : ds = fs.map MG.dRFn) (hTab : MI.Tabl K rows tk tds fds sds) (hR : MF.RowsOk rows) (hS : ∀ f ∈ fs, MG.SmallF f) (hl : fs.length ≤ 20) {v : Option Nat} (hv : MG.verdict rows (fs.map MG.core) = v) (hk : k as (.int (vI v)) O) : cc (c__law_bad_row K) χ ρ [] [] as [MI.tabD K rows tk tds fds sds, .lst ds] O k := by
  subst hd
  subst hv
  exact ⟨(no_js (as := as)).1, (no_js (as := as)).2, tk, tds, fds, sds, rows, fs, rfl, rfl, rfl, hTab, hR, hS, hl, ck0 hk⟩
def c__law_fine (K : PySem.W.Frag) : Ct := fun L as ds O k e => as = [] ∧ ds = [] ∧ O = [] ∧ k [] (.lst (MG.ffine.map MG.dRB)) []
theorem l__law_fine {K : PySem.W.Frag} : ∀ L as ds O k e, c__law_fine K L as ds O k e → ds.length = 0 := fun L as ds O k e h => by
  obtain ⟨_, rfl, _⟩ := h
  rfl
theorem ok__law_fine {P : Program} {w : World} {K : PySem.W.Frag} {mg : Str → Option Value} {base : Heap} (Z : Tx P w K mg) : FnOk P w K mg base (L2.CX P w) 1 (He.ga K "_law_fine") (fdAt K ("_law_fine", none)) [] (spC (c__law_fine K)) := by
  refine FunD.ok (k := 0) (F__law_fine Z) sc__law_fine (sp_len (n := 0) l__law_fine) (fun cdv A outer s H vs Q E hr h => ⟨_, PSs.nox ((pss_cons (ps_set (i := 0) sc__law_fine.nd rfl (Or.inl rfl) (pe_op (r := rCatA K) op_catA (pe_tup (pa_cons (pe_tup (pa_cons pe_str (pa_cons pe_int pa_nil))) (pa_cons (pe_tup (pa_cons pe_str (pa_cons pe_int pa_nil))) pa_nil))) (pe_op (r := rRepT K) op_repT (pe_tup (pa_cons (pe_tup (pa_cons pe_str (pa_cons pe_int pa_nil))) pa_nil)) pe_int)))
  (pss_cons (ps_set (i := 1) sc__law_fine.nd rfl (Or.inl rfl) (pe_tup (pa_cons (pe_tup (pa_cons pe_str (pa_cons pe_str (pa_cons pe_int (pa_cons (pe_tup (pa_cons (pe_tup (pa_cons pe_str (pa_cons pe_str (pa_cons pe_str pa_nil)))) (pa_cons (pe_tup (pa_cons pe_str (pa_cons pe_str (pa_cons pe_str pa_nil)))) pa_nil))) (pa_cons (pv 0) pa_nil)))))) pa_nil)))
  (pss_one (ps_ret (pe_lst (pa_cons (pe_op (r := rCatA K) op_catA (pv 0) (pe_tup (pa_cons (pe_tup (pa_cons pe_str (pa_cons pe_str pa_nil))) pa_nil))) (pa_cons (pe_tup (pa_cons (pe_tup (pa_cons pe_str (pa_cons pe_str (pa_cons pe_int (pa_cons (pv 1) (pa_cons (pe_tup (pa_cons (pe_tup (pa_cons pe_str (pa_cons pe_str pa_nil))) pa_nil)) pa_nil)))))) pa_nil)) (pa_cons (pe_tup pa_nil) pa_nil))))))))), enter h fun L as ds O k e c => ?_⟩)
  obtain ⟨rfl, rfl, rfl, hk⟩ := c
  refine s_seq (s_set (w_op (w_tup (w_cons (w_tup (w_cons (w_str (w_cons (w_int (w_nil ⟨show 2 ≤ sizeLine by decide, w_cons (w_tup (w_cons (w_str (w_cons (w_int (w_nil ⟨show 2 ≤ sizeLine by decide, w_nil ⟨show 2 ≤ sizeLine by decide, w_op (w_tup (w_cons (w_tup (w_cons (w_str (w_cons (w_int (w_nil ⟨show 2 ≤ sizeLine by decide, w_nil ⟨show 1 ≤ sizeLine by decide, w_int (rv_repT1 (n := 9) (by decide) (by decide) (rv_catA (by decide +kernel) (?_)))⟩⟩))))))))⟩⟩))))))⟩))))))))))
  refine s_seq (s_set (w_tup (w_cons (w_tup (w_cons (w_str (w_cons (w_str (w_cons (w_int (w_cons (w_tup (w_cons (w_tup (w_cons (w_str (w_cons (w_str (w_cons (w_str (w_nil ⟨show 3 ≤ sizeLine by decide, w_cons (w_tup (w_cons (w_str (w_cons (w_str (w_cons (w_str (w_nil ⟨show 3 ≤ sizeLine by decide, w_nil ⟨show 2 ≤ sizeLine by decide, w_cons (w_var rfl (w_nil ⟨show 5 ≤ sizeLine by decide, w_nil ⟨show 1 ≤ sizeLine by decide, ?_⟩⟩))⟩⟩))))))))⟩)))))))))))))))))))))
  refine s_ret (w_lstF (w_cons (w_op (w_var rfl (w_tup (w_cons (w_tup (w_cons (w_str (w_cons (w_str (w_nil ⟨show 2 ≤ sizeLine by decide, w_nil ⟨show 1 ≤ sizeLine by decide, rv_catA (by decide +kernel) (w_cons (w_tup (w_cons (w_tup (w_cons (w_str (w_cons (w_str (w_cons (w_int (w_cons (w_var rfl (w_cons (w_tup (w_cons (w_tup (w_cons (w_str (w_cons (w_str (w_nil ⟨show 2 ≤ sizeLine by decide, w_nil ⟨show 1 ≤ sizeLine by decide, w_nil ⟨show 5 ≤ sizeLine by decide, w_nil ⟨show 1 ≤ sizeLine by decide, w_cons (w_tup (w_nil ⟨show 0 ≤ sizeLine by decide, w_nil ⟨show 3 ≤ sizeLine by decide, ?_⟩⟩))⟩⟩⟩⟩)))))))))))))))))))))⟩⟩))))))))))))
  refine (congrArg (fun d => k [] d []) ?_).mp hk
  rfl
theorem call_fine {K : PySem.W.Frag} {χ : Xk} {L as : List Addr} {ρ : DSt} {O : List D} {k : List Addr → D → List D → Prop} (hk : k as (.lst (MG.ffine.map MG.dRB)) O) : cc (c__law_fine K) χ ρ [] L as [] O k :=
  ⟨(no_js (as := as)).1, (no_js (as := as)).2, rfl, rfl, rfl, ck0 hk⟩
def c__law_with (K : PySem.W.Frag) : Ct := fun L as ds O k e => ∃ (ts : List D) (i : Nat) (r : D), as = [] ∧ ds = [.lst ts, .int (i : Nat), r] ∧ O = [] ∧ i < ts.length ∧ ts.length ≤ 100 ∧ k [] (.lst (MG.put ts i r)) []
theorem l__law_with {K : PySem.W.Frag} : ∀ L as ds O k e, c__law_with K L as ds O k e → ds.length = 3 := fun L as ds O k e h => by
  obtain ⟨ts, i, r, _, rfl, _⟩ := h
  rfl
theorem ok__law_with {P : Program} {w : World} {K : PySem.W.Frag} {mg : Str → Option Value} {base : Heap} (Z : Tx P w K mg) : FnOk P w K mg base (L2.CX P w) 1 (He.ga K "_law_with") (fdAt K ("_law_with", none)) ["_law_table", "_law_at", "_law_row"] (spC (c__law_with K)) := by
  refine FunD.ok (k := 0) (F__law_with Z) sc__law_with (sp_len (n := 3) l__law_with) (fun cdv A outer s H vs Q E hr h => ⟨_, PSs.nox ((pss_one (ps_ret (pe_op op_cat (pe_op op_cat (pe_slice sl_list (pv 0) po_none (po_some (pv 1))) (pe_lst (pa_cons (pv 2) pa_nil))) (pe_slice sl_list (pv 0) (po_some (pe_op op_add (pv 1) pe_int)) po_none))))), enter h fun L as ds O k e c => ?_⟩)
  obtain ⟨ts, i, r, rfl, rfl, rfl, hi, hl, hk⟩ := c
  refine s_ret (w_known (w_op (w_known (w_op (w_known (w_sl (w_var rfl (o_none (o_some (w_var rfl ⟨_, rfl, rsK ?_⟩))))))))))
  rw [cut_to (by omega)]
  refine w_lstF (w_cons (w_var rfl (w_nil ⟨show 1 ≤ sizeLine by decide, rvK ?_ ?_⟩)))
  · exact smallt (by simp; omega)
  refine w_known (w_sl (w_var rfl (o_some (w_op (w_var rfl (w_int (rv_i0 ⟨((i + 1 : Nat) : Int), by push_cast; rfl, o_none (rsK ?_)⟩)))))))
  rw [cut_from]
  refine rvK (small ?_) hk
  rw [List.length_append, List.length_take, List.length_drop]
  show _ + 1 + _ ≤ _
  omega
theorem call_with {K : PySem.W.Frag} {χ : Xk} {L as : List Addr} {ρ : DSt} {O : List D} {k : List Addr → D → List D → Prop} {ts : List D} {i : Nat} {r : D} (hi : i < ts.length) (hl : ts.length ≤ 100) (hk : k as (.lst (MG.put ts i r)) O) : cc (c__law_with K) χ ρ [] L as [.lst ts, .int (i : Nat), r] O k :=
  ⟨(no_js (as := as)).1, (no_js (as := as)).2, ts, i, r, rfl, rfl, rfl, hi, hl, ck0 hk⟩
def c__law_bodies (K : PySem.W.Frag) : Ct := fun L as ds O k e => as = [] ∧ ds = [] ∧ O = [] ∧ k [] (.lst (MG.fbads.map MG.dRB)) []
theorem l__law_bodies {K : PySem.W.Frag} : ∀ L as ds O k e, c__law_bodies K L as ds O k e → ds.length = 0 := fun L as ds O k e h => by
  obtain ⟨_, rfl, _⟩ := h
  rfl
theorem ok__law_bodies {P : Program} {w : World} {K : PySem.W.Frag} {mg : Str → Option Value} {base : Heap} (Z : Tx P w K mg) : FnOk P w K mg base (L2.CX P w) 1 (He.ga K "_law_bodies") (fdAt K ("_law_bodies", none)) [] (spC (c__law_bodies K)) := by
  refine FunD.ok (k := 0) (F__law_bodies Z) sc__law_bodies (sp_len (n := 0) l__law_bodies) (fun cdv A outer s H vs Q E hr h => ⟨_, PSs.nox ((pss_cons (ps_set (i := 0) sc__law_bodies.nd rfl (Or.inl rfl) (pe_op (r := rRepT K) op_repT (pe_tup (pa_cons (pe_tup (pa_cons pe_str (pa_cons pe_int pa_nil))) pa_nil)) pe_int))
  (pss_cons (ps_set (i := 1) sc__law_bodies.nd rfl (Or.inl rfl) (pe_lst (pa_cons (pe_tup (pa_cons (pe_tup (pa_cons pe_str (pa_cons pe_str pa_nil))) pa_nil)) (pa_cons (pe_tup (pa_cons (pe_tup (pa_cons pe_str (pa_cons pe_str pa_nil))) pa_nil)) (pa_cons (pe_tup (pa_cons (pe_tup (pa_cons pe_str (pa_cons pe_str pa_nil))) (pa_cons (pe_tup (pa_cons pe_str (pa_cons pe_int pa_nil))) (pa_cons (pe_tup (pa_cons pe_str (pa_cons pe_str pa_nil))) pa_nil)))) pa_nil)))))
  (pss_cons (ps_set (i := 1) sc__law_bodies.nd rfl (Or.inl rfl) (pe_op op_cat (pv 1) (pe_lst (pa_cons (pe_tup (pa_cons (pe_tup (pa_cons pe_str (pa_cons pe_str (pa_cons pe_int (pa_cons (pe_tup (pa_cons (pe_tup (pa_cons pe_str (pa_cons pe_str (pa_cons pe_str pa_nil)))) pa_nil)) (pa_cons (pe_tup (pa_cons (pe_tup (pa_cons pe_str (pa_cons pe_str pa_nil))) pa_nil)) pa_nil)))))) pa_nil)) (pa_cons (pe_tup (pa_cons (pe_tup (pa_cons pe_str (pa_cons pe_str (pa_cons pe_int (pa_cons (pe_tup pa_nil) (pa_cons (pe_tup pa_nil) pa_nil)))))) (pa_cons (pe_tup (pa_cons pe_str (pa_cons pe_str pa_nil))) pa_nil))) pa_nil)))))
  (pss_cons (ps_set (i := 1) sc__law_bodies.nd rfl (Or.inl rfl) (pe_op op_cat (pv 1) (pe_lst (pa_cons (pe_tup (pa_cons (pe_tup (pa_cons pe_str (pa_cons pe_str (pa_cons pe_int (pa_cons (pe_tup pa_nil) (pa_cons (pe_tup pa_nil) pa_nil)))))) pa_nil)) (pa_cons (pe_tup (pa_cons (pe_tup (pa_cons pe_str (pa_cons pe_str (pa_cons pe_int (pa_cons (pe_tup pa_nil) (pa_cons (pe_tup pa_nil) pa_nil)))))) pa_nil)) (pa_cons (pe_tup (pa_cons (pe_tup (pa_cons pe_str (pa_cons pe_int pa_nil))) pa_nil)) (pa_cons (pe_tup (pa_cons (pe_tup (pa_cons pe_str (pa_cons (pe_op op_sub pe_int pe_int) pa_nil))) pa_nil)) (pa_cons (pv 0) pa_nil))))))))
  (pss_cons (ps_set (i := 1) sc__law_bodies.nd rfl (Or.inl rfl) (pe_op op_cat (pv 1) (pe_lst (pa_cons (pe_tup (pa_cons (pe_tup (pa_cons pe_str (pa_cons pe_str (pa_cons pe_str pa_nil)))) pa_nil)) (pa_cons (pe_tup (pa_cons (pe_tup (pa_cons pe_str (pa_cons pe_str pa_nil))) pa_nil)) (pa_cons (pe_tup (pa_cons (pe_tup (pa_cons pe_str (pa_cons pe_str (pa_cons pe_int (pa_cons (pe_tup (pa_cons (pe_tup (pa_cons pe_str (pa_cons pe_int pa_nil))) pa_nil)) (pa_cons (pe_tup pa_nil) pa_nil)))))) pa_nil)) pa_nil))))))
  (pss_cons (ps_set (i := 1) sc__law_bodies.nd rfl (Or.inl rfl) (pe_op op_cat (pv 1) (pe_lst (pa_cons (pe_tup (pa_cons (pe_tup (pa_cons pe_str (pa_cons pe_str (pa_cons pe_int (pa_cons (pe_tup pa_nil) (pa_cons (pe_tup (pa_cons (pe_tup (pa_cons pe_str (pa_cons pe_str (pa_cons pe_int (pa_cons (pe_tup pa_nil) (pa_cons (pe_tup pa_nil) pa_nil)))))) pa_nil)) pa_nil)))))) pa_nil)) (pa_cons (pe_tup (pa_cons (pe_tup (pa_cons pe_str (pa_cons pe_str (pa_cons pe_int (pa_cons (pe_tup pa_nil) (pa_cons (pe_tup pa_nil) pa_nil)))))) pa_nil)) (pa_cons (pe_tup (pa_cons (pe_tup (pa_cons pe_str (pa_cons pe_str pa_nil))) pa_nil)) pa_nil))))))
  (pss_one (ps_ret (pe_op op_cat (pv 1) (pe_lst (pa_cons (pe_tup (pa_cons (pe_tup (pa_cons pe_str (pa_cons pe_str (pa_cons pe_str pa_nil)))) (pa_cons (pe_tup (pa_cons pe_str (pa_cons pe_str (pa_cons pe_str pa_nil)))) pa_nil))) (pa_cons (pe_tup (pa_cons (pe_tup (pa_cons pe_str (pa_cons pe_str (pa_cons pe_int (pa_cons (pv 0) (pa_cons (pe_tup pa_nil) pa_nil)))))) pa_nil)) (pa_cons (pe_tup (pa_cons (pe_tup (pa_cons pe_str (pa_cons pe_str (pa_cons pe_str pa_nil)))) pa_nil)) pa_nil)))))))))))))), enter h fun L as ds O k e c => ?_⟩)
  obtain ⟨rfl, rfl, rfl, hk⟩ := c
  refine s_seq (s_set (w_op (w_tup (w_cons (w_tup (w_cons (w_str (w_cons (w_int (w_nil ⟨show 2 ≤ sizeLine by decide, w_nil ⟨show 1 ≤ sizeLine by decide, w_int (rv_repT1 (n := 13) (by decide) (by decide) (?_))⟩⟩))))))))))
  refine s_seq (s_set (w_lstF (w_cons (w_tup (w_cons (w_tup (w_cons (w_str (w_cons (w_str (w_nil ⟨show 2 ≤ sizeLine by decide, w_nil ⟨show 1 ≤ sizeLine by decide, w_cons (w_tup (w_cons (w_tup (w_cons (w_str (w_cons (w_str (w_nil ⟨show 2 ≤ sizeLine by decide, w_nil ⟨show 1 ≤ sizeLine by decide, w_cons (w_tup (w_cons (w_tup (w_cons (w_str (w_cons (w_str (w_nil ⟨show 2 ≤ sizeLine by decide, w_cons (w_tup (w_cons (w_str (w_cons (w_int (w_nil ⟨show 2 ≤ sizeLine by decide, w_cons (w_tup (w_cons (w_str (w_cons (w_str (w_nil ⟨show 2 ≤ sizeLine by decide, w_nil ⟨show 3 ≤ sizeLine by decide, w_nil ⟨show 3 ≤ sizeLine by decide, ?_⟩⟩⟩))))))⟩))))))⟩))))))))⟩⟩))))))))⟩⟩)))))))))))
  refine s_seq (s_set (w_known (w_op (w_var rfl (w_lstF (w_cons (w_tup (w_cons (w_tup (w_cons (w_str (w_cons (w_str (w_cons (w_int (w_cons (w_tup (w_cons (w_tup (w_cons (w_str (w_cons (w_str (w_cons (w_str (w_nil ⟨show 3 ≤ sizeLine by decide, w_nil ⟨show 1 ≤ sizeLine by decide, w_cons (w_tup (w_cons (w_tup (w_cons (w_str (w_cons (w_str (w_nil ⟨show 2 ≤ sizeLine by decide, w_nil ⟨show 1 ≤ sizeLine by decide, w_nil ⟨show 5 ≤ sizeLine by decide, w_nil ⟨show 1 ≤ sizeLine by decide, w_cons (w_tup (w_cons (w_tup (w_cons (w_str (w_cons (w_str (w_cons (w_int (w_cons (w_tup (w_nil ⟨show 0 ≤ sizeLine by decide, w_cons (w_tup (w_nil ⟨show 0 ≤ sizeLine by decide, w_nil ⟨show 5 ≤ sizeLine by decide, w_cons (w_tup (w_cons (w_str (w_cons (w_str (w_nil ⟨show 2 ≤ sizeLine by decide, w_nil ⟨show 2 ≤ sizeLine by decide, w_nil ⟨show 2 ≤ sizeLine by decide, rvK (smallt (by simp)) (?_)⟩⟩⟩))))))⟩⟩))⟩))))))))))))⟩⟩⟩⟩))))))))⟩⟩))))))))))))))))))))))))))
  refine s_seq (s_set (w_known (w_op (w_var rfl (w_lstF (w_cons (w_tup (w_cons (w_tup (w_cons (w_str (w_cons (w_str (w_cons (w_int (w_cons (w_tup (w_nil ⟨show 0 ≤ sizeLine by decide, w_cons (w_tup (w_nil ⟨show 0 ≤ sizeLine by decide, w_nil ⟨show 5 ≤ sizeLine by decide, w_nil ⟨show 1 ≤ sizeLine by decide, w_cons (w_tup (w_cons (w_tup (w_cons (w_str (w_cons (w_str (w_cons (w_int (w_cons (w_tup (w_nil ⟨show 0 ≤ sizeLine by decide, w_cons (w_tup (w_nil ⟨show 0 ≤ sizeLine by decide, w_nil ⟨show 5 ≤ sizeLine by decide, w_nil ⟨show 1 ≤ sizeLine by decide, w_cons (w_tup (w_cons (w_tup (w_cons (w_str (w_cons (w_int (w_nil ⟨show 2 ≤ sizeLine by decide, w_nil ⟨show 1 ≤ sizeLine by decide, w_cons (w_tup (w_cons (w_tup (w_cons (w_str (w_cons (w_op (w_int (w_int (rv_i0 (w_nil ⟨show 2 ≤ sizeLine by decide, w_nil ⟨show 1 ≤ sizeLine by decide, w_cons (w_var rfl (w_nil ⟨show 5 ≤ sizeLine by decide, rvK (smallt (by simp)) (?_)⟩))⟩⟩)))))))))))⟩⟩))))))))⟩⟩⟩))⟩))))))))))))⟩⟩⟩))⟩))))))))))))))))))
  refine s_seq (s_set (w_known (w_op (w_var rfl (w_lstF (w_cons (w_tup (w_cons (w_tup (w_cons (w_str (w_cons (w_str (w_cons (w_str (w_nil ⟨show 3 ≤ sizeLine by decide, w_nil ⟨show 1 ≤ sizeLine by decide, w_cons (w_tup (w_cons (w_tup (w_cons (w_str (w_cons (w_str (w_nil ⟨show 2 ≤ sizeLine by decide, w_nil ⟨show 1 ≤ sizeLine by decide, w_cons (w_tup (w_cons (w_tup (w_cons (w_str (w_cons (w_str (w_cons (w_int (w_cons (w_tup (w_cons (w_tup (w_cons (w_str (w_cons (w_int (w_nil ⟨show 2 ≤ sizeLine by decide, w_nil ⟨show 1 ≤ sizeLine by decide, w_cons (w_tup (w_nil ⟨show 0 ≤ sizeLine by decide, w_nil ⟨show 5 ≤ sizeLine by decide, w_nil ⟨show 1 ≤ sizeLine by decide, w_nil ⟨show 3 ≤ sizeLine by decide, rvK (smallt (by simp)) (?_)⟩⟩⟩⟩))⟩⟩))))))))))))))))))⟩⟩))))))))⟩⟩))))))))))))))))
  refine s_seq (s_set (w_known (w_op (w_var rfl (w_lstF (w_cons (w_tup (w_cons (w_tup (w_cons (w_str (w_cons (w_str (w_cons (w_int (w_cons (w_tup (w_nil ⟨show 0 ≤ sizeLine by decide, w_cons (w_tup (w_cons (w_tup (w_cons (w_str (w_cons (w_str (w_cons (w_int (w_cons (w_tup (w_nil ⟨show 0 ≤ sizeLine by decide, w_cons (w_tup (w_nil ⟨show 0 ≤ sizeLine by decide, w_nil ⟨show 5 ≤ sizeLine by decide, w_nil ⟨show 1 ≤ sizeLine by decide, w_nil ⟨show 5 ≤ sizeLine by decide, w_nil ⟨show 1 ≤ sizeLine by decide, w_cons (w_tup (w_cons (w_tup (w_cons (w_str (w_cons (w_str (w_cons (w_int (w_cons (w_tup (w_nil ⟨show 0 ≤ sizeLine by decide, w_cons (w_tup (w_nil ⟨show 0 ≤ sizeLine by decide, w_nil ⟨show 5 ≤ sizeLine by decide, w_nil ⟨show 1 ≤ sizeLine by decide, w_cons (w_tup (w_cons (w_tup (w_cons (w_str (w_cons (w_str (w_nil ⟨show 2 ≤ sizeLine by decide, w_nil ⟨show 1 ≤ sizeLine by decide, w_nil ⟨show 3 ≤ sizeLine by decide, rvK (smallt (by simp)) (?_)⟩⟩⟩))))))))⟩⟩⟩))⟩))))))))))))⟩⟩⟩⟩⟩))⟩))))))))))))⟩))))))))))))))))))
  refine s_ret (w_known (w_op (w_var rfl (w_lstF (w_cons (w_tup (w_cons (w_tup (w_cons (w_str (w_cons (w_str (w_cons (w_str (w_nil ⟨show 3 ≤ sizeLine by decide, w_cons (w_tup (w_cons (w_str (w_cons (w_str (w_cons (w_str (w_nil ⟨show 3 ≤ sizeLine by decide, w_nil ⟨show 2 ≤ sizeLine by decide, w_cons (w_tup (w_cons (w_tup (w_cons (w_str (w_cons (w_str (w_cons (w_int (w_cons (w_var rfl (w_cons (w_tup (w_nil ⟨show 0 ≤ sizeLine by decide, w_nil ⟨show 5 ≤ sizeLine by decide, w_nil ⟨show 1 ≤ sizeLine by decide, w_cons (w_tup (w_cons (w_tup (w_cons (w_str (w_cons (w_str (w_cons (w_str (w_nil ⟨show 3 ≤ sizeLine by decide, w_nil ⟨show 1 ≤ sizeLine by decide, w_nil ⟨show 3 ≤ sizeLine by decide, rvK (smallt (by simp)) (?_)⟩⟩⟩))))))))))⟩⟩⟩))))))))))))))⟩⟩))))))))⟩)))))))))))))))
  refine (congrArg (fun d => k [] d []) ?_).mp hk
  rfl
theorem call_bodies {K : PySem.W.Frag} {χ : Xk} {L as : List Addr} {ρ : DSt} {O : List D} {k : List Addr → D → List D → Prop} (hk : k as (.lst (MG.fbads.map MG.dRB)) O) : cc (c__law_bodies K) χ ρ [] L as [] O k :=
  ⟨(no_js (as := as)).1, (no_js (as := as)).2, rfl, rfl, rfl, ck0 hk⟩
def c__law_name (K : PySem.W.Frag) : Ct := fun L as ds O k e => ∃ (s m : Int) (d : D) (zs : List Str), ds = [.int s, .int m, d] ∧ lstOf as O d (zs.map D.str) ∧ zs.length ≤ 100 ∧ -1000 ≤ m ∧ m ≤ 1000 ∧
  ∀ nm : Str, MN.nameL (MN.tl nm) = true → nm.length ≤ 4 + zs.length → nm ∉ zs → k as (.str nm) O
theorem l__law_name {K : PySem.W.Frag} : ∀ L as ds O k e, c__law_name K L as ds O k e → ds.length = 3 := fun L as ds O k e h => by
  obtain ⟨s, m, d, zs, rfl, _⟩ := h
  rfl
theorem ok__law_name {P : Program} {w : World} {K : PySem.W.Frag} {mg : Str → Option Value} {base : Heap} (Z : Tx P w K mg) : FnOk P w K mg base (L2.CX P w) 1 (He.ga K "_law_name") (fdAt K ("_law_name", none)) ["_law_seed", "_law_k", "_law_taken"] (spC (c__law_name K)) := by
  refine FunD.ok (k := 0) (F__law_name Z) sc__law_name (sp_len (n := 3) l__law_name) (fun cdv A outer s H vs Q E hr h => ⟨_, PSs.nox ((pss_cons (ps_set (i := 3) sc__law_name.nd rfl (Or.inl rfl) pe_str)
  (pss_cons (ps_set (i := 4) sc__law_name.nd rfl (Or.inl rfl) (pe_op op_mod (pe_callTy call_int1 (by rfl) (Z.free 11 rfl) PyProof.Rows.boot_int (pa_cons (pe_op op_mul (pe_op op_mul (pe_op op_add (pv 0) pe_int) (pe_op op_add (pv 1) pe_int)) pe_int) pa_nil)) pe_int))
  (pss_cons (ps_set (i := 5) sc__law_name.nd rfl (Or.inl rfl) (pe_ix (r := rIxS) ix_str (pv 3) (pe_op op_mod (pv 4) pe_int) (fun _ _ => rfl)))
  (pss_cons (ps_for PassesOwn.never rfl (pi_range1 (by rfl) (Z.free 12 rfl) (pa_cons (pe_op op_mod (pe_op op_fdiv (pv 4) pe_int) pe_int) pa_nil)) (pg_name (i := 6) sc__law_name.nd rfl (Or.inl rfl))
  (pss_cons (ps_set (i := 4) sc__law_name.nd rfl (Or.inl rfl) (pe_op op_mod (pe_callTy call_int1 (by rfl) (Z.free 11 rfl) PyProof.Rows.boot_int (pa_cons (pe_op op_add (pe_op op_mul (pv 4) pe_int) pe_int) pa_nil)) pe_int))
  (pss_one (ps_set (i := 5) sc__law_name.nd rfl (Or.inl rfl) (pe_op op_add_str (pv 5) (pe_ix (r := rIxS) ix_str (pv 3) (pe_op op_mod (pe_op op_fdiv (pv 4) pe_int) pe_int) (fun _ _ => rfl)))))))
  (pss_cons (ps_for PassesOwn.never rfl (pi_range1 (by rfl) (Z.free 12 rfl) (pa_cons (pe_callB (r := fun xs H Q => ∃ x n, xs = [x] ∧ LenV K x H n ∧ Q (.int n) H) call_len (by rfl) (Z.free 10 rfl) PySem.boot_len (pa_cons (pv 2) pa_nil)) pa_nil)) (pg_name (i := 6) sc__law_name.nd rfl (Or.inl rfl))
  (pss_one (ps_if (pt_cmpR (r := rIn K false) op_in_seq (pv 5) (pv 2) (by rfl))
  (pss_one (ps_set (i := 5) sc__law_name.nd rfl (Or.inl rfl) (pe_op op_add_str (pv 5) pe_str)))
  pss_nil)))
  (pss_one (ps_ret (pv 5))))))))), enter h fun L as ds O k e c => ?_⟩)
  obtain ⟨sd, m, d, zs, rfl, hR, hz, hm1, hm2, hk⟩ := c
  k_subL
  refine rv_i (.inr ⟨by omega, by omega⟩) ?_
  k_subL
  refine rv_i (.inr ⟨by decide, by decide⟩) ?_
  k_subL
  refine rv_i (by decide) ?_
  have hx : 0 ≤ ((sd + 1) * (m + 5) * 48271) % 2147483647 ∧ ((sd + 1) * (m + 5) * 48271) % 2147483647 < 2147483647 := ⟨Int.emod_nonneg _ (by decide), Int.emod_lt_of_pos _ (by decide)⟩
  generalize ((sd + 1) * (m + 5) * 48271) % 2147483647 = x at hx
  k_subL
  refine rv_i (by decide) ?_
  obtain ⟨c0, h0, h1, h2⟩ := MN.let_at (n := x)
  refine rv_ixS (z := MN.alnS) (by decide +kernel) h0 ?_
  refine s_seq (s_for (i_range ?_))
  k_subL
  refine rv_i ⟨by decide, by decide⟩ ?_
  k_subL
  refine rv_i (by decide) ?_
  k_subL
  have hr : 0 ≤ x / 52 % 4 ∧ x / 52 % 4 < 4 := ⟨Int.emod_nonneg _ (by decide), Int.emod_lt_of_pos _ (by decide)⟩
  refine ⟨_, rfl, by omega, by omega, fun i as' ρ O' => ∃ (y : Int) (nm : Str) (x6 : Option D), as' = as ∧ O' = O ∧ ρ = [some (.int sd), some (.int m), some d, some (.str MN.alnS), some (.int y), some (.str nm), x6] ∧
    MN.nameL (MN.tl nm) = true ∧ nm.length = i + 1 ∧ 0 ≤ y ∧ y < 2147483647, ⟨x, _, none, rfl, rfl, rfl, ?_, rfl, hx⟩, ?_, ?_⟩
  · show (decide (c0 ∈ MN.tl MN.letS) && true) = true
    rw [h1]
    rfl
  · rintro i as' ρ O' c hc ⟨y, nm, x6, rfl, rfl, rfl, hn, hl, hy⟩
    obtain ⟨hi, rfl⟩ := upto_at hc
    k_subL
    refine rv_i (.inr ⟨by decide, by decide⟩) ?_
    k_subL
    refine rv_i (by decide) ?_
    have hv : 0 ≤ (y * 69621 + 1) % 2147483629 ∧ (y * 69621 + 1) % 2147483629 < 2147483629 := ⟨Int.emod_nonneg _ (by decide), Int.emod_lt_of_pos _ (by decide)⟩
    generalize (y * 69621 + 1) % 2147483629 = v at hv
    k_subL
    refine rv_i ⟨by decide, by decide⟩ ?_
    k_subL
    refine rv_i (by decide) ?_
    obtain ⟨c1, h3, h4, h5⟩ := MN.aln_at (n := v / 64) (m := 62) (by decide) (by decide)
    have hlen : (nm ++ (⟨#[c1]⟩ : Str)).length = i + 1 + 1 := by
      rw [MN.len_tl, MN.tl_app, List.length_append, ← MN.len_tl, hl]
      rfl
    refine rv_ixS (z := MN.alnS) (by decide +kernel) h3 (rv_addS (small ?_) ⟨v, _, _, rfl, rfl, rfl, ?_, hlen, by omega, by omega⟩)
    · show nm.length + 1 ≤ _
      omega
    · rw [MN.tl_app]
      refine MN.nameL_app hn ?_
      show (MN.okc c1 && true) = true
      rw [h4]
      rfl
  · rintro as' ρ O' ⟨y, nm, x6, rfl, rfl, rfl, hn, hl, hy⟩
    rw [upto_len] at hl
    refine s_seq (s_for (i_range ?_))
    k_subL
    refine rc_len (n := zs.length) ?_ ?_
    · rcases hR with rfl | ⟨j, a, rfl, e1, e2⟩
      · exact (List.length_map ..).symm
      · exact ⟨j, _, e1, e2, (List.length_map ..).symm⟩
    k_subL
    refine ⟨_, rfl, by omega, by omega, fun i as2 ρ O2 => ∃ (n : Nat) (x6 : Option D), as2 = as' ∧ O2 = O' ∧ ρ = [some (.int sd), some (.int m), some d, some (.str MN.alnS), some (.int y), some (.str (nm ++ MN.exs n)), x6] ∧
      n ≤ i ∧ (nm ++ MN.exs n ∈ zs → n = i ∧ ∀ j, j ≤ i → nm ++ MN.exs j ∈ zs), ⟨0, x6, rfl, rfl, ?_, Nat.le_refl _, fun h => ⟨rfl, fun j hj => by rw [show j = 0 by omega]; exact h⟩⟩, ?_, ?_⟩
    · rw [MN.exs_zero]
    · rintro i as2 ρ O2 c hc ⟨n, x6, rfl, rfl, rfl, hni, hin⟩
      obtain ⟨hi, rfl⟩ := upto_at hc
      have hi : i < zs.length := by simpa using hi
      have len : ∀ q, (nm ++ MN.exs q).length = nm.length + q := fun q => by
        rw [MN.len_tl, MN.tl_app, List.length_append, ← MN.len_tl, MN.tl_exs, List.length_replicate]
      k_subL
      refine rv_inL (KK := K) (.inl hR) (b_dec (fun h => ?_) fun h => ?_)
      · obtain ⟨rfl, hall⟩ := hin h
        refine s_set (w_op (w_var rfl (w_str (rv_addS (small ?_) ?_))))
        · rw [len]
          show _ + 1 ≤ _
          omega
        rw [MN.exs_succ]
        refine ⟨n + 1, _, rfl, rfl, rfl, Nat.le_refl _, fun h' => ⟨rfl, fun j hj => ?_⟩⟩
        rcases Nat.lt_or_ge n j with z | z
        · rw [show j = n + 1 by omega]; exact h'
        · exact hall j z
      · exact s_next ⟨n, _, rfl, rfl, rfl, by omega, fun h' => absurd h' h⟩
    · rintro as2 ρ O2 ⟨n, x6, rfl, rfl, rfl, hni, hin⟩
      rw [upto_len] at hni hin
      have en : (zs.length : Int).toNat = zs.length := by omega
      rw [en] at hni hin
      refine s_ret (w_var rfl (hk _ ?_ ?_ fun h => ?_))
      · rw [MN.tl_app, MN.tl_exs]
        refine MN.nameL_app hn ?_
        rw [List.all_eq_true]
        intro c hc
        rw [(List.mem_replicate.mp hc).2]
        decide +kernel
      · rw [MN.len_tl, MN.tl_app, List.length_append, ← MN.len_tl, MN.tl_exs, List.length_replicate]
        omega
      · obtain ⟨_, hall⟩ := hin h
        have := MN.pigeon (f := fun j => nm ++ MN.exs j) (fun i j => MN.exs_inj nm) (zs.length + 1) zs fun j hj => hall j (by omega)
        omega
theorem call_name {K : PySem.W.Frag} {χ : Xk} {L as : List Addr} {ρ : DSt} {O : List D} {k : List Addr → D → List D → Prop} {s m : Int} {d : D} {zs : List Str} (hR : lstOf as O d (zs.map D.str)) (hz : zs.length ≤ 100) (h1 : -1000 ≤ m) (h2 : m ≤ 1000)
    (hk : ∀ nm : Str, MN.nameL (MN.tl nm) = true → nm.length ≤ 4 + zs.length → nm ∉ zs → k as (.str nm) O) : ∃ js, cc (c__law_name K) χ ρ js L as [.int s, .int m, d] O k := by
  rcases hR with rfl | ⟨j, a, rfl, ha, ho⟩
  · exact ⟨[], (no_js (as := as)).1, (no_js (as := as)).2, s, m, _, zs, rfl, .inl rfl, hz, h1, h2, fun nm g1 g2 g3 => ck0 (hk nm g1 g2 g3)⟩
  · obtain ⟨s1, s2, s3, s4, s5⟩ := sel1 ha ho
    refine ⟨[j], s1, s2, s, m, _, zs, rfl, ?_, hz, h1, h2, fun nm g1 g2 g3 => ?_⟩
    · rw [s3, s4]
      exact lo_o 0 rfl rfl
    · have e : O.set j (.lst (zs.map D.str)) = O := by
        apply List.ext_getElem?
        intro i
        by_cases z : j = i
        · subst z
          rw [List.getElem?_set_self (List.getElem?_eq_some_iff.mp ho).1, ho]
        · rw [List.getElem?_set_ne z]
      have := ck1 (O := O) s5 (c := .lst (zs.map D.str)) (by rw [e]; exact hk nm g1 g2 g3)
      rw [s3, s4]
      rw [s3] at this
      exact this
def c__law_parts (K : PySem.W.Frag) : Ct := fun L as ds O k e => ∃ (a : Addr) (s : Int) (nms : List Str) (b : Bool) (ns : List Int), as = [a] ∧ ds = [.adr a, .int s, .lst (nms.map D.str), .bl b] ∧ O = [.lst (ns.map D.int)] ∧ nms.length ≤ 50 ∧
  ∀ (ps : List MR.Part) (ns' : List Int), MR.Drawn nms b ps → k [a] (.tup (ps.map MR.dPart)) [.lst (ns'.map D.int)]
theorem l__law_parts {K : PySem.W.Frag} : ∀ L as ds O k e, c__law_parts K L as ds O k e → ds.length = 4 := fun L as ds O k e h => by
  obtain ⟨a, s, nms, b, ns, _, rfl, _⟩ := h
  rfl
theorem ok__law_parts {P : Program} {w : World} {K : PySem.W.Frag} {mg : Str → Option Value} {base : Heap} (Z : Tx P w K mg) : FnOk P w K mg base (L2.CX P w) 2 (He.ga K "_law_parts") (fdAt K ("_law_parts", none)) ["_law_pool_here", "_law_seed", "_law_names", "_law_base"] (spC (c__law_parts K)) := by
  refine FunD.ok (k := 1) (F__law_parts Z) sc__law_parts (sp_len (n := 4) l__law_parts) (fun cdv A outer s H vs Q E hr h => ⟨_, PSs.nox ((pss_cons (ps_set (i := 4) sc__law_parts.nd rfl (Or.inl rfl) (pe_lst pa_nil))
  (pss_cons (ps_set (i := 5) sc__law_parts.nd rfl (Or.inl rfl) (pe_lst pa_nil))
  (pss_cons (ps_set (i := 6) sc__law_parts.nd rfl (Or.inl rfl) pe_int)
  (pss_cons (ps_for PassesOwn.never rfl (pi_range1 (by rfl) (Z.free 12 rfl) (pa_cons (pe_op op_mod (pe_callTy call_int1 (by rfl) (Z.free 11 rfl) PyProof.Rows.boot_int (pa_cons (pe_op op_add pe_int (pe_call (ok__law_take Z) (hr.mono (by decide)) (by rfl) (Z.glo 1 rfl) (Z.kp 1 rfl) (b__law_take Z) .nil passN (pa_cons (pv 0) (pa_cons pe_int pa_nil)))) pa_nil)) pe_int) pa_nil)) (pg_name (i := 7) sc__law_parts.nd rfl (Or.inl rfl))
  (pss_cons (ps_expr (pe_bm PySem.F.plainAttrs_list PySem.F.slot_list_append PySem.F.type_list_append mt_append (pv 5) (pa_cons (pe_call (ok__law_name Z) (hr.mono (by decide)) (by rfl) (Z.glo 76 rfl) (Z.kp 25 rfl) (b__law_name Z) .nil passN (pa_cons (pv 1) (pa_cons (pv 7) (pa_cons (pv 5) pa_nil)))) pa_nil)))
  (pss_cons (ps_set (i := 8) sc__law_parts.nd rfl (Or.inl rfl) (pe_call (ok__law_take Z) (hr.mono (by decide)) (by rfl) (Z.glo 1 rfl) (Z.kp 1 rfl) (b__law_take Z) .nil passN (pa_cons (pv 0) (pa_cons (pe_op op_add (pe_callB (r := fun xs H Q => ∃ x n, xs = [x] ∧ LenV K x H n ∧ Q (.int n) H) call_len (by rfl) (Z.free 10 rfl) PySem.boot_len (pa_cons (pv 2) pa_nil)) pe_int) pa_nil))))
  (pss_cons (ps_set (i := 9) sc__law_parts.nd rfl (Or.inl rfl) (pe_op op_add pe_int (pe_call (ok__law_take Z) (hr.mono (by decide)) (by rfl) (Z.glo 1 rfl) (Z.kp 1 rfl) (b__law_take Z) .nil passN (pa_cons (pv 0) (pa_cons (pe_ix (r := rIxL K) ix_list (pe_lst (pa_cons pe_int (pa_cons pe_int pa_nil))) (pe_call (ok__law_take Z) (hr.mono (by decide)) (by rfl) (Z.glo 1 rfl) (Z.kp 1 rfl) (b__law_take Z) .nil passN (pa_cons (pv 0) (pa_cons pe_int pa_nil))) (fun _ _ => rfl)) pa_nil)))))
  (pss_one (ps_if (PW.pt (pw_or (pt_cmpR op_eq (pv 8) (pe_callB (r := fun xs H Q => ∃ x n, xs = [x] ∧ LenV K x H n ∧ Q (.int n) H) call_len (by rfl) (Z.free 10 rfl) PySem.boot_len (pa_cons (pv 2) pa_nil)) (nomark _)) (pw_or1 (PW.pt (pw_and (pt_val (pv 3)) (pw_and1 (pt_cmpR op_eq (pv 6) pe_int (nomark _))))))))
  (pss_one (ps_expr (pe_bm PySem.F.plainAttrs_list PySem.F.slot_list_append PySem.F.type_list_append mt_append (pv 4) (pa_cons (pe_tup (pa_cons (pe_ix (r := rIxL K) ix_list (pv 5) (pv 7) (fun _ _ => rfl)) (pa_cons pe_str pa_nil))) pa_nil))))
  (pss_cons (ps_set (i := 6) sc__law_parts.nd rfl (Or.inl rfl) (pe_op op_add (pv 6) pe_int))
  (pss_one (ps_expr (pe_bm PySem.F.plainAttrs_list PySem.F.slot_list_append PySem.F.type_list_append mt_append (pv 4) (pa_cons (pe_tup (pa_cons (pe_ix (r := rIxL K) ix_list (pv 5) (pv 7) (fun _ _ => rfl)) (pa_cons (pe_ix (r := rIxL K) ix_list (pv 2) (pv 8) (fun _ _ => rfl)) (pa_cons (pv 9) pa_nil)))) pa_nil)))))))))))
  (pss_one (ps_ret (pe_callTy call_tuple_of (by rfl) (Z.free 18 rfl) PyProof.Rows.boot_tuple (pa_cons (pv 4) pa_nil))))))))), enter h fun L as ds O k e c => ?_⟩)
  obtain ⟨a, sd, nms, b, ns, rfl, rfl, rfl, hn, hk⟩ := c
  refine s_seq (s_set (w_lst (w_nil ⟨Nat.zero_le _, fun pp => ?_⟩)))
  refine s_seq (s_set (w_lst (w_nil ⟨Nat.zero_le _, fun tt => ?_⟩)))
  k_subL
  refine s_for (i_range ?_)
  k_subL
  refine d_call [0] ?_
  k_subL
  refine call_take rfl rfl (by decide) fun r ns1 h1 h2 => ?_
  k_subL
  refine rv_i (by decide) ?_
  k_subL
  have hr : 0 ≤ (2 + r) % 5 ∧ (2 + r) % 5 < 5 := ⟨Int.emod_nonneg _ (by decide), Int.emod_lt_of_pos _ (by decide)⟩
  refine ⟨_, rfl, by omega, by omega, fun i as ρ O => ∃ (ns : List Int) (ps : List MR.Part) (x7 x8 x9 : Option D), as = [a, pp, tt] ∧
    ρ = [some (.adr a), some (.int sd), some (.lst (nms.map D.str)), some (.bl b), some (.adr pp), some (.adr tt), some (.int (MR.trees ps : Nat)), x7, x8, x9] ∧
    O = [.lst (ns.map D.int), .lst (ps.map MR.dPart), .lst ((ps.map (·.nm)).map D.str)] ∧ ps.length = i ∧ MR.Drawn nms b ps, ⟨ns1, [], none, none, none, rfl, rfl, rfl, rfl, MR.Drawn.nil⟩, ?_, ?_⟩
  · rintro i as ρ O c hc ⟨ns, ps, x7, x8, x9, rfl, rfl, rfl, hl, hd⟩
    obtain ⟨hi, rfl⟩ := upto_at hc
    have hi : i < 4 := by omega
    k_subL
    refine w_append 2 rfl rfl rfl ?_
    refine d_callE ?_
    k_subL
    refine call_name (zs := ps.map (·.nm)) (lo_o 2 rfl rfl) (by rw [List.length_map]; omega) (by omega) (by omega) fun nm g1 g2 g3 => ?_
    refine ⟨_, rfl, rfl, smallt (by simp; omega), ?_⟩
    k_subL
    refine d_call [0] ?_
    k_subL
    refine rc_len (n := nms.length) (List.length_map ..).symm ?_
    k_subL
    refine call_take rfl rfl (by omega) fun pick ns2 p1 p2 => ?_
    k_subL
    refine d_call [0] ?_
    k_subL
    refine w_lstF ?_
    k_subL
    refine ⟨by decide, ?_⟩
    refine d_call [0] ?_
    k_subL
    refine call_take rfl rfl (by decide) fun q ns3 q1 q2 => ?_
    have hq : ∃ m : Int, atI [D.int 4, D.int 1000] q = some (.int m) ∧ 0 < m ∧ m ≤ 1000 := by
      have : q = 0 ∨ q = 1 := by omega
      rcases this with rfl | rfl
      · exact ⟨4, rfl, by decide, by decide⟩
      · exact ⟨1000, rfl, by decide, by decide⟩
    obtain ⟨mm, em, m1, m2⟩ := hq
    refine rv_ixL em ?_
    k_subL
    refine call_take rfl rfl m1 fun pr ns4 r1 r2 => ?_
    k_subL
    have hnm : nm.length ≤ 8 := by have := g2; rw [List.length_map] at this; omega
    have hat : ((ps.map (·.nm)).map D.str ++ [D.str nm])[i]? = some (D.str nm) := by
      rw [List.getElem?_append_right (by simp; omega)]
      simp [hl]
    have hat' : atI ((ps.map (·.nm)).map D.str ++ [D.str nm]) (i : Nat) = some (D.str nm) := atI_nat hat
    refine dW.imp (k := fun as' b' O' => as' = [a, pp, tt] ∧ O' = [D.lst (ns4.map D.int), D.lst (ps.map MR.dPart), D.lst ((ps.map (·.nm)).map D.str ++ [D.str nm])] ∧ b' = (decide (pick = nms.length) || (b && decide (MR.trees ps = 2)))) ?_ ?_
    · refine w_or ?_
      k_subL
      refine rc_len (n := nms.length) (List.length_map ..).symm ?_
      refine rv_eq rfl ?_
      refine ⟨_, rfl, ?_⟩
      show if (pick == (nms.length : Int)) = true then _ else _
      rw [show (pick == (nms.length : Int)) = decide (pick = nms.length) from rfl]
      refine i_dec (fun e => ⟨rfl, rfl, by rw [decide_eq_true e]; rfl⟩) fun e => ?_
      refine w_and ?_
      k_subL
      refine ⟨_, rfl, ?_⟩
      cases b with
      | false => exact ⟨rfl, rfl, by rw [decide_eq_false e]; rfl⟩
      | true =>
        rw [if_pos rfl]
        k_subL
        refine rv_eq rfl ?_
        refine ⟨_, rfl, rfl, rfl, ?_⟩
        rw [decide_eq_false e]
        show ((MR.trees ps : Int) == 2) = decide (MR.trees ps = 2)
        rw [Bool.eq_iff_iff, beq_iff_eq, decide_eq_true_eq]
        omega
    · rintro _ c _ ⟨rfl, rfl, rfl⟩
      refine i_bl (fun hb => ?_) fun hb => ?_
      · k_subL
        refine w_append 1 rfl rfl rfl ?_
        refine w_tup ?_
        k_subL
        refine rv_ixO 2 rfl rfl hat' ?_
        k_subL
        refine ⟨small (n := 2) (by decide), _, rfl, rfl, smallt (by rw [List.length_map]; omega), ?_⟩
        refine ⟨ns4, ps ++ [⟨nm, MR.byteS, none⟩], _, _, _, rfl, by rw [MR.trees_app]; rfl, by simp [MR.dPart]; rfl, by simp [hl], hd.snoc (by omega) g1 hnm g3 (.inl ⟨rfl, rfl⟩) fun _ z => by cases z⟩
      · simp only [Bool.or_eq_false_iff, decide_eq_false_iff_not, Bool.and_eq_false_iff] at hb
        obtain ⟨n, en⟩ : ∃ n : Nat, pick = n := ⟨pick.toNat, by omega⟩
        subst en
        have hlt : n < nms.length := by have := hb.1; omega
        have hin : atI (nms.map D.str) (n : Int) = some (.str nms[n]) := atI_nat (by rw [List.getElem?_map, List.getElem?_eq_getElem hlt]; rfl)
        k_subL
        refine w_append 1 rfl rfl rfl ?_
        refine w_tup ?_
        k_subL
        refine rv_ixO 2 rfl rfl hat' ?_
        k_subL
        refine rv_ixL hin ?_
        k_subL
        refine ⟨small (n := 3) (by decide), _, rfl, rfl, smallt (by rw [List.length_map]; omega), ?_⟩
        have few : b = true → (some (1 + pr)).isSome = true → MR.trees ps < 2 := fun e _ => by
          have h2 := hd.few e
          rcases hb.2 with z | z
          · rw [e] at z; cases z
          · omega
        refine ⟨ns4, ps ++ [⟨nm, nms[n], some (1 + pr)⟩], _, _, _, rfl, by rw [MR.trees_app]; rfl, by simp [MR.dPart], by simp [hl], hd.snoc (by omega) g1 hnm g3 (.inr ⟨List.getElem_mem hlt, _, rfl, by omega, by omega⟩) few⟩
  · rintro as ρ O ⟨ns, ps, x7, x8, x9, rfl, rfl, rfl, hl, hd⟩
    refine s_ret (w_let 1 (w_let 1 ?_))
    k_subL
    refine rc_tupL (ds := ps.map MR.dPart) (.inl (lo_o 1 rfl rfl)) ?_
    exact hk ps ns hd
theorem call_parts {K : PySem.W.Frag} {χ : Xk} {L as : List Addr} {ρ : DSt} {O : List D} {k : List Addr → D → List D → Prop} {j : Nat} {a : Addr} {ns : List Int} {s : Int} {nms : List Str} {b : Bool} (ha : as[j]? = some a) (ho : O[j]? = some (.lst (ns.map D.int))) (hn : nms.length ≤ 50)
    (hk : ∀ (ps : List MR.Part) (ns' : List Int), MR.Drawn nms b ps → k as (.tup (ps.map MR.dPart)) (O.set j (.lst (ns'.map D.int)))) : cc (c__law_parts K) χ ρ [j] L as [.adr a, .int s, .lst (nms.map D.str), .bl b] O k := by
  obtain ⟨s1, s2, s3, s4, s5⟩ := sel1 ha ho
  refine ⟨s1, s2, ?_⟩
  rw [s3, s4]
  exact ⟨a, s, nms, b, ns, rfl, rfl, rfl, hn, fun ps ns' h => by
    have := ck1 (O := O) s5 (hk ps ns' h)
    rw [s3] at this
    exact this⟩
def c__law_rows (K : PySem.W.Frag) : Ct := fun L as ds O k e => ∃ (a : Addr) (ns : List Int), as = [a] ∧ ds = [.adr a] ∧ O = [.lst (ns.map D.int)] ∧
  ∀ (nms : List Str) (rows : List MR.Row) (ns' : List Int), MR.Table nms rows → (rows.length ≤ 9 ∧ ∀ r ∈ rows, r.maker.length ≤ 14) → k [a] (.lst (rows.map MR.dRow)) [.lst (ns'.map D.int)]
theorem l__law_rows {K : PySem.W.Frag} : ∀ L as ds O k e, c__law_rows K L as ds O k e → ds.length = 1 := fun L as ds O k e h => by
  obtain ⟨a, ns, _, rfl, _⟩ := h
  rfl
theorem ok__law_rows {P : Program} {w : World} {K : PySem.W.Frag} {mg : Str → Option Value} {base : Heap} (Z : Tx P w K mg) : FnOk P w K mg base (L2.CX P w) 3 (He.ga K "_law_rows") (fdAt K ("_law_rows", none)) ["_law_pool_here"] (spC (c__law_rows K)) := by
  refine FunD.ok (k := 2) (F__law_rows Z) sc__law_rows (sp_len (n := 1) l__law_rows) (fun cdv A outer s H vs Q E hr h => ⟨_, PSs.nox ((pss_cons (ps_set (i := 1) sc__law_rows.nd rfl (Or.inl rfl) (pe_call (ok__law_take Z) (hr.mono (by decide)) (by rfl) (Z.glo 1 rfl) (Z.kp 1 rfl) (b__law_take Z) .nil passN (pa_cons (pv 0) (pa_cons pe_int pa_nil))))
  (pss_cons (ps_set (i := 2) sc__law_rows.nd rfl (Or.inl rfl) (pe_lst pa_nil))
  (pss_cons (ps_for PassesOwn.never rfl (pi_range1 (by rfl) (Z.free 12 rfl) (pa_cons (pe_op op_add pe_int (pe_call (ok__law_take Z) (hr.mono (by decide)) (by rfl) (Z.glo 1 rfl) (Z.kp 1 rfl) (b__law_take Z) .nil passN (pa_cons (pv 0) (pa_cons pe_int pa_nil)))) pa_nil)) (pg_name (i := 3) sc__law_rows.nd rfl (Or.inl rfl))
  (pss_one (ps_expr (pe_bm PySem.F.plainAttrs_list PySem.F.slot_list_append PySem.F.type_list_append mt_append (pv 2) (pa_cons (pe_call (ok__law_name Z) (hr.mono (by decide)) (by rfl) (Z.glo 76 rfl) (Z.kp 25 rfl) (b__law_name Z) .nil passN (pa_cons (pv 1) (pa_cons (pv 3) (pa_cons (pe_op op_cat (pe_lst (pa_cons pe_str pa_nil)) (pv 2)) pa_nil)))) pa_nil)))))
  (pss_cons (ps_set (i := 4) sc__law_rows.nd rfl (Or.inl rfl) (pe_lst pa_nil))
  (pss_cons (ps_for PassesOwn.never rfl (pi_range1 (by rfl) (Z.free 12 rfl) (pa_cons (pe_callB (r := fun xs H Q => ∃ x n, xs = [x] ∧ LenV K x H n ∧ Q (.int n) H) call_len (by rfl) (Z.free 10 rfl) PySem.boot_len (pa_cons (pv 2) pa_nil)) pa_nil)) (pg_name (i := 3) sc__law_rows.nd rfl (Or.inl rfl))
  (pss_cons (ps_set (i := 6) sc__law_rows.nd rfl (Or.inl rfl) (pe_op op_add pe_int (pe_op op_mod (pe_callTy call_int1 (by rfl) (Z.free 11 rfl) PyProof.Rows.boot_int (pa_cons (pe_op op_add pe_int (pe_call (ok__law_take Z) (hr.mono (by decide)) (by rfl) (Z.glo 1 rfl) (Z.kp 1 rfl) (b__law_take Z) .nil passN (pa_cons (pv 0) (pa_cons pe_int pa_nil)))) pa_nil)) pe_int)))
  (pss_cons (ps_set (i := 7) sc__law_rows.nd rfl (Or.inl rfl) (pe_call (ok__law_take Z) (hr.mono (by decide)) (by rfl) (Z.glo 1 rfl) (Z.kp 1 rfl) (b__law_take Z) .nil passN (pa_cons (pv 0) (pa_cons (pv 6) pa_nil))))
  (pss_one (ps_for PassesOwn.never rfl (pi_range1 (by rfl) (Z.free 12 rfl) (pa_cons (pv 6) pa_nil)) (pg_name (i := 8) sc__law_rows.nd rfl (Or.inl rfl))
  (pss_cons (ps_set (i := 9) sc__law_rows.nd rfl (Or.inl rfl) (pe_call (ok__law_name Z) (hr.mono (by decide)) (by rfl) (Z.glo 76 rfl) (Z.kp 25 rfl) (b__law_name Z) .nil passN (pa_cons (pe_op op_fdiv (pv 1) pe_int) (pa_cons (pe_callB (r := fun xs H Q => ∃ x n, xs = [x] ∧ LenV K x H n ∧ Q (.int n) H) call_len (by rfl) (Z.free 10 rfl) PySem.boot_len (pa_cons (pv 4) pa_nil)) (pa_cons (pe_lc rfl sc__law_rows.nd (pi_list (pv 4)) (blkOk_by (own := [("_law_row", 11)]) (N := N__law_rows) (sc := defScope s__law_rows) (by decide +kernel)) (fun _ _ _ _ _ => (pg_name (i := 11) sc__law_rows.nd rfl (by first | exact Or.inl rfl | exact Or.inr rfl))) (fun _ _ _ _ _ => pts_nil) (fun _ _ _ _ _ => (pe_ix (r := rIxT K) ix_tup (pv 11) pe_int (fun _ _ => rfl)))) pa_nil)))))
  (pss_cons (ps_set (i := 10) sc__law_rows.nd rfl (Or.inl rfl) (pv 2))
  (pss_cons (ps_if (pt_cmpR op_eq (pv 8) (pv 7) (nomark _))
  (pss_one (ps_set (i := 10) sc__law_rows.nd rfl (Or.inl rfl) (pe_slice sl_list (pv 2) (po_some (pe_op op_add (pv 3) pe_int)) po_none)))
  pss_nil)
  (pss_one (ps_expr (pe_bm PySem.F.plainAttrs_list PySem.F.slot_list_append PySem.F.type_list_append mt_append (pv 4) (pa_cons (pe_tup (pa_cons (pe_ix (r := rIxL K) ix_list (pv 2) (pv 3) (fun _ _ => rfl)) (pa_cons (pv 9) (pa_cons (pe_call (ok__law_parts Z) (hr.mono (by decide)) (by rfl) (Z.glo 77 rfl) (Z.kp 26 rfl) (b__law_parts Z) .nil passN (pa_cons (pv 0) (pa_cons (pe_op op_add (pe_op op_fdiv (pv 1) pe_int) (pe_op op_fdiv (pe_callB (r := fun xs H Q => ∃ x n, xs = [x] ∧ LenV K x H n ∧ Q (.int n) H) call_len (by rfl) (Z.free 10 rfl) PySem.boot_len (pa_cons (pv 4) pa_nil)) pe_int)) (pa_cons (pv 10) (pa_cons (pe_cmpR op_eq (pv 8) (pv 7) (nomark _)) pa_nil))))) pa_nil)))) pa_nil))))))))))))
  (pss_cons (ps_set (i := 5) sc__law_rows.nd rfl (Or.inl rfl) (pe_call (ok__law_take Z) (hr.mono (by decide)) (by rfl) (Z.glo 1 rfl) (Z.kp 1 rfl) (b__law_take Z) .nil passN (pa_cons (pv 0) (pa_cons (pe_callB (r := fun xs H Q => ∃ x n, xs = [x] ∧ LenV K x H n ∧ Q (.int n) H) call_len (by rfl) (Z.free 10 rfl) PySem.boot_len (pa_cons (pv 4) pa_nil)) pa_nil))))
  (pss_one (ps_ret (pe_op op_cat (pe_slice sl_list (pv 4) (po_some (pv 5)) po_none) (pe_slice sl_list (pv 4) po_none (po_some (pv 5))))))))))))), enter h fun L as ds O k e c => ?_⟩)
  obtain ⟨a, ns, rfl, rfl, rfl, hk⟩ := c
  k_subL
  refine d_call [0] ?_
  k_subL
  refine call_take rfl rfl (by decide) fun sd ns1 s1 s2 => ?_
  refine s_seq (s_set (w_lst (w_nil ⟨Nat.zero_le _, fun nn => ?_⟩)))
  k_subL
  refine s_for (i_range ?_)
  k_subL
  refine d_call [0] ?_
  k_subL
  refine call_take rfl rfl (by decide) fun r ns2 r1 r2 => ?_
  k_subL
  refine ⟨_, rfl, by omega, by omega, fun i as ρ O => ∃ (ns : List Int) (nms : List Str) (x3 : Option D), as = [a, nn] ∧
    ρ = [some (.adr a), some (.int sd), some (.adr nn), x3, none, none, none, none, none, none, none, none] ∧
    O = [.lst (ns.map D.int), .lst (nms.map D.str)] ∧ nms.length = i ∧ MR.Names nms, ⟨ns2, [], none, rfl, rfl, rfl, rfl, ⟨by simp, by simp, by simp⟩⟩, ?_, ?_⟩
  · rintro i as ρ O c hc ⟨ns, nms, x3, rfl, rfl, rfl, hl, hN⟩
    obtain ⟨hi, rfl⟩ := upto_at hc
    have hi : i < 3 := by omega
    k_subL
    refine w_let 2 (w_append 1 rfl rfl rfl ?_)
    refine d_callE ?_
    k_subL
    refine w_lstF ?_
    k_subL
    refine ⟨small (n := 1) (by decide), ?_⟩
    k_subL
    refine rv_cat (ds := [.str MR.byteS]) (es := nms.map D.str) lo_f (lo_o 1 rfl rfl) (small (by simp; omega)) fun p => ?_
    k_subL
    refine call_name (zs := MR.byteS :: nms) (lo_o 2 rfl rfl) (by simp; omega) (by omega) (by omega) fun nm g1 g2 g3 => ?_
    refine ⟨_, rfl, rfl, smallt (by simp; omega), ?_⟩
    have g2 : nm.length ≤ 4 + (nms.length + 1) := g2
    refine ⟨ns, nms ++ [nm], _, rfl, rfl, by simp, by simp [hl], ?_, ?_, ?_⟩
    · rw [List.nodup_append]
      refine ⟨hN.nd, by simp, fun x m y m' z => ?_⟩
      simp at m'
      subst m'; subst z
      exact g3 (List.mem_cons_of_mem _ m)
    · intro z m
      rcases List.mem_append.mp m with m | m
      · exact hN.name z m
      · simp at m; subst m; exact ⟨g1, by omega⟩
    · intro m
      rcases List.mem_append.mp m with m | m
      · exact hN.byte m
      · simp at m; exact g3 (m ▸ List.mem_cons_self)
  · rintro as ρ O ⟨ns, nms, x3, rfl, rfl, rfl, hl, hN⟩
    rw [upto_len] at hl
    have hl1 : 1 ≤ nms.length := by omega
    have hl3 : nms.length ≤ 3 := by omega
    refine s_freeze 1 nn (.lst (nms.map D.str)) 2 rfl rfl rfl ?_
    refine s_seq (s_set (w_lst (w_nil ⟨Nat.zero_le _, fun rr => ?_⟩)))
    k_subL
    refine s_for (i_range ?_)
    k_subL
    refine rc_len (n := nms.length) (List.length_map ..).symm ?_
    k_subL
    refine ⟨_, rfl, by omega, by omega, fun i as ρ O => ∃ (ns : List Int) (rows : List MR.Row) (x3 x6 x7 x8 x9 x10 x11 : Option D), as = [a, rr] ∧
      ρ = [some (.adr a), some (.int sd), some (.lst (nms.map D.str)), x3, some (.adr rr), none, x6, x7, x8, x9, x10, x11] ∧
      O = [.lst (ns.map D.int), .lst (rows.map MR.dRow)] ∧ MR.Some_ nms (3 * i) rows ∧ (∀ k, k < i → MR.Base nms rows k) ∧ (1 ≤ i → rows ≠ []), ⟨ns, [], x3, none, none, none, none, none, none, rfl, rfl, rfl, MR.Some_.nil, fun k z => by omega, fun z => by omega⟩, ?_, ?_⟩
    · rintro i as ρ O c hc ⟨ns, rows, x3, x6, x7, x8, x9, x10, x11, rfl, rfl, rfl, hS, hB, hne⟩
      obtain ⟨hi, rfl⟩ := upto_at hc
      have hi : i < nms.length := by omega
      k_subL
      refine d_call [0] ?_
      k_subL
      refine call_take rfl rfl (by decide) fun r ns1 r1 r2 => ?_
      k_subL
      refine rv_i (by decide) ?_
      have hc : 1 ≤ 1 + (1 + r) % 3 ∧ 1 + (1 + r) % 3 ≤ 3 := by
        have := Int.emod_nonneg (1 + r) (show (3 : Int) ≠ 0 by decide)
        have := Int.emod_lt_of_pos (1 + r) (show (0 : Int) < 3 by decide)
        omega
      generalize hcc : 1 + (1 + r) % 3 = cnt at hc
      k_subL
      rw [hcc]
      refine d_call [0] ?_
      k_subL
      refine call_take rfl rfl (by omega) fun bs ns2 b1 b2 => ?_
      k_subL
      refine s_for (i_range ?_)
      k_subL
      refine ⟨_, rfl, by omega, by omega, fun j as ρ O => ∃ (ns : List Int) (rows : List MR.Row) (x8 x9 x10 x11 : Option D), as = [a, rr] ∧
        ρ = [some (.adr a), some (.int sd), some (.lst (nms.map D.str)), some (.int (i : Nat)), some (.adr rr), none, some (.int cnt), some (.int bs), x8, x9, x10, x11] ∧
        O = [.lst (ns.map D.int), .lst (rows.map MR.dRow)] ∧ MR.Some_ nms (3 * i + j) rows ∧ (∀ k, k < i → MR.Base nms rows k) ∧ (bs < (j : Nat) → MR.Base nms rows i) ∧ (1 ≤ j → rows ≠ []), ⟨ns2, rows, x8, x9, x10, x11, rfl, rfl, rfl, hS, hB, fun z => by omega, fun z => by omega⟩, ?_, ?_⟩
      · rintro j as ρ O c hc' ⟨ns, rows, x8, x9, x10, x11, rfl, rfl, rfl, hS, hB, hb, hne⟩
        obtain ⟨hj, rfl⟩ := upto_at hc'
        have hj : j < cnt.toNat := by simpa using hj
        have hr9 : rows.length ≤ 8 := by have := hS.len; omega
        k_subL
        refine d_callE ?_
        k_subL
        refine rv_i ⟨by decide, by decide⟩ ?_
        k_subL
        refine rc_len (n := rows.length) ⟨1, _, rfl, rfl, (List.length_map ..).symm⟩ ?_
        k_subL
        refine w_lend 1 4 rr (rows.map MR.dRow) rfl rfl rfl (w_known (w_map (wg_name (by decide)) (i_listF (w_var rfl ⟨_, .inr (.inl rfl), rows, MR.dRow, fun r => .str r.maker, rfl, smallt (by omega), fun r m => ?_, fun q => ?_⟩))))
        · exact g_name ⟨rfl, rfl, w_op (w_var rfl (w_int (rv_ixT rfl ⟨rfl, rfl, rfl⟩)))⟩
        refine ⟨q, _, _, _, rfl, rfl, rfl, .lst (czs_of fun d m => ?_), fun c m => ?_, ?_⟩
        · obtain ⟨r, _, rfl⟩ := List.mem_map.mp m
          exact .str _
        · simp at m
          subst m
          exact .lst (czs_of fun d m => by obtain ⟨r, _, rfl⟩ := List.mem_map.mp m; exact .int _)
        k_subL
        refine call_name (zs := rows.map (·.maker)) (.inl (by rw [List.map_map]; rfl)) (by rw [List.length_map]; omega) (by omega) (by omega) fun mk g1 g2 g3 => ?_
        rw [List.length_map] at g2
        refine s_seq (s_set (w_var rfl ?_))
        refine s_mid (N := fun as ρ O => ∃ inn : List Str, as = [a, rr] ∧ ρ = [some (.adr a), some (.int sd), some (.lst (nms.map D.str)), some (.int (i : Nat)), some (.adr rr), none, some (.int cnt), some (.int bs), some (.int (j : Nat)), some (.str mk), some (.lst (inn.map D.str)), x11] ∧
          O = [.lst (ns.map D.int), .lst (rows.map MR.dRow)] ∧ inn.length ≤ 50 ∧ (∀ x ∈ inn, x ∈ nms) ∧ ((j : Int) = bs → inn = nms.drop (i + 1))) ?_ ?_
        · k_subL
          refine rv_eq rfl ?_
          refine ⟨_, rfl, ?_⟩
          show if ((j : Int) == bs) = true then _ else _
          rw [show ((j : Int) == bs) = decide ((j : Int) = bs) from rfl]
          refine i_dec (fun e => ?_) fun e => ?_
          · refine s_set (w_known (w_sl ?_))
            k_subL
            refine o_some ?_
            k_subL
            refine ⟨_, rfl, ?_⟩
            refine o_none (rs_list (ds := nms.map D.str) (.inl lo_f) fun q => ?_)
            refine ⟨q, [a, rr], _, _, rfl, rfl, rfl, ?_⟩
            have ec : DL.cutD (nms.map D.str) (some ((i : Nat) + 1)) none = (nms.drop (i + 1)).map D.str := by
              have e1 : HT.sIx (nms.map D.str).length 0 (some (((i : Nat) : Int) + 1)) = i + 1 := by
                rw [show (((i : Nat) : Int) + 1) = ((i + 1 : Nat) : Int) by omega, HT.sIx_nat, List.length_map]
                omega
              unfold DL.cutD
              rw [e1, HT.sIx_none, ← List.map_drop, List.take_of_length_le (by rw [List.length_map, List.length_drop, List.length_map]; omega)]
            refine ⟨nms.drop (i + 1), rfl, by rw [ec]; rfl, rfl, by rw [List.length_drop]; omega, fun x m => List.mem_of_mem_drop m, fun _ => rfl⟩
          · exact s_next ⟨nms, rfl, rfl, rfl, by omega, fun x m => m, fun z => absurd z e⟩
        · rintro as ρ O ⟨inn, rfl, rfl, rfl, hin, hsub, hbs⟩
          k_subL
          refine w_append 1 rfl rfl rfl ?_
          refine w_tup ?_
          k_subL
          refine rv_ixL (d := .str nms[i]) (atI_nat (by rw [List.getElem?_map, List.getElem?_eq_getElem hi]; rfl)) ?_
          k_subL
          refine d_call [0] ?_
          k_subL
          refine rv_i ⟨by decide, by decide⟩ ?_
          k_subL
          refine rc_len (n := rows.length) ⟨1, _, rfl, rfl, (List.length_map ..).symm⟩ ?_
          k_subL
          refine rv_i ⟨by decide, by decide⟩ ?_
          k_subL
          refine rv_eq rfl ?_
          k_subL
          refine call_parts rfl rfl hin fun ps ns3 hd => ?_
          k_subL
          refine ⟨small (n := 3) (by decide), _, rfl, rfl, smallt (by rw [List.length_map]; omega), ?_⟩
          have nw : MR.Some_ nms (3 * i + j + 1) (rows ++ [⟨nms[i], mk, ps⟩]) := hS.snoc ⟨g1, by show mk.length ≤ 14; omega⟩ g3 (List.getElem_mem hi) ⟨_, hd.wide hsub⟩
          refine ⟨ns3, rows ++ [⟨nms[i], mk, ps⟩], _, _, _, _, rfl, rfl, by simp [MR.dRow], nw, fun k hk => (hB k hk).more _, fun z => ?_, fun _ => by simp⟩
          by_cases e : bs < (j : Nat)
          · exact (hb e).more _
          · refine ⟨_, List.mem_append_right _ (List.mem_singleton_self _), List.getElem?_eq_getElem hi, fun p m => ?_⟩
            rcases hd.ok p m with ⟨e1, _⟩ | ⟨e1, _⟩
            · exact .inl e1
            · exact .inr (hbs (by omega) ▸ e1)
      · rintro as ρ O ⟨ns, rows, x8, x9, x10, x11, rfl, rfl, rfl, hS, hB, hb, hne⟩
        rw [upto_len] at hS hb hne
        refine ⟨ns, rows, _, _, _, _, _, _, _, rfl, rfl, rfl, hS.le (by omega), fun k hk => ?_, fun _ => hne (by omega)⟩
        by_cases e : k < i
        · exact hB k e
        · have : k = i := by omega
          subst this
          exact hb (by omega)
    · rintro as ρ O ⟨ns, rows, x3, x6, x7, x8, x9, x10, x11, rfl, rfl, rfl, hS, hB, hne⟩
      rw [upto_len] at hS hB hne
      have en : ((nms.length : Nat) : Int).toNat = nms.length := by omega
      rw [en] at hS hB hne
      have hr : 1 ≤ rows.length := by
        have := hne hl1
        cases rows with
        | nil => exact absurd rfl this
        | cons x y => show 1 ≤ y.length + 1; omega
      have hr9 : rows.length ≤ 9 := by have := hS.len; omega
      refine s_freeze 1 rr (.lst (rows.map MR.dRow)) 4 rfl rfl rfl ?_
      k_subL
      refine d_call [0] ?_
      k_subL
      refine rc_len (n := rows.length) (List.length_map ..).symm ?_
      k_subL
      refine call_take rfl rfl (by omega) fun tn ns1 t1 t2 => ?_
      obtain ⟨n, en⟩ : ∃ n : Nat, tn = n := ⟨tn.toNat, by omega⟩
      subst en
      refine s_ret (w_let 1 (w_let 1 (w_known (w_op (w_sl ?_)))))
      refine w_var rfl (o_some (w_var rfl ⟨_, rfl, o_none ?_⟩))
      refine rs_list (ds := rows.map MR.dRow) (.inl lo_f) fun p => w_sl ?_
      refine w_var rfl (o_none (o_some (w_var rfl ⟨_, rfl, ?_⟩)))
      refine rs_list (ds := rows.map MR.dRow) (.inl lo_f) fun q => ?_
      refine rv_cat (lo_o 1 rfl rfl) (lo_o 2 rfl rfl) (small ?_) fun s => ⟨s, [a, p, q], _, _, rfl, rfl, rfl, ?_⟩
      · have := cut_len (rows.map MR.dRow) (some ((n : Nat) : Int)) none
        have := cut_len (rows.map MR.dRow) none (some ((n : Nat) : Int))
        simp at *
        omega
      have e1 : DL.cutD (rows.map MR.dRow) (some ((n : Nat) : Int)) none ++ DL.cutD (rows.map MR.dRow) none (some ((n : Nat) : Int)) = (rows.drop n ++ rows.take n).map MR.dRow := by
        have hn : n ≤ rows.length := by omega
        unfold DL.cutD
        rw [HT.sIx_nat, HT.sIx_nat, HT.sIx_none, HT.sIx_none, List.length_map, Nat.min_eq_left hn, List.map_append, ← List.map_drop, List.take_of_length_le (by rw [List.length_map, List.length_drop]; omega), List.drop_zero, Nat.sub_zero, ← List.map_take]
      rw [e1]
      have hpm : (rows.drop n ++ rows.take n).Perm rows := (List.perm_append_comm).trans (by rw [List.take_append_drop])
      exact hk nms _ ns1 (MR.Table.perm (rows := rows) ⟨hN, hl3, hne hl1, hS.x (by omega), hB⟩ hpm) ⟨by rw [hpm.length_eq]; omega, fun r m => (hS.maker r (hpm.mem_iff.mp m)).2⟩
def c__law_body (K : PySem.W.Frag) : Nat → Ct
  | 0 => fun _ _ _ _ _ _ => False
  | n + 1 => fun L as ds O k e => ∃ (a : Addr) (ns : List Int) (hs : List MF.Hd) (parts : List MR.Part) (cut : Int) (wild : Bool) (nest : Nat), as = [a] ∧ ds = [.adr a, .lst (hs.map MF.dHd), .lst (parts.map MR.dPart), .int cut, .bl wild, .int nest] ∧ O = [.lst (ns.map D.int)] ∧
    parts.length ≤ 4 ∧ hs.length ≤ 6 ∧ (∀ h ∈ hs, PyData.strOk h.name = true) ∧ 1 ≤ cut ∧ cut ≤ 255 ∧ nest ≤ n ∧ ∀ (b : MF.Bd) (ns' : List Int), MF.DrawnB hs parts b → MF.Sz (nest + 1) b → k [a] (MF.dBd b) [.lst (ns'.map D.int)]
theorem l__law_body {K : PySem.W.Frag} : ∀ n L as ds O k e, c__law_body K n L as ds O k e → ds.length = 6
  | 0, _, _, _, _, _, _, h => h.elim
  | n + 1, _, _, _, _, _, _, h => by
    obtain ⟨a, ns, hs, parts, cut, wild, nest, _, rfl, _⟩ := h
    rfl
theorem erase_map {α β : Type} (f : α → β) : ∀ (l : List α) (i : Nat), (l.eraseIdx i).map f = (l.map f).eraseIdx i
  | [], i => by simp
  | x :: r, 0 => by simp
  | x :: r, i + 1 => by simp [erase_map f r i]
theorem call_body {K : PySem.W.Frag} {χ : Xk} {L as : List Addr} {ρ : DSt} {O : List D} {k : List Addr → D → List D → Prop} {n j : Nat} {a : Addr} {ns : List Int} {hs : List MF.Hd} {parts : List MR.Part} {cut : Int} {wild : Bool} {nest : Nat} (ha : as[j]? = some a) (ho : O[j]? = some (.lst (ns.map D.int)))
    (h1 : parts.length ≤ 4) (h2 : hs.length ≤ 6) (h3 : ∀ h ∈ hs, PyData.strOk h.name = true) (h4 : 1 ≤ cut) (h5 : cut ≤ 255) (h6 : nest ≤ n) (z : ∀ (b : MF.Bd) (ns' : List Int), MF.DrawnB hs parts b → MF.Sz (nest + 1) b → k as (MF.dBd b) (O.set j (.lst (ns'.map D.int)))) : cc (c__law_body K (n + 1)) χ ρ [j] L as [.adr a, .lst (hs.map MF.dHd), .lst (parts.map MR.dPart), .int cut, .bl wild, .int nest] O k := by
  obtain ⟨s1, s2, s3, s4, s5⟩ := sel1 ha ho
  refine ⟨s1, s2, ?_⟩
  rw [s3, s4]
  refine ⟨a, ns, hs, parts, cut, wild, nest, rfl, rfl, rfl, h1, h2, h3, h4, h5, h6, fun b ns' g1 g2 => ?_⟩
  have := ck1 (O := O) s5 (z b ns' g1 g2)
  rw [s3] at this
  exact this
theorem ok__law_body {P : Program} {w : World} {K : PySem.W.Frag} {mg : Str → Option Value} {base : Heap} (Z : Tx P w K mg) (n : Nat) : FnOk P w K mg base (L2.CX P w) (2 + n) (He.ga K "_law_body") (fdAt K ("_law_body", none)) ["_law_pool_here", "_law_heads", "_law_parts_here", "_law_cut", "_law_wild", "_law_nest"] (spC (c__law_body K n)) := by
  induction n with
  | zero => exact FunD.ok (k := 1) (F__law_body Z) sc__law_body (sp_len (n := 6) (l__law_body 0)) (fun cdv A outer s H vs Q E hr h => by obtain ⟨_, _, _, _, _, _, _, _, _, _, c, _⟩ := h; exact c.elim)
  | succ n ih =>
  refine FunD.ok (k := 2 + n) (F__law_body Z) sc__law_body (sp_len (n := 6) (l__law_body (n + 1))) (fun cdv A outer s H vs Q E hr h => ⟨_, PSs.nox ((pss_cons (ps_set (i := 6) sc__law_body.nd rfl (Or.inr rfl) (pe_callTy call_list_of (by rfl) (Z.free 37 rfl) PyProof.Rows.boot_list (pa_cons (pv 2) pa_nil)))
  (pss_cons (ps_set (i := 7) sc__law_body.nd rfl (Or.inl rfl) (pe_lst pa_nil))
  (pss_cons (ps_for PassesOwn.never rfl (pi_range1 (by rfl) (Z.free 12 rfl) (pa_cons (pe_op op_sub (pe_callB (r := fun xs H Q => ∃ x n, xs = [x] ∧ LenV K x H n ∧ Q (.int n) H) call_len (by rfl) (Z.free 10 rfl) PySem.boot_len (pa_cons (pv 6) pa_nil)) (pe_call (ok__law_take Z) (hr.mono (by omega)) (by rfl) (Z.glo 1 rfl) (Z.kp 1 rfl) (b__law_take Z) .nil passN (pa_cons (pv 0) (pa_cons (pe_op op_add (pe_callB (r := fun xs H Q => ∃ x n, xs = [x] ∧ LenV K x H n ∧ Q (.int n) H) call_len (by rfl) (Z.free 10 rfl) PySem.boot_len (pa_cons (pv 6) pa_nil)) pe_int) pa_nil)))) pa_nil)) (pg_name (i := 8) sc__law_body.nd rfl (Or.inl rfl))
  (pss_cons (ps_set (i := 10) sc__law_body.nd rfl (Or.inl rfl) pe_int)
  (pss_cons (ps_if (pt_val (pv 4))
  (pss_one (ps_set (i := 10) sc__law_body.nd rfl (Or.inl rfl) (pe_call (ok__law_take Z) (hr.mono (by omega)) (by rfl) (Z.glo 1 rfl) (Z.kp 1 rfl) (b__law_take Z) .nil passN (pa_cons (pv 0) (pa_cons (pe_callB (r := fun xs H Q => ∃ x n, xs = [x] ∧ LenV K x H n ∧ Q (.int n) H) call_len (by rfl) (Z.free 10 rfl) PySem.boot_len (pa_cons (pv 6) pa_nil)) pa_nil)))))
  pss_nil)
  (pss_cons (ps_set (i := 11) sc__law_body.nd rfl (Or.inr rfl) (pe_bm PySem.F.plainAttrs_list PySem.F.slot_list_pop PySem.F.type_list_pop mt_popAt (pv 6) (pa_cons (pv 10) pa_nil)))
  (pss_cons (ps_setLc (i := 12) rfl sc__law_body.nd rfl rfl (sw_true rfl rfl rfl (by decide +kernel)) (pi_list (pv 1)) (blkOk_by (own := [("_law_head", 17)]) (N := N__law_body) (sc := defScope s__law_body) (by decide +kernel)) (fun _ _ _ _ _ => (pg_name (i := 17) sc__law_body.nd rfl (by first | exact Or.inl rfl | exact Or.inr rfl))) (fun _ _ _ _ _ => (pts_one (pt_cmpR op_eq (pe_ix (r := rIxT K) ix_tup (pv 17) pe_int (fun _ _ => rfl)) (pe_ix (r := rIxT K) ix_tup (pv 11) pe_int (fun _ _ => rfl)) (nomark _)))) (fun _ _ _ _ _ => (pe_ix (r := rIxT K) ix_tup (pv 17) pe_int (fun _ _ => rfl))))
  (pss_cons (ps_if (pt_cmpR op_ne (pe_call (ok__law_take Z) (hr.mono (by omega)) (by rfl) (Z.glo 1 rfl) (Z.kp 1 rfl) (b__law_take Z) .nil passN (pa_cons (pv 0) (pa_cons pe_int pa_nil))) pe_int (nomark _))
  (pss_one (ps_if (pt_cmpR op_eq (pe_ix (r := rIxT K) ix_tup (pv 11) pe_int (fun _ _ => rfl)) pe_str (nomark _))
  (pss_one (ps_expr (pe_bm PySem.F.plainAttrs_list PySem.F.slot_list_append PySem.F.type_list_append mt_append (pv 7) (pa_cons (pe_tup (pa_cons pe_str (pa_cons (pe_ix (r := rIxT K) ix_tup (pv 11) pe_int (fun _ _ => rfl)) pa_nil))) pa_nil))))
  (pss_one (ps_if (pt_cmpR (r := rNeD K) (op_neD hr.units) (pv 12) (pe_lst pa_nil) (nomark _))
  (pss_one (ps_expr (pe_bm PySem.F.plainAttrs_list PySem.F.slot_list_append PySem.F.type_list_append mt_append (pv 7) (pa_cons (pe_tup (pa_cons pe_str (pa_cons (pe_ix (r := rIxL K) ix_list (pv 12) (pe_call (ok__law_take Z) (hr.mono (by omega)) (by rfl) (Z.glo 1 rfl) (Z.kp 1 rfl) (b__law_take Z) .nil passN (pa_cons (pv 0) (pa_cons (pe_callB (r := fun xs H Q => ∃ x n, xs = [x] ∧ LenV K x H n ∧ Q (.int n) H) call_len (by rfl) (Z.free 10 rfl) PySem.boot_len (pa_cons (pv 12) pa_nil)) pa_nil))) (fun _ _ => rfl)) (pa_cons (pe_ix (r := rIxT K) ix_tup (pv 11) pe_int (fun _ _ => rfl)) pa_nil)))) pa_nil))))
  pss_nil))))
  pss_nil)
  (pss_one (ps_if (pt_cmpR op_eq (pe_call (ok__law_take Z) (hr.mono (by omega)) (by rfl) (Z.glo 1 rfl) (Z.kp 1 rfl) (b__law_take Z) .nil passN (pa_cons (pv 0) (pa_cons pe_int pa_nil))) pe_int (nomark _))
  (pss_one (ps_expr (pe_bm PySem.F.plainAttrs_list PySem.F.slot_list_append PySem.F.type_list_append mt_append (pv 7) (pa_cons (pe_tup (pa_cons pe_str (pa_cons (pe_call (ok__law_take Z) (hr.mono (by omega)) (by rfl) (Z.glo 1 rfl) (Z.kp 1 rfl) (b__law_take Z) .nil passN (pa_cons (pv 0) (pa_cons (pe_ix (r := rIxL K) ix_list (pe_lst (pa_cons pe_int (pa_cons pe_int pa_nil))) (pe_call (ok__law_take Z) (hr.mono (by omega)) (by rfl) (Z.glo 1 rfl) (Z.kp 1 rfl) (b__law_take Z) .nil passN (pa_cons (pv 0) (pa_cons pe_int pa_nil))) (fun _ _ => rfl)) pa_nil))) pa_nil))) pa_nil))))
  pss_nil))))))))
  (pss_cons (ps_setLc (i := 9) rfl sc__law_body.nd rfl rfl (sw_true rfl rfl rfl (by decide +kernel)) (pi_range1 (by rfl) (Z.free 12 rfl) (pa_cons (pe_callB (r := fun xs H Q => ∃ x n, xs = [x] ∧ LenV K x H n ∧ Q (.int n) H) call_len (by rfl) (Z.free 10 rfl) PySem.boot_len (pa_cons (pv 6) pa_nil)) pa_nil)) (blkOk_by (own := [("_law_at", 10)]) (N := N__law_body) (sc := defScope s__law_body) (by decide +kernel)) (fun _ _ _ _ _ => (pg_name (i := 10) sc__law_body.nd rfl (by first | exact Or.inl rfl | exact Or.inr rfl))) (fun _ _ _ _ _ => (pts_one (pt_cmpR op_eq (pe_ix (r := rIxT K) ix_tup (pe_ix (r := rIxL K) ix_list (pv 6) (pv 10) (fun _ _ => rfl)) pe_int (fun _ _ => rfl)) pe_str (nomark _)))) (fun _ _ _ _ _ => (pv 10)))
  (pss_cons (ps_if (PW.pt (pw_and (pt_cmpR op_gt (pv 5) pe_int (nomark _)) (pw_and (pt_cmpR (r := rNeD K) (op_neD hr.units) (pv 9) (pe_lst pa_nil) (nomark _)) (pw_and1 (pt_cmpR op_eq (pe_call (ok__law_take Z) (hr.mono (by omega)) (by rfl) (Z.glo 1 rfl) (Z.kp 1 rfl) (b__law_take Z) .nil passN (pa_cons (pv 0) (pa_cons pe_int pa_nil))) pe_int (nomark _))))))
  (pss_cons (ps_set (i := 10) sc__law_body.nd rfl (Or.inl rfl) (pe_ix (r := rIxL K) ix_list (pv 9) (pe_call (ok__law_take Z) (hr.mono (by omega)) (by rfl) (Z.glo 1 rfl) (Z.kp 1 rfl) (b__law_take Z) .nil passN (pa_cons (pv 0) (pa_cons (pe_callB (r := fun xs H Q => ∃ x n, xs = [x] ∧ LenV K x H n ∧ Q (.int n) H) call_len (by rfl) (Z.free 10 rfl) PySem.boot_len (pa_cons (pv 9) pa_nil)) pa_nil))) (fun _ _ => rfl)))
  (pss_cons (ps_set (i := 13) sc__law_body.nd rfl (Or.inl rfl) (pe_slice sl_list (pv 6) (po_some (pe_op op_add (pv 10) pe_int)) po_none))
  (pss_cons (ps_if (pt_val (pv 4))
  (pss_one (ps_set (i := 13) sc__law_body.nd rfl (Or.inl rfl) (pe_op op_cat (pe_slice sl_list (pv 6) po_none (po_some (pv 10))) (pe_slice sl_list (pv 6) (po_some (pe_op op_add (pv 10) pe_int)) po_none))))
  pss_nil)
  (pss_cons (ps_set (i := 14) sc__law_body.nd rfl (Or.inl rfl) (pe_ix (r := rIxL K) ix_list (pe_lst (pa_cons (pv 3) (pa_cons (pe_op op_add pe_int (pe_call (ok__law_take Z) (hr.mono (by omega)) (by rfl) (Z.glo 1 rfl) (Z.kp 1 rfl) (b__law_take Z) .nil passN (pa_cons (pv 0) (pa_cons pe_int pa_nil)))) pa_nil))) (pe_call (ok__law_take Z) (hr.mono (by omega)) (by rfl) (Z.glo 1 rfl) (Z.kp 1 rfl) (b__law_take Z) .nil passN (pa_cons (pv 0) (pa_cons pe_int pa_nil))) (fun _ _ => rfl)))
  (pss_cons (ps_set (i := 15) sc__law_body.nd rfl (Or.inl rfl) (pe_call ih (hr.mono (by omega)) (by rfl) (Z.glo 78 rfl) (Z.kp 27 rfl) (b__law_body Z) .nil passN (pa_cons (pv 0) (pa_cons (pv 1) (pa_cons (pv 13) (pa_cons (pv 3) (pa_cons (pv 4) (pa_cons (pe_op op_sub (pv 5) pe_int) pa_nil))))))))
  (pss_cons (ps_set (i := 16) sc__law_body.nd rfl (Or.inl rfl) (pe_call ih (hr.mono (by omega)) (by rfl) (Z.glo 78 rfl) (Z.kp 27 rfl) (b__law_body Z) .nil passN (pa_cons (pv 0) (pa_cons (pv 1) (pa_cons (pv 13) (pa_cons (pv 3) (pa_cons (pv 4) (pa_cons (pe_op op_sub (pv 5) pe_int) pa_nil))))))))
  (pss_one (ps_expr (pe_bm PySem.F.plainAttrs_list PySem.F.slot_list_append PySem.F.type_list_append mt_append (pv 7) (pa_cons (pe_tup (pa_cons pe_str (pa_cons (pe_ix (r := rIxT K) ix_tup (pe_ix (r := rIxL K) ix_list (pv 6) (pv 10) (fun _ _ => rfl)) pe_int (fun _ _ => rfl)) (pa_cons (pv 14) (pa_cons (pv 15) (pa_cons (pv 16) pa_nil)))))) pa_nil))))))))))
  pss_nil)
  (pss_one (ps_ret (pe_callTy call_tuple_of (by rfl) (Z.free 18 rfl) PyProof.Rows.boot_tuple (pa_cons (pv 7) pa_nil)))))))))), enter h fun L as ds O k e c => ?_⟩)
  obtain ⟨a, ns, hs, parts, cut, wild, nest, rfl, rfl, rfl, h4, h6, hok, c1, c2, hn, hk⟩ := c
  refine s_seq (s_set (w_cb (w_cons (w_var rfl (w_nil (rc_listL (KK := K) (.inl (.inl rfl)) fun l => ?_))))))
  refine s_seq (s_set (w_lst (w_nil ⟨Nat.zero_le _, fun st => ?_⟩)))
  k_clsL
  refine rc_lenO 1 rfl rfl ?_
  k_clsL
  refine d_call [0] ?_
  k_clsL
  refine rc_lenO 1 rfl rfl ?_
  k_clsL
  refine call_take rfl rfl (by omega) fun r ns1 r0 r1 => ?_
  k_clsL
  refine ⟨_, rfl, by omega, by omega, fun i as ρ O => ∃ (ns : List Int) (left : List MR.Part) (ss : List MF.Sm) (x8 x10 x11 x12 : Option D), as = [a, l, st] ∧ ρ = [some (.adr a), some (.lst (hs.map MF.dHd)), some (.lst (parts.map MR.dPart)), some (.int cut), some (.bl wild), some (.int nest), some (.adr l), some (.adr st), x8, none, x10, x11, x12, none, none, none, none, none] ∧
    O = [.lst (ns.map D.int), .lst (left.map MR.dPart), .lst (ss.map MF.dSm)] ∧ left.length + i = parts.length ∧ ss.length ≤ 2 * i ∧ MF.DrawnS hs parts left ss, ⟨ns1, parts, [], none, none, none, none, rfl, rfl, rfl, by omega, by simp, .nil⟩, ?_, ?_⟩
  · rintro i as ρ O c hc ⟨ns, left, ss, x8, x10, x11, x12, rfl, rfl, rfl, hl, hsl, hD⟩
    obtain ⟨hi, rfl⟩ := upto_at hc
    have hi : i < parts.length := by omega
    have hlp : 1 ≤ left.length := by omega
    refine g_name (s_seq (s_set (w_int ?_)))
    refine s_mid (N := fun as ρ O => ∃ (ns : List Int) (at_ : Nat), as = [a, l, st] ∧ ρ = [some (.adr a), some (.lst (hs.map MF.dHd)), some (.lst (parts.map MR.dPart)), some (.int cut), some (.bl wild), some (.int nest), some (.adr l), some (.adr st), some (.int (i : Nat)), none, some (.int (at_ : Nat)), x11, x12, none, none, none, none, none] ∧
      O = [.lst (ns.map D.int), .lst (left.map MR.dPart), .lst (ss.map MF.dSm)] ∧ at_ < left.length) ?_ ?_
    · refine s_if (w_test (w_var rfl ⟨_, rfl, ?_⟩))
      refine i_bl (fun _ => ?_) fun _ => s_next ⟨ns, 0, rfl, rfl, rfl, by omega⟩
      refine s_set (d_call [0] ?_)
      k_clsL
      refine rc_lenO 1 rfl rfl ?_
      k_clsL
      refine call_take rfl rfl (by omega) fun q ns2 q0 q1 => ?_
      obtain ⟨m, rfl⟩ : ∃ m : Nat, q = m := ⟨q.toNat, by omega⟩
      exact ⟨ns2, m, rfl, rfl, rfl, by omega⟩
    · rintro as ρ O ⟨ns2, m, rfl, rfl, rfl, hm⟩
      obtain ⟨pt, hpt⟩ : ∃ pt, left[m]? = some pt := ⟨_, List.getElem?_eq_getElem hm⟩
      refine s_seq (s_set (w_bm l (w_var rfl ⟨rfl, ⟨1, _, rfl, rfl⟩, rfl, w_cons (w_var rfl (w_nil (rc_popAt (i := m) 1 rfl rfl (d := MR.dPart pt) (by rw [List.getElem?_map, hpt]; rfl) (by rw [List.length_map]; omega) ?_)))⟩)))
      have ee : (left.map MR.dPart).eraseIdx m = (left.eraseIdx m).map MR.dPart := (erase_map ..).symm
      rw [show List.set [D.lst (ns2.map D.int), D.lst (left.map MR.dPart), D.lst (ss.map MF.dSm)] 1 (D.lst ((left.map MR.dPart).eraseIdx m)) = [D.lst (ns2.map D.int), D.lst ((left.eraseIdx m).map MR.dPart), D.lst (ss.map MF.dSm)] from by rw [ee]; rfl]
      have hel : (left.eraseIdx m).length + (i + 1) = parts.length := by rw [List.length_eraseIdx, if_pos hm]; omega
      refine s_seq (s_set (w_known (w_lc (α := MF.Hd) (wg_name (by decide)) (i_list (w_var rfl ⟨_, rfl, hs, MF.dHd, fun h => h.kind == pt.inn, fun h => .str h.name, rfl, smallt (by omega), fun h mh => ?_, fun q => ⟨q, _, _, _, rfl, rfl, rfl, ?_⟩⟩)))))
      · refine g_name ⟨rfl, rfl, w_test ?_⟩
        k_clsL
        exact ⟨rfl, rfl, rfl, fun _ => w_op (w_var rfl (w_int (rv_ixT rfl ⟨rfl, rfl, rfl⟩)))⟩
      have enm : ((hs.filter fun h => h.kind == pt.inn).map fun h => D.str h.name) = ((hs.filter fun h => h.kind == pt.inn).map (·.name)).map D.str := by rw [List.map_map]; rfl
      have hnl : ((hs.filter fun h => h.kind == pt.inn).map (·.name)).length ≤ 6 := by
        rw [List.length_map]
        exact Nat.le_trans (List.length_filter_le ..) h6
      have hnm : ∀ z ∈ (hs.filter fun h => h.kind == pt.inn).map (·.name), ∃ h ∈ hs, h.name = z ∧ h.kind = pt.inn := fun z mz => by
        obtain ⟨h, mh, e⟩ := List.mem_map.mp mz
        rw [List.mem_filter] at mh
        exact ⟨h, mh.1, e, by simpa using mh.2⟩
      rw [enm]
      generalize hnms : (hs.filter fun h => h.kind == pt.inn).map (·.name) = nms at hnl hnm
      refine s_mid (N := fun as ρ O => ∃ (ns : List Int) (ss' : List MF.Sm), as = [a, l, st] ∧ ρ = [some (.adr a), some (.lst (hs.map MF.dHd)), some (.lst (parts.map MR.dPart)), some (.int cut), some (.bl wild), some (.int nest), some (.adr l), some (.adr st), some (.int (i : Nat)), none, some (.int (m : Nat)), some (MR.dPart pt), some (.lst (nms.map D.str)), none, none, none, none, none] ∧
        O = [.lst (ns.map D.int), .lst ((left.eraseIdx m).map MR.dPart), .lst (ss'.map MF.dSm)] ∧ ss'.length ≤ 2 * i + 1 ∧ MF.DrawnS hs parts (left.eraseIdx m) ss') ?_ ?_
      · k_clsL
        refine d_call [0] ?_
        k_clsL
        refine call_take rfl rfl (by decide) fun q ns3 q0 q1 => ?_
        k_clsL
        refine i_bl (fun _ => ?_) fun _ => s_next ⟨ns3, ss, rfl, rfl, rfl, by omega, hD.drop m⟩
        k_clsL
        by_cases hb : pt.inn = MR.byteS
        · refine i_T (by rw [hb]; exact MF.e_bb) ?_
          refine s_drop (w_append 2 rfl rfl rfl (w_tup ?_))
          k_clsL
          refine ⟨small (n := 2) (by decide), _, rfl, rfl, smallt (by rw [List.length_map]; omega), ?_⟩
          exact ⟨ns3, ss ++ [.read pt.nm], rfl, rfl, by rw [List.map_append]; rfl, by simp; omega, hD.ask (s := .read pt.nm) hpt rfl fun hd _ => ⟨pt, List.mem_singleton_self _, rfl, hb⟩⟩
        · refine i_F (MF.e_nb hb) ?_
          k_clsL
          refine w_lstF (w_nil ⟨Nat.zero_le _, rv_neNil (n := 1) rd_k (okD_lst (n := 0) (okD_map fun z mz => ?_)) (by decide) ?_⟩)
          · obtain ⟨h, mh, rfl, _⟩ := hnm z mz
            exact okD_str (hok h mh)
          k_clsL
          cases hne : nms with
          | nil => exact i_F rfl (s_next ⟨ns3, ss, rfl, rfl, rfl, by omega, hD.drop m⟩)
          | cons z0 zs0 =>
            rw [← hne]
            refine i_T (by rw [hne]; rfl) ?_
            refine s_drop (w_append 2 rfl rfl rfl (w_tup ?_))
            k_clsL
            refine d_call [0] ?_
            k_clsL
            refine call_take rfl rfl (by rw [hne]; simp) fun q ns4 q0 q1 => ?_
            obtain ⟨m2, rfl⟩ : ∃ m : Nat, q = m := ⟨q.toNat, by omega⟩
            have hm2 : m2 < nms.length := by omega
            refine rv_ixL (at_map hm2) ?_
            k_clsL
            refine ⟨small (n := 3) (by decide), _, rfl, rfl, smallt (by rw [List.length_map]; omega), ?_⟩
            obtain ⟨h, mh, e1, e2⟩ := hnm nms[m2] (List.getElem_mem hm2)
            exact ⟨ns4, ss ++ [.call nms[m2] pt.nm], rfl, rfl, by rw [List.map_append]; rfl, by simp; omega, hD.ask (s := .call nms[m2] pt.nm) hpt rfl fun hd hh => ⟨pt, List.mem_singleton_self _, rfl, hb, by rw [← e1, ← e2]; exact hh h mh⟩⟩
      · rintro as ρ O ⟨ns3, ss', rfl, rfl, rfl, hsl', hD'⟩
        k_clsL
        refine d_call [0] ?_
        k_clsL
        refine call_take rfl rfl (by decide) fun q ns4 q0 q1 => ?_
        k_clsL
        refine i_bl (fun _ => ?_) fun _ => s_next ⟨ns4, _, ss', _, _, _, _, rfl, rfl, rfl, hel, by omega, hD'⟩
        refine s_drop (w_append 2 rfl rfl rfl (w_tup ?_))
        k_clsL
        refine d_call [0] ?_
        k_clsL
        refine w_lstF ?_
        k_clsL
        refine ⟨small (n := 2) (by decide), d_call [0] ?_⟩
        k_clsL
        refine call_take rfl rfl (by decide) fun q2 ns5 p0 p1 => ?_
        obtain ⟨v, hv, v0, v1⟩ : ∃ v : Int, atI [D.int 10, D.int 1001] q2 = some (.int v) ∧ 0 < v ∧ v ≤ 1001 := by
          have : q2 = 0 ∨ q2 = 1 := by omega
          rcases this with rfl | rfl
          · exact ⟨10, rfl, by decide, by decide⟩
          · exact ⟨1001, rfl, by decide, by decide⟩
        refine rv_ixL hv ?_
        k_clsL
        refine call_take rfl rfl v0 fun q3 ns6 p2 p3 => ?_
        k_clsL
        refine ⟨small (n := 2) (by decide), _, rfl, rfl, smallt (by rw [List.length_map]; omega), ?_⟩
        exact ⟨ns6, _, ss' ++ [.say q3], _, _, _, _, rfl, rfl, by rw [List.map_append]; rfl, hel, by simp; omega, hD'.say p2 (by omega)⟩
  · rintro as ρ O ⟨ns, left, ss, x8, x10, x11, x12, rfl, rfl, rfl, hl, hsl, hD⟩
    have hsp := hD.sub
    have hl4 : left.length ≤ 4 := by omega
    have hcnt : ((parts.length : Int) - r).toNat ≤ 4 := by omega
    have hs8 : ss.length ≤ 8 := by rw [upto_len] at hsl; omega
    clear hl hsl
    let isB : Nat → Bool := fun i => (left[i]?.map (·.inn)) == some MR.byteS
    refine s_seq (s_set (w_known (w_lc (α := Nat) (wg_name (by decide)) (i_range (w_cons (w_cb (w_cons (w_var rfl (w_nil (rc_lenO 1 rfl rfl (w_nil ⟨_, rfl, by omega, by omega, List.range left.length, fun i => .int (i : Nat), isB, fun i => .int (i : Nat), rfl, smallt (by rw [List.length_range]; omega), fun i mi => ?_, fun q => ⟨q, _, _, _, rfl, rfl, rfl, ?_⟩⟩)))))))))))
    · have hi : i < left.length := List.mem_range.mp mi
      refine g_name ⟨rfl, rfl, w_test (w_op (w_op (w_op (w_var rfl (w_var rfl (rv_ixO (d := MR.dPart left[i]) 1 rfl rfl (at_map hi) (w_int (MI.par1 _ (w_str ?_)))))))))⟩
      refine rv_eq rfl ⟨_, rfl, rfl, rfl, ?_, fun _ => w_var rfl ⟨rfl, rfl, rfl⟩⟩
      show (left[i].inn == MR.byteS) = ((left[i]?.map (·.inn)) == some MR.byteS)
      rw [List.getElem?_eq_getElem hi]
      simp
    have hpl : ∀ j ∈ (List.range left.length).filter isB, ∃ pt, left[j]? = some pt ∧ pt.inn = MR.byteS := fun j mj => by
      obtain ⟨m1, m2⟩ := List.mem_filter.mp mj
      have hj : j < left.length := List.mem_range.mp m1
      refine ⟨left[j], List.getElem?_eq_getElem hj, ?_⟩
      have m2 : ((left[j]?.map (·.inn)) == some MR.byteS) = true := m2
      rw [List.getElem?_eq_getElem hj] at m2
      simpa using m2
    have hpll : ((List.range left.length).filter isB).length ≤ 4 := by
      have := List.length_filter_le isB (List.range left.length)
      rw [List.length_range] at this
      omega
    generalize (List.range left.length).filter isB = pls at hpl hpll
    refine s_mid (N := fun as ρ O => ∃ (ns : List Int) (b : MF.Bd) (x10 x11 x12 x13 x14 x15 x16 : Option D), as = [a, l, st] ∧ ρ = [some (.adr a), some (.lst (hs.map MF.dHd)), some (.lst (parts.map MR.dPart)), some (.int cut), some (.bl wild), some (.int nest), some (.adr l), some (.adr st), x8, some (.lst (pls.map fun i => .int (i : Nat))), x10, x11, x12, x13, x14, x15, x16, none] ∧
        O = [.lst (ns.map D.int), .lst (left.map MR.dPart), .lst (MF.dSt b)] ∧ MF.DrawnB hs parts b ∧ MF.Sz (nest + 1) b) ?_ ?_
    rotate_left
    · rintro as ρ O ⟨ns, b, x10, x11, x12, x13, x14, x15, x16, rfl, rfl, rfl, g1, g2⟩
      refine s_ret (w_let 1 (w_let 1 (w_cb (w_cons (w_var rfl (w_nil (rc_tupL (ds := MF.dSt b) (.inl (lo_o 2 rfl rfl)) ?_)))))))
      exact hk b ns g1 g2
    have hfin : ∀ ns : List Int, ∃ (ns' : List Int) (b : MF.Bd) (x10' x11' x12' x13 x14 x15 x16 : Option D), [a, l, st] = [a, l, st] ∧ [some (D.adr a), some (.lst (hs.map MF.dHd)), some (.lst (parts.map MR.dPart)), some (.int cut), some (.bl wild), some (.int nest), some (.adr l), some (.adr st), x8, some (.lst (pls.map fun i => D.int (i : Nat))), x10, x11, x12, none, none, none, none, none] = [some (.adr a), some (.lst (hs.map MF.dHd)), some (.lst (parts.map MR.dPart)), some (.int cut), some (.bl wild), some (.int nest), some (.adr l), some (.adr st), x8, some (.lst (pls.map fun i => .int (i : Nat))), x10', x11', x12', x13, x14, x15, x16, none] ∧
        [D.lst (ns.map D.int), .lst (left.map MR.dPart), .lst (ss.map MF.dSm)] = [.lst (ns'.map D.int), .lst (left.map MR.dPart), .lst (MF.dSt b)] ∧ MF.DrawnB hs parts b ∧ MF.Sz (nest + 1) b := fun ns => ⟨ns, .fin ss, _, _, _, _, _, _, _, rfl, rfl, rfl, hD.fin, .fin (by omega)⟩
    refine s_if (w_and (w_test ?_))
    k_clsL
    refine i_bl (fun hn0 => ?_) fun _ => s_next (hfin ns)
    obtain ⟨nest, rfl⟩ : ∃ m, nest = m + 1 := ⟨nest - 1, by have := of_decide_eq_true hn0; omega⟩
    refine w_and (w_test (w_op (w_var rfl (w_lstF (w_nil ⟨Nat.zero_le _, rv_neNil (n := 1) rd_k (okD_lst (n := 0) (okD_map fun z mz => okD_int)) (by decide) ⟨_, rfl, ?_⟩⟩)))))
    cases hne : pls with
    | nil => rw [hne] at hfin; exact i_F rfl (s_next (hfin ns))
    | cons p0 ps0 =>
    rw [← hne]
    have hp1 : 1 ≤ pls.length := by rw [hne]; simp
    refine i_T (by rw [hne]; rfl) (w_test ?_)
    k_clsL
    refine d_call [0] ?_
    k_clsL
    refine call_take rfl rfl (by decide) fun q ns2 q0 q1 => ?_
    k_clsL
    refine i_bl (fun _ => ?_) fun _ => s_next (hfin ns2)
    refine s_seq (s_set (w_op (w_var rfl (d_call [0] ?_))))
    k_clsL
    refine call_take rfl rfl (by omega) fun q ns3 q0 q1 => ?_
    obtain ⟨m2, rfl⟩ : ∃ m : Nat, q = m := ⟨q.toNat, by omega⟩
    have hm2 : m2 < pls.length := by omega
    refine rv_ixL (at_map hm2) ?_
    obtain ⟨pt, hpt, hpb⟩ := hpl pls[m2] (List.getElem_mem hm2)
    generalize pls[m2] = m at hpt
    have hm : m < left.length := (List.getElem?_eq_some_iff.mp hpt).1
    have e1 : DL.cutD (left.map MR.dPart) (some ((m : Int) + 1)) none = (left.drop (m + 1)).map MR.dPart := by
      rw [show ((m : Int) + 1) = ((m + 1 : Nat) : Int) by omega, cut_from, ← List.map_drop]
    have e2 : DL.cutD (left.map MR.dPart) none (some (m : Int)) = (left.take m).map MR.dPart := by
      rw [cut_to (by rw [List.length_map]; omega), ← List.map_take]
    refine s_seq (s_set (w_known (w_sl (w_var rfl (o_some ?_)))))
    k_clsL
    refine o_none (rs_list (ds := left.map MR.dPart) (.inl (lo_o 1 rfl rfl)) fun p => ⟨p, _, _, _, rfl, rfl, rfl, ?_⟩)
    rw [e1]
    refine s_mid (N := fun as ρ O => ∃ (rest : List MR.Part), as = [a, l, st] ∧ ρ = [some (.adr a), some (.lst (hs.map MF.dHd)), some (.lst (parts.map MR.dPart)), some (.int cut), some (.bl wild), some (.int (nest + 1 : Nat)), some (.adr l), some (.adr st), x8, some (.lst (pls.map fun i => .int (i : Nat))), some (.int (m : Nat)), x11, x12, some (.lst (rest.map MR.dPart)), none, none, none, none] ∧
        O = [.lst (ns3.map D.int), .lst (left.map MR.dPart), .lst (ss.map MF.dSm)] ∧ rest.Sublist (left.eraseIdx m)) ?_ ?_
    · refine s_if (w_test (w_var rfl ⟨_, rfl, ?_⟩))
      refine i_bl (fun _ => ?_) fun _ => s_next ⟨left.drop (m + 1), rfl, rfl, rfl, by rw [List.eraseIdx_eq_take_drop_succ]; exact List.sublist_append_right _ _⟩
      refine s_set (w_known (w_op (w_known (w_sl (w_var rfl (o_none (o_some (w_var rfl ⟨_, rfl, rs_list (ds := left.map MR.dPart) (.inl (lo_o 1 rfl rfl)) fun p => ⟨p, _, _, _, rfl, rfl, rfl, ?_⟩⟩))))))))
      refine w_known (w_sl (w_var rfl (o_some ?_)))
      k_clsL
      refine o_none (rs_list (ds := left.map MR.dPart) (.inl (lo_o 1 rfl rfl)) fun p => ⟨p, _, _, _, rfl, rfl, rfl, ?_⟩)
      rw [e1, e2]
      refine rv_cat lo_f lo_f (small (by rw [List.length_map, List.length_map, List.length_take, List.length_drop]; omega)) fun p => ⟨p, _, _, _, rfl, rfl, rfl, ?_⟩
      exact ⟨left.eraseIdx m, rfl, by rw [List.eraseIdx_eq_take_drop_succ, List.map_append]; rfl, rfl, List.Sublist.refl _⟩
    rintro as ρ O ⟨rest, rfl, rfl, rfl, hrest⟩
    have hrl : rest.length ≤ 4 := by
      have := hrest.length_le
      rw [List.length_eraseIdx, if_pos hm] at this
      omega
    refine s_seq (s_set (w_op (w_lstF (w_cons (w_var rfl (w_cons (w_op (w_int (d_call [0] ?_)))))))))
    k_clsL
    refine call_take rfl rfl (by decide) fun q ns4 q0 q1 => ?_
    k_clsL
    refine ⟨small (n := 2) (by decide), d_call [0] ?_⟩
    k_clsL
    refine call_take rfl rfl (by decide) fun q2 ns5 p0 p1 => ?_
    obtain ⟨v, hv, v0, v1⟩ : ∃ v : Int, atI [D.int cut, D.int (1 + q)] q2 = some (.int v) ∧ 1 ≤ v ∧ v ≤ 255 := by
      have : q2 = 0 ∨ q2 = 1 := by omega
      rcases this with rfl | rfl
      · exact ⟨cut, rfl, c1, c2⟩
      · exact ⟨1 + q, rfl, by omega, by omega⟩
    refine rv_ixL hv ?_
    obtain ⟨n', rfl⟩ : ∃ m, n = m + 1 := ⟨n - 1, by omega⟩
    refine s_seq (s_set (d_call [0] ?_))
    k_clsL
    rw [show (((nest + 1 : Nat) : Int) - 1) = (nest : Nat) by omega]
    refine call_body rfl rfl hrl h6 hok c1 c2 (by omega) fun bx ns6 dx zx => ?_
    refine s_seq (s_set (d_call [0] ?_))
    k_clsL
    rw [show (((nest + 1 : Nat) : Int) - 1) = (nest : Nat) by omega]
    refine call_body rfl rfl hrl h6 hok c1 c2 (by omega) fun by_ ns7 dy zy => ?_
    refine s_drop (w_append 2 rfl rfl rfl (w_tup (w_cons (w_str (w_cons (w_op (w_op (w_var rfl (w_var rfl (rv_ixO (d := MR.dPart left[m]) 1 rfl rfl (at_map hm) (w_int (MI.par0 _ ?_))))))))))))
    k_clsL
    refine ⟨small (n := 5) (by decide), _, rfl, rfl, smallt (by rw [List.length_map]; omega), ?_⟩
    have epm : left[m] = pt := (List.getElem?_eq_some_iff.mp hpt).2
    rw [epm]
    exact ⟨ns7, .br ss pt.nm v bx by_, _, _, _, _, _, _, _, rfl, rfl, rfl, hD.br hpt hpb hrest v0 v1 dx dy, .br (by omega) zx zy⟩
def c__law_functions (K : PySem.W.Frag) : Ct := fun L as ds O k e => ∃ (a : Addr) (hd : D) (ns : List Int) (rows : List MR.Row) (hid : Str → List MR.Part) (cut most : Int), as = [a] ∧ ds = [.adr a, .lst (rows.map MR.dRow), hd, .int cut, .int most] ∧ O = [.lst (ns.map D.int)] ∧ dkOf [] [] hd (MY.hidD rows hid) ∧ MF.RowsOk rows ∧ rows ≠ [] ∧
  (∀ r ∈ rows, (hid r.maker).Perm r.parts) ∧ 1 ≤ cut ∧ cut ≤ 255 ∧ 1 ≤ most ∧ most ≤ 6 ∧ ∀ (ns' : List Int) (fs : List MF.Fn), MF.Table rows fs → (fs.length : Int) ≤ most → k [a] (.lst (fs.map MF.dFn)) [.lst (ns'.map D.int)]
theorem l__law_functions {K : PySem.W.Frag} : ∀ L as ds O k e, c__law_functions K L as ds O k e → ds.length = 5 := fun L as ds O k e h => by
  obtain ⟨a, hd, ns, rows, hid, cut, most, _, rfl, _⟩ := h
  rfl
theorem ok__law_functions {P : Program} {w : World} {K : PySem.W.Frag} {mg : Str → Option Value} {base : Heap} (Z : Tx P w K mg) : FnOk P w K mg base (L2.CX P w) 6 (He.ga K "_law_functions") (fdAt K ("_law_functions", none)) ["_law_pool_here", "_law_rows_here", "_law_hidden_here", "_law_cut", "_law_most"] (spC (c__law_functions K)) := by
  refine FunD.ok (k := 5) (F__law_functions Z) sc__law_functions (sp_len (n := 5) l__law_functions) (fun cdv A outer s H vs Q E hr h => ⟨_, PSs.nox ((pss_cons (ps_set (i := 5) sc__law_functions.nd rfl (Or.inl rfl) (pe_call (ok__law_take Z) (hr.mono (by decide)) (by rfl) (Z.glo 1 rfl) (Z.kp 1 rfl) (b__law_take Z) .nil passN (pa_cons (pv 0) (pa_cons pe_int pa_nil))))
  (pss_cons (ps_set (i := 6) sc__law_functions.nd rfl (Or.inl rfl) (pe_lst pa_nil))
  (pss_cons (ps_for PassesOwn.never rfl (pi_list (pv 1)) (pg_name (i := 7) sc__law_functions.nd rfl (Or.inl rfl))
  (pss_one (ps_if (pt_cmpR (r := rIn K true) op_notIn_seq (pe_ix (r := rIxT K) ix_tup (pv 7) pe_int (fun _ _ => rfl)) (pv 6) (by rfl))
  (pss_one (ps_expr (pe_bm PySem.F.plainAttrs_list PySem.F.slot_list_append PySem.F.type_list_append mt_append (pv 6) (pa_cons (pe_ix (r := rIxT K) ix_tup (pv 7) pe_int (fun _ _ => rfl)) pa_nil))))
  pss_nil)))
  (pss_cons (ps_set (i := 8) sc__law_functions.nd rfl (Or.inl rfl) (pe_lst pa_nil))
  (pss_cons (ps_for PassesOwn.never rfl (pi_range1 (by rfl) (Z.free 12 rfl) (pa_cons (pe_op op_add pe_int (pe_op op_mod (pe_callTy call_int1 (by rfl) (Z.free 11 rfl) PyProof.Rows.boot_int (pa_cons (pe_op op_add pe_int (pe_call (ok__law_take Z) (hr.mono (by decide)) (by rfl) (Z.glo 1 rfl) (Z.kp 1 rfl) (b__law_take Z) .nil passN (pa_cons (pv 0) (pa_cons (pv 4) pa_nil)))) pa_nil)) (pv 4))) pa_nil)) (pg_name (i := 9) sc__law_functions.nd rfl (Or.inl rfl))
  (pss_cons (ps_set (i := 13) sc__law_functions.nd rfl (Or.inl rfl) (pe_call (ok__law_name Z) (hr.mono (by decide)) (by rfl) (Z.glo 76 rfl) (Z.kp 25 rfl) (b__law_name Z) .nil passN (pa_cons (pv 5) (pa_cons (pv 9) (pa_cons (pe_lc rfl sc__law_functions.nd (pi_list (pv 8)) (blkOk_by (own := [("_law_head", 12)]) (N := N__law_functions) (sc := defScope s__law_functions) (by decide +kernel)) (fun _ _ _ _ _ => (pg_name (i := 12) sc__law_functions.nd rfl (by first | exact Or.inl rfl | exact Or.inr rfl))) (fun _ _ _ _ _ => pts_nil) (fun _ _ _ _ _ => (pe_ix (r := rIxT K) ix_tup (pv 12) pe_int (fun _ _ => rfl)))) pa_nil)))))
  (pss_one (ps_expr (pe_bm PySem.F.plainAttrs_list PySem.F.slot_list_append PySem.F.type_list_append mt_append (pv 8) (pa_cons (pe_tup (pa_cons (pv 13) (pa_cons (pe_ix (r := rIxL K) ix_list (pv 6) (pe_call (ok__law_take Z) (hr.mono (by decide)) (by rfl) (Z.glo 1 rfl) (Z.kp 1 rfl) (b__law_take Z) .nil passN (pa_cons (pv 0) (pa_cons (pe_callB (r := fun xs H Q => ∃ x n, xs = [x] ∧ LenV K x H n ∧ Q (.int n) H) call_len (by rfl) (Z.free 10 rfl) PySem.boot_len (pa_cons (pv 6) pa_nil)) pa_nil))) (fun _ _ => rfl)) (pa_cons (pe_ix (r := rIxL K) ix_list (pe_lst (pa_cons pe_str (pa_cons pe_str pa_nil))) (pe_call (ok__law_take Z) (hr.mono (by decide)) (by rfl) (Z.glo 1 rfl) (Z.kp 1 rfl) (b__law_take Z) .nil passN (pa_cons (pv 0) (pa_cons pe_int pa_nil))) (fun _ _ => rfl)) pa_nil)))) pa_nil))))))
  (pss_cons (ps_set (i := 10) sc__law_functions.nd rfl (Or.inl rfl) (pe_cmpR op_eq (pe_call (ok__law_take Z) (hr.mono (by decide)) (by rfl) (Z.glo 1 rfl) (Z.kp 1 rfl) (b__law_take Z) .nil passN (pa_cons (pv 0) (pa_cons pe_int pa_nil))) pe_int (nomark _)))
  (pss_cons (ps_set (i := 11) sc__law_functions.nd rfl (Or.inl rfl) (pe_lst pa_nil))
  (pss_cons (ps_for PassesOwn.never rfl (pi_list (pv 8)) (pg_name (i := 12) sc__law_functions.nd rfl (Or.inl rfl))
  (pss_cons (ps_set (i := 14) sc__law_functions.nd rfl (Or.inl rfl) pe_dnewK)
  (pss_cons (ps_for PassesOwn.never rfl (pi_list (pv 1)) (pg_name (i := 7) sc__law_functions.nd rfl (Or.inl rfl))
  (pss_one (ps_if (pt_cmpR op_eq (pe_ix (r := rIxT K) ix_tup (pv 7) pe_int (fun _ _ => rfl)) (pe_ix (r := rIxT K) ix_tup (pv 12) pe_int (fun _ _ => rfl)) (nomark _))
  (pss_one (ps_dput (hu_of hr) (pv 14) (pe_ix (r := rIxT K) ix_tup (pv 7) pe_int (fun _ _ => rfl)) (pe_call (ok__law_body Z 3) (hr.mono (by decide)) (by rfl) (Z.glo 78 rfl) (Z.kp 27 rfl) (b__law_body Z) .nil passN (pa_cons (pv 0) (pa_cons (pv 8) (pa_cons (pe_dget (hu_of hr) (pv 2) (pe_ix (r := rIxT K) ix_tup (pv 7) pe_int (fun _ _ => rfl)) (fun _ _ => rfl)) (pa_cons (pv 3) (pa_cons (pv 10) (pa_cons pe_int pa_nil))))))) rfl))
  pss_nil)))
  (pss_one (ps_expr (pe_bm PySem.F.plainAttrs_list PySem.F.slot_list_append PySem.F.type_list_append mt_append (pv 11) (pa_cons (pe_tup (pa_cons (pe_ix (r := rIxT K) ix_tup (pv 12) pe_int (fun _ _ => rfl)) (pa_cons (pe_ix (r := rIxT K) ix_tup (pv 12) pe_int (fun _ _ => rfl)) (pa_cons (pe_ix (r := rIxT K) ix_tup (pv 12) pe_int (fun _ _ => rfl)) (pa_cons (pv 14) pa_nil))))) pa_nil)))))))
  (pss_one (ps_ret (pv 11)))))))))))), enter h fun L as ds O k e c => ?_⟩)
  obtain ⟨a, hd, ns, rows, hid, cut, most, rfl, rfl, rfl, hhd, hR, hne, hperm, c1, c2, m1, m2, hk⟩ := c
  have hlen := hR.len
  refine s_seq (s_set (d_call [0] ?_))
  k_clsL
  refine call_take rfl rfl (by decide) fun sd ns1 s1 s2 => ?_
  refine s_seq (s_set (w_lst (w_nil ⟨Nat.zero_le _, fun kk => ?_⟩)))
  refine s_seq (s_for (i_list (w_var rfl ⟨_, rfl, fun i as ρ O => ∃ x7, as = [a, kk] ∧ ρ = [some (.adr a), some (.lst (rows.map MR.dRow)), some hd, some (.int cut), some (.int most), some (.int sd), some (.adr kk), x7, none, none, none, none, none, none, none] ∧ O = [.lst (ns1.map D.int), .lst ((MI.kindsOf (rows.take i)).map D.str)], ⟨none, rfl, rfl, rfl⟩, ?_, ?_⟩)))
  · rintro i as ρ O c hc ⟨x7, rfl, rfl, rfl⟩
    rw [List.getElem?_map] at hc
    obtain ⟨r, hr, rfl⟩ := Option.map_eq_some_iff.mp hc
    have et := MF.tk hr
    have hkl : (MI.kindsOf (rows.take i)).length ≤ 10 := by
      have := MI.nd_le (MI.kinds_nd (rows.take i)) (m := (rows.take i).map (·.kind)) fun x m => (MI.dist_mem ((rows.take i).map (·.kind))).mp m
      rw [List.length_map, List.length_take] at this
      omega
    refine g_name (s_if ?_)
    k_clsL
    refine rv_inL (zs := MI.kindsOf (rows.take i)) (neg := true) (.inl (lo_o 1 rfl rfl)) ?_
    refine ⟨_, rfl, ?_⟩
    by_cases hm : r.kind ∈ MI.kindsOf (rows.take i)
    · refine i_F (by simp [hm]) (s_next ⟨_, rfl, rfl, ?_⟩)
      rw [et, MI.kinds_snoc, if_pos hm]
    · refine i_T (by simp [hm]) ?_
      refine s_drop (w_append 1 rfl rfl rfl ?_)
      k_clsL
      refine ⟨_, rfl, rfl, smallt (by rw [List.length_map]; omega), ⟨_, rfl, rfl, ?_⟩⟩
      rw [et, MI.kinds_snoc, if_neg hm, List.map_append]
      rfl
  rintro as ρ O ⟨x7, rfl, rfl, rfl⟩
  rw [show rows.take (rows.map MR.dRow).length = rows from by rw [List.length_map, List.take_length]]
  refine s_freeze 1 kk _ 6 rfl rfl rfl ?_
  have hk1 : 1 ≤ (MI.kindsOf rows).length := by
    cases rows with
    | nil => exact absurd rfl hne
    | cons x y =>
      have : x.kind ∈ MI.kindsOf (x :: y) := (MI.dist_mem _).mpr (by simp)
      cases h : MI.kindsOf (x :: y) with
      | nil => rw [h] at this; cases this
      | cons _ _ => simp
  generalize hks : MI.kindsOf rows = ks at hk1
  refine s_seq (s_set (w_lst (w_nil ⟨Nat.zero_le _, fun hh => ?_⟩)))
  k_clsL
  refine d_call [0] ?_
  k_clsL
  refine call_take rfl rfl (by omega) fun r ns2 r0 r1 => ?_
  k_clsL
  refine rv_i (by omega) ?_
  have hc0 : 1 ≤ 1 + (1 + r) % most ∧ 1 + (1 + r) % most ≤ most := by
    have := Int.emod_nonneg (1 + r) (show most ≠ 0 by omega)
    have := Int.emod_lt_of_pos (1 + r) (show 0 < most by omega)
    omega
  generalize hcc : 1 + (1 + r) % most = cnt at hc0
  k_clsL
  rw [hcc]
  refine ⟨_, rfl, by omega, by omega, fun i as ρ O => ∃ (ns : List Int) (hs : List MF.Hd) (x9 x13 : Option D), as = [a, hh] ∧ ρ = [some (.adr a), some (.lst (rows.map MR.dRow)), some hd, some (.int cut), some (.int most), some (.int sd), some (.lst (ks.map D.str)), x7, some (.adr hh), x9, none, none, none, x13, none] ∧ O = [.lst (ns.map D.int), .lst (hs.map MF.dHd)] ∧ hs.length = i ∧ MF.HeadsOk rows hs, ⟨ns2, [], none, none, rfl, rfl, rfl, rfl, .nil⟩, ?_, ?_⟩
  · rintro i as ρ O c hc ⟨ns, hs, x9, x13, rfl, rfl, rfl, hl, hH⟩
    obtain ⟨hi, rfl⟩ := upto_at hc
    have hi : i < 6 := by omega
    refine g_name (s_seq (s_set (d_callE ?_)))
    k_clsL
    refine w_lend 1 8 hh (hs.map MF.dHd) rfl rfl rfl (w_known (w_map (α := MF.Hd) (wg_name (by decide)) (i_listF (w_var rfl ⟨_, .inr (.inl rfl), hs, MF.dHd, fun h => .str h.name, rfl, smallt (by omega), fun h m => ?_, fun q => ?_⟩))))
    · exact g_name ⟨rfl, rfl, w_op (w_var rfl (w_int (rv_ixT rfl ⟨rfl, rfl, rfl⟩)))⟩
    refine ⟨q, _, _, _, rfl, rfl, rfl, .lst (czs_of fun d m => ?_), fun c m => ?_, ?_⟩
    · obtain ⟨h, _, rfl⟩ := List.mem_map.mp m
      exact .str _
    · simp at m
      subst m
      exact .lst (czs_of fun d m => by obtain ⟨r, _, rfl⟩ := List.mem_map.mp m; exact .int _)
    k_clsL
    refine call_name (zs := hs.map (·.name)) (.inl (by rw [List.map_map]; rfl)) (by rw [List.length_map]; omega) (by omega) (by omega) fun nm g1 g2 g3 => ?_
    rw [List.length_map] at g2
    refine s_drop (w_append 1 rfl rfl rfl (w_tup ?_))
    k_clsL
    refine d_call [0] ?_
    k_clsL
    refine call_take rfl rfl (by omega) fun q ns3 q0 q1 => ?_
    obtain ⟨m, rfl⟩ : ∃ m : Nat, q = m := ⟨q.toNat, by omega⟩
    have hm : m < ks.length := by omega
    refine rv_ixL (at_map hm) ?_
    k_clsL
    refine w_lstF ?_
    k_clsL
    refine ⟨small (n := 2) (by decide), d_call [0] ?_⟩
    k_clsL
    refine call_take rfl rfl (by decide) fun q2 ns4 p0 p1 => ?_
    obtain ⟨z, hz, hz2⟩ : ∃ z : Str, atI [D.str "sum", D.str "max"] q2 = some (.str z) ∧ (z = "sum" ∨ z = "max") := by
      have : q2 = 0 ∨ q2 = 1 := by omega
      rcases this with rfl | rfl
      · exact ⟨"sum", rfl, .inl rfl⟩
      · exact ⟨"max", rfl, .inr rfl⟩
    refine rv_ixL hz ?_
    k_clsL
    refine ⟨small (n := 3) (by decide), _, rfl, rfl, smallt (by rw [List.length_map]; omega), ?_⟩
    refine ⟨ns4, hs ++ [⟨nm, ks[m], z⟩], _, _, rfl, rfl, by rw [List.map_append]; rfl, by simp [hl], hH.snoc ⟨g1, by show nm.length ≤ 11; omega⟩ g3 (by rw [hks]; exact List.getElem_mem hm) hz2⟩
  rintro as ρ O ⟨ns, hs, x9, x13, rfl, rfl, rfl, hl, hH⟩
  rw [upto_len] at hl
  have hl1 : 1 ≤ hs.length := by omega
  have hl6 : hs.length ≤ 6 := by omega
  have hlm : (hs.length : Int) ≤ most := by omega
  refine s_freeze 1 hh _ 8 rfl rfl rfl ?_
  k_clsL
  refine d_call [0] ?_
  k_clsL
  refine call_take rfl rfl (by decide) fun w0 ns2 w1 w2 => ?_
  k_clsL
  refine w_lst (w_nil ⟨Nat.zero_le _, fun tt => ?_⟩)
  have hok : ∀ h ∈ hs, PyData.strOk h.name = true := fun h m => MY.name_ok (hH.name h m).1
  generalize hwild : eqD (D.int w0) (D.int 1) = wild
  refine s_seq (s_for (i_list (w_var rfl ⟨_, rfl, fun i as ρ O => ∃ (ns : List Int) (fs : List MF.Fn) (x7 x12 x14 : Option D), as = [a, tt] ∧ ρ = [some (.adr a), some (.lst (rows.map MR.dRow)), some hd, some (.int cut), some (.int most), some (.int sd), some (.lst (ks.map D.str)), x7, some (.lst (hs.map MF.dHd)), x9, some (.bl wild), some (.adr tt), x12, x13, x14] ∧ O = [.lst (ns.map D.int), .lst (fs.map MF.dFn)] ∧ fs.map MF.hdOf = hs.take i ∧ ∀ f ∈ fs, MF.DrawnF rows hid hs f, ⟨ns2, [], _, _, _, rfl, rfl, rfl, rfl, by simp⟩, ?_, ?_⟩)))
  · rintro i as ρ O c hc ⟨ns, fs, x7, x12, x14, rfl, rfl, rfl, hfs, hdr⟩
    rw [List.getElem?_map] at hc
    obtain ⟨h, hh', rfl⟩ := Option.map_eq_some_iff.mp hc
    have eth := MF.tk hh'
    have hfl : fs.length ≤ 6 := by
      have := congrArg List.length hfs
      rw [List.length_map, List.length_take] at this
      omega
    refine g_name (s_seq (s_set (w_dnew fun bb => ?_)))
    refine s_seq (s_for (i_list (w_var rfl ⟨_, rfl, fun j as ρ O => ∃ (ns : List Int) (bd : Str → MF.Bd) (x7 : Option D), as = [a, tt, bb] ∧ ρ = [some (.adr a), some (.lst (rows.map MR.dRow)), some hd, some (.int cut), some (.int most), some (.int sd), some (.lst (ks.map D.str)), x7, some (.lst (hs.map MF.dHd)), x9, some (.bl wild), some (.adr tt), some (MF.dHd h), x13, some (.adr bb)] ∧ O = [.lst (ns.map D.int), .lst (fs.map MF.dFn), .dk (MF.bdsD (MF.bdsOf (rows.take j) h.kind bd))] ∧ ∀ r ∈ rows.take j, r.kind = h.kind → MF.DrawnB hs (hid r.maker) (bd r.maker) ∧ MF.Sz 3 (bd r.maker), ⟨ns, fun _ => .fin [], _, rfl, rfl, rfl, by simp⟩, ?_, ?_⟩)))
    · rintro j as ρ O c hc ⟨ns, bd, x7, rfl, rfl, rfl, hbd⟩
      rw [List.getElem?_map] at hc
      obtain ⟨r, hr, rfl⟩ := Option.map_eq_some_iff.mp hc
      have mr := List.mem_of_getElem? hr
      have et := MF.tk hr
      refine g_name (s_if ?_)
      k_clsL
      by_cases hkd : r.kind = h.kind
      · refine i_T (by show (r.kind == h.kind) = true; simp [hkd]) ?_
        have hv : valD (MY.hidD rows hid) (.inr r.maker) = some (.lst ((hid r.maker).map MR.dPart)) := MY.val_hid hR.nd mr
        refine s_dput (d_call [0] ?_)
        k_clsL
        refine w_dget (w_var rfl (w_op (w_var rfl (w_int (MI.row1 _ ⟨rfl, rfl, .inr r.maker, _, _, rfl, MT.dk_wide hhd, hv, ?_⟩)))))
        k_clsL
        have hp4 : (hid r.maker).length ≤ 4 := by rw [(hperm r mr).length_eq]; exact hR.parts r mr
        refine call_body (nest := 2) (n := 2) rfl rfl hp4 hl6 hok c1 c2 (by decide) fun b ns3 gb gz => ?_
        have hnew : r.maker ∉ (MF.bdsOf (rows.take j) h.kind bd).map (·.1) := by
          intro m
          obtain ⟨x, mx, e⟩ := List.mem_map.mp m
          obtain ⟨z, mz, rfl⟩ := List.mem_map.mp mx
          obtain ⟨r', mr', _, e2⟩ := MF.mem_makers.mp mz
          exact MY.new_maker hR.nd hr mr' (e2.trans e)
        have hbl : (MF.bdsD (MF.bdsOf (rows.take j) h.kind bd)).length ≤ 10 := by
          rw [MF.bdsD_len]
          show (List.map _ _).length ≤ 10
          rw [List.length_map]
          have := MI.makers_len h.kind (rows.take j)
          rw [List.length_take] at this
          omega
        refine w_var rfl (w_op (w_var rfl (w_int (MI.row1 _ ⟨2, bb, .inr r.maker, _, rfl, rfl, rfl, rfl, smallt (by omega), ?_⟩))))
        refine ⟨ns3, fun z => if z = r.maker then b else bd z, _, rfl, rfl, ?_, fun r' m' e' => ?_⟩
        · show [D.lst (ns3.map D.int), _, D.dk (putDk (MF.bdsD (MF.bdsOf (rows.take j) h.kind bd)) (.inr r.maker) (MF.dBd b))] = _
          rw [MF.bdsD_snoc hnew, MF.bds_take hr, if_pos hkd, if_pos rfl, MF.bds_congr (f := fun z => if z = r.maker then b else bd z) (g := bd) fun r' m' => if_neg (MY.new_maker hR.nd hr m')]
        · rw [et] at m'
          rcases List.mem_append.mp m' with m' | m'
          · show MF.DrawnB hs (hid r'.maker) (if r'.maker = r.maker then b else bd r'.maker) ∧ MF.Sz 3 (if r'.maker = r.maker then b else bd r'.maker)
            rw [if_neg (MY.new_maker hR.nd hr m')]
            exact hbd r' m' e'
          · rw [List.mem_singleton.mp m']
            show MF.DrawnB hs (hid r.maker) (if r.maker = r.maker then b else bd r.maker) ∧ MF.Sz 3 (if r.maker = r.maker then b else bd r.maker)
            rw [if_pos rfl]
            exact ⟨gb, gz⟩
      · refine i_F (by show (r.kind == h.kind) = false; simp [hkd]) (s_next ⟨ns, bd, _, rfl, rfl, ?_, fun r' m' e' => ?_⟩)
        · rw [MF.bds_take hr, if_neg hkd]
        · rw [et] at m'
          rcases List.mem_append.mp m' with m' | m'
          · exact hbd r' m' e'
          · rw [List.mem_singleton.mp m'] at e'
            exact absurd e' hkd
    · rintro as ρ O ⟨ns, bd, x7, rfl, rfl, rfl, hbd⟩
      rw [show rows.take (rows.map MR.dRow).length = rows from by rw [List.length_map, List.take_length]] at hbd ⊢
      refine s_frzL 2 14 bb _ rfl rfl rfl ?_
      refine s_drop (w_append 1 rfl rfl rfl (w_tup ?_))
      k_clsL
      refine ⟨small (n := 4) (by decide), _, rfl, rfl, smallt (by rw [List.length_map]; omega), ?_⟩
      refine ⟨ns, fs ++ [⟨h.name, h.kind, h.fold, bb, MF.bdsOf rows h.kind bd⟩], _, _, _, rfl, rfl, by rw [List.map_append]; rfl, by rw [List.map_append, hfs, eth]; rfl, fun f m => ?_⟩
      rcases List.mem_append.mp m with m | m
      · exact hdr f m
      · rw [List.mem_singleton.mp m]
        exact ⟨bd, rfl, hbd⟩
  rintro as ρ O ⟨ns, fs, x7, x12, x14, rfl, rfl, rfl, hfs, hdr⟩
  rw [show hs.take (hs.map MF.dHd).length = hs from by rw [List.length_map, List.take_length]] at hfs
  have hfl : fs.length = hs.length := by rw [← hfs, List.length_map]
  refine s_freeze 1 tt _ 11 rfl rfl rfl ?_
  refine s_ret (w_var rfl (hk ns fs (MF.table_of hH hR.names hperm (by intro z; rw [z] at hl1; cases hl1) hl6 hfs hdr) (by omega)))
theorem call_functions {K : PySem.W.Frag} {χ : Xk} {L as : List Addr} {ρ : DSt} {O : List D} {k : List Addr → D → List D → Prop} {j : Nat} {a : Addr} {hd : D} {ns : List Int} {rows : List MR.Row} {hid : Str → List MR.Part} {cut most : Int} (ha : as[j]? = some a) (ho : O[j]? = some (.lst (ns.map D.int))) (h1 : dkOf [] [] hd (MY.hidD rows hid)) (h2 : MF.RowsOk rows) (h3 : rows ≠ [])
    (h4 : ∀ r ∈ rows, (hid r.maker).Perm r.parts) (h5 : 1 ≤ cut) (h6 : cut ≤ 255) (h7 : 1 ≤ most) (h8 : most ≤ 6) (hk : ∀ (ns' : List Int) (fs : List MF.Fn), MF.Table rows fs → (fs.length : Int) ≤ most → k as (.lst (fs.map MF.dFn)) (O.set j (.lst (ns'.map D.int)))) : cc (c__law_functions K) χ ρ [j] L as [.adr a, .lst (rows.map MR.dRow), hd, .int cut, .int most] O k := by
  obtain ⟨s1, s2, s3, s4, s5⟩ := sel1 ha ho
  refine ⟨s1, s2, ?_⟩
  rw [s3, s4]
  refine ⟨a, hd, ns, rows, hid, cut, most, rfl, rfl, rfl, h1, h2, h3, h4, h5, h6, h7, h8, fun ns' fs g1 g2 => ?_⟩
  have := ck1 (O := O) s5 (hk ns' fs g1 g2)
  rw [s3] at this
  exact this
def c__law_shuffle (K : PySem.W.Frag) : Ct := fun L as ds O k e => ∃ (a : Addr) (d : D) (ns : List Int) (es : List D), as = [a] ∧ ds = [.adr a, d] ∧ O = [.lst (ns.map D.int)] ∧ (d = .tup es ∨ d = .lst es) ∧ es.length ≤ 100 ∧
  ∀ (q : Addr) (ns' : List Int) (fs : List D), fs.Perm es → k [a, q] (.adr q) [.lst (ns'.map D.int), .lst fs]
theorem l__law_shuffle {K : PySem.W.Frag} : ∀ L as ds O k e, c__law_shuffle K L as ds O k e → ds.length = 2 := fun L as ds O k e h => by
  obtain ⟨a, d, ns, es, _, rfl, _⟩ := h
  rfl
theorem ok__law_shuffle {P : Program} {w : World} {K : PySem.W.Frag} {mg : Str → Option Value} {base : Heap} (Z : Tx P w K mg) : FnOk P w K mg base (L2.CX P w) 2 (He.ga K "_law_shuffle") (fdAt K ("_law_shuffle", none)) ["_law_pool_here", "_law_items"] (spC (c__law_shuffle K)) := by
  refine FunD.ok (k := 1) (F__law_shuffle Z) sc__law_shuffle (sp_len (n := 2) l__law_shuffle) (fun cdv A outer s H vs Q E hr h => ⟨_, PSs.nox ((pss_cons (ps_set (i := 2) sc__law_shuffle.nd rfl (Or.inl rfl) (pe_callTy call_list_of (by rfl) (Z.free 37 rfl) PyProof.Rows.boot_list (pa_cons (pv 1) pa_nil)))
  (pss_cons (ps_set (i := 3) sc__law_shuffle.nd rfl (Or.inl rfl) (pe_lst pa_nil))
  (pss_cons (ps_for PassesOwn.never rfl (pi_range1 (by rfl) (Z.free 12 rfl) (pa_cons (pe_callB (r := fun xs H Q => ∃ x n, xs = [x] ∧ LenV K x H n ∧ Q (.int n) H) call_len (by rfl) (Z.free 10 rfl) PySem.boot_len (pa_cons (pv 1) pa_nil)) pa_nil)) (pg_name (i := 4) sc__law_shuffle.nd rfl (Or.inl rfl))
  (pss_one (ps_expr (pe_bm PySem.F.plainAttrs_list PySem.F.slot_list_append PySem.F.type_list_append mt_append (pv 3) (pa_cons (pe_bm PySem.F.plainAttrs_list PySem.F.slot_list_pop PySem.F.type_list_pop mt_popAt (pv 2) (pa_cons (pe_call (ok__law_take Z) (hr.mono (by decide)) (by rfl) (Z.glo 1 rfl) (Z.kp 1 rfl) (b__law_take Z) .nil passN (pa_cons (pv 0) (pa_cons (pe_callB (r := fun xs H Q => ∃ x n, xs = [x] ∧ LenV K x H n ∧ Q (.int n) H) call_len (by rfl) (Z.free 10 rfl) PySem.boot_len (pa_cons (pv 2) pa_nil)) pa_nil))) pa_nil)) pa_nil)))))
  (pss_one (ps_ret (pv 3))))))), enter h fun L as ds O k e c => ?_⟩)
  obtain ⟨a, d, ns, es, rfl, rfl, rfl, hd, hl, hk⟩ := c
  refine s_seq (s_set (w_cb (w_cons (w_var rfl (w_nil ?_)))))
  have hlist : ∀ {kk : List Addr → D → List D → Prop}, (∀ p, kk ([a] ++ [p]) (.adr p) ([.lst (ns.map D.int)] ++ [.lst es])) → rc (fun xs H Q => ∃ p ys, xs = [V.ref p] ∧ (SqL K H p ys ∨ SqT K H p ys) ∧ ∀ l, H l = none → Q (.ref l) (upd H l (.lst ys))) L [a] [.lst (ns.map D.int)] [d] kk := fun z => by
    rcases hd with rfl | rfl
    · exact rc_listT z
    · exact rc_listL (.inl lo_f) z
  refine hlist fun l => ?_
  refine s_seq (s_set (w_lst (w_nil ⟨Nat.zero_le _, fun q => ?_⟩)))
  have hlen : ∀ {as O}, lenD as O d es.length := fun {as O} => by
    rcases hd with rfl | rfl <;> rfl
  refine s_seq (s_for (i_range (w_cons (w_cb (w_cons (w_var rfl (w_nil (rc_len hlen (w_nil ⟨es.length, rfl, by omega, by omega, fun i as ρ O => ∃ (ns : List Int) (ls os : List D) (x4 : Option D), as = [a, l, q] ∧ ρ = [some (.adr a), some d, some (.adr l), some (.adr q), x4] ∧ O = [.lst (ns.map D.int), .lst ls, .lst os] ∧ (os ++ ls).Perm es ∧ os.length = i, ⟨ns, es, [], none, rfl, rfl, rfl, .refl _, rfl⟩, ?_, ?_⟩)))))))))
  · rintro i as ρ O c hc ⟨ns, ls, os, x4, rfl, rfl, rfl, hp, ho⟩
    obtain ⟨hi, rfl⟩ := upto_at hc
    have hi : i < es.length := by simpa using hi
    have hll : os.length + ls.length = es.length := by rw [← List.length_append]; exact hp.length_eq
    refine g_name (s_drop (w_append 2 rfl rfl rfl (w_bm l (w_var rfl ⟨rfl, ⟨1, _, rfl, rfl⟩, rfl, ?_⟩))))
    refine w_cons (d_call [0] (w_cons (w_var rfl (w_cons (w_cb (w_cons (w_var rfl (w_nil (rc_len (n := ls.length) ⟨1, _, rfl, rfl, rfl⟩ (w_nil (call_take rfl rfl (by omega) fun r ns' r0 r1 => ?_)))))))))))
    obtain ⟨j, rfl⟩ : ∃ j : Nat, r = j := ⟨r.toNat, by omega⟩
    have hj : j < ls.length := by omega
    refine w_nil (rc_popAt 1 rfl rfl (List.getElem?_eq_getElem hj) (by omega) ⟨os, rfl, rfl, smallt (by omega), ?_⟩)
    refine ⟨ns', ls.eraseIdx j, os ++ [ls[j]], _, rfl, rfl, rfl, ?_, by rw [List.length_append, ho]; rfl⟩
    rw [List.append_assoc]
    exact ((List.Perm.append_left os (MY.perm_erase hj)).trans hp)
  · rintro as ρ O ⟨ns, ls, os, x4, rfl, rfl, rfl, hp, ho⟩
    rw [upto_len] at ho
    have hll : os.length + ls.length = es.length := by rw [← List.length_append]; exact hp.length_eq
    have : ls = [] := List.length_eq_zero_iff.mp (by simp at ho; omega)
    subst this
    rw [List.append_nil] at hp
    exact s_let 1 (s_ret (w_var rfl (hk q ns os hp)))
theorem call_shuffle {K : PySem.W.Frag} {χ : Xk} {L as : List Addr} {ρ : DSt} {O : List D} {k : List Addr → D → List D → Prop} {j : Nat} {a : Addr} {ns : List Int} {d : D} {es : List D} (ha : as[j]? = some a) (ho : O[j]? = some (.lst (ns.map D.int))) (hd : d = .tup es ∨ d = .lst es) (hl : es.length ≤ 100)
    (hk : ∀ (q : Addr) (ns' : List Int) (fs : List D), fs.Perm es → k (as ++ [q]) (.adr q) (O.set j (.lst (ns'.map D.int)) ++ [.lst fs])) : cc (c__law_shuffle K) χ ρ [j] L as [.adr a, d] O k := by
  obtain ⟨s1, s2, s3, s4, s5⟩ := sel1 ha ho
  refine ⟨s1, s2, ?_⟩
  rw [s3, s4]
  exact ⟨a, d, ns, es, rfl, rfl, rfl, hd, hl, fun q ns' fs hp => by
    have := ck1N (O := O) s5 (hk q ns' fs hp)
    rw [s3] at this
    exact this⟩
def c__law_hidden (K : PySem.W.Frag) : Ct := fun L as ds O k e => ∃ (a : Addr) (ns : List Int) (rows : List MR.Row), as = [a] ∧ ds = [.adr a, .lst (rows.map MR.dRow)] ∧ O = [.lst (ns.map D.int)] ∧ (rows.map (·.maker)).Nodup ∧ rows.length ≤ 100 ∧ (∀ r ∈ rows, r.parts.length ≤ 4) ∧
  ∀ (q : Addr) (ns' : List Int) (h : Str → List MR.Part), (∀ r ∈ rows, (h r.maker).Perm r.parts) → k [a, q] (.adr q) [.lst (ns'.map D.int), .dk (MY.hidD rows h)]
theorem l__law_hidden {K : PySem.W.Frag} : ∀ L as ds O k e, c__law_hidden K L as ds O k e → ds.length = 2 := fun L as ds O k e h => by
  obtain ⟨a, ns, rows, _, rfl, _⟩ := h
  rfl
theorem ok__law_hidden {P : Program} {w : World} {K : PySem.W.Frag} {mg : Str → Option Value} {base : Heap} (Z : Tx P w K mg) : FnOk P w K mg base (L2.CX P w) 3 (He.ga K "_law_hidden") (fdAt K ("_law_hidden", none)) ["_law_pool_here", "_law_rows_here"] (spC (c__law_hidden K)) := by
  refine FunD.ok (k := 2) (F__law_hidden Z) sc__law_hidden (sp_len (n := 2) l__law_hidden) (fun cdv A outer s H vs Q E hr h => ⟨_, PSs.nox ((pss_cons (ps_set (i := 2) sc__law_hidden.nd rfl (Or.inl rfl) pe_dnewK)
  (pss_cons (ps_for PassesOwn.never rfl (pi_list (pv 1)) (pg_name (i := 3) sc__law_hidden.nd rfl (Or.inl rfl))
  (pss_one (ps_dput (hu_of hr) (pv 2) (pe_ix (r := rIxT K) ix_tup (pv 3) pe_int (fun _ _ => rfl)) (pe_call (ok__law_shuffle Z) (hr.mono (by decide)) (by rfl) (Z.glo 79 rfl) (Z.kp 28 rfl) (b__law_shuffle Z) .nil passN (pa_cons (pv 0) (pa_cons (pe_ix (r := rIxT K) ix_tup (pv 3) pe_int (fun _ _ => rfl)) pa_nil))) rfl)))
  (pss_one (ps_ret (pv 2)))))), enter h fun L as ds O k e c => ?_⟩)
  obtain ⟨a, ns, rows, rfl, rfl, rfl, hnd, hlen, h4, hk⟩ := c
  refine s_seq (s_set (w_dnew fun q => ?_))
  refine s_seq (s_for (i_list (w_var rfl ⟨_, rfl, fun i as ρ O => ∃ (ns : List Int) (h : Str → List MR.Part) (x3 : Option D), as = [a, q] ∧ ρ = [some (.adr a), some (.lst (rows.map MR.dRow)), some (.adr q), x3] ∧ O = [.lst (ns.map D.int), .dk (MY.hidD (rows.take i) h)] ∧ (∀ r ∈ rows.take i, (h r.maker).Perm r.parts), ⟨ns, fun _ => [], none, rfl, rfl, rfl, fun r m => by simp at m⟩, ?_, ?_⟩)))
  · rintro i as ρ O c hc ⟨ns, h, x3, rfl, rfl, rfl, hp⟩
    rw [List.getElem?_map] at hc
    obtain ⟨r, hr, rfl⟩ := Option.map_eq_some_iff.mp hc
    have mr : r ∈ rows := List.mem_of_getElem? hr
    have et : rows.take (i + 1) = rows.take i ++ [r] := by rw [List.take_add_one, hr]; rfl
    refine g_name (s_dput (w_known (d_call [0] (w_cons (w_var rfl (w_cons (w_op (w_var rfl (w_int (MI.row2 r (w_nil ?_)))))))))))
    refine call_shuffle rfl rfl (.inl rfl) (by rw [List.length_map]; have := h4 r mr; omega) fun p ns' fs hfs => ?_
    obtain ⟨qs, rfl, hqs⟩ := MY.perm_map (fun x y => MI.dPart_inj) hfs
    refine ⟨p, _, _, _, rfl, rfl, rfl, ?_⟩
    refine w_var rfl (w_op (w_var rfl (w_int (MI.row1 r ⟨1, q, .inr r.maker, MY.hidD (rows.take i) h, rfl, rfl, rfl, rfl, smallt (by unfold MY.hidD; rw [List.length_map, List.length_take]; omega), ?_⟩))))
    refine ⟨ns', fun z => if z = r.maker then qs else h z, _, rfl, rfl, ?_, fun r' m => ?_⟩
    · rw [et]
      have e1 : putDk (MY.hidD (rows.take i) h) (.inr r.maker) (.lst (qs.map MR.dPart)) = MY.hidD (rows.take i) h ++ [(.inr r.maker, .lst (qs.map MR.dPart))] := MY.put_new (β := Unit) hnd hr (fun r => .lst ((h r.maker).map MR.dPart)) _
      have e2 : MY.hidD (rows.take i ++ [r]) (fun z => if z = r.maker then qs else h z) = MY.hidD (rows.take i) h ++ [(.inr r.maker, .lst (qs.map MR.dPart))] := by
        unfold MY.hidD
        rw [List.map_append]
        congr 1
        · refine List.map_congr_left fun r' m => ?_
          show (Sum.inr r'.maker, D.lst (List.map MR.dPart (if r'.maker = r.maker then qs else h r'.maker))) = _
          rw [if_neg (MY.new_maker hnd hr m)]
        · show [(Sum.inr r.maker, D.lst (List.map MR.dPart (if r.maker = r.maker then qs else h r.maker)))] = _
          rw [if_pos rfl]
      rw [e2, ← e1]
      rfl
    · rw [et] at m
      rcases List.mem_append.mp m with m | m
      · show (if r'.maker = r.maker then qs else h r'.maker).Perm r'.parts
        rw [if_neg (MY.new_maker hnd hr m)]
        exact hp r' m
      · simp at m
        subst m
        show (if r'.maker = r'.maker then qs else h r'.maker).Perm r'.parts
        rw [if_pos rfl]
        exact hqs
  · rintro as ρ O ⟨ns, h, x3, rfl, rfl, rfl, hp⟩
    have erl : rows.take (rows.map MR.dRow).length = rows := by rw [List.length_map, List.take_length]
    rw [erl] at hp ⊢
    exact s_ret (w_var rfl (hk q ns h hp))
theorem call_hidden {K : PySem.W.Frag} {χ : Xk} {L as : List Addr} {ρ : DSt} {O : List D} {k : List Addr → D → List D → Prop} {j : Nat} {a : Addr} {ns : List Int} {rows : List MR.Row} (ha : as[j]? = some a) (ho : O[j]? = some (.lst (ns.map D.int))) (hnd : (rows.map (·.maker)).Nodup) (hlen : rows.length ≤ 100) (h4 : ∀ r ∈ rows, r.parts.length ≤ 4)
    (hk : ∀ (q : Addr) (ns' : List Int) (h : Str → List MR.Part), (∀ r ∈ rows, (h r.maker).Perm r.parts) → k (as ++ [q]) (.adr q) (O.set j (.lst (ns'.map D.int)) ++ [.dk (MY.hidD rows h)])) : cc (c__law_hidden K) χ ρ [j] L as [.adr a, .lst (rows.map MR.dRow)] O k := by
  obtain ⟨s1, s2, s3, s4, s5⟩ := sel1 ha ho
  refine ⟨s1, s2, ?_⟩
  rw [s3, s4]
  exact ⟨a, ns, rows, rfl, rfl, rfl, hnd, hlen, h4, fun q ns' h hp => by
    have := ck1N (O := O) s5 (hk q ns' h hp)
    rw [s3] at this
    exact this⟩
def c__law_more (K : PySem.W.Frag) : Ct := fun L as ds O k e => ∃ (a : Addr) (ns : List Int) (tk : Addr) (tds fds sds : List (Key × D)) (rows : List MR.Row) (t : Nat) (fs : List MG.RFn) (late early : MG.RFn), L = [] ∧ as = [a] ∧ ds = [.adr a, MI.tabD K rows tk tds fds sds, .lst (fs.map MG.dRFn), .int (MG.atC t : Nat), MG.dRFn late, MG.dRFn early] ∧ O = [.lst (ns.map D.int)] ∧
  MI.Tabl K rows tk tds fds sds ∧ rows ∈ MG.rowZs ∧ t ∈ [0, 1, 2] ∧ fs.map MG.core = MG.tabC t ∧ (∃ l ∈ MG.flate, MG.core late = MG.cB l) ∧ (∃ b ∈ MG.fbads.take 17, MG.core early = MG.cB b) ∧ ∀ ns' : List Int, k [a] (.bl true) [.lst (ns'.map D.int)]
theorem l__law_more {K : PySem.W.Frag} : ∀ L as ds O k e, c__law_more K L as ds O k e → ds.length = 6 := fun L as ds O k e h => by
  obtain ⟨a, ns, tk, tds, fds, sds, rows, t, fs, late, early, _, _, rfl, _⟩ := h
  rfl
theorem map_put {α β : Type} (f : α → β) (l : List α) (i : Nat) (x : α) : (MG.put l i x).map f = MG.put (l.map f) i (f x) := by
  unfold MG.put
  rw [List.map_append, List.map_append, List.map_take, List.map_drop]
  rfl
theorem put_len {α : Type} {l : List α} {i : Nat} (h : i < l.length) (x : α) : (MG.put l i x).length = l.length := by
  unfold MG.put
  rw [List.length_append, List.length_append, List.length_take, List.length_drop]
  show _ + 1 + _ = _
  omega
theorem put_mem {α : Type} {l : List α} {i : Nat} {x y : α} (h : y ∈ MG.put l i x) : y ∈ l ∨ y = x := by
  unfold MG.put at h
  rcases List.mem_append.mp h with h | h
  · rcases List.mem_append.mp h with h | h
    · exact .inl (List.mem_of_mem_take h)
    · exact .inr (List.mem_singleton.mp h)
  · exact .inl (List.mem_of_mem_drop h)
theorem rowZ_ok {rows : List MR.Row} (h : rows ∈ MG.rowZs) : MR.Table ["Tree", "List"] rows := by
  unfold MG.rowZs at h
  simp only [List.mem_cons, List.not_mem_nil, or_false] at h
  rcases h with rfl | rfl
  · exact MG.rowZ_table
  · exact MG.rowZ_table.perm (List.reverse_perm _)
theorem small_of {f : MG.RFn} {c : MG.Core} (e : MG.core f = c) (h : MG.smallB c = true) : MG.SmallF f := MG.smallB_ok (by rw [e]; exact h)
theorem mg_nl (x y : D) : mergeD [(.inr "Node", x), (.inr "Leaf", y)] = [(.inr "Node", x), (.inr "Leaf", y)] := merge_nd (kds := [(.inr "Node", x), (.inr "Leaf", y)]) (show ([.inr "Node", .inr "Leaf"] : List Key).Nodup by decide +kernel)
theorem mg_cn (x y : D) : mergeD [(.inr "Cons", x), (.inr "Nil", y)] = [(.inr "Cons", x), (.inr "Nil", y)] := merge_nd (kds := [(.inr "Cons", x), (.inr "Nil", y)]) (show ([.inr "Cons", .inr "Nil"] : List Key).Nodup by decide +kernel)
theorem rc_intB {L as : List Addr} {O : List D} {k : List Addr → D → List D → Prop} {b : Bool} (z : k as (.int (if b then 1 else 0)) O) : rc (fun xs H Q => (∃ i, xs = [V.int i] ∧ Q (V.int i) H) ∨ ∃ b, xs = [V.bl b] ∧ Q (V.int (if b then 1 else 0)) H) L as O [.bl b] k := fun F H xs hd ow r Q q => by
  cases r with
  | cons r1 r2 =>
    cases r2
    cases r1
    exact .inr ⟨b, rfl, q F H as O _ _ (.refl ..) hd ow (.int _) z⟩
theorem ne_I {i : Int} : (!eqD (.int i) (.int i)) = false := by
  show (!(i == i)) = false
  rw [beq_self_eq_true]
  rfl
theorem w_kindsM {K : PySem.W.Frag} {χ : Xk} {E : XK} {as : List Addr} {ρ : DSt} {O : List D} {k : List Addr → D → List D → Prop} {j : Nat} {nms : List Str} {rows : List MR.Row} (hT : MR.Table nms rows) (hl : as.length = O.length) (hj : ρ[j]? = some (some (.lst (rows.map MR.dRow))))
    (hk : ∀ t tds fds sds, MI.Tabl K rows t tds fds sds → k as (MI.tabD K rows t tds fds sds) O) :
    dE χ (tMake (He.ga K "Kinds") (spC (c_Kinds___init__ K)) [] E (tCons (tVar j) tNil)) [] as ρ O k := by
  refine w_known (w_make [] (w_cons (w_var hj (w_nil fun p => ?_))))
  have ha : (as ++ [p])[as.length]? = some p := by simp
  have ho : (O ++ [D.ins (He.ga K "Kinds") []])[as.length]? = some (D.ins (He.ga K "Kinds") []) := by rw [hl]; simp
  obtain ⟨s1, s2, s3, s4, s5⟩ := sel1 ha ho
  refine ⟨by simp, (fun _ m => by cases m), s1, s2, ?_⟩
  show c_Kinds___init__ K [] (selA (as ++ [p]) [as.length]) _ (selO (O ++ [D.ins (He.ga K "Kinds") []]) [as.length]) _ _
  rw [s3, s4]
  refine ⟨p, _, nms, rows, rfl, rfl, rfl, rfl, .inl rfl, hT, fun t sds hcz hlo => ?_⟩
  refine ⟨[], [], [_], (by rw [List.append_nil]; exact s3.symm), rfl, rfl, rfl, p, as, _, O, ?_, rfl, ?_, hk t _ _ sds (MI.tabl_of hT t sds hlo)⟩
  · exact List.append_nil _
  · show (putAll (O ++ [D.ins (He.ga K "Kinds") []]) [as.length] [_]) ++ [] = _
    rw [List.append_nil]
    show (O ++ [D.ins (He.ga K "Kinds") []]).set as.length _ = _
    rw [hl, List.set_append_right _ _ (Nat.le_refl _), Nat.sub_self]
    rfl
theorem ok__law_more {P : Program} {w : World} {K : PySem.W.Frag} {mg : Str → Option Value} {base : Heap} (Z : Tx P w K mg) : FnOk P w K mg base (L2.CX P w) 15 (He.ga K "_law_more") (fdAt K ("_law_more", none)) ["_law_pool_here", "_law_kinds", "_law_table", "_law_at", "_law_late", "_law_early"] (spC (c__law_more K)) := by
  refine FunD.ok (k := 14) (F__law_more Z) sc__law_more (sp_len (n := 6) l__law_more) (fun cdv A outer s H vs Q E hr h => ⟨_, PSs.nox ((pss_cons (ps_set (i := 6) sc__law_more.nd rfl (Or.inl rfl) (pe_op op_mod (pe_callTy call_int1 (by rfl) (Z.free 11 rfl) PyProof.Rows.boot_int (pa_cons (pe_op op_add (pe_op op_add (pv 3) pe_int) (pe_call (ok__law_take Z) (hr.mono (by decide)) (by rfl) (Z.glo 1 rfl) (Z.kp 1 rfl) (b__law_take Z) .nil passN (pa_cons (pv 0) (pa_cons pe_int pa_nil)))) pa_nil)) pe_int))
  (pss_cons (ps_set (i := 7) sc__law_more.nd rfl (Or.inl rfl) (pe_disp (pps_cons pe_str (pe_dget (hu_of hr) (pe_ix (r := rIxT K) ix_tup (pv 5) pe_int (fun _ _ => rfl)) pe_str (fun _ _ => rfl)) (pps_cons pe_str (pe_tup pa_nil) pps_nil)) (by rfl) (by rfl) (fun z => by cases z) (by decide)))
  (pss_cons (ps_set (i := 8) sc__law_more.nd rfl (Or.inl rfl) (pe_call (ok__law_with Z) (hr.mono (by decide)) (by rfl) (Z.glo 7 rfl) (Z.kp 5 rfl) (b__law_with Z) .nil passN (pa_cons (pe_call (ok__law_with Z) (hr.mono (by decide)) (by rfl) (Z.glo 7 rfl) (Z.kp 5 rfl) (b__law_with Z) .nil passN (pa_cons (pv 2) (pa_cons (pv 3) (pa_cons (pv 4) pa_nil)))) (pa_cons (pv 6) (pa_cons (pe_tup (pa_cons pe_str (pa_cons pe_str (pa_cons pe_str (pa_cons (pv 7) pa_nil))))) pa_nil)))))
  (pss_cons (ps_if (pt_cmpR op_ne (pe_call (ok__law_bad_row Z) (hr.mono (by decide)) (by rfl) (Z.glo 5 rfl) (Z.kp 3 rfl) (b__law_bad_row Z) .nil passN (pa_cons (pv 1) (pa_cons (pv 8) pa_nil))) (pv 6) (nomark _))
  (pss_one (ps_ret pe_bl))
  pss_nil)
  (pss_cons (ps_set (i := 9) sc__law_more.nd rfl (Or.inl rfl) (pe_disp (pps_cons pe_str (pe_tup pa_nil) (pps_cons pe_str (pe_tup pa_nil) pps_nil)) (by rfl) (by rfl) (fun z => by cases z) (by decide)))
  (pss_cons (ps_for PassesOwn.never rfl (pi_list (pe_lst (pa_cons (pe_tup (pa_cons pe_str (pa_cons pe_str (pa_cons pe_str (pa_cons (pv 9) pa_nil))))) (pa_cons (pe_tup (pa_cons pe_str (pa_cons pe_str (pa_cons pe_str (pa_cons (pv 9) pa_nil))))) (pa_cons (pv 5) pa_nil))))) (pg_name (i := 10) sc__law_more.nd rfl (Or.inl rfl))
  (pss_cons (ps_set (i := 8) sc__law_more.nd rfl (Or.inl rfl) (pe_call (ok__law_with Z) (hr.mono (by decide)) (by rfl) (Z.glo 7 rfl) (Z.kp 5 rfl) (b__law_with Z) .nil passN (pa_cons (pe_call (ok__law_with Z) (hr.mono (by decide)) (by rfl) (Z.glo 7 rfl) (Z.kp 5 rfl) (b__law_with Z) .nil passN (pa_cons (pv 2) (pa_cons (pv 3) (pa_cons (pv 10) pa_nil)))) (pa_cons (pv 6) (pa_cons (pe_tup (pa_cons pe_str (pa_cons pe_str (pa_cons pe_str (pa_cons (pv 7) pa_nil))))) pa_nil)))))
  (pss_cons (ps_set (i := 15) sc__law_more.nd rfl (Or.inl rfl) (pe_call (ok__law_with Z) (hr.mono (by decide)) (by rfl) (Z.glo 7 rfl) (Z.kp 5 rfl) (b__law_with Z) .nil passN (pa_cons (pe_call (ok__law_with Z) (hr.mono (by decide)) (by rfl) (Z.glo 7 rfl) (Z.kp 5 rfl) (b__law_with Z) .nil passN (pa_cons (pv 2) (pa_cons (pv 3) (pa_cons (pe_tup (pa_cons pe_str (pa_cons pe_str (pa_cons pe_str (pa_cons (pv 7) pa_nil))))) pa_nil)))) (pa_cons (pv 6) (pa_cons (pv 10) pa_nil)))))
  (pss_one (ps_for PassesOwn.never rfl (pi_list (pe_lst (pa_cons (pv 8) (pa_cons (pv 15) pa_nil)))) (pg_name (i := 13) sc__law_more.nd rfl (Or.inl rfl))
  (pss_one (ps_if (pt_cmpR op_ne (pe_call (ok__law_bad_row Z) (hr.mono (by decide)) (by rfl) (Z.glo 5 rfl) (Z.kp 3 rfl) (b__law_bad_row Z) .nil passN (pa_cons (pv 1) (pa_cons (pv 13) pa_nil))) (pe_ix (r := rIxL K) ix_list (pe_lst (pa_cons (pv 3) (pa_cons (pv 6) pa_nil))) (pe_callTy call_int1 (by rfl) (Z.free 11 rfl) PyProof.Rows.boot_int (pa_cons (pe_cmpR op_lt (pv 6) (pv 3) (nomark _)) pa_nil)) (fun _ _ => rfl)) (nomark _))
  (pss_one (ps_ret pe_bl))
  pss_nil)))))))
  (pss_cons (ps_set (i := 11) sc__law_more.nd rfl (Or.inl rfl) (pe_op op_cat (pe_slice sl_list (pv 2) po_none (po_some pe_int)) (pe_lst (pa_cons (pe_tup (pa_cons (pe_ix (r := rIxT K) ix_tup (pe_ix (r := rIxL K) ix_list (pv 2) (pe_call (ok__law_take Z) (hr.mono (by decide)) (by rfl) (Z.glo 1 rfl) (Z.kp 1 rfl) (b__law_take Z) .nil passN (pa_cons (pv 0) (pa_cons pe_int pa_nil))) (fun _ _ => rfl)) pe_int (fun _ _ => rfl)) (pa_cons pe_str (pa_cons pe_str (pa_cons (pe_disp (pps_cons pe_str (pe_tup pa_nil) (pps_cons pe_str (pe_tup pa_nil) pps_nil)) (by rfl) (by rfl) (fun z => by cases z) (by decide)) pa_nil))))) pa_nil))))
  (pss_cons (ps_if (pt_cmpR op_ne (pe_call (ok__law_bad_row Z) (hr.mono (by decide)) (by rfl) (Z.glo 5 rfl) (Z.kp 3 rfl) (b__law_bad_row Z) .nil passN (pa_cons (pv 1) (pa_cons (pv 11) pa_nil))) pe_int (nomark _))
  (pss_one (ps_ret pe_bl))
  pss_nil)
  (pss_cons (ps_setLc (i := 12) rfl sc__law_more.nd rfl rfl (sw_true rfl rfl rfl (by decide +kernel)) (pi_str pe_str) (blkOk_by (own := [("_law_letter", 16)]) (N := N__law_more) (sc := defScope s__law_more) (by decide +kernel)) (fun _ _ _ _ _ => (pg_name (i := 16) sc__law_more.nd rfl (by first | exact Or.inl rfl | exact Or.inr rfl))) (fun _ _ _ _ _ => pts_nil) (fun _ _ _ _ _ => (pe_tup (pa_cons (pe_op op_add_str pe_str (pv 16)) (pa_cons pe_str (pa_cons pe_str (pa_cons (pe_disp (pps_cons pe_str (pe_tup pa_nil) (pps_cons pe_str (pe_tup pa_nil) pps_nil)) (by rfl) (by rfl) (fun z => by cases z) (by decide)) pa_nil)))))))
  (pss_cons (ps_if (PW.pt (pw_or (pt_cmpR op_ne (pe_call (ok__law_bad_row Z) (hr.mono (by decide)) (by rfl) (Z.glo 5 rfl) (Z.kp 3 rfl) (b__law_bad_row Z) .nil passN (pa_cons (pv 1) (pa_cons (pe_slice sl_list (pv 12) po_none (po_some pe_int)) pa_nil))) (pe_un un_neg pe_int) (nomark _)) (pw_or1 (pt_cmpR op_ne (pe_call (ok__law_bad_row Z) (hr.mono (by decide)) (by rfl) (Z.glo 5 rfl) (Z.kp 3 rfl) (b__law_bad_row Z) .nil passN (pa_cons (pv 1) (pa_cons (pv 12) pa_nil))) pe_int (nomark _)))))
  (pss_one (ps_ret pe_bl))
  pss_nil)
  (pss_cons (ps_set (i := 13) sc__law_more.nd rfl (Or.inl rfl) (pe_call (ok__law_rows Z) (hr.mono (by decide)) (by rfl) (Z.glo 73 rfl) (Z.kp 22 rfl) (b__law_rows Z) .nil passN (pa_cons (pv 0) pa_nil)))
  (pss_cons (ps_set (i := 14) sc__law_more.nd rfl (Or.inl rfl) (pe_call (ok__law_functions Z) (hr.mono (by decide)) (by rfl) (Z.glo 74 rfl) (Z.kp 23 rfl) (b__law_functions Z) .nil passN (pa_cons (pv 0) (pa_cons (pv 13) (pa_cons (pe_call (ok__law_hidden Z) (hr.mono (by decide)) (by rfl) (Z.glo 75 rfl) (Z.kp 24 rfl) (b__law_hidden Z) .nil passN (pa_cons (pv 0) (pa_cons (pv 13) pa_nil))) (pa_cons (pe_op op_add pe_int (pe_call (ok__law_take Z) (hr.mono (by decide)) (by rfl) (Z.glo 1 rfl) (Z.kp 1 rfl) (b__law_take Z) .nil passN (pa_cons (pv 0) (pa_cons pe_int pa_nil)))) (pa_cons pe_int pa_nil)))))))
  (pss_one (ps_ret (pe_cmpR op_eq (pe_call (ok__law_bad_row Z) (hr.mono (by decide)) (by rfl) (Z.glo 5 rfl) (Z.kp 3 rfl) (b__law_bad_row Z) .nil passN (pa_cons (pe_make (Z.mkr 3 rfl) (ok_Kinds___init__ Z) (hr.mono (by decide)) (by rfl) (Z.glo 2 rfl) (b_Kinds___init__ Z) .nil passN (pa_cons (pv 13) pa_nil)) (pa_cons (pv 14) pa_nil))) (pe_un un_neg pe_int) (nomark _))))))))))))))))), enter h fun L as ds O k e c => ?_⟩)
  obtain ⟨a, ns, tk, tds, fds, sds, rows, t, fs, late, early, rfl, rfl, rfl, rfl, hTab, hrw, ht, hfs, ⟨l, ml, el⟩, ⟨b, mb, eb⟩, hk⟩ := c
  have hT := rowZ_ok hrw
  have hR := MF.RowsOk.of hT
  have h3 : fs.length = 3 := by
    have := congrArg List.length hfs
    rw [List.length_map] at this
    rw [this]
    simp only [List.mem_cons, List.not_mem_nil, or_false] at ht
    rcases ht with rfl | rfl | rfl <;> rfl
  have hat : MG.atC t < 3 := by
    simp only [List.mem_cons, List.not_mem_nil, or_false] at ht
    rcases ht with rfl | rfl | rfl <;> decide
  have hSf : ∀ f ∈ fs, MG.SmallF f := fun f m => MG.smallB_ok (MG.s_tab t ht _ (hfs ▸ List.mem_map_of_mem m))
  have mbf : b ∈ MG.fbads := List.mem_of_mem_take mb
  have hSl : MG.SmallF late := small_of el (MG.s_cB l (List.mem_append_left _ (List.mem_append_right _ ml))).1
  have hSe : MG.SmallF early := small_of eb (MG.s_cB b (List.mem_append_left _ (List.mem_append_left _ mbf))).1
  have hbod : early.bodies = ([("Node", b), ("Leaf", [])] : List (Str × List MG.RS)) := congrArg (fun c : MG.Core => c.2.2.2) eb
  refine s_seq (s_set (w_op (w_cb (w_cons (w_op (w_op (w_var rfl (w_int (rv_i0 (d_call [0] (w_cons (w_var rfl (w_cons (w_int (w_nil (call_take rfl rfl (by decide) fun r ns1 r0 r2 => rv_i0 (w_nil (rc_int (w_int (rv_i (by decide) ?_))))))))))))))))))))
  obtain ⟨o, ho, mo, hne⟩ : ∃ o : Nat, ((MG.atC t : Nat) + 1 + r) % 3 = (o : Int) ∧ o ∈ [0, 1, 2] ∧ o ≠ MG.atC t := by
    have hr : r = 0 ∨ r = 1 := by omega
    simp only [List.mem_cons, List.not_mem_nil, or_false] at ht
    rcases ht with rfl | rfl | rfl <;> rcases hr with rfl | rfl
    · exact ⟨1, rfl, by decide, by decide⟩
    · exact ⟨2, rfl, by decide, by decide⟩
    · exact ⟨0, rfl, by decide, by decide⟩
    · exact ⟨1, rfl, by decide, by decide⟩
    · exact ⟨2, rfl, by decide, by decide⟩
    · exact ⟨0, rfl, by decide, by decide⟩
  have ho3 : o < 3 := by
    simp only [List.mem_cons, List.not_mem_nil, or_false] at mo
    omega
  rw [ho]
  refine s_seq (s_set (w_knownL (w_disp fun q => w_str ⟨.inr "Node", rfl, w_dget (w_op (w_var rfl (w_int (rv_ixT (d := .ldk early.ad (MG.bdsD early.bodies)) rfl (w_str ⟨rfl, rfl, .inr "Node", MG.bdsD early.bodies, MG.dRB b, rfl, .inl (.inr ⟨early.ad, rfl⟩), (by rw [hbod]; rfl), w_str ⟨.inr "Leaf", rfl, w_tup (w_nil ⟨Nat.zero_le _, rfl, rfl, show 2 ≤ 15 by decide, _, _, _, _, rfl, rfl, rfl, ?_⟩)⟩⟩)))))⟩)))
  rw [mg_nl]
  obtain ⟨zr, hzr⟩ : ∃ zr : MG.RFn, zr = ⟨"zz", "Tree", "sum", q, [("Node", b), ("Leaf", [])]⟩ := ⟨_, rfl⟩
  have ezr : MG.core zr = MG.zz b := by rw [hzr]; rfl
  have dzr : MG.dRFn zr = .tup [.str "zz", .str "Tree", .str "sum", .ldk q [(.inr "Node", MG.dRB b), (.inr "Leaf", .tup [])]] := by rw [hzr]; rfl
  have hSz : MG.SmallF zr := small_of ezr (MG.s_cB b (List.mem_append_left _ (List.mem_append_left _ mbf))).2
  have key : ∀ (x y : MG.RFn) (i j : Nat), MG.SmallF x → MG.SmallF y → i < 3 → j < 3 → (∀ f ∈ MG.put (MG.put fs i x) j y, MG.SmallF f) ∧ (MG.put (MG.put fs i x) j y).length ≤ 20 ∧ (MG.put (MG.put fs i x) j y).map MG.core = MG.put (MG.put (MG.tabC t) i (MG.core x)) j (MG.core y) ∧ MG.put (MG.put (fs.map MG.dRFn) i (MG.dRFn x)) j (MG.dRFn y) = (MG.put (MG.put fs i x) j y).map MG.dRFn := fun x y i j sx sy hi hj => by
    refine ⟨fun f m => ?_, ?_, ?_, ?_⟩
    · rcases put_mem m with m | rfl
      · rcases put_mem m with m | rfl
        · exact hSf f m
        · exact sx
      · exact sy
    · rw [put_len (by rw [put_len (by omega)]; omega), put_len (by omega), h3]
      decide
    · rw [map_put, map_put, hfs]
    · rw [map_put, map_put]
  have hdl : ∀ (x : D) (i : Nat), i < 3 → i < (fs.map MG.dRFn).length := fun x i hi => by rw [List.length_map]; omega
  have hdl2 : ∀ (x : D) (i j : Nat), i < 3 → j < 3 → j < (MG.put (fs.map MG.dRFn) i x).length ∧ (MG.put (fs.map MG.dRFn) i x).length ≤ 100 := fun x i j hi hj => by
    rw [put_len (hdl x i hi), List.length_map]
    omega
  have hdl0 : (fs.map MG.dRFn).length ≤ 100 := by rw [List.length_map]; omega
  refine s_seq (s_set (d_call [] (w_cons (d_call [] (w_cons (w_var rfl (w_cons (w_var rfl (w_cons (w_var rfl (w_nil (call_with (hdl .non _ hat) hdl0 ?_)))))))))))) 
  refine w_cons (w_var rfl (w_cons (w_tup (w_cons (w_str (w_cons (w_str (w_cons (w_str (w_cons (w_var rfl (w_nil ⟨show 4 ≤ sizeLine by decide, ?_⟩))))))))))))
  rw [← dzr]
  refine w_nil (call_with (hdl2 _ _ _ hat ho3).1 (hdl2 _ _ _ hat ho3).2 ?_)
  obtain ⟨k1, k2, k3, k4⟩ := key late zr (MG.atC t) o hSl hSz hat ho3
  refine s_seq (s_if (w_test (w_op (d_call [] (w_cons (w_var rfl (w_cons (w_var rfl (w_nil (call_bad (v := some o) k4 hTab hR k1 k2 (by rw [k3, el, ezr]; exact MG.v_late rows hrw t ht o mo hne b mb l ml) (w_var rfl (rv_ne rfl ⟨_, rfl, i_F ne_I (s_next ?_)⟩))))))))))))
  refine s_seq (s_set (w_knownL (w_disp fun q2 => w_str ⟨.inr "Node", rfl, w_tup (w_nil ⟨show 0 ≤ sizeLine by decide, w_str ⟨.inr "Leaf", rfl, w_tup (w_nil ⟨show 0 ≤ sizeLine by decide, ⟨rfl, rfl, show 2 ≤ 15 by decide, _, _, _, _, rfl, rfl, rfl, ?_⟩⟩)⟩⟩)⟩)))
  rw [mg_nl]
  obtain ⟨f1, hf1⟩ : ∃ f1 : MG.RFn, f1 = ⟨"1a", "Tree", "sum", q2, [("Node", []), ("Leaf", [])]⟩ := ⟨_, rfl⟩
  obtain ⟨f2, hf2⟩ : ∃ f2 : MG.RFn, f2 = ⟨"f", "Tree", "min", q2, [("Node", []), ("Leaf", [])]⟩ := ⟨_, rfl⟩
  have hfst : ∀ x ∈ [f1, f2, early], MG.core x ∈ MG.firsts b := fun x m => by
    simp only [List.mem_cons, List.not_mem_nil, or_false] at m
    unfold MG.firsts
    rcases m with rfl | rfl | rfl
    · rw [hf1]; exact List.mem_cons_self
    · rw [hf2]; exact List.mem_cons_of_mem _ List.mem_cons_self
    · rw [eb]; exact List.mem_cons_of_mem _ (List.mem_cons_of_mem _ List.mem_cons_self)
  refine s_seq (s_for (i_list (w_lstF (w_cons (w_tup (w_cons (w_str (w_cons (w_str (w_cons (w_str (w_cons (w_var rfl (w_nil ⟨show 4 ≤ sizeLine by decide, w_cons (w_tup (w_cons (w_str (w_cons (w_str (w_cons (w_str (w_cons (w_var rfl (w_nil ⟨show 4 ≤ sizeLine by decide, w_cons (w_var rfl (w_nil ⟨show 3 ≤ sizeLine by decide, ⟨_, rfl, fun i as ρ O => ∃ (x8 x10 x13 x15 : Option D), as = [a] ∧ ρ = [some (.adr a), some (MI.tabD K rows tk tds fds sds), some (.lst (fs.map MG.dRFn)), some (.int (MG.atC t : Nat)), some (MG.dRFn late), some (MG.dRFn early), some (.int (o : Nat)), some (.ldk q [(.inr "Node", MG.dRB b), (.inr "Leaf", .tup [])]), x8, some (.ldk q2 [(.inr "Node", .tup []), (.inr "Leaf", .tup [])]), x10, none, none, x13, none, x15, none] ∧ O = [.lst (ns1.map D.int)], ⟨_, _, _, _, rfl, rfl, rfl⟩, ?_, ?_⟩⟩))⟩))))))))))⟩))))))))))))))
  · rintro i as ρ O c hc ⟨x8, x10, x13, x15, rfl, rfl, rfl⟩
    obtain ⟨x, mx, rfl⟩ : ∃ x ∈ [f1, f2, early], c = MG.dRFn x := by
      rcases i with _ | _ | _ | i
      · cases hc; exact ⟨f1, List.mem_cons_self, by rw [hf1]; rfl⟩
      · cases hc; exact ⟨f2, List.mem_cons_of_mem _ List.mem_cons_self, by rw [hf2]; rfl⟩
      · cases hc; exact ⟨early, List.mem_cons_of_mem _ (List.mem_cons_of_mem _ List.mem_cons_self), rfl⟩
      · cases hc
    have hcx := hfst x mx
    have hSx : MG.SmallF x := MG.smallB_ok (MG.s_first b mbf _ hcx)
    obtain ⟨vb, vt⟩ := MG.v_both rows hrw t ht o mo hne b mb _ hcx
    obtain ⟨m1, m2, m3, m4⟩ := key x zr (MG.atC t) o hSx hSz hat ho3
    obtain ⟨n1, n2, n3, n4⟩ := key zr x (MG.atC t) o hSz hSx hat ho3
    rw [← ezr] at vb vt
    rw [← m3] at vb
    rw [← n3] at vt
    refine g_name ?_
    refine s_seq (s_set (d_call [] (w_cons (d_call [] (w_cons (w_var rfl (w_cons (w_var rfl (w_cons (w_var rfl (w_nil (call_with (hdl .non _ hat) hdl0 ?_))))))))))))
    refine w_cons (w_var rfl (w_cons (w_tup (w_cons (w_str (w_cons (w_str (w_cons (w_str (w_cons (w_var rfl (w_nil ⟨show 4 ≤ sizeLine by decide, ?_⟩))))))))))))
    rw [← dzr]
    refine w_nil (call_with (hdl2 _ _ _ hat ho3).1 (hdl2 _ _ _ hat ho3).2 ?_)
    refine s_seq (s_set (d_call [] (w_cons (d_call [] (w_cons (w_var rfl (w_cons (w_var rfl (w_cons (w_tup (w_cons (w_str (w_cons (w_str (w_cons (w_str (w_cons (w_var rfl (w_nil ⟨show 4 ≤ sizeLine by decide, ?_⟩)))))))))))))))))) )
    rw [← dzr]
    refine w_nil (call_with (hdl .non _ hat) hdl0 ?_)
    refine w_cons (w_var rfl (w_cons (w_var rfl (w_nil (call_with (hdl2 _ _ _ hat ho3).1 (hdl2 _ _ _ hat ho3).2 ?_)))))
    rw [m4, n4]
    refine s_for (i_list (w_lstF (w_cons (w_var rfl (w_cons (w_var rfl (w_nil ⟨show 2 ≤ sizeLine by decide, _, rfl, fun i as ρ O => ∃ (x13 : Option D), as = [a] ∧ ρ = [some (.adr a), some (MI.tabD K rows tk tds fds sds), some (.lst (fs.map MG.dRFn)), some (.int (MG.atC t : Nat)), some (MG.dRFn late), some (MG.dRFn early), some (.int (o : Nat)), some (.ldk q [(.inr "Node", MG.dRB b), (.inr "Leaf", .tup [])]), some (.lst ((MG.put (MG.put fs (MG.atC t) x) o zr).map MG.dRFn)), some (.ldk q2 [(.inr "Node", .tup []), (.inr "Leaf", .tup [])]), some (MG.dRFn x), none, none, x13, none, some (.lst ((MG.put (MG.put fs (MG.atC t) zr) o x).map MG.dRFn)), none] ∧ O = [.lst (ns1.map D.int)], ⟨_, rfl, rfl, rfl⟩, ?_, ?_⟩)))))))
    · rintro j as ρ O c hc ⟨x13, rfl, rfl, rfl⟩
      obtain ⟨gs, rfl, g1, g2, g3⟩ : ∃ gs : List MG.RFn, c = .lst (gs.map MG.dRFn) ∧ (∀ f ∈ gs, MG.SmallF f) ∧ gs.length ≤ 20 ∧ MG.verdict rows (gs.map MG.core) = some (min o (MG.atC t)) := by
        rcases j with _ | _ | j
        · cases hc; exact ⟨_, rfl, m1, m2, vb⟩
        · cases hc; exact ⟨_, rfl, n1, n2, vt⟩
        · cases hc
      refine g_name (s_if (w_test (w_op (d_call [] (w_cons (w_var rfl (w_cons (w_var rfl (w_nil (call_bad rfl hTab hR g1 g2 g3 ?_))))))))))
      refine w_op (w_lstF (w_cons (w_var rfl (w_cons (w_var rfl (w_nil ⟨show 2 ≤ sizeLine by decide, ?_⟩))))))
      refine w_cb (w_cons (w_op (w_var rfl (w_var rfl (rv_b0 (w_nil (rc_intB ?_)))))))
      refine rv_ixL (d := .int ((min o (MG.atC t) : Nat) : Int)) ?_ (rv_ne rfl ⟨_, rfl, i_F ne_I (s_next ⟨_, rfl, rfl, rfl⟩)⟩)
      by_cases hlt : o < MG.atC t
      · rw [decide_eq_true (by omega), Nat.min_eq_left (by omega)]
        rfl
      · rw [decide_eq_false (by omega), Nat.min_eq_right (by omega)]
        rfl
    · rintro as ρ O ⟨x13, rfl, rfl, rfl⟩
      exact ⟨_, _, _, _, rfl, rfl, rfl⟩
  rintro as ρ O ⟨x8, x10, x13, x15, rfl, rfl, rfl⟩
  refine s_seq (s_set (w_known (w_op (w_known (w_sl (w_var rfl (o_none (o_some (w_int ⟨_, rfl, rsK ?_⟩)))))))))
  rw [show cutD (fs.map MG.dRFn) none (some 2) = (fs.map MG.dRFn).take 2 from cut_to (i := 2) (by rw [List.length_map]; omega)]
  refine w_lstF (w_cons (w_tup (w_cons (w_op (w_op (w_var rfl (d_call [0] (w_cons (w_var rfl (w_cons (w_int (w_nil (call_take rfl rfl (by decide) fun j ns2 j0 j2 => ?_)))))))))))))
  obtain ⟨jn, g, hg, mj, hj⟩ : ∃ (jn : Nat) (g : MG.RFn), fs[jn]? = some g ∧ jn ∈ [0, 1] ∧ atI (fs.map MG.dRFn) j = some (MG.dRFn g) := by
    obtain ⟨g0, g1, g2, rfl⟩ : ∃ g0 g1 g2, fs = [g0, g1, g2] := by
      rcases fs with _ | ⟨g0, _ | ⟨g1, _ | ⟨g2, _ | ⟨g3, r⟩⟩⟩⟩
      · cases h3
      · cases h3
      · cases h3
      · exact ⟨_, _, _, rfl⟩
      · simp at h3
    have hr : j = 0 ∨ j = 1 := by omega
    rcases hr with rfl | rfl
    · exact ⟨0, g0, rfl, by decide, rfl⟩
    · exact ⟨1, g1, rfl, by decide, rfl⟩
  have mg := List.mem_of_getElem? hg
  refine rv_ixL hj (w_int (rv_ixT (d := .str g.name) rfl (w_cons (w_str (w_cons (w_str (w_cons (w_knownL (w_disp fun p3 => w_str ⟨.inr "Cons", rfl, w_tup (w_nil ⟨show 0 ≤ sizeLine by decide, w_str ⟨.inr "Nil", rfl, w_tup (w_nil ⟨show 0 ≤ sizeLine by decide, ⟨rfl, rfl, show 2 ≤ 15 by decide, _, _, _, _, rfl, rfl, rfl, w_nil ⟨show 4 ≤ sizeLine by decide, ?_⟩⟩⟩)⟩⟩)⟩)))))))))
  rw [mg_cn]
  obtain ⟨nr, hnr⟩ : ∃ nr : MG.RFn, nr = ⟨g.name, "List", "max", p3, [("Cons", []), ("Nil", [])]⟩ := ⟨_, rfl⟩
  have enr : MG.core nr = MG.nilL (MG.core g).1 := by rw [hnr]; rfl
  have dnr : MG.dRFn nr = .tup [.str g.name, .str "List", .str "max", .ldk p3 [(.inr "Cons", .tup []), (.inr "Nil", .tup [])]] := by rw [hnr]; rfl
  have hSn : MG.SmallF nr := small_of enr (MG.s_nil (hSf g mg).name)
  rw [← dnr]
  have dtw : (fs.map MG.dRFn).take 2 ++ [MG.dRFn nr] = (fs.take 2 ++ [nr]).map MG.dRFn := by rw [List.map_append, List.map_take]; rfl
  have vtw : MG.verdict rows ((fs.take 2 ++ [nr]).map MG.core) = some 2 := by
    rw [List.map_append, List.map_take, hfs]
    show MG.verdict rows ((MG.tabC t).take 2 ++ [MG.core nr]) = some 2
    rw [enr]
    exact MG.v_twice rows hrw t ht jn mj _ (by rw [← hfs, List.getElem?_map, hg]; rfl)
  refine w_nil ⟨show 1 ≤ sizeLine by decide, rvK (smallt (by rw [List.length_take, List.length_map, h3]; decide)) ?_⟩
  refine s_seq (s_if (w_test (w_op (d_call [] (w_cons (w_var rfl (w_cons (w_var rfl (w_nil (call_bad (v := some 2) dtw hTab hR (fun f m => ?_) (by rw [List.length_append, List.length_take]; show _ + 1 ≤ _; omega) vtw (w_int (rv_ne rfl ⟨_, rfl, i_F ne_I (s_next ?_)⟩))))))))))))
  · rcases List.mem_append.mp m with m | m
    · exact hSf f (List.mem_of_mem_take m)
    · rw [List.mem_singleton.mp m]
      exact hSn
  refine s_seq (s_set (w_known (w_lcI (wg_name (by decide)) (i_str (w_str ⟨_, rfl, fun i O' acc => ∃ gs : List MG.RFn, O' = [.lst (ns2.map D.int)] ∧ acc = gs.map MG.dRFn ∧ gs.map MG.core = MG.manyC.take i, ⟨[], rfl, rfl, rfl⟩, smallt (show 7 < 100000 by decide), ?_, ?_⟩)))))
  · rintro i O' acc c hc _ ⟨gs, rfl, rfl, hgs⟩
    obtain ⟨z, rfl, hz⟩ : ∃ z : Str, c = .str z ∧ z.length = 1 ∧ MG.manyC[i]? = some (MG.nilL ("f" ++ z)) := by
      rcases i with _ | _ | _ | _ | _ | _ | _ | i
      · cases hc; exact ⟨_, rfl, rfl, by rfl⟩
      · cases hc; exact ⟨_, rfl, rfl, by rfl⟩
      · cases hc; exact ⟨_, rfl, rfl, by rfl⟩
      · cases hc; exact ⟨_, rfl, rfl, by rfl⟩
      · cases hc; exact ⟨_, rfl, rfl, by rfl⟩
      · cases hc; exact ⟨_, rfl, rfl, by rfl⟩
      · cases hc; exact ⟨_, rfl, rfl, by rfl⟩
      · cases hc
    refine g_name ⟨rfl, rfl, w_yes ⟨rfl, ?_⟩⟩
    refine i_T rfl ?_
    refine w_tup (w_cons (w_op (w_str (w_var rfl (rv_addS (small (by show 1 + z.length ≤ 100000; omega)) (w_cons (w_str (w_cons (w_str (w_cons (w_knownL (w_disp fun p4 => w_str ⟨.inr "Cons", rfl, w_tup (w_nil ⟨show 0 ≤ sizeLine by decide, w_str ⟨.inr "Nil", rfl, w_tup (w_nil ⟨show 0 ≤ sizeLine by decide, ⟨rfl, rfl, show 2 ≤ 15 by decide, _, _, _, _, rfl, rfl, rfl, ?_⟩⟩)⟩⟩)⟩)))))))))))) 
    rw [mg_cn]
    refine w_nil ⟨show 4 ≤ sizeLine by decide, rfl, gs ++ [⟨"f" ++ z, "List", "max", p4, [("Cons", []), ("Nil", [])]⟩], rfl, by rw [List.map_append]; rfl, ?_⟩
    rw [MF.tk hz.2, List.map_append, hgs]
    rfl
  rintro pm O' acc ⟨gs, rfl, rfl, hgs⟩
  have hgs : gs.map MG.core = MG.manyC := hgs
  have hgl : gs.length = 7 := by
    have := congrArg List.length hgs
    rw [List.length_map] at this
    exact this
  have hSg : ∀ f ∈ gs, MG.SmallF f := fun f m => MG.smallB_ok (MG.s_many _ (hgs ▸ List.mem_map_of_mem m))
  obtain ⟨vm6, vm7⟩ := MG.v_many rows hrw
  refine ⟨pm, _, _, _, rfl, rfl, rfl, ?_⟩
  have c6 : cutD (gs.map MG.dRFn) none (some 6) = (gs.take 6).map MG.dRFn := by
    rw [List.map_take]
    exact cut_to (i := 6) (by rw [List.length_map]; omega)
  refine s_seq (s_if (w_or (w_test (w_op (d_call [] (w_cons (w_var rfl (w_cons (w_known (w_sl (w_var rfl (o_none (o_some (w_int ⟨_, rfl, rsK (w_nil (call_bad (v := none) c6 hTab hR (fun f m => hSg f (List.mem_of_mem_take m)) (by rw [List.length_take]; omega) (by rw [List.map_take, hgs]; exact vm6) (w_un (w_int (ru_negO (rv_ne rfl ⟨_, rfl, i_F ne_I ?_⟩))))))⟩))))))))))))))
  refine w_test (w_op (d_call [] (w_cons (w_var rfl (w_cons (w_var rfl (w_nil (call_bad (v := some 6) rfl hTab hR hSg (by omega) (by rw [hgs]; exact vm7) (w_int (rv_ne rfl ⟨_, rfl, i_F ne_I (s_next ?_)⟩))))))))))
  refine s_seq (s_set (d_call [0] (w_cons (w_var rfl (w_nil ⟨by decide, (fun j m => by simp at m; subst m; exact Nat.one_pos), a, ns2, rfl, rfl, rfl, fun nms rw2 ns3 hT2 hsh => ⟨[], [], [.lst (ns3.map D.int)], rfl, rfl, rfl, ?_⟩⟩)))))
  show dS _ _ [] [a] _ [.lst (ns3.map D.int)] _
  have hlen : rw2.length ≤ 10 := hT2.some.len
  have hR2 := MF.RowsOk.of hT2
  refine s_seq (s_set (d_call [0] (w_cons (w_var rfl (w_cons (w_var rfl (w_cons (w_known (d_call [0] (w_cons (w_var rfl (w_cons (w_var rfl (w_nil (call_hidden rfl rfl hT2.some.nd (by omega) hR2.parts fun q0 ns4 h hperm => ⟨q0, _, _, _, rfl, rfl, rfl, ?_⟩)))))))))))))) )
  refine w_cons (w_op (w_int (d_call [0] (w_cons (w_var rfl (w_cons (w_int (w_nil (call_take rfl rfl (by decide) fun t0 ns5 t1 t2 => rv_i0 ?_)))))))) )
  refine w_cons (w_int (w_nil (call_functions rfl rfl (.inl (.inl rfl)) hR2 hT2.ne hperm (by omega) (by omega) (by decide) (by decide) fun ns6 ff hF _ => ?_)))
  rw [MG.rf_ds]
  refine s_ret (w_op (d_call [] (w_cons (w_kindsM hT2 rfl rfl fun t2 tds2 fds2 sds2 hTab2 => ?_))))
  refine w_cons (w_var rfl (w_nil (call_bad (v := none) rfl hTab2 hR2 (MG.drawn_small hR2 hF) (by rw [List.length_map]; have := hF.few; omega) (MG.drawn_none hR2 hF) (w_un (w_int (ru_negO (rv_eq rfl ?_)))))))
  exact hk ns6
theorem call_more {K : PySem.W.Frag} {χ : Xk} {ρ : DSt} {k : List Addr → D → List D → Prop} {a : Addr} {ns : List Int} {tk : Addr} {tds fds sds : List (Key × D)} {rows : List MR.Row} {t : Nat} {fs : List MG.RFn} {late early : MG.RFn} (hTab : MI.Tabl K rows tk tds fds sds) (h1 : rows ∈ MG.rowZs) (h2 : t ∈ [0, 1, 2]) (h3 : fs.map MG.core = MG.tabC t) (h4 : ∃ l ∈ MG.flate, MG.core late = MG.cB l) (h5 : ∃ b ∈ MG.fbads.take 17, MG.core early = MG.cB b) (hk : ∀ ns' : List Int, k [a] (.bl true) [.lst (ns'.map D.int)]) : cc (c__law_more K) χ ρ [0] [] [a] [.adr a, MI.tabD K rows tk tds fds sds, .lst (fs.map MG.dRFn), .int (MG.atC t : Nat), MG.dRFn late, MG.dRFn early] [.lst (ns.map D.int)] k :=
  ⟨by decide, (fun j m => by simp at m; subst m; exact Nat.one_pos), a, ns, tk, tds, fds, sds, rows, t, fs, late, early, rfl, rfl, rfl, rfl, hTab, h1, h2, h3, h4, h5, fun ns' => ⟨[], [], [.lst (ns'.map D.int)], rfl, rfl, rfl, hk ns'⟩⟩
def c_law (K : PySem.W.Frag) : Ct := fun L as ds O k e => ∃ (d : D) (ns : List Int), L = [] ∧ as = [] ∧ ds = [d] ∧ O = [] ∧ lstR [] [] K d (ns.map D.int) ∧ ns.length ≤ 63 ∧ ∀ as' O', k as' (.bl true) O'
theorem l_law {K : PySem.W.Frag} : ∀ L as ds O k e, c_law K L as ds O k e → ds.length = 1 := fun L as ds O k e h => by
  obtain ⟨d, ns, _, _, rfl, _⟩ := h
  rfl
theorem rot_at {F G H : MG.RFn} (eF : MG.core F = MG.cF) (eG : MG.core G = MG.cG) (eH : MG.core H = MG.cH) {t : Int} (h0 : 0 ≤ t) (h3 : t < 3) : ∃ (n : Nat) (fs : List MG.RFn), t = (n : Int) ∧ n ∈ [0, 1, 2] ∧ cutD ([F, G, H].map MG.dRFn) (some t) none ++ cutD ([F, G, H].map MG.dRFn) none (some t) = fs.map MG.dRFn ∧ fs.map MG.core = MG.tabC n ∧ fs[MG.atC n]? = some F ∧ (∀ m d, m ≠ MG.atC n → (fs.map MG.dRFn)[m]? = some d → ∃ n' es, d = .tup (.str n' :: es) ∧ n' ≠ ("f" : Str)) := by
  have gn : G.name = "g" := congrArg (fun c : MG.Core => c.1) eG
  have hn : H.name = "h" := congrArg (fun c : MG.Core => c.1) eH
  have gd : ∃ n' es, MG.dRFn G = .tup (.str n' :: es) ∧ n' ≠ ("f" : Str) := ⟨G.name, _, rfl, by rw [gn]; decide +kernel⟩
  have hd : ∃ n' es, MG.dRFn H = .tup (.str n' :: es) ∧ n' ≠ ("f" : Str) := ⟨H.name, _, rfl, by rw [hn]; decide +kernel⟩
  have ht : t = 0 ∨ t = 1 ∨ t = 2 := by omega
  rcases ht with rfl | rfl | rfl
  · refine ⟨0, [F, G, H], rfl, by decide, rfl, by show [_, _, _] = _; rw [eF, eG, eH]; rfl, rfl, fun m d hm h => ?_⟩
    rcases m with _ | _ | _ | m
    · exact absurd rfl hm
    · cases h; exact gd
    · cases h; exact hd
    · cases h
  · refine ⟨1, [G, H, F], rfl, by decide, rfl, by show [_, _, _] = _; rw [eF, eG, eH]; rfl, rfl, fun m d hm h => ?_⟩
    rcases m with _ | _ | _ | m
    · cases h; exact gd
    · cases h; exact hd
    · exact absurd rfl hm
    · cases h
  · refine ⟨2, [H, F, G], rfl, by decide, rfl, by show [_, _, _] = _; rw [eF, eG, eH]; rfl, rfl, fun m d hm h => ?_⟩
    rcases m with _ | _ | _ | m
    · cases h; exact hd
    · exact absurd rfl hm
    · cases h; exact gd
    · cases h
theorem mg_1 (x : D) : mergeD [(.inr "Node", x)] = [(.inr "Node", x)] := merge_nd (kds := [(.inr "Node", x)]) (show ([.inr "Node"] : List Key).Nodup by decide +kernel)
theorem mg_3 (x y z : D) : mergeD [(.inr "Node", x), (.inr "Leaf", y), (.inr "Nil", z)] = [(.inr "Node", x), (.inr "Leaf", y), (.inr "Nil", z)] := merge_nd (kds := [(.inr "Node", x), (.inr "Leaf", y), (.inr "Nil", z)]) (show ([.inr "Node", .inr "Leaf", .inr "Nil"] : List Key).Nodup by decide +kernel)
theorem mg_nn (x y : D) : mergeD [(.inr "Node", x), (.inr "Nil", y)] = [(.inr "Node", x), (.inr "Nil", y)] := merge_nd (kds := [(.inr "Node", x), (.inr "Nil", y)]) (show ([.inr "Node", .inr "Nil"] : List Key).Nodup by decide +kernel)
theorem mg_ln (x y : D) : mergeD [(.inr "Leaf", x), (.inr "Node", y)] = [(.inr "Leaf", x), (.inr "Node", y)] := merge_nd (kds := [(.inr "Leaf", x), (.inr "Node", y)]) (show ([.inr "Leaf", .inr "Node"] : List Key).Nodup by decide +kernel)
theorem ok_law {P : Program} {w : World} {K : PySem.W.Frag} {mg : Str → Option Value} {base : Heap} (Z : Tx P w K mg) : FnOk P w K mg base (L2.CX P w) 16 (He.ga K "law") (fdAt K ("law", none)) ["_law_script"] (spC (c_law K)) := by
  refine FunD.ok (k := 15) (F_law Z) sc_law (sp_len (n := 1) l_law) (fun cdv A outer s H vs Q E hr h => ⟨_, PSs.nox ((pss_cons (ps_set (i := 1) sc_law.nd rfl (Or.inl rfl) (pe_call (ok__law_pool Z) (hr.mono (by decide)) (by rfl) (Z.glo 0 rfl) (Z.kp 0 rfl) (b__law_pool Z) .nil passN (pa_cons (pv 0) pa_nil)))
  (pss_cons (ps_set (i := 2) sc_law.nd rfl (Or.inl rfl) (pe_lst (pa_cons (pe_tup (pa_cons pe_str (pa_cons pe_str (pa_cons (pe_tup (pa_cons (pe_tup (pa_cons pe_str (pa_cons pe_str pa_nil))) (pa_cons (pe_tup (pa_cons pe_str (pa_cons pe_str (pa_cons pe_int pa_nil)))) (pa_cons (pe_tup (pa_cons pe_str (pa_cons pe_str (pa_cons pe_int pa_nil)))) (pa_cons (pe_tup (pa_cons pe_str (pa_cons pe_str pa_nil))) pa_nil))))) pa_nil)))) pa_nil)))
  (pss_cons (ps_set (i := 2) sc_law.nd rfl (Or.inl rfl) (pe_op op_cat (pv 2) (pe_lst (pa_cons (pe_tup (pa_cons pe_str (pa_cons pe_str (pa_cons (pe_tup (pa_cons (pe_tup (pa_cons pe_str (pa_cons pe_str pa_nil))) pa_nil)) pa_nil)))) (pa_cons (pe_tup (pa_cons pe_str (pa_cons pe_str (pa_cons (pe_tup (pa_cons (pe_tup (pa_cons pe_str (pa_cons pe_str (pa_cons pe_int pa_nil)))) (pa_cons (pe_tup (pa_cons pe_str (pa_cons pe_str (pa_cons pe_int pa_nil)))) pa_nil))) pa_nil)))) pa_nil)))))
  (pss_cons (ps_set (i := 2) sc_law.nd rfl (Or.inl rfl) (pe_op op_cat (pv 2) (pe_lst (pa_cons (pe_tup (pa_cons pe_str (pa_cons pe_str (pa_cons (pe_tup pa_nil) pa_nil)))) pa_nil))))
  (pss_cons (ps_if (pt_cmpR op_eq (pe_call (ok__law_take Z) (hr.mono (by decide)) (by rfl) (Z.glo 1 rfl) (Z.kp 1 rfl) (b__law_take Z) .nil passN (pa_cons (pv 1) (pa_cons pe_int pa_nil))) pe_int (nomark _))
  (pss_one (ps_set (i := 2) sc_law.nd rfl (Or.inl rfl) (pe_revL (pv 2))))
  pss_nil)
  (pss_cons (ps_set (i := 3) sc_law.nd rfl (Or.inl rfl) (pe_make (Z.mkr 3 rfl) (ok_Kinds___init__ Z) (hr.mono (by decide)) (by rfl) (Z.glo 2 rfl) (b_Kinds___init__ Z) .nil passN (pa_cons (pv 2) pa_nil)))
  (pss_cons (ps_set (i := 4) sc_law.nd rfl (Or.inl rfl) (pe_tup (pa_cons (pe_tup (pa_cons pe_str (pa_cons pe_str (pa_cons pe_str pa_nil)))) (pa_cons (pe_tup (pa_cons pe_str (pa_cons pe_str pa_nil))) pa_nil))))
  (pss_cons (ps_set (i := 5) sc_law.nd rfl (Or.inl rfl) (pe_tup (pa_cons pe_str (pa_cons pe_str (pa_cons pe_str (pa_cons (pe_disp (pps_cons pe_str (pv 4) (pps_cons pe_str (pe_tup (pa_cons (pe_tup (pa_cons pe_str (pa_cons pe_str pa_nil))) pa_nil)) pps_nil)) (by rfl) (by rfl) (fun z => by cases z) (by decide)) pa_nil))))))
  (pss_cons (ps_set (i := 6) sc_law.nd rfl (Or.inl rfl) (pe_lst (pa_cons (pv 5) (pa_cons (pe_tup (pa_cons pe_str (pa_cons pe_str (pa_cons pe_str (pa_cons (pe_disp (pps_cons pe_str (pe_tup (pa_cons (pe_tup (pa_cons pe_str (pa_cons pe_str (pa_cons pe_str pa_nil)))) (pa_cons (pe_tup (pa_cons pe_str (pa_cons pe_str (pa_cons pe_str pa_nil)))) pa_nil))) (pps_cons pe_str (pe_tup pa_nil) pps_nil)) (by rfl) (by rfl) (fun z => by cases z) (by decide)) pa_nil))))) pa_nil))))
  (pss_cons (ps_set (i := 6) sc_law.nd rfl (Or.inl rfl) (pe_op op_cat (pv 6) (pe_lst (pa_cons (pe_tup (pa_cons pe_str (pa_cons pe_str (pa_cons pe_str (pa_cons (pe_disp (pps_cons pe_str (pe_tup pa_nil) (pps_cons pe_str (pe_tup (pa_cons (pe_tup (pa_cons pe_str (pa_cons pe_str pa_nil))) (pa_cons (pe_tup (pa_cons pe_str (pa_cons pe_str (pa_cons pe_str pa_nil)))) pa_nil))) pps_nil)) (by rfl) (by rfl) (fun z => by cases z) (by decide)) pa_nil))))) pa_nil))))
  (pss_cons (ps_set (i := 7) sc_law.nd rfl (Or.inl rfl) (pe_call (ok__law_take Z) (hr.mono (by decide)) (by rfl) (Z.glo 1 rfl) (Z.kp 1 rfl) (b__law_take Z) .nil passN (pa_cons (pv 1) (pa_cons pe_int pa_nil))))
  (pss_cons (ps_set (i := 6) sc_law.nd rfl (Or.inl rfl) (pe_op op_cat (pe_slice sl_list (pv 6) (po_some (pv 7)) po_none) (pe_slice sl_list (pv 6) po_none (po_some (pv 7)))))
  (pss_cons (ps_set (i := 8) sc_law.nd rfl (Or.inl rfl) (pe_bm PySem.F.plainAttrs_list PySem.F.slot_list_index PySem.F.type_list_index (mt_indexT hr.units) (pv 6) (pa_cons (pv 5) pa_nil)))
  (pss_cons (ps_if (PW.pt (pw_or (pt_cmpR op_ne (pe_call (ok__law_bad_row Z) (hr.mono (by decide)) (by rfl) (Z.glo 5 rfl) (Z.kp 3 rfl) (b__law_bad_row Z) .nil passN (pa_cons (pv 3) (pa_cons (pv 6) pa_nil))) (pe_un un_neg pe_int) (nomark _)) (pw_or1 (pt_cmpR op_ne (pe_call (ok__law_bad_row Z) (hr.mono (by decide)) (by rfl) (Z.glo 5 rfl) (Z.kp 3 rfl) (b__law_bad_row Z) .nil passN (pa_cons (pv 3) (pa_cons (pe_lst pa_nil) pa_nil))) pe_int (nomark _)))))
  (pss_one (ps_ret pe_bl))
  pss_nil)
  (pss_cons (ps_for PassesOwn.never rfl (pi_list (pe_call0 (ok__law_fine Z) (hr.mono (by decide)) (by rfl) (Z.glo 6 rfl) (Z.kp 4 rfl) (b__law_fine Z) .nil passN)) (pg_name (i := 9) sc_law.nd rfl (Or.inl rfl))
  (pss_cons (ps_set (i := 13) sc_law.nd rfl (Or.inl rfl) (pe_tup (pa_cons pe_str (pa_cons pe_str (pa_cons pe_str (pa_cons (pe_disp (pps_cons pe_str (pv 9) (pps_cons pe_str (pe_tup pa_nil) pps_nil)) (by rfl) (by rfl) (fun z => by cases z) (by decide)) pa_nil))))))
  (pss_one (ps_if (pt_cmpR op_ne (pe_call (ok__law_bad_row Z) (hr.mono (by decide)) (by rfl) (Z.glo 5 rfl) (Z.kp 3 rfl) (b__law_bad_row Z) .nil passN (pa_cons (pv 3) (pa_cons (pe_call (ok__law_with Z) (hr.mono (by decide)) (by rfl) (Z.glo 7 rfl) (Z.kp 5 rfl) (b__law_with Z) .nil passN (pa_cons (pv 6) (pa_cons (pv 8) (pa_cons (pv 13) pa_nil)))) pa_nil))) (pe_un un_neg pe_int) (nomark _))
  (pss_one (ps_ret pe_bl))
  pss_nil))))
  (pss_cons (ps_setLc (i := 10) rfl sc_law.nd rfl rfl (sw_true rfl rfl rfl (by decide +kernel)) (pi_list (pe_call0 (ok__law_bodies Z) (hr.mono (by decide)) (by rfl) (Z.glo 8 rfl) (Z.kp 6 rfl) (b__law_bodies Z) .nil passN)) (blkOk_by (own := [("_law_body_here", 9)]) (N := N_law) (sc := defScope s_law) (by decide +kernel)) (fun _ _ _ _ _ => (pg_name (i := 9) sc_law.nd rfl (by first | exact Or.inl rfl | exact Or.inr rfl))) (fun _ _ _ _ _ => pts_nil) (fun _ _ _ _ _ => (pe_tup (pa_cons pe_str (pa_cons pe_str (pa_cons pe_str (pa_cons (pe_disp (pps_cons pe_str (pv 9) (pps_cons pe_str (pe_tup pa_nil) pps_nil)) (by rfl) (by rfl) (fun z => by cases z) (by decide)) pa_nil)))))))
  (pss_cons (ps_set (i := 11) sc_law.nd rfl (Or.inl rfl) (pe_ix (r := rIxL K) ix_list (pe_lst (pa_cons pe_str (pa_cons pe_str (pa_cons pe_str (pa_cons pe_str (pa_cons pe_str (pa_cons (pe_op op_repS pe_str pe_int) pa_nil))))))) (pe_call (ok__law_take Z) (hr.mono (by decide)) (by rfl) (Z.glo 1 rfl) (Z.kp 1 rfl) (b__law_take Z) .nil passN (pa_cons (pv 1) (pa_cons pe_int pa_nil))) (fun _ _ => rfl)))
  (pss_cons (ps_set (i := 10) sc_law.nd rfl (Or.inl rfl) (pe_op op_cat (pv 10) (pe_lst (pa_cons (pe_tup (pa_cons (pv 11) (pa_cons pe_str (pa_cons pe_str (pa_cons (pe_ix (r := rIxT K) ix_tup (pv 5) pe_int (fun _ _ => rfl)) pa_nil))))) (pa_cons (pe_tup (pa_cons pe_str (pa_cons pe_str (pa_cons pe_str (pa_cons (pe_ix (r := rIxT K) ix_tup (pv 5) pe_int (fun _ _ => rfl)) pa_nil))))) (pa_cons (pe_tup (pa_cons pe_str (pa_cons pe_str (pa_cons pe_str (pa_cons (pe_ix (r := rIxT K) ix_tup (pv 5) pe_int (fun _ _ => rfl)) pa_nil))))) pa_nil))))))
  (pss_cons (ps_set (i := 10) sc_law.nd rfl (Or.inl rfl) (pe_op op_cat (pv 10) (pe_lst (pa_cons (pe_tup (pa_cons pe_str (pa_cons pe_str (pa_cons (pe_ix (r := rIxL K) ix_list (pe_lst (pa_cons pe_str (pa_cons pe_str (pa_cons pe_str pa_nil)))) (pe_call (ok__law_take Z) (hr.mono (by decide)) (by rfl) (Z.glo 1 rfl) (Z.kp 1 rfl) (b__law_take Z) .nil passN (pa_cons (pv 1) (pa_cons pe_int pa_nil))) (fun _ _ => rfl)) (pa_cons (pe_ix (r := rIxT K) ix_tup (pv 5) pe_int (fun _ _ => rfl)) pa_nil))))) (pa_cons (pe_tup (pa_cons pe_str (pa_cons pe_str (pa_cons pe_str (pa_cons (pe_disp (pps_cons pe_str (pe_tup pa_nil) pps_nil) (by rfl) (by rfl) (fun z => by cases z) (by decide)) pa_nil))))) pa_nil)))))
  (pss_cons (ps_set (i := 10) sc_law.nd rfl (Or.inl rfl) (pe_op op_cat (pv 10) (pe_lst (pa_cons (pe_tup (pa_cons pe_str (pa_cons pe_str (pa_cons pe_str (pa_cons (pe_disp (pps_cons pe_str (pe_tup pa_nil) (pps_cons pe_str (pe_tup pa_nil) (pps_cons pe_str (pe_tup pa_nil) pps_nil))) (by rfl) (by rfl) (fun z => by cases z) (by decide)) pa_nil))))) (pa_cons (pe_tup (pa_cons pe_str (pa_cons pe_str (pa_cons pe_str (pa_cons (pe_disp (pps_cons pe_str (pe_tup pa_nil) (pps_cons pe_str (pe_tup pa_nil) pps_nil)) (by rfl) (by rfl) (fun z => by cases z) (by decide)) pa_nil))))) pa_nil)))))
  (pss_cons (ps_set (i := 10) sc_law.nd rfl (Or.inl rfl) (pe_op op_cat (pv 10) (pe_lst (pa_cons (pe_tup (pa_cons pe_str (pa_cons pe_str (pa_cons pe_str (pa_cons (pe_disp (pps_cons pe_str (pe_tup pa_nil) (pps_cons pe_str (pe_tup (pa_cons (pe_tup (pa_cons pe_str (pa_cons pe_str pa_nil))) pa_nil)) pps_nil)) (by rfl) (by rfl) (fun z => by cases z) (by decide)) pa_nil))))) pa_nil))))
  (pss_cons (ps_set (i := 12) sc_law.nd rfl (Or.inl rfl) (pe_lst (pa_cons (pe_tup (pa_cons (pe_tup (pa_cons pe_str (pa_cons pe_str (pa_cons pe_int (pa_cons (pe_tup (pa_cons (pe_tup (pa_cons pe_str (pa_cons pe_str (pa_cons pe_str pa_nil)))) pa_nil)) (pa_cons (pe_tup pa_nil) pa_nil)))))) pa_nil)) (pa_cons (pe_tup (pa_cons (pe_tup (pa_cons pe_str (pa_cons (pe_op op_repS pe_str pe_int) (pa_cons pe_str pa_nil)))) pa_nil)) pa_nil))))
  (pss_cons (ps_set (i := 12) sc_law.nd rfl (Or.inl rfl) (pe_op op_cat (pv 12) (pe_lst (pa_cons (pe_tup (pa_cons (pe_tup (pa_cons pe_str (pa_cons pe_str (pa_cons pe_str pa_nil)))) pa_nil)) (pa_cons (pe_tup (pa_cons (pe_tup (pa_cons pe_str (pa_cons pe_str (pa_cons pe_int (pa_cons (pe_tup pa_nil) (pa_cons (pe_tup (pa_cons (pe_tup (pa_cons pe_str (pa_cons pe_str (pa_cons pe_str pa_nil)))) pa_nil)) pa_nil)))))) pa_nil)) pa_nil)))))
  (pss_cons (ps_set (i := 10) sc_law.nd rfl (Or.inl rfl) (pe_op op_cat (pv 10) (pe_lc rfl sc_law.nd (pi_list (pv 12)) (blkOk_by (own := [("_law_body_here", 9)]) (N := N_law) (sc := defScope s_law) (by decide +kernel)) (fun _ _ _ _ _ => (pg_name (i := 9) sc_law.nd rfl (by first | exact Or.inl rfl | exact Or.inr rfl))) (fun _ _ _ _ _ => pts_nil) (fun _ _ _ _ _ => (pe_tup (pa_cons pe_str (pa_cons pe_str (pa_cons pe_str (pa_cons (pe_disp (pps_cons pe_str (pv 9) (pps_cons pe_str (pe_tup pa_nil) pps_nil)) (by rfl) (by rfl) (fun z => by cases z) (by decide)) pa_nil)))))))))
  (pss_cons (ps_for PassesOwn.never rfl (pi_list (pv 10)) (pg_name (i := 13) sc_law.nd rfl (Or.inl rfl))
  (pss_one (ps_if (PW.pt (pw_or (pt_cmpR op_ne (pe_call (ok__law_bad_row Z) (hr.mono (by decide)) (by rfl) (Z.glo 5 rfl) (Z.kp 3 rfl) (b__law_bad_row Z) .nil passN (pa_cons (pv 3) (pa_cons (pe_call (ok__law_with Z) (hr.mono (by decide)) (by rfl) (Z.glo 7 rfl) (Z.kp 5 rfl) (b__law_with Z) .nil passN (pa_cons (pv 6) (pa_cons (pv 8) (pa_cons (pv 13) pa_nil)))) pa_nil))) (pv 8) (nomark _)) (pw_or1 (pt_cmpR op_ne (pe_call (ok__law_bad_row Z) (hr.mono (by decide)) (by rfl) (Z.glo 5 rfl) (Z.kp 3 rfl) (b__law_bad_row Z) .nil passN (pa_cons (pv 3) (pa_cons (pv 6) pa_nil))) (pe_un un_neg pe_int) (nomark _)))))
  (pss_one (ps_ret pe_bl))
  pss_nil)))
  (pss_one (ps_ret (pe_call (ok__law_more Z) (hr.mono (by decide)) (by rfl) (Z.glo 9 rfl) (Z.kp 7 rfl) (b__law_more Z) .nil passN (pa_cons (pv 1) (pa_cons (pv 3) (pa_cons (pv 6) (pa_cons (pv 8) (pa_cons (pe_ix (r := rIxL K) ix_list (pv 10) (pe_op op_sub (pe_op op_sub (pe_callB (r := fun xs H Q => ∃ x n, xs = [x] ∧ LenV K x H n ∧ Q (.int n) H) call_len (by rfl) (Z.free 10 rfl) PySem.boot_len (pa_cons (pv 10) pa_nil)) pe_int) (pe_call (ok__law_take Z) (hr.mono (by decide)) (by rfl) (Z.glo 1 rfl) (Z.kp 1 rfl) (b__law_take Z) .nil passN (pa_cons (pv 1) (pa_cons pe_int pa_nil)))) (fun _ _ => rfl)) (pa_cons (pe_ix (r := rIxL K) ix_list (pv 10) (pe_call (ok__law_take Z) (hr.mono (by decide)) (by rfl) (Z.glo 1 rfl) (Z.kp 1 rfl) (b__law_take Z) .nil passN (pa_cons (pv 1) (pa_cons pe_int pa_nil))) (fun _ _ => rfl)) pa_nil))))))))))))))))))))))))))))))))))), enter h fun L as ds O k e c => ?_⟩)
  obtain ⟨sd, ns0, rfl, rfl, rfl, rfl, hsd, hns, hk⟩ := c
  refine s_seq (s_set (d_call [] (w_cons (w_var rfl (w_nil ⟨List.nodup_nil, (fun _ m => by cases m), sd, ns0, rfl, rfl, rfl, hsd, hns, fun p0 ns1 => ⟨[p0], [.lst (ns1.map D.int)], [], rfl, rfl, rfl, ?_⟩⟩)))))
  show dS _ _ [] [p0] _ [.lst (ns1.map D.int)] _
  refine s_seq (s_set (w_lstF (w_cons (w_tup (w_cons (w_str (w_cons (w_str (w_cons (w_tup (w_cons (w_tup (w_cons (w_str (w_cons (w_str (w_nil ⟨show 2 ≤ sizeLine by decide, w_cons (w_tup (w_cons (w_str (w_cons (w_str (w_cons (w_int (w_nil ⟨show 3 ≤ sizeLine by decide, w_cons (w_tup (w_cons (w_str (w_cons (w_str (w_cons (w_int (w_nil ⟨show 3 ≤ sizeLine by decide, w_cons (w_tup (w_cons (w_str (w_cons (w_str (w_nil ⟨show 2 ≤ sizeLine by decide, w_nil ⟨show 4 ≤ sizeLine by decide, w_nil ⟨show 3 ≤ sizeLine by decide, w_nil ⟨show 1 ≤ sizeLine by decide, ?_⟩⟩⟩⟩))))))⟩))))))))⟩))))))))⟩)))))))))))))))))
  refine s_seq (s_set (w_known (w_op (w_var rfl (w_lstF (w_cons (w_tup (w_cons (w_str (w_cons (w_str (w_cons (w_tup (w_cons (w_tup (w_cons (w_str (w_cons (w_str (w_nil ⟨show 2 ≤ sizeLine by decide, w_nil ⟨show 1 ≤ sizeLine by decide, w_nil ⟨show 3 ≤ sizeLine by decide, w_cons (w_tup (w_cons (w_str (w_cons (w_str (w_cons (w_tup (w_cons (w_tup (w_cons (w_str (w_cons (w_str (w_cons (w_int (w_nil ⟨show 3 ≤ sizeLine by decide, w_cons (w_tup (w_cons (w_str (w_cons (w_str (w_cons (w_int (w_nil ⟨show 3 ≤ sizeLine by decide, w_nil ⟨show 2 ≤ sizeLine by decide, w_nil ⟨show 3 ≤ sizeLine by decide, w_nil ⟨show 2 ≤ sizeLine by decide, rvK (smallt (by simp)) (?_)⟩⟩⟩⟩))))))))⟩))))))))))))))))⟩⟩⟩))))))))))))))))))))
  refine s_seq (s_set (w_known (w_op (w_var rfl (w_lstF (w_cons (w_tup (w_cons (w_str (w_cons (w_str (w_cons (w_tup (w_nil ⟨show 0 ≤ sizeLine by decide, w_nil ⟨show 3 ≤ sizeLine by decide, w_nil ⟨show 1 ≤ sizeLine by decide, rvK (smallt (by simp)) (?_)⟩⟩⟩))))))))))))))
  refine s_eq (as' := [p0]) (ρ' := [some sd, some (.adr p0), some (.lst (MG.rowZ.map MR.dRow)), none, none, none, none, none, none, none, none, none, none, none]) (O' := [.lst (ns1.map D.int)]) rfl rfl rfl ?_
  refine s_mid (N := fun as ρ O => ∃ (rows : List MR.Row) (ns : List Int), rows ∈ MG.rowZs ∧ as = [p0] ∧ ρ = [some sd, some (.adr p0), some (.lst (rows.map MR.dRow)), none, none, none, none, none, none, none, none, none, none, none] ∧ O = [.lst (ns.map D.int)]) ?_ ?_
  · refine s_if (w_test (w_op (d_call [0] (w_cons (w_var rfl (w_cons (w_int (w_nil (call_take rfl rfl (by decide) fun r ns2 r0 r2 => w_int (rv_eq rfl ⟨_, rfl, ?_⟩))))))))))
    refine i_bl (fun _ => ?_) fun _ => s_next ⟨MG.rowZ, ns2, List.mem_cons_self, rfl, rfl, rfl⟩
    exact s_set (w_known (w_rev (w_var rfl ⟨_, .inl lo_f, fun q => ⟨q, _, _, _, rfl, rfl, rfl, MG.rowZ.reverse, ns2, List.mem_cons_of_mem _ List.mem_cons_self, rfl, by rw [List.map_reverse]; rfl, rfl⟩⟩)))
  rintro as ρ O ⟨rows, ns2, hrw, rfl, rfl, rfl⟩
  have hT := rowZ_ok hrw
  have hR := MF.RowsOk.of hT
  refine s_seq (s_set (w_kindsM hT rfl rfl fun tk tds fds sds hTab => ?_))
  generalize hTd : MI.tabD K rows tk tds fds sds = T
  refine s_seq (s_set (w_tup (w_cons (w_tup (w_cons (w_str (w_cons (w_str (w_cons (w_str (w_nil ⟨show 3 ≤ sizeLine by decide, w_cons (w_tup (w_cons (w_str (w_cons (w_str (w_nil ⟨show 2 ≤ sizeLine by decide, w_nil ⟨show 2 ≤ sizeLine by decide, ?_⟩⟩))))))⟩)))))))))))
  refine s_seq (s_set (w_tup (w_cons (w_str (w_cons (w_str (w_cons (w_str (w_cons (w_knownL (w_disp fun pF => w_str ⟨.inr "Node", rfl, w_var rfl (w_str ⟨.inr "Leaf", rfl, w_tup (w_cons (w_tup (w_cons (w_str (w_cons (w_str (w_nil ⟨show 2 ≤ sizeLine by decide, w_nil ⟨show 1 ≤ sizeLine by decide, ⟨rfl, rfl, show 2 ≤ 15 by decide, _, _, _, _, rfl, rfl, rfl, w_nil ⟨show 4 ≤ sizeLine by decide, ?_⟩⟩⟩⟩)))))))⟩)⟩)))))))))))
  rw [mg_nl]
  obtain ⟨F, hF⟩ : ∃ F : MG.RFn, F = ⟨"f", "Tree", "sum", pF, MG.bodyF⟩ := ⟨_, rfl⟩
  have eF : MG.core F = MG.cF := by rw [hF]; rfl
  refine s_eq (as' := [p0]) (ρ' := [some sd, some (.adr p0), some (.lst (rows.map MR.dRow)), some T, some (MG.dRB [MG.cl "f" "left", MG.rd "m"]), some (MG.dRFn F), none, none, none, none, none, none, none, none]) (O' := [.lst (ns2.map D.int)]) rfl (by rw [hF]; rfl) rfl ?_
  refine s_seq (s_set (w_lstF (w_cons (w_var rfl (w_cons (w_tup (w_cons (w_str (w_cons (w_str (w_cons (w_str (w_cons (w_knownL (w_disp fun pG => w_str ⟨.inr "Cons", rfl, w_tup (w_cons (w_tup (w_cons (w_str (w_cons (w_str (w_cons (w_str (w_nil ⟨show 3 ≤ sizeLine by decide, w_cons (w_tup (w_cons (w_str (w_cons (w_str (w_cons (w_str (w_nil ⟨show 3 ≤ sizeLine by decide, w_nil ⟨show 2 ≤ sizeLine by decide, w_str ⟨.inr "Nil", rfl, w_tup (w_nil ⟨show 0 ≤ sizeLine by decide, ⟨rfl, rfl, show 2 ≤ 15 by decide, _, _, _, _, rfl, rfl, rfl, w_nil ⟨show 4 ≤ sizeLine by decide, w_nil ⟨show 2 ≤ sizeLine by decide, ?_⟩⟩⟩⟩)⟩⟩⟩))))))))⟩)))))))))⟩)))))))))))))))
  rw [mg_cn]
  refine s_seq (s_set (w_known (w_op (w_var rfl (w_lstF (w_cons (w_tup (w_cons (w_str (w_cons (w_str (w_cons (w_str (w_cons (w_knownL (w_disp fun pH => w_str ⟨.inr "Leaf", rfl, w_tup (w_nil ⟨show 0 ≤ sizeLine by decide, w_str ⟨.inr "Node", rfl, w_tup (w_cons (w_tup (w_cons (w_str (w_cons (w_str (w_nil ⟨show 2 ≤ sizeLine by decide, w_cons (w_tup (w_cons (w_str (w_cons (w_str (w_cons (w_str (w_nil ⟨show 3 ≤ sizeLine by decide, w_nil ⟨show 2 ≤ sizeLine by decide, ⟨rfl, rfl, show 2 ≤ 15 by decide, _, _, _, _, rfl, rfl, rfl, w_nil ⟨show 4 ≤ sizeLine by decide, w_nil ⟨show 1 ≤ sizeLine by decide, rvK (smallt (by simp)) (?_)⟩⟩⟩⟩⟩))))))))⟩)))))))⟩⟩)⟩))))))))))))))))
  rw [mg_ln]
  obtain ⟨G, hG⟩ : ∃ G : MG.RFn, G = ⟨"g", "List", "max", pG, MG.cG.2.2.2⟩ := ⟨_, rfl⟩
  obtain ⟨H1, hH⟩ : ∃ H1 : MG.RFn, H1 = ⟨"h", "Tree", "max", pH, MG.cH.2.2.2⟩ := ⟨_, rfl⟩
  have eG : MG.core G = MG.cG := by rw [hG]; rfl
  have eH : MG.core H1 = MG.cH := by rw [hH]; rfl
  refine s_eq (as' := [p0]) (ρ' := [some sd, some (.adr p0), some (.lst (rows.map MR.dRow)), some T, some (MG.dRB [MG.cl "f" "left", MG.rd "m"]), some (MG.dRFn F), some (.lst ([F, G, H1].map MG.dRFn)), none, none, none, none, none, none, none]) (O' := [.lst (ns2.map D.int)]) rfl (by rw [hG, hH]; rfl) rfl ?_
  refine s_seq (s_set (d_call [0] (w_cons (w_var rfl (w_cons (w_int (w_nil (call_take rfl rfl (by decide) fun tt ns3 t0 t3 => ?_))))))))
  obtain ⟨t, fs, rfl, ht, hrot, hfs, hFat, hFno⟩ := rot_at eF eG eH t0 t3
  refine s_seq (s_set (w_known (w_op (w_known (w_sl (w_var rfl (o_some (w_var rfl ⟨_, rfl, o_none (rsK ?_)⟩))))))))
  refine w_known (w_sl (w_var rfl (o_none (o_some (w_var rfl ⟨_, rfl, rsK (rvK ?_ ?_)⟩)))))
  · have h1 := cut_len ([F, G, H1].map MG.dRFn) (some ((t : Nat) : Int)) none
    have h2 := cut_len ([F, G, H1].map MG.dRFn) none (some ((t : Nat) : Int))
    have h3 : ([F, G, H1].map MG.dRFn).length = 3 := rfl
    rw [h3] at h1 h2
    exact small (by omega)
  rw [hrot]
  have h3 : fs.length = 3 := by
    have := congrArg List.length hfs
    rw [List.length_map] at this
    rw [this]
    simp only [List.mem_cons, List.not_mem_nil, or_false] at ht
    rcases ht with rfl | rfl | rfl <;> rfl
  have hat : MG.atC t < 3 := by
    simp only [List.mem_cons, List.not_mem_nil, or_false] at ht
    rcases ht with rfl | rfl | rfl <;> decide
  have hSf : ∀ f ∈ fs, MG.SmallF f := fun f m => MG.smallB_ok (MG.s_tab t ht _ (hfs ▸ List.mem_map_of_mem m))
  have hFd : (fs.map MG.dRFn)[MG.atC t]? = some (.tup [.str "f", .str "Tree", .str "sum", .ldk pF (MG.bdsD MG.bodyF)]) := by
    rw [List.getElem?_map, hFat, hF]
    rfl
  refine s_seq (s_set (w_bmR (w_var rfl ⟨⟨_, .inl lo_f⟩, rfl, w_cons (w_var (d := .tup [.str "f", .str "Tree", .str "sum", .ldk pF (MG.bdsD MG.bodyF)]) (by rw [hF]; rfl) (w_nil (rm_indexT hFd hFno ?_)))⟩)))
  have vt : MG.verdict rows (fs.map MG.core) = none := by rw [hfs]; exact MG.v_tab rows hrw t ht
  refine s_eq (as' := [p0]) (ρ' := [some sd, some (.adr p0), some (.lst (rows.map MR.dRow)), some T, some (MG.dRB [MG.cl "f" "left", MG.rd "m"]), some (MG.dRFn F), some (.lst (fs.map MG.dRFn)), some (.int (t : Nat)), some (.int (MG.atC t : Nat)), none, none, none, none, none]) (O' := [.lst (ns3.map D.int)]) rfl rfl rfl ?_
  subst hTd
  refine s_seq (s_if (w_or (w_test (w_op (d_call [] (w_cons (w_var rfl (w_cons (w_var rfl (w_nil (call_bad (v := none) rfl hTab hR hSf (by omega) vt (w_un (w_int (ru_negO (rv_ne rfl ⟨_, rfl, i_F ne_I ?_⟩)))))))))))))))
  refine w_test (w_op (d_call [] (w_cons (w_var rfl (w_cons (w_lstF (w_nil ⟨Nat.zero_le _, w_nil (call_bad (v := some 0) (fs := []) rfl hTab hR (fun f m => by cases m) (by decide) rfl (w_int (rv_ne rfl ⟨_, rfl, i_F ne_I (s_next ?_)⟩)))⟩)))))))
  have keyP : ∀ x : MG.RFn, MG.SmallF x → (∀ f ∈ MG.put fs (MG.atC t) x, MG.SmallF f) ∧ (MG.put fs (MG.atC t) x).length ≤ 20 ∧ (MG.put fs (MG.atC t) x).map MG.core = MG.put (MG.tabC t) (MG.atC t) (MG.core x) ∧ MG.put (fs.map MG.dRFn) (MG.atC t) (MG.dRFn x) = (MG.put fs (MG.atC t) x).map MG.dRFn := fun x sx => by
    refine ⟨fun f m => ?_, ?_, ?_, ?_⟩
    · rcases put_mem m with m | rfl
      · exact hSf f m
      · exact sx
    · rw [put_len (by omega), h3]
      decide
    · rw [map_put, hfs]
    · rw [map_put]
  have hw1 : MG.atC t < (fs.map MG.dRFn).length := by rw [List.length_map]; omega
  have hw2 : (fs.map MG.dRFn).length ≤ 100 := by rw [List.length_map]; omega
  refine s_seq (s_for (i_list (d_call [] (w_nil (call_fine ⟨_, rfl, fun i as ρ O => ∃ x9 x13 : Option D, as = [p0] ∧ ρ = [some sd, some (.adr p0), some (.lst (rows.map MR.dRow)), some (MI.tabD K rows tk tds fds sds), some (MG.dRB [MG.cl "f" "left", MG.rd "m"]), some (MG.dRFn F), some (.lst (fs.map MG.dRFn)), some (.int (t : Nat)), some (.int (MG.atC t : Nat)), x9, none, none, none, x13] ∧ O = [.lst (ns3.map D.int)], ⟨none, none, rfl, rfl, rfl⟩, ?_, ?_⟩)))))
  · rintro i as ρ O c hc ⟨x9, x13, rfl, rfl, rfl⟩
    rw [List.getElem?_map] at hc
    obtain ⟨b, hb, rfl⟩ := Option.map_eq_some_iff.mp hc
    have mb := List.mem_of_getElem? hb
    refine g_name (s_seq (s_set (w_tup (w_cons (w_str (w_cons (w_str (w_cons (w_str (w_cons (w_knownL (w_disp fun px => w_str ⟨.inr "Node", rfl, w_var rfl (w_str ⟨.inr "Leaf", rfl, w_tup (w_nil ⟨show 0 ≤ sizeLine by decide, ⟨rfl, rfl, show 2 ≤ 15 by decide, _, _, _, _, rfl, rfl, rfl, ?_⟩⟩)⟩)⟩))))))))))))
    rw [mg_nl]
    obtain ⟨x, hx⟩ : ∃ x : MG.RFn, x = ⟨"f", "Tree", "sum", px, [("Node", b), ("Leaf", [])]⟩ := ⟨_, rfl⟩
    have ex : MG.core x = MG.cB b := by rw [hx]; rfl
    have dx : MG.dRFn x = .tup [.str "f", .str "Tree", .str "sum", .ldk px [(.inr "Node", MG.dRB b), (.inr "Leaf", .tup [])]] := by rw [hx]; rfl
    refine w_nil ⟨show 4 ≤ sizeLine by decide, ?_⟩
    rw [← dx]
    obtain ⟨k1, k2, k3, k4⟩ := keyP x (small_of ex (MG.s_cB b (List.mem_append_right _ mb)).1)
    refine s_if (w_test (w_op (d_call [] (w_cons (w_var rfl (w_cons (d_call [] (w_cons (w_var rfl (w_cons (w_var rfl (w_cons (w_var rfl (w_nil (call_with hw1 hw2 ?_)))))))))))))) )
    refine w_nil (call_bad (v := none) k4 hTab hR k1 k2 (by rw [k3, ex]; exact MG.v_fine rows hrw t ht b mb) (w_un (w_int (ru_negO (rv_ne rfl ⟨_, rfl, i_F ne_I (s_next ⟨_, _, rfl, rfl, rfl⟩)⟩)))))
  rintro as ρ O ⟨x9, x13, rfl, rfl, rfl⟩
  refine s_seq (s_set (w_known (w_lcI (wg_name (by decide)) (i_list (d_call [] (w_nil (call_bodies ⟨_, rfl, fun i O' acc => ∃ gs : List MG.RFn, O' = [.lst (ns3.map D.int)] ∧ acc = gs.map MG.dRFn ∧ gs.map MG.core = (MG.fbads.take i).map MG.cB, ⟨[], rfl, rfl, rfl⟩, smallt (show 19 < 100000 by decide), ?_, ?_⟩)))))))
  · rintro i O' acc c hc _ ⟨gs, rfl, rfl, hgs⟩
    rw [List.getElem?_map] at hc
    obtain ⟨b, hb, rfl⟩ := Option.map_eq_some_iff.mp hc
    refine g_name ⟨rfl, rfl, w_yes ⟨rfl, ?_⟩⟩
    refine i_T rfl (w_tup (w_cons (w_str (w_cons (w_str (w_cons (w_str (w_cons (w_knownL (w_disp fun px => w_str ⟨.inr "Node", rfl, w_var rfl (w_str ⟨.inr "Leaf", rfl, w_tup (w_nil ⟨show 0 ≤ sizeLine by decide, ⟨rfl, rfl, show 2 ≤ 15 by decide, _, _, _, _, rfl, rfl, rfl, ?_⟩⟩)⟩)⟩))))))))))
    rw [mg_nl]
    refine w_nil ⟨show 4 ≤ sizeLine by decide, rfl, gs ++ [⟨"f", "Tree", "sum", px, [("Node", b), ("Leaf", [])]⟩], rfl, by rw [List.map_append]; rfl, ?_⟩
    rw [MF.tk hb, List.map_append, List.map_append, hgs]
    rfl
  rintro pw O' acc ⟨gs, rfl, rfl, hgs⟩
  have hgs : gs.map MG.core = MG.fbads.map MG.cB := hgs
  have hgl : gs.length = 19 := by
    have := congrArg List.length hgs
    rw [List.length_map] at this
    exact this
  refine ⟨pw, _, _, _, rfl, rfl, rfl, ?_⟩
  refine s_seq (s_set (w_op (w_lstF (w_cons (w_str (w_cons (w_str (w_cons (w_str (w_cons (w_str (w_cons (w_str (w_cons (w_op (w_str (w_int (rv_repS (c := 102) (n := 25) (by decide) (by decide) (w_nil ⟨show 6 ≤ sizeLine by decide, d_call [0] (w_cons (w_var rfl (w_cons (w_int (w_nil (call_take rfl rfl (by decide) fun v ns4 v0 v6 => ?_))))))⟩)))))))))))))))))))
  obtain ⟨z, hz, mz⟩ : ∃ z, atI [D.str "", .str "1a", .str "a b", .str "a.b", .str "f_f", .str ⟨(List.replicate 25 102).toArray⟩] v = some (.str z) ∧ z ∈ MG.nbads := by
    have hv : v = 0 ∨ v = 1 ∨ v = 2 ∨ v = 3 ∨ v = 4 ∨ v = 5 := by omega
    unfold MG.nbads
    rcases hv with rfl | rfl | rfl | rfl | rfl | rfl
    · exact ⟨_, rfl, List.mem_cons_self⟩
    · exact ⟨_, rfl, List.mem_cons_of_mem _ List.mem_cons_self⟩
    · exact ⟨_, rfl, List.mem_cons_of_mem _ (List.mem_cons_of_mem _ List.mem_cons_self)⟩
    · exact ⟨_, rfl, List.mem_cons_of_mem _ (List.mem_cons_of_mem _ (List.mem_cons_of_mem _ List.mem_cons_self))⟩
    · exact ⟨_, rfl, List.mem_cons_of_mem _ (List.mem_cons_of_mem _ (List.mem_cons_of_mem _ (List.mem_cons_of_mem _ List.mem_cons_self)))⟩
    · exact ⟨MG.f25, rfl, by decide +kernel⟩
  refine rv_ixL hz ?_
  refine s_seq (s_set (w_known (w_op (w_var rfl (w_lstF (w_cons (w_tup (w_cons (w_var rfl (w_cons (w_str (w_cons (w_str (w_cons (w_op (w_var rfl (w_int (rv_ixT rfl (w_nil ⟨show 4 ≤ sizeLine by decide, w_cons (w_tup (w_cons (w_str (w_cons (w_str (w_cons (w_str (w_cons (w_op (w_var rfl (w_int (rv_ixT rfl (w_nil ⟨show 4 ≤ sizeLine by decide, w_cons (w_tup (w_cons (w_str (w_cons (w_str (w_cons (w_str (w_cons (w_op (w_var rfl (w_int (rv_ixT rfl (w_nil ⟨show 4 ≤ sizeLine by decide, w_nil ⟨show 3 ≤ sizeLine by decide, rvK (small (by rw [List.length_map]; simp; omega)) (?_)⟩⟩)))))))))))))⟩)))))))))))))⟩)))))))))))))))))))
  obtain ⟨g1, hg1⟩ : ∃ g : List MG.RFn, g = gs ++ [⟨z, "Tree", "sum", F.ad, F.bodies⟩, ⟨"f", "Nope", "sum", F.ad, F.bodies⟩, ⟨"f", "byte", "sum", F.ad, F.bodies⟩] := ⟨_, rfl⟩
  have l1 : g1.length = 22 := by rw [hg1, List.length_append, hgl]; rfl
  refine s_eq (as' := [p0]) (ρ' := [some sd, some (.adr p0), some (.lst (rows.map MR.dRow)), some (MI.tabD K rows tk tds fds sds), some (MG.dRB [MG.cl "f" "left", MG.rd "m"]), some (MG.dRFn F), some (.lst (fs.map MG.dRFn)), some (.int (t : Nat)), some (.int (MG.atC t : Nat)), x9, some (.lst ((g1).map MG.dRFn)), some (.str z), none, x13]) (O' := [.lst (ns4.map D.int)]) rfl (by rw [hg1, List.map_append]; rfl) rfl ?_
  refine s_seq (s_set (w_known (w_op (w_var rfl (w_lstF (w_cons (w_tup (w_cons (w_str (w_cons (w_str (w_cons (w_op (w_lstF (w_cons (w_str (w_cons (w_str (w_cons (w_str (w_nil ⟨show 3 ≤ sizeLine by decide, d_call [0] (w_cons (w_var rfl (w_cons (w_int (w_nil (call_take rfl rfl (by decide) fun v ns5 v0 v3 => ?_))))))⟩)))))))))))))))))))))
  obtain ⟨fo, hfo, mfo⟩ : ∃ z, atI [D.str "min", .str "", .str "Sum"] v = some (.str z) ∧ z ∈ MG.obads := by
    have hv : v = 0 ∨ v = 1 ∨ v = 2 := by omega
    unfold MG.obads
    rcases hv with rfl | rfl | rfl
    · exact ⟨_, rfl, List.mem_cons_self⟩
    · exact ⟨_, rfl, List.mem_cons_of_mem _ List.mem_cons_self⟩
    · exact ⟨_, rfl, List.mem_cons_of_mem _ (List.mem_cons_of_mem _ List.mem_cons_self)⟩
  refine rv_ixL hfo (w_cons (w_op (w_var rfl (w_int (rv_ixT rfl (w_nil ⟨show 4 ≤ sizeLine by decide, w_cons (w_tup (w_cons (w_str (w_cons (w_str (w_cons (w_str (w_cons (w_knownL (w_disp fun q1 => w_str ⟨.inr "Node", rfl, w_tup (w_nil ⟨show 0 ≤ sizeLine by decide, ⟨rfl, rfl, show 1 ≤ 15 by decide, _, _, _, _, rfl, rfl, rfl, w_nil ⟨show 4 ≤ sizeLine by decide, w_nil ⟨show 2 ≤ sizeLine by decide, rvK (small (by rw [List.length_map]; simp; omega)) (?_)⟩⟩⟩⟩)⟩))))))))))⟩))))))
  rw [mg_1]
  obtain ⟨g2, hg2⟩ : ∃ g : List MG.RFn, g = g1 ++ [⟨"f", "Tree", fo, F.ad, F.bodies⟩, ⟨"f", "Tree", "sum", q1, [("Node", [])]⟩] := ⟨_, rfl⟩
  have l2 : g2.length = 24 := by rw [hg2, List.length_append, l1]; rfl
  refine s_eq (as' := [p0]) (ρ' := [some sd, some (.adr p0), some (.lst (rows.map MR.dRow)), some (MI.tabD K rows tk tds fds sds), some (MG.dRB [MG.cl "f" "left", MG.rd "m"]), some (MG.dRFn F), some (.lst (fs.map MG.dRFn)), some (.int (t : Nat)), some (.int (MG.atC t : Nat)), x9, some (.lst ((g2).map MG.dRFn)), some (.str z), none, x13]) (O' := [.lst (ns5.map D.int)]) rfl (by rw [hg2, List.map_append]; rfl) rfl ?_
  refine s_seq (s_set (w_known (w_op (w_var rfl (w_lstF (w_cons (w_tup (w_cons (w_str (w_cons (w_str (w_cons (w_str (w_cons (w_knownL (w_disp fun q2 => w_str ⟨.inr "Node", rfl, w_tup (w_nil ⟨show 0 ≤ sizeLine by decide, w_str ⟨.inr "Leaf", rfl, w_tup (w_nil ⟨show 0 ≤ sizeLine by decide, w_str ⟨.inr "Nil", rfl, w_tup (w_nil ⟨show 0 ≤ sizeLine by decide, ⟨rfl, rfl, show 3 ≤ 15 by decide, _, _, _, _, rfl, rfl, rfl, w_nil ⟨show 4 ≤ sizeLine by decide, w_cons (w_tup (w_cons (w_str (w_cons (w_str (w_cons (w_str (w_cons (w_knownL (w_disp fun q3 => w_str ⟨.inr "Node", rfl, w_tup (w_nil ⟨show 0 ≤ sizeLine by decide, w_str ⟨.inr "Nil", rfl, w_tup (w_nil ⟨show 0 ≤ sizeLine by decide, ⟨rfl, rfl, show 2 ≤ 15 by decide, _, _, _, _, rfl, rfl, rfl, w_nil ⟨show 4 ≤ sizeLine by decide, w_nil ⟨show 2 ≤ sizeLine by decide, rvK (small (by rw [List.length_map]; simp; omega)) (?_)⟩⟩⟩⟩)⟩⟩)⟩))))))))))⟩⟩⟩)⟩⟩)⟩⟩)⟩))))))))))))))))
  rw [mg_3, mg_nn]
  obtain ⟨g3, hg3⟩ : ∃ g : List MG.RFn, g = g2 ++ [⟨"f", "Tree", "max", q2, [("Node", []), ("Leaf", []), ("Nil", [])]⟩, ⟨"f", "Tree", "max", q3, [("Node", []), ("Nil", [])]⟩] := ⟨_, rfl⟩
  have l3 : g3.length = 26 := by rw [hg3, List.length_append, l2]; rfl
  refine s_eq (as' := [p0]) (ρ' := [some sd, some (.adr p0), some (.lst (rows.map MR.dRow)), some (MI.tabD K rows tk tds fds sds), some (MG.dRB [MG.cl "f" "left", MG.rd "m"]), some (MG.dRFn F), some (.lst (fs.map MG.dRFn)), some (.int (t : Nat)), some (.int (MG.atC t : Nat)), x9, some (.lst ((g3).map MG.dRFn)), some (.str z), none, x13]) (O' := [.lst (ns5.map D.int)]) rfl (by rw [hg3, List.map_append]; rfl) rfl ?_
  refine s_seq (s_set (w_known (w_op (w_var rfl (w_lstF (w_cons (w_tup (w_cons (w_str (w_cons (w_str (w_cons (w_str (w_cons (w_knownL (w_disp fun q4 => w_str ⟨.inr "Node", rfl, w_tup (w_nil ⟨show 0 ≤ sizeLine by decide, w_str ⟨.inr "Leaf", rfl, w_tup (w_cons (w_tup (w_cons (w_str (w_cons (w_str (w_nil ⟨show 2 ≤ sizeLine by decide, w_nil ⟨show 1 ≤ sizeLine by decide, ⟨rfl, rfl, show 2 ≤ 15 by decide, _, _, _, _, rfl, rfl, rfl, w_nil ⟨show 4 ≤ sizeLine by decide, w_nil ⟨show 1 ≤ sizeLine by decide, rvK (small (by rw [List.length_map]; simp; omega)) (?_)⟩⟩⟩⟩⟩)))))))⟩⟩)⟩))))))))))))))))
  rw [mg_nl]
  obtain ⟨g4, hg4⟩ : ∃ g : List MG.RFn, g = g3 ++ [⟨"f", "Tree", "sum", q4, [("Node", []), ("Leaf", [MG.rd "zz"])]⟩] := ⟨_, rfl⟩
  have l4 : g4.length = 27 := by rw [hg4, List.length_append, l3]; rfl
  refine s_eq (as' := [p0]) (ρ' := [some sd, some (.adr p0), some (.lst (rows.map MR.dRow)), some (MI.tabD K rows tk tds fds sds), some (MG.dRB [MG.cl "f" "left", MG.rd "m"]), some (MG.dRFn F), some (.lst (fs.map MG.dRFn)), some (.int (t : Nat)), some (.int (MG.atC t : Nat)), x9, some (.lst ((g4).map MG.dRFn)), some (.str z), none, x13]) (O' := [.lst (ns5.map D.int)]) rfl (by rw [hg4, List.map_append]; rfl) rfl ?_
  refine s_seq (s_set (w_lstF (w_cons (w_tup (w_cons (w_tup (w_cons (w_str (w_cons (w_str (w_cons (w_int (w_cons (w_tup (w_cons (w_tup (w_cons (w_str (w_cons (w_str (w_cons (w_str (w_nil ⟨show 3 ≤ sizeLine by decide, w_nil ⟨show 1 ≤ sizeLine by decide, w_cons (w_tup (w_nil ⟨show 0 ≤ sizeLine by decide, w_nil ⟨show 5 ≤ sizeLine by decide, w_nil ⟨show 1 ≤ sizeLine by decide, w_cons (w_tup (w_cons (w_tup (w_cons (w_str (w_cons (w_op (w_str (w_int (rv_repS (c := 113) (n := 24) (by decide) (by decide) (w_cons (w_str (w_nil ⟨show 3 ≤ sizeLine by decide, w_nil ⟨show 1 ≤ sizeLine by decide, w_nil ⟨show 2 ≤ sizeLine by decide, ?_⟩⟩⟩)))))))))))))⟩⟩⟩))⟩⟩)))))))))))))))))))))))
  refine s_seq (s_set (w_known (w_op (w_var rfl (w_lstF (w_cons (w_tup (w_cons (w_tup (w_cons (w_str (w_cons (w_str (w_cons (w_str (w_nil ⟨show 3 ≤ sizeLine by decide, w_nil ⟨show 1 ≤ sizeLine by decide, w_cons (w_tup (w_cons (w_tup (w_cons (w_str (w_cons (w_str (w_cons (w_int (w_cons (w_tup (w_nil ⟨show 0 ≤ sizeLine by decide, w_cons (w_tup (w_cons (w_tup (w_cons (w_str (w_cons (w_str (w_cons (w_str (w_nil ⟨show 3 ≤ sizeLine by decide, w_nil ⟨show 1 ≤ sizeLine by decide, w_nil ⟨show 5 ≤ sizeLine by decide, w_nil ⟨show 1 ≤ sizeLine by decide, w_nil ⟨show 2 ≤ sizeLine by decide, rvK (smallt (by simp)) (?_)⟩⟩⟩⟩⟩))))))))))⟩))))))))))))⟩⟩))))))))))))))))
  refine s_eq (as' := [p0]) (ρ' := [some sd, some (.adr p0), some (.lst (rows.map MR.dRow)), some (MI.tabD K rows tk tds fds sds), some (MG.dRB [MG.cl "f" "left", MG.rd "m"]), some (MG.dRFn F), some (.lst (fs.map MG.dRFn)), some (.int (t : Nat)), some (.int (MG.atC t : Nat)), x9, some (.lst (g4.map MG.dRFn)), some (.str z), some (.lst (MG.flate.map MG.dRB)), x13]) (O' := [.lst (ns5.map D.int)]) rfl rfl rfl ?_
  refine s_seq (s_set (w_known (w_op (w_var rfl (w_known (w_lcI (wg_name (by decide)) (i_list (w_var rfl ⟨_, rfl, fun i O' acc => ∃ gl : List MG.RFn, O' = [.lst (ns5.map D.int)] ∧ acc = gl.map MG.dRFn ∧ gl.map MG.core = (MG.flate.take i).map MG.cB, ⟨[], rfl, rfl, rfl⟩, smallt (show 4 < 100000 by decide), ?_, ?_⟩))))))))
  · rintro i O' acc c hc _ ⟨gl, rfl, rfl, hgl2⟩
    rw [List.getElem?_map] at hc
    obtain ⟨b, hb, rfl⟩ := Option.map_eq_some_iff.mp hc
    refine g_name ⟨rfl, rfl, w_yes ⟨rfl, ?_⟩⟩
    refine i_T rfl (w_tup (w_cons (w_str (w_cons (w_str (w_cons (w_str (w_cons (w_knownL (w_disp fun px => w_str ⟨.inr "Node", rfl, w_var rfl (w_str ⟨.inr "Leaf", rfl, w_tup (w_nil ⟨show 0 ≤ sizeLine by decide, ⟨rfl, rfl, show 2 ≤ 15 by decide, _, _, _, _, rfl, rfl, rfl, ?_⟩⟩)⟩)⟩))))))))))
    rw [mg_nl]
    refine w_nil ⟨show 4 ≤ sizeLine by decide, rfl, gl ++ [⟨"f", "Tree", "sum", px, [("Node", b), ("Leaf", [])]⟩], rfl, by rw [List.map_append]; rfl, ?_⟩
    rw [MF.tk hb, List.map_append, List.map_append, hgl2]
    rfl
  rintro pw2 O' acc ⟨gl, rfl, rfl, hgl2⟩
  have hgl2 : gl.map MG.core = MG.flate.map MG.cB := hgl2
  have hll : gl.length = 4 := by
    have := congrArg List.length hgl2
    rw [List.length_map] at this
    exact this
  refine ⟨pw2, _, _, _, rfl, rfl, rfl, rvK (small (by rw [List.length_map, List.length_map]; omega)) ?_⟩
  obtain ⟨gW, hgW⟩ : ∃ g : List MG.RFn, g = g4 ++ gl := ⟨_, rfl⟩
  have lW : gW.length = 31 := by rw [hgW, List.length_append, l4, hll]
  have hFb : F.bodies = MG.bodyF := by rw [hF]
  have eW : gW.map MG.core = MG.wrongC z fo := by
    rw [hgW, hg4, hg3, hg2, hg1]
    simp only [List.map_append, hgs, hgl2]
    unfold MG.wrongC MG.mid
    simp only [List.map_cons, List.map_nil, MG.core, hFb, List.append_assoc, List.cons_append, List.nil_append]
  refine s_eq (as' := [p0]) (ρ' := [some sd, some (.adr p0), some (.lst (rows.map MR.dRow)), some (MI.tabD K rows tk tds fds sds), some (MG.dRB [MG.cl "f" "left", MG.rd "m"]), some (MG.dRFn F), some (.lst (fs.map MG.dRFn)), some (.int (t : Nat)), some (.int (MG.atC t : Nat)), x9, some (.lst (gW.map MG.dRFn)), some (.str z), some (.lst (MG.flate.map MG.dRB)), x13]) (O' := [.lst (ns5.map D.int)]) rfl (by rw [hgW, List.map_append]; rfl) rfl ?_
  have hWall : ∀ x ∈ gW, MG.SmallF x ∧ MG.verdict rows (MG.put (MG.tabC t) (MG.atC t) (MG.core x)) = some (MG.atC t) := fun x mx => by
    have m : MG.core x ∈ MG.wrongC z fo := eW ▸ List.mem_map_of_mem mx
    unfold MG.wrongC at m
    rcases List.mem_append.mp m with m | m
    · rcases List.mem_append.mp m with m | m
      · obtain ⟨b, mb, e⟩ := List.mem_map.mp m
        rw [← e]
        exact ⟨small_of e.symm (MG.s_cB b (List.mem_append_left _ (List.mem_append_left _ mb))).1, MG.v_wrong rows hrw t ht b (List.mem_append_left _ mb)⟩
      · exact ⟨MG.smallB_ok (MG.s_mid z mz fo mfo _ m), MG.v_mid rows hrw t ht z mz fo mfo _ m⟩
    · obtain ⟨b, mb, e⟩ := List.mem_map.mp m
      rw [← e]
      exact ⟨small_of e.symm (MG.s_cB b (List.mem_append_left _ (List.mem_append_right _ mb))).1, MG.v_wrong rows hrw t ht b (List.mem_append_right _ mb)⟩
  refine s_seq (s_for (i_list (w_var rfl ⟨_, rfl, fun i as ρ O => ∃ x13 : Option D, as = [p0] ∧ ρ = [some sd, some (.adr p0), some (.lst (rows.map MR.dRow)), some (MI.tabD K rows tk tds fds sds), some (MG.dRB [MG.cl "f" "left", MG.rd "m"]), some (MG.dRFn F), some (.lst (fs.map MG.dRFn)), some (.int (t : Nat)), some (.int (MG.atC t : Nat)), x9, some (.lst (gW.map MG.dRFn)), some (.str z), some (.lst (MG.flate.map MG.dRB)), x13] ∧ O = [.lst (ns5.map D.int)], ⟨_, rfl, rfl, rfl⟩, ?_, ?_⟩)))
  · rintro i as ρ O c hc ⟨x13, rfl, rfl, rfl⟩
    rw [List.getElem?_map] at hc
    obtain ⟨x, hx, rfl⟩ := Option.map_eq_some_iff.mp hc
    obtain ⟨sx, vx⟩ := hWall x (List.mem_of_getElem? hx)
    obtain ⟨k1, k2, k3, k4⟩ := keyP x sx
    rw [← k3] at vx
    refine g_name (s_if (w_or (w_test (w_op (d_call [] (w_cons (w_var rfl (w_cons (d_call [] (w_cons (w_var rfl (w_cons (w_var rfl (w_cons (w_var rfl (w_nil (call_with hw1 hw2 ?_)))))))))))))))))
    refine w_nil (call_bad k4 hTab hR k1 k2 vx (w_var rfl (rv_ne rfl ⟨_, rfl, i_F ne_I ?_⟩)))
    exact w_test (w_op (d_call [] (w_cons (w_var rfl (w_cons (w_var rfl (w_nil (call_bad (v := none) rfl hTab hR hSf (by omega) vt (w_un (w_int (ru_negO (rv_ne rfl ⟨_, rfl, i_F ne_I (s_next ⟨_, rfl, rfl, rfl⟩)⟩))))))))))) )
  rintro as ρ O ⟨x13, rfl, rfl, rfl⟩
  refine s_ret (d_call [0] (w_cons (w_var rfl (w_cons (w_var rfl (w_cons (w_var rfl (w_cons (w_var rfl (w_cons (w_op (w_var rfl (w_op (w_op (w_cb (w_cons (w_var rfl (w_nil (rc_lenM (w_int (rv_i0 (d_call [0] (w_cons (w_var rfl (w_cons (w_int (w_nil (call_take rfl rfl (by decide) fun r ns6 r0 r4 => rv_i0 ?_))))))))))))))))))))))))))))
  have hWat : ∀ i : Nat, i < 31 → ∃ x, gW[i]? = some x ∧ (MG.wrongC z fo)[i]? = some (MG.core x) := fun i hi => by
    obtain ⟨x, hx⟩ : ∃ x, gW[i]? = some x := ⟨_, List.getElem?_eq_getElem (by omega)⟩
    refine ⟨x, hx, ?_⟩
    rw [← eW, List.getElem?_map, hx]
    rfl
  obtain ⟨late, hlate, elate⟩ := hWat (30 - r.toNat) (by omega)
  have hlt : atI (gW.map MG.dRFn) ((gW.length : Int) - 1 - r) = some (MG.dRFn late) := by
    rw [show (gW.length : Int) - 1 - r = ((30 - r.toNat : Nat) : Int) by omega]
    exact atI_nat (by rw [List.getElem?_map, hlate]; rfl)
  refine rv_ixL hlt (w_cons (w_op (w_var rfl (d_call [0] (w_cons (w_var rfl (w_cons (w_int (w_nil (call_take rfl rfl (by decide) fun u ns7 u0 u17 => ?_))))))))))
  obtain ⟨early, hearly, eearly⟩ := hWat u.toNat (by omega)
  have hel : atI (gW.map MG.dRFn) u = some (MG.dRFn early) := by
    rw [show u = ((u.toNat : Nat) : Int) by omega]
    exact atI_nat (by rw [List.getElem?_map, hearly]; rfl)
  refine rv_ixL hel (w_nil (call_more hTab hrw ht hfs ?_ ?_ fun ns8 => hk _ _))
  · refine ⟨(MG.flate)[3 - r.toNat]'(by show 3 - r.toNat < 4; omega), List.getElem_mem _, ?_⟩
    have hr : r = 0 ∨ r = 1 ∨ r = 2 ∨ r = 3 := by omega
    rcases hr with rfl | rfl | rfl | rfl <;> exact (Option.some.inj elate).symm
  · have h19 : u.toNat < (MG.fbads.take 17).length := by show u.toNat < 17; omega
    refine ⟨(MG.fbads.take 17)[u.toNat]'h19, List.getElem_mem _, ?_⟩
    have e1 : (MG.wrongC z fo)[u.toNat]? = ((MG.fbads.take 17).map MG.cB)[u.toNat]? := by
      unfold MG.wrongC
      rw [List.append_assoc, List.getElem?_append_left (by rw [List.length_map]; show u.toNat < 19; omega), List.getElem?_map, List.getElem?_map, List.getElem?_take_of_lt (by omega)]
    rw [e1, List.getElem?_map, List.getElem?_eq_getElem h19] at eearly
    exact (Option.some.inj eearly).symm
theorem facts {P : Program} {w : World} {K : PySem.W.Frag} {h : Heap} {mg : Str → Option Value} {f : Addr} (X : K.In h) (G : h.Ns mainGlobals mg) (hfa : mg ("law" : Str) = some (.ref f)) (c : obsY fa fn xa sd wn ts K = valY fn sd wn ts w) (hP : PFile P) :
    ∃ fd : FuncData, (∀ (s : Shared) (v : Value), BindsTo s fd ⟨[v], []⟩ [("_law_script", v)]) ∧ ∀ base : Heap, K.In base → base.Ns mainGlobals mg → FnOk P w K mg base (L2.CX P w) 16 f fd ["_law_script"] (spC (c_law K)) := by
  have Z : Tx P w K mg := ⟨⟨h, X, G⟩, c, hP⟩
  have e := hfa.symm.trans (Z.glo 80 rfl)
  cases e
  have b := FunD.bindsA (ps := ["_law_script"]) (F_law Z) fun _ _ _ _ _ _ us hl => match us, hl with | [_], _ => rfl
  exact ⟨_, fun s v => b s [v] rfl, fun base _ _ => ok_law Z⟩
end G
open PySem PySem.W PySem.Calls PyProof.Rows
set_option maxHeartbeats 0 in
theorem PySem.Challenge.cw_bytegrove_k14_invalid_function_tables_holds : PySem.Challenge.rw_bytegrove_k14_invalid_function_tables.Holds := by
  w_on; o_law
  refine HandSHeadRun.head_any (r := OpenLaw.row PySem.Challenge.rw_bytegrove_k14_invalid_function_tables) (q := view (OpenLaw.row PySem.Challenge.rw_bytegrove_k14_invalid_function_tables).prog [50]) (H := G.hkk) (ob := G.obv) (M := 9000) (loose := G.looseN) (d := HandSHeadRun.topDef (OpenLaw.row PySem.Challenge.rw_bytegrove_k14_invalid_function_tables).prog 50) (kwd := []) G.obv_eq
    (by kernel_rfl) (fun s => by kernel_rfl) G.run (by kernel_rfl) (by kernel_rfl) (by kernel_rfl) (by rfl) (by first | assumption | decide +kernel) (by decide +kernel) ⟨rfl, rfl, rfl, rfl, rfl, by decide +kernel⟩ ?hw ?hc
  case hw => w_witness2
  case hc =>
    refine DL.walk_ofW (l := PySem.Challenge.rw_bytegrove_k14_invalid_function_tables) (n := 63) (k := 16) (x := "_law_script") (CX := fun w => L2.CX (PySem.Challenge.rw_bytegrove_k14_invalid_function_tables).prog w) rfl (by decide) (by kernel_rfl) ⟨rfl, by decide, by decide⟩ ?F (fun _ _ _ _ _ z => DL.cx_none z)
    intro w mg fa h Y G0 hmg0
    obtain ⟨K, KX, c⟩ := Y
    have hmg : mg ("law" : PySem.Str) = some (.ref fa) := by
      have e : (HandSHeadRun.topDef (OpenLaw.row PySem.Challenge.rw_bytegrove_k14_invalid_function_tables).prog 50).name = ("law" : PySem.Str) := by kernel_rfl
      rw [← e]
      exact hmg0
    obtain ⟨fd, hb, hF⟩ := G.facts (P := (PySem.Challenge.rw_bytegrove_k14_invalid_function_tables).prog) (w := w) KX G0 hmg c ⟨by kernel_rfl, by kernel_rfl⟩
    exact ⟨K, fd, DL.spC (G.c_law K), KX, hb, fun H a ns hl hO hS => DL.law_start hO hS fun d hd => ⟨d, ns, rfl, rfl, rfl, rfl, hd, hl, fun _ _ => rfl⟩, hF⟩
