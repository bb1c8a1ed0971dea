import PyProof.Rows.All
import HandS.HeadHook4
import HandS.ForMost
import HandS.Exc
import HandS.ExcInit
import HandS.WordsExc
import HandS.HeadHook1
import HandS.Lambda
import HandS.IsInst
import HandS.HeadHook2
import HandS.HeadHook3
import HandS.HeadNt
import HandS.EndBits
import HandS.Head0
import HandS.Head1
import HandS.Head2
import HandS.HeadEnd
import HandS.ClsMeth
import KE.KStateDown
import PySem.Challenge.RW_holdhouse_k01_limits_and_errors
import HandS.TupAny
import HandS.TupMul
import HandS.Deep
import HandS.Style
import HandS.RaiseMore
import HandS.StrMore
import PyProof.StrLawsAffix
import PyProof.ReprRoads
import HandS.Defaults
import HandS.Property
import HandS.Ends
import HandS.Comp
import HandS.FStr
import HandS.Flow
import HandS.Star
import HandS.Walk
import KE.GoesMore
import Wide.All
import OpenK.AllK
import Wide.FinOn
import HandS.Base
import HandS.Call
import HandS.Iter
import HandS.Zip
import HandS.OwnEq
import HandS.MakeKw
import HandS.MakeKwOnly
import KE.KDictZip
import PyProof.ListNew
import HandS.ListItems
import HandS.NoneIn
import HandS.Strs
import HandS.HotCalls
import HandS.ExcField
import KE.KExcIs
import KE.SortData
import HandS.SortRule
import HandS.Dict
import HandS.Conv
import KE.KExcInit
import HandS.ExcValue
import HandS.EndTab
import HandS.Codes
set_option Elab.async false
set_option linter.all false
namespace DL
def lamNames : List PySem.Str := []
def errUse : List PySem.Str := []
end DL
set_option maxRecDepth 100000
set_option maxHeartbeats 4000000
namespace DL
open PySem PySem.Spec PyProof.Rows L2

inductive Da where
  | non
  | bl (b : Bool)
  | int (i : Int)
  | str (l : List Nat)
  | lst (xs : List Da)
  | tup (xs : List Da)
  | obj (C : Str) (fs : List Str) (ds : List Da)
  | pool
  | bor (xs : List Da)
  | cls (C : Str)
  | dic0
  | dca
  | dct (ps : List (Int × Int))
  | exc (a dd : Addr) (C : Str) (fs : List Str) (ds : List Da)
  | exv (C : Str) (fs : List Str) (ds : List Da)

instance : Inhabited Da := ⟨.non⟩

structure Pa where
  p : Option Addr
  T : List (Addr × Str)
def lamT (K : PySem.W.Frag) : List (Addr × Str) := lamNames.map fun x => ((He.cT K (x, none)).2, (x ++ ".<locals>.") ++ "<lambda>")
def NM (pa : Pa) (a : Addr) : Prop := (¬ some a = pa.p) ∧ ∀ q ∈ pa.T, q.1 ≠ a

abbrev sg (l : List Nat) : Str := ⟨l.toArray⟩
theorem sg_len (l : List Nat) : (sg l).length = l.length := by
  show (l.toArray).size = l.length
  simp
theorem sg_tl (x : Str) : sg x.cps.toList = x := TL.mk_tl x

def dkv (ps : List (Int × Int)) : List (Key × V) := ps.map fun p => (.inl p.1, .int p.2)
mutual
/-- the value v bears the datum d; F: the part of the heap that is never written again; pa: where the pool stands -/
inductive Dt (K : PySem.W.Frag) (F : Hp) (pa : Pa) : V → Da → Prop
  | non : Dt K F pa .non .non
  | bl (b : Bool) : Dt K F pa (.bl b) (.bl b)
  | int (i : Int) : Dt K F pa (.int i) (.int i)
  | str (l : List Nat) : Dt K F pa (.str (sg l)) (.str l)
  | lst {a : Addr} {xs : List V} {ds : List Da} : F a = some (.lst xs) → Dts K F pa xs ds → Dt K F pa (.ref a) (.lst ds)
  | tup {a : Addr} {xs : List V} {ds : List Da} : SqT K F a xs → Dts K F pa xs ds → Dt K F pa (.ref a) (.tup ds)
  | obj {a dx : Addr} {C : Str} {fs : List Str} {xs : List V} {ds : List Da} : F a = some (.ins (He.ga K C) dx (fs.zip xs)) → fs.length = xs.length → Dts K F pa xs ds → Dt K F pa (.ref a) (.obj C fs ds)
  | pool {p : Addr} : pa.p = some p → Dt K F pa (.ref p) .pool
  | cls (C : Str) : Dt K F pa (.ref (He.ga K C)) (.cls C)
  | dic0 {a : Addr} : F a = some (.dK []) → Dt K F pa (.ref a) .dic0
  | dca {a : Addr} : F a = some (.dK [(.inr "a", .int 1)]) → Dt K F pa (.ref a) .dca
  | dct {a : Addr} {ps : List (Int × Int)} : F a = some (.dK (dkv ps)) → Dt K F pa (.ref a) (.dct ps)
  | exc {a dd : Addr} {C : Str} {fs : List Str} {xs : List V} {ds : List Da} : F dd = some (.xd (fs.zip xs)) → fs.length = xs.length → Dts K F pa xs ds → Dt K F pa (.ref a) (.exc a dd C fs ds)
  | exv {a dd : Addr} {C : Str} {fs : List Str} {xs : List V} {ds : List Da} : F a = some (exo a (He.ga K C) (some dd)) → F dd = some (exd dd (fs.zip xs)) → fs.length = xs.length → Dts K F pa xs ds → Dt K F pa (.ref a) (.exv C fs ds)
  | exv0 {a : Addr} {C : Str} : F a = some (exo a (He.ga K C) none) → Dt K F pa (.ref a) (.exv C [] [])
inductive Dts (K : PySem.W.Frag) (F : Hp) (pa : Pa) : List V → List Da → Prop
  | nil : Dts K F pa [] []
  | cons {v : V} {vs : List V} {d : Da} {ds : List Da} : Dt K F pa v d → Dts K F pa vs ds → Dts K F pa (v :: vs) (d :: ds)
end

theorem same_t {K : PySem.W.Frag} {F F' : Hp} {a : Addr} {xs : List V} (e : Same F F') (h : SqT K F a xs) : SqT K F' a xs := by
  rcases h with h | h
  · refine .inl ?_
    rcases h with h | ⟨o, h⟩
    · exact .inl (e _ _ h)
    · exact .inr ⟨o, e _ _ h⟩
  · exact .inr h

mutual
theorem Dt.mono {K : PySem.W.Frag} {F F' : Hp} {pa : Pa} (e : Same F F') : ∀ {v : V} {d : Da}, Dt K F pa v d → Dt K F' pa v d
  | _, _, .non => .non
  | _, _, .bl b => .bl b
  | _, _, .int i => .int i
  | _, _, .str l => .str l
  | _, _, .lst h t => .lst (e _ _ h) (Dts.mono e t)
  | _, _, .tup h t => .tup (same_t e h) (Dts.mono e t)
  | _, _, .obj h l t => .obj (e _ _ h) l (Dts.mono e t)
  | _, _, .pool h => .pool h
  | _, _, .cls C => .cls C
  | _, _, .dic0 h => .dic0 (e _ _ h)
  | _, _, .dca h => .dca (e _ _ h)
  | _, _, .dct h => .dct (e _ _ h)
  | _, _, .exc h l t => .exc (e _ _ h) l (Dts.mono e t)
  | _, _, .exv h1 h2 l t => .exv (e _ _ h1) (e _ _ h2) l (Dts.mono e t)
  | _, _, .exv0 h => .exv0 (e _ _ h)
theorem Dts.mono {K : PySem.W.Frag} {F F' : Hp} {pa : Pa} (e : Same F F') : ∀ {vs : List V} {ds : List Da}, Dts K F pa vs ds → Dts K F' pa vs ds
  | _, _, .nil => .nil
  | _, _, .cons h t => .cons (Dt.mono e h) (Dts.mono e t)
end

section
variable {K : PySem.W.Frag} {F : Hp} {pa : Pa}
theorem Dts.length : ∀ {vs : List V} {ds : List Da}, Dts K F pa vs ds → vs.length = ds.length
  | _, _, .nil => rfl
  | _, _, .cons _ t => by simp [Dts.length t]
theorem Dts.get : ∀ {vs : List V} {ds : List Da} {i : Nat} {d : Da}, Dts K F pa vs ds → ds[i]? = some d → ∃ v, vs[i]? = some v ∧ Dt K F pa v d
  | _, _, _, _, .nil, e => by simp at e
  | _, _, 0, _, .cons h _, e => by
    simp at e
    subst e
    exact ⟨_, rfl, h⟩
  | _, _, i + 1, _, .cons _ t, e => by
    simp at e
    obtain ⟨v, h1, h2⟩ := Dts.get t e
    exact ⟨v, by simpa using h1, h2⟩
theorem Dts.getV : ∀ {vs : List V} {ds : List Da} {i : Nat} {v : V}, Dts K F pa vs ds → vs[i]? = some v → ∃ d, ds[i]? = some d ∧ Dt K F pa v d
  | _, _, _, _, .nil, e => by simp at e
  | _, _, 0, _, .cons h _, e => by
    simp at e
    subst e
    exact ⟨_, rfl, h⟩
  | _, _, i + 1, _, .cons _ t, e => by
    simp at e
    obtain ⟨v, h1, h2⟩ := Dts.getV t e
    exact ⟨v, by simpa using h1, h2⟩
theorem Dts.append : ∀ {vs ws : List V} {ds es : List Da}, Dts K F pa vs ds → Dts K F pa ws es → Dts K F pa (vs ++ ws) (ds ++ es)
  | _, _, _, _, .nil, s => s
  | _, _, _, _, .cons h t, s => .cons h (Dts.append t s)
theorem Dts.take : ∀ {vs : List V} {ds : List Da} (n : Nat), Dts K F pa vs ds → Dts K F pa (vs.take n) (ds.take n)
  | _, _, 0, _ => .nil
  | _, _, _ + 1, .nil => .nil
  | _, _, n + 1, .cons h t => .cons h (Dts.take n t)
theorem Dts.drop : ∀ {vs : List V} {ds : List Da} (n : Nat), Dts K F pa vs ds → Dts K F pa (vs.drop n) (ds.drop n)
  | _, _, 0, t => t
  | _, _, _ + 1, .nil => .nil
  | _, _, n + 1, .cons _ t => Dts.drop n t
theorem Dts.reverse : ∀ {vs : List V} {ds : List Da}, Dts K F pa vs ds → Dts K F pa vs.reverse ds.reverse
  | _, _, .nil => .nil
  | _, _, .cons h t => by
    rw [List.reverse_cons, List.reverse_cons]
    exact Dts.append (Dts.reverse t) (.cons h .nil)
theorem Dts.snoc {vs : List V} {ds : List Da} {v : V} {d : Da} (t : Dts K F pa vs ds) (h : Dt K F pa v d) : Dts K F pa (vs ++ [v]) (ds ++ [d]) := t.append (.cons h .nil)
theorem Dt.int_inv {v : V} {i : Int} (h : Dt K F pa v (.int i)) : v = .int i := by cases h; rfl
theorem Dt.bl_inv {v : V} {b : Bool} (h : Dt K F pa v (.bl b)) : v = .bl b := by cases h; rfl
theorem Dt.str_inv {v : V} {l : List Nat} (h : Dt K F pa v (.str l)) : v = .str (sg l) := by cases h; rfl
theorem Dt.non_inv {v : V} (h : Dt K F pa v .non) : v = .non := by cases h; rfl
theorem Dt.lst_inv {v : V} {ds : List Da} (h : Dt K F pa v (.lst ds)) : ∃ a xs, v = .ref a ∧ F a = some (.lst xs) ∧ Dts K F pa xs ds := by
  cases h with
  | lst h t => exact ⟨_, _, rfl, h, t⟩
theorem Dt.tup_inv {v : V} {ds : List Da} (h : Dt K F pa v (.tup ds)) : ∃ a xs, v = .ref a ∧ SqT K F a xs ∧ Dts K F pa xs ds := by
  cases h with
  | tup h t => exact ⟨_, _, rfl, h, t⟩
theorem Dt.pool_inv {v : V} (h : Dt K F pa v .pool) : ∃ p, v = .ref p ∧ pa.p = some p := by
  cases h with
  | pool h => exact ⟨_, rfl, h⟩
theorem Dt.obj_inv {v : V} {C : Str} {fs : List Str} {ds : List Da} (h : Dt K F pa v (.obj C fs ds)) : ∃ a dx xs, v = .ref a ∧ F a = some (.ins (He.ga K C) dx (fs.zip xs)) ∧ fs.length = xs.length ∧ Dts K F pa xs ds := by
  cases h with
  | obj h l t => exact ⟨_, _, _, rfl, h, l, t⟩
theorem Dt.dic0_inv {v : V} (h : Dt K F pa v .dic0) : ∃ a, v = .ref a ∧ F a = some (.dK []) := by
  cases h with
  | dic0 h => exact ⟨_, rfl, h⟩
theorem Dt.dca_inv {v : V} (h : Dt K F pa v .dca) : ∃ a, v = .ref a ∧ F a = some (.dK [(.inr "a", .int 1)]) := by
  cases h with
  | dca h => exact ⟨_, rfl, h⟩
theorem Dt.dct_inv {v : V} {ps : List (Int × Int)} (h : Dt K F pa v (.dct ps)) : ∃ a, v = .ref a ∧ F a = some (.dK (dkv ps)) := by
  cases h with
  | dct h => exact ⟨_, rfl, h⟩
theorem Dt.exv_inv {v : V} {C : Str} {fs : List Str} {ds : List Da} (h : Dt K F pa v (.exv C fs ds)) : (∃ a dd xs, v = .ref a ∧ F a = some (exo a (He.ga K C) (some dd)) ∧ F dd = some (exd dd (fs.zip xs)) ∧ fs.length = xs.length ∧ Dts K F pa xs ds) ∨ (∃ a, v = .ref a ∧ F a = some (exo a (He.ga K C) none) ∧ fs = [] ∧ ds = []) := by
  cases h with
  | exv h1 h2 l t => exact .inl ⟨_, _, _, rfl, h1, h2, l, t⟩
  | exv0 h => exact .inr ⟨_, rfl, h, rfl, rfl⟩
theorem Dts.of_str : ∀ {ls : List (List Nat)}, Dts K F pa (ls.map fun l => V.str (sg l)) (ls.map Da.str)
  | [] => .nil
  | l :: ls => .cons (.str l) Dts.of_str
theorem Dts.str_inv : ∀ {ls : List (List Nat)} {vs : List V}, Dts K F pa vs (ls.map Da.str) → vs = ls.map fun l => V.str (sg l)
  | [], _, h => by cases h; rfl
  | l :: ls, _, h => by
    cases h with
    | cons h t => rw [h.str_inv, Dts.str_inv t]; rfl
end

def Dx (K : PySem.W.Frag) (F H : Hp) (pa : Pa) (v : V) : Da → Prop
  | .bor ds => ∃ a xs, v = .ref a ∧ F a = none ∧ NM pa a ∧ H a = some (.lst xs) ∧ Dts K F pa xs ds
  | d => Dt K F pa v d
def Da.fz : Da → Bool
  | .bor _ => false
  | _ => true
theorem Dx.of {K : PySem.W.Frag} {F H : Hp} {pa : Pa} {v : V} {d : Da} (h : Dt K F pa v d) : Dx K F H pa v d := by
  cases h with
  | non => exact .non
  | bl b => exact .bl b
  | int i => exact .int i
  | str l => exact .str l
  | lst h t => exact .lst h t
  | tup h t => exact .tup h t
  | obj h l t => exact .obj h l t
  | pool h => exact .pool h
  | cls C => exact .cls C
  | dic0 h => exact .dic0 h
  | dct h => exact .dct h
  | exc h l t => exact .exc h l t
  | exv h1 h2 l t => exact .exv h1 h2 l t
  | exv0 h => exact .exv0 h
  | dca h => exact .dca h
theorem Dx.dt {K : PySem.W.Frag} {F H : Hp} {pa : Pa} {v : V} {d : Da} (h : Dx K F H pa v d) (f : d.fz = true) : Dt K F pa v d := by
  cases d with
  | bor ds => cases f
  | _ => exact h
theorem Dt.fz {K : PySem.W.Frag} {F : Hp} {pa : Pa} {v : V} {d : Da} (h : Dt K F pa v d) : d.fz = true := by cases h <;> rfl
inductive Dxs (K : PySem.W.Frag) (F H : Hp) (pa : Pa) : List V → List Da → Prop
  | nil : Dxs K F H pa [] []
  | cons {v : V} {vs : List V} {d : Da} {ds : List Da} : Dx K F H pa v d → Dxs K F H pa vs ds → Dxs K F H pa (v :: vs) (d :: ds)
theorem Dxs.of {K : PySem.W.Frag} {F H : Hp} {pa : Pa} : ∀ {vs : List V} {ds : List Da}, Dts K F pa vs ds → Dxs K F H pa vs ds
  | _, _, .nil => .nil
  | _, _, .cons h t => .cons (Dx.of h) (Dxs.of t)
theorem Dxs.dts {K : PySem.W.Frag} {F H : Hp} {pa : Pa} : ∀ {vs : List V} {ds : List Da}, Dxs K F H pa vs ds → ds.all Da.fz = true → Dts K F pa vs ds
  | _, _, .nil, _ => .nil
  | _, _, .cons h t, f => by
    rw [List.all_cons, Bool.and_eq_true] at f
    exact .cons (h.dt f.1) (t.dts f.2)
theorem Dxs.append {K : PySem.W.Frag} {F H : Hp} {pa : Pa} : ∀ {vs ws : List V} {ds es : List Da}, Dxs K F H pa vs ds → Dxs K F H pa ws es → Dxs K F H pa (vs ++ ws) (ds ++ es)
  | _, _, _, _, .nil, s => s
  | _, _, _, _, .cons h t, s => .cons h (Dxs.append t s)
theorem Dxs.length {K : PySem.W.Frag} {F H : Hp} {pa : Pa} : ∀ {vs : List V} {ds : List Da}, Dxs K F H pa vs ds → vs.length = ds.length
  | _, _, .nil => rfl
  | _, _, .cons _ t => by simp [Dxs.length t]

abbrev Po := Option (Int × Int × Int)
def PoolP (F H : Hp) : Option Addr → Po → Prop
  | none, none => True
  | some p, some (a, b, c) => F p = none ∧ H p = some (.lst [.int a, .int b, .int c])
  | _, _ => False
structure TbOk (F H : Hp) (T : List (Addr × Str)) : Prop where
  tabs : LamX.Tabs T H
  out : ∀ q ∈ T, F q.1 = none
  only : ∀ a ps, H a = some (.tbl ps) → ∃ q ∈ T, q.1 = a
structure PoolOk (F H : Hp) (pa : Pa) (P : Po) : Prop where
  pp : PoolP F H pa.p P
  tb : TbOk F H pa.T
theorem TbOk.at {F H : Hp} {T : List (Addr × Str)} (t : TbOk F H T) {q : Addr × Str} (h : q ∈ T) : ∃ ps, H q.1 = some (.tbl ps) := by
  obtain ⟨ps, e, _⟩ := t.tabs q h
  exact ⟨ps, e⟩
theorem PoolP.at {F H : Hp} {p : Addr} {P : Po} (h : PoolP F H (some p) P) : ∃ a b c, P = some (a, b, c) ∧ F p = none ∧ H p = some (.lst [.int a, .int b, .int c]) := by
  cases P with
  | none => exact h.elim
  | some t =>
    obtain ⟨x, y, z⟩ := t
    exact ⟨x, y, z, rfl, h.1, h.2⟩
theorem PoolP.ext {F H F' H' : Hp} {pa : Option Addr} {P : Po} (h : PoolP F H pa P) (hf : ∀ p, pa = some p → F' p = none) (hh : ∀ p o, pa = some p → H p = some o → H' p = some o) : PoolP F' H' pa P := by
  cases pa with
  | none =>
    cases P with
    | none => trivial
    | some t => exact h.elim
  | some p =>
    obtain ⟨a, b, c, rfl, h1, h2⟩ := h.at
    exact ⟨hf p rfl, hh p _ rfl h2⟩
theorem PoolOk.nm {F H : Hp} {pa : Pa} {P : Po} (h : PoolOk F H pa P) {a : Addr} (e : H a = none) : NM pa a := by
  refine ⟨fun z => ?_, fun q hq z => ?_⟩
  · have hp := h.pp
    rw [← z] at hp
    obtain ⟨_, _, _, _, _, h2⟩ := hp.at
    rw [e] at h2
    cases h2
  · obtain ⟨ps, hs⟩ := h.tb.at hq
    rw [z, e] at hs
    cases hs
theorem PoolOk.nmF {F H : Hp} {pa : Pa} {P : Po} (h : PoolOk F H pa P) {a : Addr} {o : HO} (e : F a = some o) : NM pa a := by
  refine ⟨fun z => ?_, fun q hq z => ?_⟩
  · have hp := h.pp
    rw [← z] at hp
    obtain ⟨_, _, _, _, h1, _⟩ := hp.at
    rw [e] at h1
    cases h1
  · have hs := h.tb.out q hq
    rw [z, e] at hs
    cases hs
theorem PoolOk.ext {F H F' H' : Hp} {pa : Pa} {P : Po} (h : PoolOk F H pa P) (hf : ∀ p, ¬ NM pa p → F' p = none) (hh : ∀ b o, H b = some o → H' b = some o) (ho : ∀ b ps, H' b = some (.tbl ps) → H b = some (.tbl ps)) : PoolOk F' H' pa P where
  pp := h.pp.ext (fun p e => hf p fun z => z.1 e.symm) fun p o _ e => hh p o e
  tb := {
    tabs := h.tb.tabs.ext hh
    out := fun q hq => hf q.1 fun z => z.2 q hq rfl
    only := fun a ps e => h.tb.only a ps (ho a ps e) }

structure Gr (pa : Pa) (F H F' H' : Hp) : Prop where
  ff : Same F F'
  fh : Same F' H'
  hh : ∀ a o, H a = some o → NM pa a → H' a = some o
  nw : ∀ a o, F' a = some o → F a = some o ∨ H a = none
theorem Gr.refl {pa : Pa} {F H : Hp} (h : Same F H) : Gr pa F H F H := ⟨Same.refl _, h, fun _ _ e _ => e, fun _ _ e => .inl e⟩
theorem Gr.trans {pa : Pa} {F H F1 H1 F2 H2 : Hp} {P1 : Po} (g : Gr pa F H F1 H1) (p1 : PoolOk F1 H1 pa P1) (k : Gr pa F1 H1 F2 H2) : Gr pa F H F2 H2 where
  ff := g.ff.trans k.ff
  fh := k.fh
  hh := fun a o e n => k.hh a o (g.hh a o e n) n
  nw := fun a o e => by
    rcases k.nw a o e with h | h
    · exact g.nw a o h
    · refine .inr ?_
      cases q : H a with
      | none => rfl
      | some o' =>
        have := g.hh a o' q (p1.nm h)
        rw [h] at this
        cases this
theorem upd_tbl {H : Hp} {p : Addr} {o : HO} (ho : ∀ ps, o ≠ .tbl ps) {b : Addr} {ps : Array Value} (e : upd H p o b = some (.tbl ps)) : H b = some (.tbl ps) := by
  by_cases hb : b = p
  · subst hb
    rw [upd_same] at e
    exact absurd (Option.some.inj e) (ho ps)
  · rw [upd_ne hb] at e
    exact e
theorem Gr.new {pa : Pa} {F H : Hp} {p : Addr} {o : HO} {P : Po} (fh : Same F H) (po : PoolOk F H pa P) (hp : H p = none) (ho : ∀ ps, o ≠ .tbl ps := by intro _ z; cases z) : Gr pa F H (upd F p o) (upd H p o) ∧ PoolOk (upd F p o) (upd H p o) pa P := by
  have hF : F p = none := fh.free hp
  refine ⟨⟨fun b u e => ?_, fun b u e => ?_, fun b u e n => ?_, fun b u e => ?_⟩, po.ext (fun q hq => ?_) (fun b u e => ?_) fun b ps e => upd_tbl ho e⟩
  · rw [upd_ne (ne_of_none e hF)]; exact e
  · by_cases hb : b = p
    · subst hb; rw [upd_same] at e ⊢; exact e
    · rw [upd_ne hb] at e ⊢; exact fh _ _ e
  · rw [upd_ne (ne_of_none e hp)]; exact e
  · by_cases hb : b = p
    · subst hb; exact .inr hp
    · rw [upd_ne hb] at e; exact .inl e
  · have hqp : q ≠ p := fun z => hq (z ▸ po.nm hp)
    rw [upd_ne hqp]
    cases e : F q with
    | none => rfl
    | some u => exact absurd (po.nmF e) hq
  · rw [upd_ne (ne_of_none e hp)]; exact e
theorem Gr.newM {pa : Pa} {F H : Hp} {p : Addr} {o : HO} {P : Po} (fh : Same F H) (po : PoolOk F H pa P) (hp : H p = none) (ho : ∀ ps, o ≠ .tbl ps := by intro _ z; cases z) : Gr pa F H F (upd H p o) ∧ PoolOk F (upd H p o) pa P := by
  have hF : F p = none := fh.free hp
  refine ⟨⟨Same.refl _, fun b u e => ?_, fun b u e n => ?_, fun b u e => .inl e⟩, po.ext (fun q hq => ?_) (fun b u e => ?_) fun b ps e => upd_tbl ho e⟩
  · rw [upd_ne (ne_of_none e hF)]; exact fh _ _ e
  · rw [upd_ne (ne_of_none e hp)]; exact e
  · cases e : F q with
    | none => rfl
    | some u => exact absurd (po.nmF e) hq
  · rw [upd_ne (ne_of_none e hp)]; exact e

inductive Out (α : Type) where
  | ok (a : α) (P : Po)
  | ex (C : Str) (fs : List Str) (ds : List Da) (P : Po)
  | no
def Out.bind {α β : Type} (o : Out α) (k : α → Po → Out β) : Out β := match o with
  | .ok a P => k a P
  | .ex C fs ds P => .ex C fs ds P
  | .no => .no
@[simp] theorem Out.bind_ok {α β : Type} (a : α) (P : Po) (k : α → Po → Out β) : (Out.ok a P).bind k = k a P := rfl
@[simp] theorem Out.bind_no {α β : Type} (k : α → Po → Out β) : (Out.no : Out α).bind k = .no := rfl
@[simp] theorem Out.bind_ex {α β : Type} (C : Str) (fs : List Str) (ds : List Da) (P : Po) (k : α → Po → Out β) : (Out.ex C fs ds P : Out α).bind k = .ex C fs ds P := rfl
def Out.of {α : Type} (o : Option α) (P : Po) : Out α := match o with
  | some a => .ok a P
  | none => .no
@[simp] theorem Out.of_some {α : Type} (a : α) (P : Po) : Out.of (some a) P = .ok a P := rfl
@[simp] theorem Out.of_none {α : Type} (P : Po) : (Out.of none P : Out α) = .no := rfl

def PostX (K : PySem.W.Frag) (E : XK) (pa : Pa) (F H : Hp) (C : Str) (fs : List Str) (ds : List Da) (P' : Po) : Prop :=
  ∀ (F' H' : Hp) (dd : Addr) (xs : List V), Gr pa F H F' H' → PoolOk F' H' pa P' → F' dd = some (.xd (fs.zip xs)) → fs.length = xs.length → Dts K F' pa xs ds → E (.ref (He.ga K C)) (some dd) H'
def Post (K : PySem.W.Frag) (E : XK) (pa : Pa) (F H : Hp) (o : Out Da) (Q : VK) : Prop := match o with
  | .ok d P' => ∀ (v : V) (F' H' : Hp), Gr pa F H F' H' → PoolOk F' H' pa P' → Dx K F' H' pa v d → Q v H'
  | .ex C fs ds P' => PostX K E pa F H C fs ds P'
  | .no => False
def PostA (K : PySem.W.Frag) (E : XK) (pa : Pa) (F H : Hp) (o : Out (List Da)) (Q : List V → Hp → Prop) : Prop := match o with
  | .ok ds P' => ∀ (vs : List V) (F' H' : Hp), Gr pa F H F' H' → PoolOk F' H' pa P' → Dxs K F' H' pa vs ds → Q vs H'
  | .ex C fs ds P' => PostX K E pa F H C fs ds P'
  | .no => False
def PostT (K : PySem.W.Frag) (E : XK) (pa : Pa) (F H : Hp) (o : Out Bool) (Q : Bool → Hp → Prop) : Prop := match o with
  | .ok b P' => ∀ (F' H' : Hp), Gr pa F H F' H' → PoolOk F' H' pa P' → Q b H'
  | .ex C fs ds P' => PostX K E pa F H C fs ds P'
  | .no => False

section
variable {K : PySem.W.Frag} {E : XK} {pa : Pa} {F H F1 H1 : Hp} {P1 : Po}
theorem PostX.rebase {C : Str} {fs : List Str} {ds : List Da} {P' : Po} (g : Gr pa F H F1 H1) (p1 : PoolOk F1 H1 pa P1) (h : PostX K E pa F H C fs ds P') : PostX K E pa F1 H1 C fs ds P' :=
  fun F' H' dd xs k p e l t => h F' H' dd xs (g.trans p1 k) p e l t
theorem Post.rebase {o : Out Da} {Q : VK} (g : Gr pa F H F1 H1) (p1 : PoolOk F1 H1 pa P1) (h : Post K E pa F H o Q) : Post K E pa F1 H1 o Q := by
  cases o with
  | ok d P' => exact fun v F' H' k p t => h v F' H' (g.trans p1 k) p t
  | ex C fs ds P' => exact PostX.rebase g p1 h
  | no => exact h
theorem PostA.rebase {o : Out (List Da)} {Q : List V → Hp → Prop} (g : Gr pa F H F1 H1) (p1 : PoolOk F1 H1 pa P1) (h : PostA K E pa F H o Q) : PostA K E pa F1 H1 o Q := by
  cases o with
  | ok d P' => exact fun v F' H' k p t => h v F' H' (g.trans p1 k) p t
  | ex C fs ds P' => exact PostX.rebase g p1 h
  | no => exact h
theorem PostT.rebase {o : Out Bool} {Q : Bool → Hp → Prop} (g : Gr pa F H F1 H1) (p1 : PoolOk F1 H1 pa P1) (h : PostT K E pa F H o Q) : PostT K E pa F1 H1 o Q := by
  cases o with
  | ok d P' => exact fun F' H' k p => h F' H' (g.trans p1 k) p
  | ex C fs ds P' => exact PostX.rebase g p1 h
  | no => exact h
theorem Post.mono {o : Out Da} {Q Q' : VK} (h : Post K E pa F H o Q) (q : ∀ v H', Q v H' → Q' v H') : Post K E pa F H o Q' := by
  cases o with
  | ok d P' => exact fun v F' H' k p t => q _ _ (h v F' H' k p t)
  | ex C fs ds P' => exact h
  | no => exact h
theorem PostA.mono {o : Out (List Da)} {Q Q' : List V → Hp → Prop} (h : PostA K E pa F H o Q) (q : ∀ v H', Q v H' → Q' v H') : PostA K E pa F H o Q' := by
  cases o with
  | ok d P' => exact fun v F' H' k p t => q _ _ (h v F' H' k p t)
  | ex C fs ds P' => exact h
  | no => exact h
theorem PostT.mono {o : Out Bool} {Q Q' : Bool → Hp → Prop} (h : PostT K E pa F H o Q) (q : ∀ v H', Q v H' → Q' v H') : PostT K E pa F H o Q' := by
  cases o with
  | ok d P' => exact fun F' H' k p => q _ _ (h F' H' k p)
  | ex C fs ds P' => exact h
  | no => exact h
structure Stp (K : PySem.W.Frag) (pa : Pa) (F H : Hp) (v : V) (d : Da) (P1 : Po) (F1 H1 : Hp) : Prop where
  g : Gr pa F H F1 H1
  p : PoolOk F1 H1 pa P1
  t : Dx K F1 H1 pa v d
theorem Post.bind {o : Out Da} {k : Da → Po → Out Da} {Q : VK} (h : Post K E pa F H (o.bind k) Q) :
    Post K E pa F H o (fun v H1 => ∃ d P1 F1, o = .ok d P1 ∧ Stp K pa F H v d P1 F1 H1 ∧ Post K E pa F1 H1 (k d P1) Q) := by
  cases o with
  | ok d P' => exact fun v F' H' g p t => ⟨d, P', F', rfl, ⟨g, p, t⟩, Post.rebase g p h⟩
  | ex C fs ds P' => exact h
  | no => exact h
theorem Post.bindA {o : Out Da} {k : Da → Po → Out (List Da)} {Q : List V → Hp → Prop} (h : PostA K E pa F H (o.bind k) Q) :
    Post K E pa F H o (fun v H1 => ∃ d P1 F1, o = .ok d P1 ∧ Stp K pa F H v d P1 F1 H1 ∧ PostA K E pa F1 H1 (k d P1) Q) := by
  cases o with
  | ok d P' => exact fun v F' H' g p t => ⟨d, P', F', rfl, ⟨g, p, t⟩, PostA.rebase g p h⟩
  | ex C fs ds P' => exact h
  | no => exact h
theorem Post.bindT {o : Out Da} {k : Da → Po → Out Bool} {Q : Bool → Hp → Prop} (h : PostT K E pa F H (o.bind k) Q) :
    Post K E pa F H o (fun v H1 => ∃ d P1 F1, o = .ok d P1 ∧ Stp K pa F H v d P1 F1 H1 ∧ PostT K E pa F1 H1 (k d P1) Q) := by
  cases o with
  | ok d P' => exact fun v F' H' g p t => ⟨d, P', F', rfl, ⟨g, p, t⟩, PostT.rebase g p h⟩
  | ex C fs ds P' => exact h
  | no => exact h
theorem PostA.bind {o : Out (List Da)} {k : List Da → Po → Out Da} {Q : VK} (h : Post K E pa F H (o.bind k) Q) :
    PostA K E pa F H o (fun vs H1 => ∃ ds P1 F1, o = .ok ds P1 ∧ Gr pa F H F1 H1 ∧ PoolOk F1 H1 pa P1 ∧ Dxs K F1 H1 pa vs ds ∧ Post K E pa F1 H1 (k ds P1) Q) := by
  cases o with
  | ok d P' => exact fun v F' H' g p t => ⟨d, P', F', rfl, g, p, t, Post.rebase g p h⟩
  | ex C fs ds P' => exact h
  | no => exact h
theorem PostA.bindA {o : Out (List Da)} {k : List Da → Po → Out (List Da)} {Q : List V → Hp → Prop} (h : PostA K E pa F H (o.bind k) Q) :
    PostA K E pa F H o (fun vs H1 => ∃ ds P1 F1, o = .ok ds P1 ∧ Gr pa F H F1 H1 ∧ PoolOk F1 H1 pa P1 ∧ Dxs K F1 H1 pa vs ds ∧ PostA K E pa F1 H1 (k ds P1) Q) := by
  cases o with
  | ok d P' => exact fun v F' H' g p t => ⟨d, P', F', rfl, g, p, t, PostA.rebase g p h⟩
  | ex C fs ds P' => exact h
  | no => exact h
theorem PostT.bind {o : Out Bool} {k : Bool → Po → Out Da} {Q : VK} (h : Post K E pa F H (o.bind k) Q) :
    PostT K E pa F H o (fun b H1 => ∃ P1 F1, o = .ok b P1 ∧ Gr pa F H F1 H1 ∧ PoolOk F1 H1 pa P1 ∧ Post K E pa F1 H1 (k b P1) Q) := by
  cases o with
  | ok d P' => exact fun F' H' g p => ⟨P', F', rfl, g, p, Post.rebase g p h⟩
  | ex C fs ds P' => exact h
  | no => exact h
theorem PostT.bindT {o : Out Bool} {k : Bool → Po → Out Bool} {Q : Bool → Hp → Prop} (h : PostT K E pa F H (o.bind k) Q) :
    PostT K E pa F H o (fun b H1 => ∃ P1 F1, o = .ok b P1 ∧ Gr pa F H F1 H1 ∧ PoolOk F1 H1 pa P1 ∧ PostT K E pa F1 H1 (k b P1) Q) := by
  cases o with
  | ok d P' => exact fun F' H' g p => ⟨P', F', rfl, g, p, PostT.rebase g p h⟩
  | ex C fs ds P' => exact h
  | no => exact h
theorem Post.now {d : Da} {P : Po} {Q : VK} {v : V} (fh : Same F H) (po : PoolOk F H pa P) (h : Post K E pa F H (.ok d P) Q) (t : Dx K F H pa v d) : Q v H := h v F H (Gr.refl fh) po t
theorem PostT.now {b : Bool} {P : Po} {Q : Bool → Hp → Prop} (fh : Same F H) (po : PoolOk F H pa P) (h : PostT K E pa F H (.ok b P) Q) : Q b H := h F H (Gr.refl fh) po
theorem PostA.now {ds : List Da} {P : Po} {Q : List V → Hp → Prop} {vs : List V} (fh : Same F H) (po : PoolOk F H pa P) (h : PostA K E pa F H (.ok ds P) Q) (t : Dxs K F H pa vs ds) : Q vs H := h vs F H (Gr.refl fh) po t
theorem Post.newO {d : Da} {P : Po} {Q : VK} {p : Addr} {o : HO} (fh : Same F H) (po : PoolOk F H pa P) (h : Post K E pa F H (.ok d P) Q) (hp : H p = none) (t : Dt K (upd F p o) pa (.ref p) d) (ho : ∀ ps, o ≠ .tbl ps := by intro _ z; cases z) : Q (.ref p) (upd H p o) := by
  obtain ⟨g, q⟩ := Gr.new (o := o) fh po hp ho
  exact h _ _ _ g q (Dx.of t)
theorem Dts.new {vs : List V} {ds : List Da} {p : Addr} {o : HO} (hp : F p = none) (t : Dts K F pa vs ds) : Dts K (upd F p o) pa vs ds := t.mono fun b u e => by rw [upd_ne (ne_of_none e hp)]; exact e
end

inductive Sv where
  | un
  | dat (d : Da)
  | own (ds : List Da)
  | slf (C : Str) (fs : List Str) (ds : List Da)
instance : Inhabited Sv := ⟨.un⟩
structure Ev where
  sl : List Sv
  po : Po
def Ev.wp (S : Ev) (P : Po) : Ev := { S with po := P }
@[simp] theorem Ev.wp_sl (S : Ev) (P : Po) : (S.wp P).sl = S.sl := rfl
@[simp] theorem Ev.wp_po (S : Ev) (P : Po) : (S.wp P).po = P := rfl
@[simp] theorem Ev.wp_wp (S : Ev) (P P' : Po) : (S.wp P).wp P' = S.wp P' := rfl

structure Rel (K : PySem.W.Frag) (pa : Pa) (F : Hp) (σ : L2.St) (H : Hp) (S : Ev) : Prop where
  fh : Same F H
  po : PoolOk F H pa S.po
  sl : ∀ (i : Nat) (d : Da), S.sl[i]? = some (.dat d) → ∃ v, σ[i]? = some (some v) ∧ Dt K F pa v d
  ow : ∀ (i : Nat) (ds : List Da), S.sl[i]? = some (.own ds) → ∃ a xs, σ[i]? = some (some (.ref a)) ∧ F a = none ∧ NM pa a ∧ H a = some (.lst xs) ∧ Dts K F pa xs ds
  dj : ∀ (i j : Nat) (ds es : List Da) (a : Addr), S.sl[i]? = some (.own ds) → S.sl[j]? = some (.own es) → σ[i]? = some (some (.ref a)) → σ[j]? = some (some (.ref a)) → i = j
  se : ∀ (i : Nat) (C : Str) (fs : List Str) (ds : List Da), S.sl[i]? = some (.slf C fs ds) → ∃ a dx xs, σ[i]? = some (some (.ref a)) ∧ F a = none ∧ NM pa a ∧ H a = some (.ins (He.ga K C) dx (fs.zip xs)) ∧ fs.length = xs.length ∧ Dts K F pa xs ds
  len : σ.length = S.sl.length
  tl : pa.T = lamT K

theorem Gr.stays {pa : Pa} {F H F1 H1 : Hp} {a : Addr} {o : HO} (g : Gr pa F H F1 H1) (h0 : F a = none) (h1 : H a = some o) : F1 a = none := by
  cases q : F1 a with
  | none => rfl
  | some o' =>
    rcases g.nw a o' q with h | h
    · rw [h0] at h; cases h
    · rw [h1] at h; cases h
theorem Dx.grow {K : PySem.W.Frag} {pa : Pa} {F H F1 H1 : Hp} {v : V} {d : Da} (h : Dx K F H pa v d) (g : Gr pa F H F1 H1) : Dx K F1 H1 pa v d := by
  cases d with
  | bor ds =>
    obtain ⟨a, xs, h1, h2, h3, h4, h5⟩ := h
    exact ⟨a, xs, h1, g.stays h2 h4, h3, g.hh _ _ h4 h3, h5.mono g.ff⟩
  | _ => exact Dx.of (Dt.mono g.ff h)
theorem Dxs.grow {K : PySem.W.Frag} {pa : Pa} {F H F1 H1 : Hp} (g : Gr pa F H F1 H1) : ∀ {vs : List V} {ds : List Da}, Dxs K F H pa vs ds → Dxs K F1 H1 pa vs ds
  | _, _, .nil => .nil
  | _, _, .cons h t => .cons (h.grow g) (Dxs.grow g t)
theorem Rel.grow {K : PySem.W.Frag} {pa : Pa} {F H F1 H1 : Hp} {σ : L2.St} {S : Ev} {P1 : Po} (R : Rel K pa F σ H S) (g : Gr pa F H F1 H1) (p1 : PoolOk F1 H1 pa P1) : Rel K pa F1 σ H1 (S.wp P1) where
  fh := g.fh
  po := p1
  sl := fun i d e => by
    obtain ⟨v, h1, h2⟩ := R.sl i d e
    exact ⟨v, h1, h2.mono g.ff⟩
  ow := fun i ds e => by
    obtain ⟨a, xs, h1, h2, h3, h4, h5⟩ := R.ow i ds e
    exact ⟨a, xs, h1, g.stays h2 h4, h3, g.hh _ _ h4 h3, h5.mono g.ff⟩
  dj := R.dj
  se := fun i C fs ds e => by
    obtain ⟨a, dx, xs, h1, h2, h3, h4, h5, h6⟩ := R.se i C fs ds e
    exact ⟨a, dx, xs, h1, g.stays h2 h4, h3, g.hh _ _ h4 h3, h5, h6.mono g.ff⟩
  len := R.len
  tl := R.tl

def up (K : PySem.W.Frag) (E : XK) (f : Ev → Out Da) : TE := fun σ H Q => ∃ pa F S, Rel K pa F σ H S ∧ Post K E pa F H (f S) Q
def upA (K : PySem.W.Frag) (E : XK) (f : Ev → Out (List Da)) : TA := fun σ H Q => ∃ pa F S, Rel K pa F σ H S ∧ PostA K E pa F H (f S) Q
def upT (K : PySem.W.Frag) (E : XK) (f : Ev → Out Bool) : TT := fun σ H Q => ∃ pa F S, Rel K pa F σ H S ∧ PostT K E pa F H (f S) Q

theorem PE.imp {X : Cx} {e : Expr} {t t' : TE} (h : PE X e t) (i : ∀ σ H Q, t' σ H Q → t σ H Q) : PE X e t' := ⟨fun pins s σ H Q I q => h.run pins s σ H Q I (i σ H Q q)⟩
theorem PT.imp {X : Cx} {e : Expr} {t t' : TT} (h : PT X e t) (i : ∀ σ H Q, t' σ H Q → t σ H Q) : PT X e t' := ⟨fun pins s σ H Q I q => h.run pins s σ H Q I (i σ H Q q)⟩
theorem PA.imp {X : Cx} {es : List Expr} {t t' : TA} (h : PA X es t) (i : ∀ σ H Q, t' σ H Q → t σ H Q) : PA X es t' := ⟨fun pos pins s σ H Q I q => h.run pos pins s σ H Q I (i σ H Q q)⟩
theorem PS.imp {X : Cx} {st : Stmt} {t t' : TS} (h : PS X st t) (i : ∀ D σ H, t' D σ H → t D σ H) : PS X st t' := ⟨fun pins s σ H D I q => h.run pins s σ H D I (i D σ H q)⟩
theorem PSs.imp {X : Cx} {st : List Stmt} {t t' : TS} (h : PSs X st t) (i : ∀ D σ H, t' D σ H → t D σ H) : PSs X st t' := ⟨fun pins s σ H D I q => h.run pins s σ H D I (i D σ H q)⟩

def lim : Nat := 1000000
theorem lim_le : lim ≤ sizeLine := by rw [sizeLine_eq]; decide
theorem le_line {n : Nat} (h : n ≤ lim) : n ≤ sizeLine := Nat.le_trans h lim_le

def Da.ls : Da → Option (List Da)
  | .lst xs => some xs
  | .bor xs => some xs
  | _ => none
def Da.sq : Da → Option (List Da)
  | .lst xs => some xs
  | .bor xs => some xs
  | .tup xs => some xs
  | _ => none
def Da.flat : Da → Bool
  | .non => true
  | .bl _ => true
  | .int _ => true
  | .str _ => true
  | _ => false
def Da.pu : Nat → Da → Bool
  | _, .non => true
  | _, .bl _ => true
  | _, .int _ => true
  | _, .str l => l.all (· < 1114112)
  | n + 1, .lst xs => xs.all (Da.pu n)
  | n + 1, .tup xs => xs.all (Da.pu n)
  | n + 1, .bor xs => xs.all (Da.pu n)
  | _, _ => false
def Da.py : Nat → Da → PyData
  | _, .non => .none
  | _, .bl b => .bool b
  | _, .int i => .int i
  | _, .str l => .str (sg l)
  | n + 1, .lst xs => .list (xs.map (Da.py n))
  | n + 1, .tup xs => .tuple (xs.map (Da.py n))
  | n + 1, .bor xs => .list (xs.map (Da.py n))
  | _ + 1, .dic0 => .dict []
  | _ + 1, .dca => .dict [(.str "a", .int 1)]
  | _, _ => .none
def Da.pr : Nat → Da → Bool
  | _, .non => true
  | _, .bl _ => true
  | _, .int _ => true
  | _, .str l => l.all (· < 1114112)
  | n + 1, .lst xs => xs.all (Da.pr n)
  | n + 1, .tup xs => xs.all (Da.pr n)
  | n + 1, .bor xs => xs.all (Da.pr n)
  | _ + 1, .dic0 => true
  | _ + 1, .dca => true
  | _, _ => false
def sysB (K : PySem.W.Frag) : Bool := match K.lookup sysModules with
  | some o => (match o.data with
    | .seq _ _ => false
    | _ => true)
  | none => false
theorem sys_ne {K : PySem.W.Frag} {h : Heap} (b : sysB K = true) (kin : K.In h) {a : Addr} {o : Obj} {its : Array Value} {n : Nat} (e : h.get? a = some o) (d : o.data = .seq its n) : sysModules ≠ a := by
  rintro rfl
  unfold sysB at b
  cases q : K.lookup sysModules with
  | none => rw [q] at b; cases b
  | some o' =>
    rw [q] at b
    have e2 := kin _ _ q
    rw [e] at e2
    injection e2 with e2
    subst e2
    dsimp only at b
    rw [d] at b
    cases b
mutual
/-- == of plain data -/
def eqd : Da → Da → Bool
  | .non, .non => true
  | .bl a, .bl b => a == b
  | .bl a, .int j => (if a then 1 else 0) == j
  | .int i, .bl b => i == (if b then 1 else 0)
  | .int i, .int j => i == j
  | .str a, .str b => a == b
  | .lst xs, .lst ys => eqds xs ys
  | .lst xs, .bor ys => eqds xs ys
  | .bor xs, .lst ys => eqds xs ys
  | .bor xs, .bor ys => eqds xs ys
  | .tup xs, .tup ys => eqds xs ys
  | _, _ => false
def eqds : List Da → List Da → Bool
  | [], [] => true
  | x :: xs, y :: ys => eqd x y && eqds xs ys
  | _, _ => false
end
def eqQ (x y : Da) : Option Bool := if x.flat && y.flat then some (eqd x y) else if x.pu 20 && y.pu 20 then some (eqd x y) else none
def inQ (x y : Da) : Option Bool := match x, y with
  | .str [c], .str b => some (decide (c ∈ b))
  | x, y => match y.sq with
    | some ys => if x.flat && ys.all Da.flat then some (ys.any fun z => eqd z x) else if x.pu 20 && ys.all (Da.pu 20) then some (ys.any fun z => eqd z x) else none
    | none => none
def truQ : Da → Option Bool
  | .non => some false
  | .bl b => some b
  | .int i => some (i != 0)
  | .str l => if l.length ≤ lim then some (!l.isEmpty) else none
  | .lst xs => some (!xs.isEmpty)
  | .bor xs => some (!xs.isEmpty)
  | .tup xs => some (!xs.isEmpty)
  | _ => none

inductive B2 where
  | add | sub | mul | mod | fdv | pow | eq | ne | lt | le | gt | ge | inn | nin | is | isn
  deriving DecidableEq

def addQ : Da → Da → Option Da
  | .int i, .int j => some (.int (i + j))
  | .str a, .str b => if a.length + b.length ≤ lim then some (.str (a ++ b)) else none
  | .tup a, .tup b => if a.length + b.length ≤ lim then some (.tup (a ++ b)) else none
  | .lst a, .lst b => if a.length + b.length ≤ lim then some (.lst (a ++ b)) else none
  | .bor a, .lst b => if a.length + b.length ≤ lim then some (.lst (a ++ b)) else none
  | .lst a, .bor b => if a.length + b.length ≤ lim then some (.lst (a ++ b)) else none
  | .bor a, .bor b => if a.length + b.length ≤ lim then some (.lst (a ++ b)) else none
  | _, _ => none
def mulQ : Da → Da → Option Da
  | .int i, .int j => if (-(2 ^ 64) < i ∧ i < 2 ^ 64) ∨ (-(2 ^ 64) < j ∧ j < 2 ^ 64) then some (.int (i * j)) else none
  | .lst a, .int k => if 0 ≤ k ∧ k ≤ 1000 ∧ a.length ≤ 1000 then some (.lst (List.replicate k.toNat a).flatten) else none
  | .tup a, .int k => if 1 ≤ k ∧ k ≤ 1000 ∧ a.length ≤ 1000 then some (.tup (List.replicate k.toNat a).flatten) else none
  | _, _ => none
def cmpQ (f : Int → Int → Bool) : Da → Da → Option Da
  | .int i, .int j => some (.bl (f i j))
  | _, _ => none
def isQ : Da → Da → Option Bool
  | .bl a, .bl b => some (decide (a = b))
  | .non, .non => some true
  | .bl _, .non => some false
  | .int _, .non => some false
  | .str _, .non => some false
  | .lst _, .non => some false
  | .bor _, .non => some false
  | .tup _, .non => some false
  | .obj _ _ _, .non => some false
  | .dic0, .non => some false
  | _, _ => none
def f2 : B2 → Da → Da → Option Da
  | .add, x, y => addQ x y
  | .sub, .int i, .int j => some (.int (i - j))
  | .mul, x, y => mulQ x y
  | .mod, .int i, .int j => if 0 < j then some (.int (i % j)) else none
  | .fdv, .int i, .int j => if 0 < j ∧ j < 1073741824 then some (.int (i / j)) else none
  | .pow, .int i, .int j => if 0 ≤ j ∧ j ≤ 1000 ∧ i.natAbs < 2 ^ 64 then some (.int (i ^ j.toNat)) else none
  | .eq, x, y => (eqQ x y).map .bl
  | .ne, x, y => (eqQ x y).map fun b => .bl (!b)
  | .lt, x, y => cmpQ (fun i j => decide (i < j)) x y
  | .le, x, y => cmpQ (fun i j => decide (i ≤ j)) x y
  | .gt, x, y => cmpQ (fun i j => decide (j < i)) x y
  | .ge, x, y => cmpQ (fun i j => decide (j ≤ i)) x y
  | .inn, x, y => (inQ x y).map .bl
  | .nin, x, y => (inQ x y).map fun b => .bl (!b)
  | .is, x, y => (isQ x y).map .bl
  | .isn, x, y => (isQ x y).map fun b => .bl (!b)
  | _, _, _ => none

inductive B1 where
  | len | tuple | list | str | repr | int | abs | all | any
  deriving DecidableEq
def blsQ : List Da → Option (List Bool)
  | [] => some []
  | .bl b :: r => (blsQ r).map (b :: ·)
  | _ :: _ => none
def intQ (l : Int) : Bool := decide (l.natAbs.log2 < 1920)
mutual
def Da.small : Da → Bool
  | .int i => intQ i
  | .lst xs => smalls xs
  | .tup xs => smalls xs
  | .bor xs => smalls xs
  | _ => true
def smalls : List Da → Bool
  | [] => true
  | x :: xs => x.small && smalls xs
end
def shown (d : Da) : List Nat := (PyData.shown (d.py 20)).cps.toList
def f1 : B1 → Da → Option Da
  | .len, .str l => if l.length ≤ lim then some (.int l.length) else none
  | .len, .lst xs => some (.int xs.length)
  | .len, .bor xs => some (.int xs.length)
  | .len, .tup xs => some (.int xs.length)
  | .tuple, .lst xs => some (.tup xs)
  | .tuple, .bor xs => some (.tup xs)
  | .tuple, .tup xs => some (.tup xs)
  | .list, .lst xs => some (.lst xs)
  | .list, .bor xs => some (.lst xs)
  | .list, .tup xs => some (.lst xs)
  | .str, .int i => if intQ i then some (.str (toString i : Str).cps.toList) else none
  | .str, .str l => some (.str l)
  | .repr, .dic0 => some (.str [123, 125])
  | .repr, d => if d.pr 20 && d.small && decide ((shown d).length ≤ lim) then some (.str (shown d)) else none
  | .int, .int i => some (.int i)
  | .int, .bl b => some (.int (if b then 1 else 0))
  | .abs, .int i => some (.int (if i < 0 then -i else i))
  | .all, .lst xs => (blsQ xs).map fun bs => .bl (bs.all id)
  | .any, .lst xs => (blsQ xs).map fun bs => .bl (bs.any id)
  | _, _ => none
inductive Bi where
  | min | max
  deriving DecidableEq
def fi : Bi → Da → Da → Option Da
  | .min, .int i, .int j => some (.int (if j < i then j else i))
  | .max, .int i, .int j => some (.int (if j > i then j else i))
  | _, _, _ => none
def Da.isStr : Da → Bool
  | .str _ => true
  | _ => false
inductive Mo where
  | split | join | partition | startswith | removeprefix
  deriving DecidableEq
def strsQ : List Da → Option (List (List Nat))
  | [] => some []
  | .str l :: r => (strsQ r).map (l :: ·)
  | _ :: _ => none
def fm : Mo → Da → Da → Option Da
  | .split, .str a, .str b => if b ≠ [] ∧ b.all (· < 256) ∧ a.length + 2 ≤ lim then some (.lst ((TL.spl b 0 [] a).map .str)) else none
  | .join, .str a, y => match y.sq with
    | some ys => (strsQ ys).bind fun ls => if (TL.joinL a ls).length ≤ lim ∧ a.length ≤ lim then some (.str (TL.joinL a ls)) else none
    | none => none
  | .partition, .str a, .str b => if b ≠ [] ∧ a.length ≤ lim then some (match TL.par b [] a with
      | some (u, v) => .tup [.str u, .str b, .str v]
      | none => .tup [.str a, .str [], .str []]) else none
  | .startswith, .str a, .str b => some (.bl (TL.pre b a))
  | .removeprefix, .str a, .str b => if a.length ≤ lim then some (.str (if TL.pre b a then a.drop b.length else a)) else none
  | _, _, _ => none
def ixQ : Da → Da → Option Da
  | .lst xs, .int i => atI xs i
  | .bor xs, .int i => atI xs i
  | .tup xs, .int i => atI xs i
  | .str l, .int i => if l.length ≤ lim then (atI l i).map fun c => .str [c] else none
  | _, _ => none
def cutL {α : Type} (xs : List α) (lo hi : Option Int) : List α := (xs.drop (HT.sIx xs.length 0 lo)).take (HT.sIx xs.length xs.length hi - HT.sIx xs.length 0 lo)
def slQ (x : Da) (lo hi : Option Int) : Option Da := match x with
  | .lst xs => some (.lst (cutL xs lo hi))
  | .bor xs => some (.lst (cutL xs lo hi))
  | .tup xs => some (.tup (cutL xs lo hi))
  | .str l => if l.length ≤ lim then some (.str (cutL l lo hi)) else none
  | _ => none
inductive Ty where
  | b (n : String)
  | c (C : Str)
def tyQ : Da → Option Ty
  | .non => some (.b "NoneType")
  | .bl _ => some (.b "bool")
  | .int _ => some (.b "int")
  | .str _ => some (.b "str")
  | .lst _ => some (.b "list")
  | .bor _ => some (.b "list")
  | .tup _ => some (.b "tuple")
  | .obj C _ _ => some (.c C)
  | .pool => none
  | .cls _ => none
  | .dic0 => some (.b "dict")
  | .dca => some (.b "dict")
  | .dct _ => some (.b "dict")
  | .exc _ _ _ _ _ => none
  | .exv _ _ _ => none
def isiQ (x : Da) (T : Ty) : Option Bool := match tyQ x, T with
  | some (.b a), .b n => kitB a n
  | some (.b _), .c _ => some false
  | some (.c C), .c D => if C = D then some true else none
  | some (.c _), .b _ => none
  | none, _ => none

abbrev Fs := List Da → Po → Out Da

inductive XO where
  | len (C : Str)
  | str (C : Str)
  | repr (C : Str)
  | bool (C : Str)
  | eq (C : Str)
  | ne (C : Str)
  | prp (C m : Str)
  | hand (sub : Scope → Expr → Option (List Expr))
  | mk (C : Str) (dfs : List Da)
  | mkK (C : Str) (ks : List Str) (pr : List Nat)
  | lzip
  | bor (x : Str)
def Out.chk (p : Da → Bool) : Out Da → Out Da
  | .ok d P => if p d = true then .ok d P else .no
  | o => o
def Out.notb : Out Da → Out Da
  | .ok (.bl b) P => .ok (.bl (!b)) P
  | .ok _ _ => .no
  | o => o
def Out.noex : Out Da → Out Da
  | .ok d P => .ok d P
  | _ => .no
def isLen : Da → Bool
  | .int n => decide (0 ≤ n ∧ n < 2 ^ 62)
  | _ => false
def isBl : Da → Bool
  | .bl _ => true
  | _ => false
def Da.isObj (C : Str) : Da → Bool
  | .obj D _ _ => decide (D = C)
  | _ => false
def Da.isOb (C m : Str) : Da → Bool
  | .obj D fs _ => decide (D = C ∧ m ∉ fs)
  | _ => false
def Da.isTp : Da → Bool
  | .tup _ => true
  | _ => false
def Da.bare : Da → Bool
  | .non => true
  | .bl _ => true
  | .int _ => true
  | .str _ => true
  | _ => false
def Da.nb : Da → Da
  | .bor xs => .lst xs
  | d => d
def zpL : List Da → List Da → List Da
  | x :: xs, y :: ys => .tup [x, y] :: zpL xs ys
  | _, _ => []
def xoQ (o : XO) (f : Fs) (ds : List Da) (P : Po) : Out Da := match o with
  | .len C => (match ds with
    | [d] => if d.isObj C = true then (f [d] P).chk isLen else .no
    | _ => .no)
  | .str C => (match ds with
    | [d] => if d.isObj C = true then (f [d] P).chk Da.isStr else .no
    | _ => .no)
  | .repr C => (match ds with
    | [d] => if d.isObj C = true then (f [d] P).chk Da.isStr else .no
    | _ => .no)
  | .bool C => (match ds with
    | [d] => if d.isObj C = true then (f [d] P).chk isBl else .no
    | _ => .no)
  | .eq C => (match ds with
    | [d, e] => if (d.isObj C && (e.isObj C || e.isStr || e.isTp)) = true then (f [d, e] P).chk isBl else .no
    | _ => .no)
  | .ne C => (match ds with
    | [d, e] => if (d.isObj C && e.isObj C) = true then ((f [d, e] P).chk isBl).notb else .no
    | _ => .no)
  | .prp C _ => (match ds with
    | [d] => if d.isObj C = true then (f [d] P).noex else .no
    | _ => .no)
  | .hand _ => f ds P
  | .mk _ dfs => if ds.all Da.fz = true then f (ds ++ dfs) P else .no
  | .mkK _ ks pr => if (ds.all Da.fz && decide (ds.length = ks.length)) = true then f (pr.map fun i => ds.getD i .non) P else .no
  | .lzip => (match ds with
    | [.lst xs, .lst ys] => if xs.length ≤ 1000 then .ok (.lst (zpL xs ys)) P else .no
    | _ => .no)
  | .bor _ => (f (ds.map Da.nb) P).noex.chk Da.bare
mutual
inductive CE : Type where
  | var (i : Nat)
  | glb (x : Str) (d : Da)
  | con (d : Da)
  | b2 (o : B2) (a b : CE)
  | chn (o o' : B2) (a b c : CE)
  | neg (a : CE)
  | notv (a : CE)
  | andv (a b : CE)
  | orv (a b : CE)
  | ite (t a b : CE)
  | call (x : Str) (f : Fs) (as : CEs)
  | b1 (o : B1) (a : CE)
  | bi (o : Bi) (a b : CE)
  | isi (a : CE) (T : Ty)
  | mt (o : Mo) (a b : CE)
  | ix (a b : CE)
  | sl (a : CE) (lo hi : CEo)
  | rev (a : CE)
  | lst (as : CEs)
  | tup (as : CEs)
  | fld (a : CE) (C f : Str)
  | xa (o : XO) (f : Fs) (as : CEs)
  | lc (vs : List Nat) (tg : List Nat) (it : CI) (t : CEo) (e : CE)
  | fst (ps : CEs)
  | lc2 (vs tg : List Nat) (it : CI) (vs1 tg1 : List Nat) (it1 : CI) (t : CEo) (e : CE)
  | dnew
  | cgt (x : Str) (e : CE)
  | mth (C m : Str) (f : Fs) (o : CE) (as : CEs)
inductive CEs : Type where
  | nil
  | cons (a : CE) (r : CEs)
  | star (a : CE) (r : CEs)
inductive CEo : Type where
  | none
  | some (a : CE)
inductive CI : Type where
  | seq (a : CE)
  | rng (a : CE)
  | rng2 (a b : CE)
  | enm (a : CE)
  | zip (a b : CE)
end

def itQ (x : Da) : Option (List Da) := match x with
  | .lst xs => some xs
  | .bor xs => some xs
  | .tup xs => some xs
  | .str l => some (l.map fun c => .str [c])
  | _ => none
def rngL (i : Int) (n : Nat) : List Da := (List.range n).map fun (k : Nat) => Da.int (i + (k : Int))
def enmL : Nat → List Da → List Da
  | _, [] => []
  | k, x :: xs => .tup [.int (k : Int), x] :: enmL (k + 1) xs
def zipL : List Da → List Da → List Da
  | x :: xs, y :: ys => .tup [x, y] :: zipL xs ys
  | _, _ => []
def setSl (S : Ev) (i : Nat) (v : Sv) : Ev := { S with sl := S.sl.set i v }
def bindTg (tg : List Nat) (d : Da) (S : Ev) : Option Ev := match tg with
  | [i] => if d.fz then some (setSl S i (.dat d)) else none
  | [i, j] => (match d with
    | .tup [x, y] => if x.fz && y.fz then some (setSl (setSl S i (.dat x)) j (.dat y)) else none
    | _ => none)
  | [i, j, k] => (match d with
    | .tup [x, y, z] => if x.fz && y.fz && z.fz then some (setSl (setSl (setSl S i (.dat x)) j (.dat y)) k (.dat z)) else none
    | _ => none)
  | [i, j, k, l] => (match d with
    | .tup [x, y, z, u] => if x.fz && y.fz && z.fz && u.fz then some (setSl (setSl (setSl (setSl S i (.dat x)) j (.dat y)) k (.dat z)) l (.dat u)) else none
    | _ => none)
  | [i, j, k, l, m] => (match d with
    | .tup [x, y, z, u, v] => if x.fz && y.fz && z.fz && u.fz && v.fz then some (setSl (setSl (setSl (setSl (setSl S i (.dat x)) j (.dat y)) k (.dat z)) l (.dat u)) m (.dat v)) else none
    | _ => none)
  | _ => none
def wipeS (S : Ev) : List Nat → Ev
  | [] => S
  | v :: vs => setSl (wipeS S vs) v .un
def lcL (bd : Da → Po → Option Ev) (t : Ev → Out Bool) (e : Ev → Out Da) : List Da → Po → List Da → Out Da
  | [], P, acc => .ok (.lst acc) P
  | d :: ds, P, acc => match bd d P with
    | none => .no
    | some S => (match t S with
      | .ok true P1 => (match e (S.wp P1) with
        | .ok y P2 => if y.fz && decide (acc.length < lim) then lcL bd t e ds P2 (acc ++ [y]) else .no
        | _ => .no)
      | .ok false P1 => lcL bd t e ds P1 acc
      | _ => .no)
def lcIn (bd : Da → Po → Option Ev) (t : Ev → Out Bool) (e : Ev → Out Da) : List Da → Po → List Da → Out (List Da)
  | [], P, acc => .ok acc P
  | d :: ds, P, acc => match bd d P with
    | none => .no
    | some S => (match t S with
      | .ok true P1 => (match e (S.wp P1) with
        | .ok y P2 => if y.fz && decide (acc.length < lim) then lcIn bd t e ds P2 (acc ++ [y]) else .no
        | _ => .no)
      | .ok false P1 => lcIn bd t e ds P1 acc
      | _ => .no)
def Sv.hid : Sv → Sv
  | .dat d => .dat d
  | _ => .un
def hidS (S : Ev) : Ev := { S with sl := S.sl.map Sv.hid }
def lc2L (bd : Da → Po → Option Ev) (fi1 : Ev → Out (Bool × List Da)) (bd1 : Ev → Da → Po → Option Ev) (t : Ev → Out Bool) (e : Ev → Out Da) : List Da → Po → List Da → Out Da
  | [], P, acc => .ok (.lst acc) P
  | d :: ds, P, acc => match bd d P with
    | none => .no
    | some S => (match fi1 S with
      | .ok ds1 P1 => if ds1.1 = true then (match lcIn (bd1 S) t e ds1.2 P1 acc with
        | .ok acc2 P2 => lc2L bd fi1 bd1 t e ds P2 acc2
        | _ => .no) else .no
      | _ => .no)
def trus (o : Out Da) : Out Bool := o.bind fun d P => Out.of (truQ d) P
def fmtQ : Da → Option (List Nat)
  | .str l => if l.length ≤ lim then some l else none
  | .int i => if intQ i then some (toString i : Str).cps.toList else none
  | _ => none

def errTab : List (Str × Int × Str) := [("InvalidNumber", 0, "given"), ("InvalidText", 1, "given"), ("InvalidName", 2, "given"), ("InvalidWish", 3, "given"), ("InvalidIndex", 4, "given"), ("InvalidPicture", 5, "given"), ("InvalidEvent", 6, "given"),
  ("InvalidHearing", 7, "given"), ("NotAHouse", 8, "given"), ("InvalidStands", 9, "index"), ("InvalidKeys", 10, "index"), ("InvalidRows", 11, "index"), ("WrongLine", 12, "index"), ("InvalidWeaving", 13, "index")]
def errQ (C : Str) (fs : List Str) (ds : List Da) : Option (Int × Da) := match errTab.lookup C, fs, ds with
  | some (i, f), [g], [d] => if f = g ∧ C ∈ errUse then some (i, d) else none
  | _, _, _ => none
def cgtQ : Out Da → Out Da
  | .ok d P => if d.fz = true then (match f1 .repr d with
    | some r => .ok (.lst [.str [116, 111, 108, 100], r]) P
    | none => .no) else .no
  | .ex C fs ds P => (match errQ C fs ds with
    | some (i, d) => if d.fz = true then (match f1 .repr d with
      | some r => .ok (.lst [.int i, r]) P
      | none => .no) else .no
    | none => .no)
  | .no => .no
def zipT (x y : Da) (P : Po) : Out (Bool × List Da) := match x, y with
  | .tup xs, .lst ys => .ok (true, zipL xs ys) P
  | _, _ => .no
def zipQ (x y : Da) (P : Po) : Out (Bool × List Da) := match x.ls, y.ls with
  | some xs, some ys => .ok (x.fz && y.fz, zipL xs ys) P
  | _, _ => zipT x y P
mutual
def evE : CE → Ev → Out Da
  | .var i, S => (match S.sl[i]? with
    | some (.dat d) => .ok d S.po
    | some (.own ds) => .ok (.bor ds) S.po
    | _ => .no)
  | .glb _ d, S => .ok d S.po
  | .con d, S => .ok d S.po
  | .b2 o a b, S => (evE a S).bind fun x P => (evE b (S.wp P)).bind fun y P2 => Out.of (f2 o x y) P2
  | .chn o o' a b c, S => (evE a S).bind fun x P => (evE b (S.wp P)).bind fun y P2 => (Out.of (f2 o x y) P2).bind fun z P3 => match z with
    | .bl true => (evE c (S.wp P3)).bind fun u P4 => Out.of (f2 o' y u) P4
    | .bl false => .ok (.bl false) P3
    | _ => .no
  | .neg a, S => (evE a S).bind fun x P => match x with
    | .int i => .ok (.int (-i)) P
    | _ => .no
  | .notv a, S => (trus (evE a S)).bind fun b P => .ok (.bl (!b)) P
  | .andv a b, S => (evE a S).bind fun x P => match truQ x with
    | some true => evE b (S.wp P)
    | some false => .ok x P
    | none => .no
  | .orv a b, S => (evE a S).bind fun x P => match truQ x with
    | some true => .ok x P
    | some false => evE b (S.wp P)
    | none => .no
  | .ite t a b, S => (trus (evE t S)).bind fun k P => if k = true then evE a (S.wp P) else evE b (S.wp P)
  | .call _ f as, S => (evA as S).bind fun ds P => if ds.all Da.fz then f ds P else .no
  | .b1 o a, S => (evE a S).bind fun x P => Out.of (f1 o x) P
  | .bi o a b, S => (evE a S).bind fun x P => (evE b (S.wp P)).bind fun y P2 => Out.of (fi o x y) P2
  | .isi a T, S => (evE a S).bind fun x P => Out.of ((isiQ x T).map .bl) P
  | .mt o a b, S => (evE a S).bind fun x P => if x.isStr = true then (evE b (S.wp P)).bind fun y P2 => Out.of (fm o x y) P2 else .no
  | .ix a b, S => (evE a S).bind fun x P => (evE b (S.wp P)).bind fun y P2 => Out.of (ixQ x y) P2
  | .sl a lo hi, S => (evE a S).bind fun x P => (evO lo (S.wp P)).bind fun l P2 => (evO hi (S.wp P2)).bind fun h P3 => Out.of (slQ x l h) P3
  | .rev a, S => (evE a S).bind fun x P => Out.of (x.ls.map fun xs => .lst xs.reverse) P
  | .lst as, S => (evA as S).bind fun ds P => if ds.all Da.fz && decide (ds.length ≤ lim) then .ok (.lst ds) P else .no
  | .tup as, S => (evA as S).bind fun ds P => if ds.all Da.fz && decide (ds.length ≤ lim) then .ok (.tup ds) P else .no
  | .fld a C f, S => (evE a S).bind fun x P => match x with
    | .obj D fs ds => if C = D then Out.of ((fs.zip ds).lookup f) P else .no
    | _ => .no
  | .xa o f as, S => (evA as S).bind fun ds P => xoQ o f ds P
  | .lc vs tg it t e, S => (evI it S).bind fun ds P => lcL (fun d P1 => bindTg tg d (wipeS (S.wp P1) vs)) (evC t) (evE e) ds.2 P []
  | .fst ps, S => evP ps S []
  | .lc2 vs tg it vs1 tg1 it1 t e, S => (evI it S).bind fun ds P => lc2L (fun d P1 => bindTg tg d (wipeS (hidS (S.wp P1)) vs)) (evI it1) (fun S2 d P1 => bindTg tg1 d (wipeS (S2.wp P1) vs1)) (evC t) (evE e) ds.2 P []
  | .dnew, S => .ok .dic0 S.po
  | .cgt _ e, S => cgtQ (evE e S)
  | .mth C m f o as, S => (evE o S).bind fun x P => if x.isOb C m = true then (evA as (S.wp P)).bind fun ds P2 => if ds.all Da.fz = true then f (x :: ds) P2 else .no else .no
def evA : CEs → Ev → Out (List Da)
  | .nil, S => .ok [] S.po
  | .cons a r, S => (evE a S).bind fun x P => (evA r (S.wp P)).bind fun xs P2 => .ok (x :: xs) P2
  | .star a r, S => (evE a S).bind fun x P => match x.sq with
    | some ys => (evA r (S.wp P)).bind fun xs P2 => .ok (ys ++ xs) P2
    | none => .no
def evP : CEs → Ev → List Nat → Out Da
  | .nil, S, acc => .ok (.str acc) S.po
  | .cons a r, S, acc => (evE a S).bind fun x P => match fmtQ x with
    | some l => if (acc ++ l).length ≤ lim then evP r (S.wp P) (acc ++ l) else .no
    | none => .no
  | .star _ _, _, _ => .no
def evO : CEo → Ev → Out (Option Int)
  | .none, S => .ok none S.po
  | .some a, S => (evE a S).bind fun x P => match x with
    | .int i => .ok (some i) P
    | _ => .no
def evC : CEo → Ev → Out Bool
  | .none, S => .ok true S.po
  | .some a, S => trus (evE a S)
def evI : CI → Ev → Out (Bool × List Da)
  | .seq a, S => (evE a S).bind fun x P => Out.of ((itQ x).map fun xs => (x.fz, xs)) P
  | .rng a, S => (evE a S).bind fun x P => match x with
    | .int j => if -(lim : Int) ≤ j ∧ j ≤ lim then .ok (true, rngL 0 j.toNat) P else .no
    | _ => .no
  | .rng2 a b, S => (evE a S).bind fun x P => (evE b (S.wp P)).bind fun y P2 => match x, y with
    | .int i, .int j => if -(lim : Int) ≤ i ∧ i ≤ lim ∧ -(lim : Int) ≤ j ∧ j ≤ lim then .ok (true, rngL i (j - i).toNat) P2 else .no
    | _, _ => .no
  | .enm a, S => (evE a S).bind fun x P => match x.sq with
    | some xs => .ok (x.fz, enmL 0 xs) P
    | none => .no
  | .zip a b, S => (evE a S).bind fun x P => (evE b (S.wp P)).bind fun y P2 => zipQ x y P2
end
def tyW (K : PySem.W.Frag) : Ty → Value
  | .b n => .type n
  | .c C => .ref (He.ga K C)
def tyNm : Ty → Str
  | .b n => Str.ofString n
  | .c C => C
def vOf : Value → V
  | .none => .non
  | .bool b => .bl b
  | .int i _ => .int i
  | .str x _ => .str x
  | .ref a => .ref a
  | _ => .ty ""
def flatB : V → Da → Bool
  | .non, .non => true
  | .bl a, .bl b => a == b
  | .int i, .int j => decide (i = j)
  | .str x, .str l => decide (x = sg l)
  | _, _ => false
def allB (f : Value → Da → Bool) : List Value → List Da → Bool
  | [], [] => true
  | u :: us, d :: ds => f u d && allB f us ds
  | _, _ => false
def tupI (K : PySem.W.Frag) (a : Addr) : Option (List Value) := match K.lookup a with
  | some ⟨.type c, _, .seq its _, _⟩ => if (decide (c = "tuple") && decide (its.size ≤ sizeLine)) = true then some its.toList else none
  | _ => none
def datB (K : PySem.W.Frag) : Nat → V → Da → Bool
  | 0, v, d => flatB v d
  | n + 1, v, d => flatB v d || (match v, d with
    | .ref a, .tup ds => (match tupI K a with
      | some its => allB (fun u d => He.relB (vOf u) u && datB K n (vOf u) d) its ds
      | none => false)
    | _, _ => false)
def glbB (K : PySem.W.Frag) (x : Str) (d : Da) : Bool := match PySem.W.nsIn K mainGlobals x with
  | some (some u) => He.relB (vOf u) u && datB K 6 (vOf u) d
  | _ => false
structure DefP where
  at_ : PySem.W.Frag → Addr
  name : Str
  qual : Str
  params : Arguments
  body : List Stmt
  scope : Scope
  dfl : List Da := []
def fnAt (K : PySem.W.Frag) (a : Addr) : He.FnW := match K.lookup a with
  | some ⟨_, _, .func fd, _⟩ => some (fd.name, fd.qualname, fd.params, fd.body, fd.scope, fd.globals, fd.closure, fd.builtins)
  | _ => none
def dvsAt (K : PySem.W.Frag) (a : Addr) : List V := match K.lookup a with
  | some ⟨_, _, .func fd, _⟩ => (match fd.defaults with
    | .ref T => (match K.lookup T with
      | some ⟨_, _, .seq its _, _⟩ => its.toList.map vOf
      | _ => [])
    | _ => [])
  | _ => []
def datsV (K : PySem.W.Frag) : List V → List Da → Bool
  | [], [] => true
  | v :: vs, d :: ds => datB K 3 v d && datsV K vs ds
  | _, _ => false
def DefP.val (d : DefP) : He.FnW := some (d.name, d.qual, d.params, .stmts d.body, d.scope, mainGlobals, [], builtinsNs)
def DefP.ok (K : PySem.W.Frag) (d : DefP) : Bool := PySem.W.keepIn K (.ref (d.at_ K)) && (datsV K (dvsAt K (d.at_ K)) d.dfl && (match K.lookup (d.at_ K) with
  | some ⟨_, _, .func fd, _⟩ => PySem.W.codeIn K fd.code d.qual && He.dflB K fd.defaults (dvsAt K (d.at_ K))
  | _ => false))
abbrev AlP : Type := Bool × List He.FnW
def obsP (fa : List He.Fa) (fn : List DefP) (ex : PySem.W.Frag → Bool) (K : PySem.W.Frag) : AlP := ((fa.all fun f => f.ok K) && ((fn.all fun d => d.ok K) && ex K), fn.map fun d => fnAt K (d.at_ K))
def valP (fn : List DefP) : AlP := (true, fn.map DefP.val)
abbrev AlQ : Type := AlP × List (Option (List (Option (Str × Int))))
def obsQ (fa : List He.Fa) (fn : List DefP) (ex : PySem.W.Frag → Bool) (ts : List He.Tab) (K : PySem.W.Frag) : AlQ := (obsP fa fn ex K, ts.map fun t => He.dicW K (t.1 K))
def valQ (fn : List DefP) (ts : List He.Tab) (w : World) : AlQ := (valP fn, ts.map fun t => some (He.keysIn w.params t.2))
def SaysQ (fa : List He.Fa) (fn : List DefP) (ex : PySem.W.Frag → Bool) (ts : List He.Tab) (w : World) (K : PySem.W.Frag) : Prop := obsQ fa fn ex ts K = valQ fn ts w
def xsB (K : PySem.W.Frag) (C : Addr) : Bool := (PySem.W.clsIn K C).isSome && (He.eqO (PySem.W.findIn K (.ref C) "__getattribute__") (some (some (.builtin "BaseException.__getattribute__"))) && (He.eqO (PySem.W.findIn K (.ref C) "__getattr__") (some none) && (decide (PySem.W.subIn K (.ref C) (.type "BaseException") = some true) &&
  (He.eqO (PySem.W.findIn K (.ref C) "__class__") (some (some (.builtin "object.__class__"))) && (He.eqO (PySem.W.specialIn K (.builtin "object.__class__") "__get__") (some (some (.builtin "getset_descriptor.__get__"))) && (decide (PySem.W.takesIn K (.builtin "object.__class__") = some true) && (decide (PySem.W.mroIn K C (.type "object") = some true) && PySem.W.hasDictIn K C)))))))
def ansQ (C T : Str) : Bool := decide (T = C) || (decide (T = "WrongValue") || decide (T = "ValueError"))
def isxTys : List Ty := [.c "InvalidNumber", .c "InvalidText", .c "InvalidName", .c "InvalidWish", .c "InvalidIndex", .c "InvalidPicture", .c "InvalidEvent", .c "InvalidHearing", .c "NotAHouse", .c "InvalidStands", .c "InvalidKeys", .c "InvalidRows",
  .c "WrongLine", .c "InvalidWeaving", .c "UnknownName", .c "InUse", .c "NothingToUndo", .c "TooMany", .c "Broken", .c "WrongValue", .c "WrongState", .c "NoAnswer", .b "ValueError", .b "LookupError", .b "ArithmeticError"]
def tf : List He.Defn := lamNames.map fun x => (x, none)
abbrev AlR : Type := AlQ × Bool
structure SaysR (fa : List He.Fa) (fn : List DefP) (ex : PySem.W.Frag → Bool) (ts : List He.Tab) (w : World) (h : Heap) (K : PySem.W.Frag) : Prop where
  q : SaysQ fa fn ex ts w K
  hd : ∀ p ∈ tf, PySem.W.codeHdIn K (He.cT K p).1 (He.cT K p).2 = true
  out : ∀ p ∈ tf, K.lookup (He.cT K p).2 = none
  empty : ∀ p ∈ tf, h.get? (He.cT K p).2 = some { cls := .none, data := .fields #[] }
def obsR (as : List Addr) (fa : List He.Fa) (fn : List DefP) (ex : PySem.W.Frag → Bool) (ts : List He.Tab) (g : Addr → Option Obj) : AlR := (obsQ fa fn ex ts (He.frT g as), He.tabsB g tf (He.frT g as))
def valR (fn : List DefP) (ts : List He.Tab) (w : World) : AlR := (valQ fn ts w, true)
theorem saysR_of {as : List Addr} {fa : List He.Fa} {fn : List DefP} {ex : PySem.W.Frag → Bool} {ts : List He.Tab} {w : World} {h : Heap} (e : obsR as fa fn ex ts h.get? = valR fn ts w) : SaysR fa fn ex ts w h (He.frT h.get? as) := by
  have e1 : obsQ fa fn ex ts (He.frT h.get? as) = valQ fn ts w := congrArg (fun z : AlR => z.1) e
  have e2 : He.tabsB h.get? tf (He.frT h.get? as) = true := congrArg (fun z : AlR => z.2) e
  have key : ∀ p ∈ tf, PySem.W.codeHdIn (He.frT h.get? as) (He.cT (He.frT h.get? as) p).1 (He.cT (He.frT h.get? as) p).2 = true ∧
      ∃ o, h.get? (He.cT (He.frT h.get? as) p).2 = some o ∧ He.emptyTab o = true := fun p hp => by
    have h3 := List.all_eq_true.mp e2 p hp
    rw [Bool.and_eq_true] at h3
    refine ⟨h3.1, ?_⟩
    have h4 := h3.2
    cases q : h.get? (He.cT (He.frT h.get? as) p).2 with
    | none => rw [q] at h4; cases h4
    | some o => rw [q] at h4; exact ⟨o, rfl, h4⟩
  refine ⟨e1, fun p hp => (key p hp).1, fun p hp => ?_, fun p hp => ?_⟩
  · obtain ⟨_, o, q, z⟩ := key p hp
    exact He.frT_none q z
  · obtain ⟨_, o, q, z⟩ := key p hp
    rw [q, He.emptyTab_eq z]
def hookR (as : List Addr) (fa : List He.Fa) (fn : List DefP) (ex : PySem.W.Frag → Bool) (ts : List He.Tab) : PySem.W.Hook where
  α := AlR
  obs := fun s => obsR as fa fn ex ts s.heap.get?
  val := fun w => valR fn ts w
  says := fun w h => ∃ K : PySem.W.Frag, K.In h ∧ SaysR fa fn ex ts w h K
  of := fun _ _ e => ⟨_, He.frT_in, saysR_of e⟩
  keeps := fun _ _ _ ⟨K, hK, c⟩ k => ⟨K, PySem.W.Frag.In.keeps hK k, ⟨c.q, c.hd, c.out, fun p hp => k _ _ (c.empty p hp)⟩⟩
theorem obsR_eq {as : List Addr} {fa : List He.Fa} {fn : List DefP} {ex : PySem.W.Frag → Bool} {ts : List He.Tab} {g : Addr → Option Obj} {s : Shared} (h : ∀ a, g a = s.heap.get? a) : obsR as fa fn ex ts g = (hookR as fa fn ex ts).obs s := by
  have e : g = s.heap.get? := funext h
  rw [e]
  rfl
def Run1 (r : PySem.W.OpenRow) (q : Program) (M : Nat) (loose : List Str) (w : World) : Prop :=
  ∀ os : OsState, (HandSHeadRun.endF (HandSHeadRun.stepQ (HandSHeadRun.denQ HandSHeadRun.tabQ) r.prog w) M r.prog w os).map (fun s => (HandSHeadRun.looksF r.prog (PySem.W.boot_heap w.params) s.abs, HandSHeadRun.seenQ q loose (PySem.importedModules r.prog.main.body) (fun s => PySem.W.xlAt q [] s && PySem.W.recOk r.toRowW.records s) s.abs)) = some (true, PySem.W.openGood q loose)
def Run2 (r : PySem.W.OpenRow) (H : PySem.W.Hook) (ob : PySem.W.SharedT → H.α) (M : Nat) (w : World) : Prop :=
  ∀ os : OsState, (HandSHeadRun.endF (HandSHeadRun.stepQ (HandSHeadRun.denQ HandSHeadRun.tabQ) r.prog w) M r.prog w os).map (fun s => ob s) = some (H.val w)
theorem map3 {S A B C : Type} {x : Option S} {f : S → A} {g : S → B} {h : S → C} {a : A} {b : B} {c : C} (e1 : x.map (fun s => (f s, g s)) = some (a, b)) (e2 : x.map h = some c) : x.map (fun s => (f s, g s, h s)) = some (a, b, c) := by
  cases x with
  | none => cases e1
  | some s =>
    have h1 : (f s, g s) = (a, b) := Option.some.inj e1
    have h2 : h s = c := Option.some.inj e2
    injection h1 with h3 h4
    rw [Option.map_some, h3, h4, h2]
theorem run_of {r : PySem.W.OpenRow} {q : Program} {H : PySem.W.Hook} {ob : PySem.W.SharedT → H.α} {M : Nat} {loose : List Str} {w : World} (h1 : Run1 r q M loose w) (h2 : Run2 r H ob M w) : HandSHeadRun.RunEq r q H ob M loose w := fun os => map3 (h1 os) (h2 os)
def RunP {α : Type} (r : PySem.W.OpenRow) (M : Nat) (w : World) (f : PySem.W.SharedT → α) (a : α) : Prop :=
  ∀ os : OsState, (HandSHeadRun.endF (HandSHeadRun.stepQ (HandSHeadRun.denQ HandSHeadRun.tabQ) r.prog w) M r.prog w os).map f = some a
abbrev kT (as : List Addr) (s : PySem.W.SharedT) : PySem.W.Frag := He.frT (HandSHeadRun.getT s) as
theorem run2_of {r : PySem.W.OpenRow} {M : Nat} {w : World} {as : List Addr} {fa : List He.Fa} {fn : List DefP} {ex : PySem.W.Frag → Bool} {ts : List He.Tab}
    (h1 : RunP r M w (fun s => fa.all fun f => f.ok (kT as s)) true) (h2 : RunP r M w (fun s => fn.all fun d => d.ok (kT as s)) true) (h3 : RunP r M w (fun s => ex (kT as s)) true)
    (h4 : RunP r M w (fun s => (fn.map (fun d => fnAt (kT as s) (d.at_ (kT as s))), ts.map (fun t => He.dicW (kT as s) (t.1 (kT as s))), He.tabsB (HandSHeadRun.getT s) tf (kT as s))) (fn.map DefP.val, (ts.map fun t => some (He.keysIn w.params t.2)), true)) : Run2 r (hookR as fa fn ex ts) (fun s => obsR as fa fn ex ts (HandSHeadRun.getT s)) M w := fun os => by
  have e1 := h1 os
  have e2 := h2 os
  have e3 := h3 os
  have e4 := h4 os
  revert e1 e2 e3 e4
  generalize (HandSHeadRun.endF (HandSHeadRun.stepQ (HandSHeadRun.denQ HandSHeadRun.tabQ) r.prog w) M r.prog w os) = x
  cases x with
  | none => intro e1; cases e1
  | some s =>
    intro e1 e2 e3 e4
    have k1 : (fa.all fun f => f.ok (kT as s)) = true := Option.some.inj e1
    have k2 : (fn.all fun d => d.ok (kT as s)) = true := Option.some.inj e2
    have k3 : ex (kT as s) = true := Option.some.inj e3
    have k4 := Option.some.inj e4
    injection k4 with k5 k6
    injection k6 with k7 k8
    show some (obsR as fa fn ex ts (HandSHeadRun.getT s)) = some (valR fn ts w)
    have q : obsR as fa fn ex ts (HandSHeadRun.getT s) = (((((fa.all fun f => f.ok (kT as s)) && ((fn.all fun d => d.ok (kT as s)) && ex (kT as s))), fn.map fun d => fnAt (kT as s) (d.at_ (kT as s))), ts.map fun t => He.dicW (kT as s) (t.1 (kT as s))), He.tabsB (HandSHeadRun.getT s) tf (kT as s)) := rfl
    rw [q, k1, k2, k3, k5, k7, k8]
    rfl
theorem runP_fst {r : PySem.W.OpenRow} {M : Nat} {w : World} {f g : PySem.W.SharedT → Bool} (h : RunP r M w (fun s => f s && g s) true) : RunP r M w f true := fun os => by
  have e := h os
  revert e
  generalize (HandSHeadRun.endF (HandSHeadRun.stepQ (HandSHeadRun.denQ HandSHeadRun.tabQ) r.prog w) M r.prog w os) = x
  cases x with
  | none => intro e; cases e
  | some s =>
    intro e
    have e1 : (f s && g s) = true := Option.some.inj e
    rw [Bool.and_eq_true] at e1
    show some (f s) = some true
    rw [e1.1]
theorem runP_snd {r : PySem.W.OpenRow} {M : Nat} {w : World} {f g : PySem.W.SharedT → Bool} (h : RunP r M w (fun s => f s && g s) true) : RunP r M w g true := fun os => by
  have e := h os
  revert e
  generalize (HandSHeadRun.endF (HandSHeadRun.stepQ (HandSHeadRun.denQ HandSHeadRun.tabQ) r.prog w) M r.prog w os) = x
  cases x with
  | none => intro e; cases e
  | some s =>
    intro e
    have e1 : (f s && g s) = true := Option.some.inj e
    rw [Bool.and_eq_true] at e1
    show some (g s) = some true
    rw [e1.2]
end DL
namespace PySem
namespace XB
def tlB (B : String) : List Value := [.type B, .type "Exception", .type "BaseException", .type "object"]
def refsB (B : String) : List Value → Bool
  | .ref _ :: r => refsB B r
  | l => l == tlB B
end XB
end PySem
namespace DL
open PySem PySem.Spec PyProof.Rows L2
def xvTab : List (Str × String × String × List Str) :=
  let v : Str → Str → Str × String × String × List Str := fun C f => (C, "ValueError", "ValueError.__new__", [f])
  [v "InvalidNumber" "given", v "InvalidText" "given", v "InvalidName" "given", v "InvalidWish" "given", v "InvalidIndex" "given", v "InvalidPicture" "given", v "InvalidEvent" "given", v "InvalidHearing" "given", v "NotAHouse" "given",
   v "InvalidStands" "index", v "InvalidKeys" "index", v "InvalidRows" "index", v "WrongLine" "index", v "InvalidWeaving" "index",
   ("UnknownName", "LookupError", "LookupError.__new__", ["given"]), ("InUse", "LookupError", "LookupError.__new__", ["index"]), ("NothingToUndo", "LookupError", "LookupError.__new__", []),
   ("TooMany", "ArithmeticError", "ArithmeticError.__new__", ["most"]), ("Broken", "ArithmeticError", "ArithmeticError.__new__", ["shown", "index"])]
def xvTys : List Ty := isxTys ++ [.b "KeyError", .b "IndexError", .b "ZeroDivisionError"]
def xvAns (C : Str) (T : Str) : Bool := match xvTab.lookup C with
  | some (B, _, _) => decide (T = C) || (decide (T = Str.ofString B) || (decide (B = "ValueError") && decide (T = "WrongValue") || (decide (B = "LookupError") && decide (T = "WrongState") || decide (B = "ArithmeticError") && decide (T = "NoAnswer"))))
  | none => false
def oexbB (K : PySem.W.Frag) (C : Addr) (B newId : String) : Bool := (match K.lookup C with
  | some ⟨.type t, _, .cls cd, sl⟩ => (match cd.mro, sl.toList with
    | .ref C' :: bm, [_, _, _, _, some (.builtin n), _] => decide (t = "type") && (decide (C' = C) && (decide (n = newId) && (!cd.hasDel && (cd.hasDict && PySem.XB.refsB B bm))))
    | _, _ => false)
  | _ => false) && (He.eqO (PySem.W.findIn K (.ref C) "__setattr__") (some (some (.builtin "object.__setattr__"))) && (decide (PySem.W.subIn K (.ref C) (.type "BaseException") = some true) && (decide (PySem.W.typeIn K (.ref C) = some (.type "type")) && PySem.W.keepIn K (.ref C))))
def xvB (K : PySem.W.Frag) : Bool := xvTab.all fun q => xsB K (He.ga K q.1) && (xvTys.all (fun T => decide (PySem.W.kitOne K (.ref (He.ga K q.1)) (tyW K T) = some (xvAns q.1 (tyNm T)))) && ((["given", "index", "most", "shown"] : List Str).all (fun f => He.eqO (PySem.W.findIn K (.ref (He.ga K q.1)) f) (some none)) && oexbB K (He.ga K q.1) q.2.1 q.2.2.1))
def nouB (K : PySem.W.Frag) : Bool := PySem.W.excIn K (He.ga K "NothingToUndo") [.type "LookupError", .type "Exception", .type "BaseException", .type "object"] "LookupError.__new__"
end DL
namespace DL.Law
open PySem PySem.Spec PyProof.Rows L2 DL
def top (i : Nat) : Stmt := PySem.Challenge.pw_holdhouse_k01_limits_and_errors.main.body.getD i (.Pass ⟨0, 0, 0, 0⟩)
def clsB : Stmt → List Stmt
  | .ClassDef _ _ _ b _ _ _ _ _ _ _ => b
  | _ => []
def mth (i j : Nat) : Stmt := (clsB (top i)).getD j (.Pass ⟨0, 0, 0, 0⟩)
def g_MOST_LINES : Da := (.int 3)
def g_MOST_STANDS : Da := (.int 6)
def g_MOST_KEYS : Da := (.int 3)
def g_MOST_ROWS : Da := (.int 16)
def g_MOST_CONDITIONS : Da := (.int 4)
def g_MOST_DEEDS : Da := (.int 4)
def g_MOST_PHONES : Da := (.int 20)
def g_MOST_SHAPES : Da := (.int 3000)
abbrev s_law_pick : Stmt := top 34
abbrev N_law_pick : List Str := ["_law_pool_here", "_law_things"]
abbrev ps_law_pick : List Str := ["_law_pool_here", "_law_things"]
abbrev s_law_odd : Stmt := top 38
abbrev N_law_odd : List Str := ["_law_pool_here", "_law_menu"]
abbrev ps_law_odd : List Str := ["_law_pool_here"]
abbrev s_law_error : Stmt := top 35
abbrev N_law_error : List Str := ["_law_e", "_law_sorts", "_law_bases", "_law_at"]
abbrev ps_law_error : List Str := ["_law_e"]
abbrev s_law_field : Stmt := top 36
abbrev N_law_field : List Str := ["_law_e", "_law_at"]
abbrev ps_law_field : List Str := ["_law_e", "_law_at"]
abbrev s_law_right : Stmt := top 39
abbrev N_law_right : List Str := ["_law_pool_here", "_law_some", "_law_below", "_law_due", "_law_other", "_law_last", "_law_odd_here", "_law_more", "_law_e", "_law_k"]
abbrev ps_law_right : List Str := ["_law_pool_here"]
abbrev s_law_limits : Stmt := top 37
abbrev N_law_limits : List Str := ["_law_some"]
abbrev ps_law_limits : List Str := []
abbrev s_InvalidNumber : Stmt := mth 2 0
abbrev s_InvalidText : Stmt := mth 3 0
abbrev s_InvalidName : Stmt := mth 4 0
abbrev s_InvalidWish : Stmt := mth 5 0
abbrev s_InvalidIndex : Stmt := mth 6 0
abbrev s_InvalidPicture : Stmt := mth 7 0
abbrev s_InvalidEvent : Stmt := mth 8 0
abbrev s_InvalidHearing : Stmt := mth 9 0
abbrev s_NotAHouse : Stmt := mth 10 0
abbrev s_InvalidStands : Stmt := mth 11 0
abbrev s_InvalidKeys : Stmt := mth 12 0
abbrev s_InvalidRows : Stmt := mth 13 0
abbrev s_WrongLine : Stmt := mth 14 0
abbrev s_InvalidWeaving : Stmt := mth 15 0
abbrev s_UnknownName : Stmt := mth 17 0
abbrev s_InUse : Stmt := mth 18 0
abbrev s_TooMany : Stmt := mth 21 0
abbrev s_Broken : Stmt := mth 22 0
end DL.Law
set_option maxHeartbeats 0
namespace DL.Law
open PySem PySem.Spec PyProof.Rows L2 DL
abbrev s_law_draw : Stmt := top 33
abbrev s_law_pool : Stmt := top 32
abbrev s_law : Stmt := top 40
def d_law_draw : DefP := ⟨fun K => He.ga K "_law_draw", "_law_draw", "_law_draw", defArgs s_law_draw, defBody s_law_draw, defScope s_law_draw, []⟩
def d_law_pool : DefP := ⟨fun K => He.ga K "_law_pool", "_law_pool", "_law_pool", defArgs s_law_pool, defBody s_law_pool, defScope s_law_pool, []⟩
def d_law : DefP := ⟨fun K => He.ga K "law", "law", "law", defArgs s_law, defBody s_law, defScope s_law, []⟩
def d_law_pick : DefP := ⟨fun K => He.ga K "_law_pick", "_law_pick", "_law_pick", defArgs s_law_pick, defBody s_law_pick, defScope s_law_pick, []⟩
def d_law_odd : DefP := ⟨fun K => He.ga K "_law_odd", "_law_odd", "_law_odd", defArgs s_law_odd, defBody s_law_odd, defScope s_law_odd, []⟩
def d_law_error : DefP := ⟨fun K => He.ga K "_law_error", "_law_error", "_law_error", defArgs s_law_error, defBody s_law_error, defScope s_law_error, []⟩
def d_law_field : DefP := ⟨fun K => He.ga K "_law_field", "_law_field", "_law_field", defArgs s_law_field, defBody s_law_field, defScope s_law_field, []⟩
def d_law_right : DefP := ⟨fun K => He.ga K "_law_right", "_law_right", "_law_right", defArgs s_law_right, defBody s_law_right, defScope s_law_right, []⟩
def d_law_limits : DefP := ⟨fun K => He.ga K "_law_limits", "_law_limits", "_law_limits", defArgs s_law_limits, defBody s_law_limits, defScope s_law_limits, []⟩
def d_InvalidNumber : DefP := ⟨fun K => He.ma K (He.ga K "InvalidNumber") "__init__", "__init__", "InvalidNumber.__init__", defArgs s_InvalidNumber, defBody s_InvalidNumber, defScope s_InvalidNumber, []⟩
def d_InvalidText : DefP := ⟨fun K => He.ma K (He.ga K "InvalidText") "__init__", "__init__", "InvalidText.__init__", defArgs s_InvalidText, defBody s_InvalidText, defScope s_InvalidText, []⟩
def d_InvalidName : DefP := ⟨fun K => He.ma K (He.ga K "InvalidName") "__init__", "__init__", "InvalidName.__init__", defArgs s_InvalidName, defBody s_InvalidName, defScope s_InvalidName, []⟩
def d_InvalidWish : DefP := ⟨fun K => He.ma K (He.ga K "InvalidWish") "__init__", "__init__", "InvalidWish.__init__", defArgs s_InvalidWish, defBody s_InvalidWish, defScope s_InvalidWish, []⟩
def d_InvalidIndex : DefP := ⟨fun K => He.ma K (He.ga K "InvalidIndex") "__init__", "__init__", "InvalidIndex.__init__", defArgs s_InvalidIndex, defBody s_InvalidIndex, defScope s_InvalidIndex, []⟩
def d_InvalidPicture : DefP := ⟨fun K => He.ma K (He.ga K "InvalidPicture") "__init__", "__init__", "InvalidPicture.__init__", defArgs s_InvalidPicture, defBody s_InvalidPicture, defScope s_InvalidPicture, []⟩
def d_InvalidEvent : DefP := ⟨fun K => He.ma K (He.ga K "InvalidEvent") "__init__", "__init__", "InvalidEvent.__init__", defArgs s_InvalidEvent, defBody s_InvalidEvent, defScope s_InvalidEvent, []⟩
def d_InvalidHearing : DefP := ⟨fun K => He.ma K (He.ga K "InvalidHearing") "__init__", "__init__", "InvalidHearing.__init__", defArgs s_InvalidHearing, defBody s_InvalidHearing, defScope s_InvalidHearing, []⟩
def d_NotAHouse : DefP := ⟨fun K => He.ma K (He.ga K "NotAHouse") "__init__", "__init__", "NotAHouse.__init__", defArgs s_NotAHouse, defBody s_NotAHouse, defScope s_NotAHouse, []⟩
def d_InvalidStands : DefP := ⟨fun K => He.ma K (He.ga K "InvalidStands") "__init__", "__init__", "InvalidStands.__init__", defArgs s_InvalidStands, defBody s_InvalidStands, defScope s_InvalidStands, []⟩
def d_InvalidKeys : DefP := ⟨fun K => He.ma K (He.ga K "InvalidKeys") "__init__", "__init__", "InvalidKeys.__init__", defArgs s_InvalidKeys, defBody s_InvalidKeys, defScope s_InvalidKeys, []⟩
def d_InvalidRows : DefP := ⟨fun K => He.ma K (He.ga K "InvalidRows") "__init__", "__init__", "InvalidRows.__init__", defArgs s_InvalidRows, defBody s_InvalidRows, defScope s_InvalidRows, []⟩
def d_WrongLine : DefP := ⟨fun K => He.ma K (He.ga K "WrongLine") "__init__", "__init__", "WrongLine.__init__", defArgs s_WrongLine, defBody s_WrongLine, defScope s_WrongLine, []⟩
def d_InvalidWeaving : DefP := ⟨fun K => He.ma K (He.ga K "InvalidWeaving") "__init__", "__init__", "InvalidWeaving.__init__", defArgs s_InvalidWeaving, defBody s_InvalidWeaving, defScope s_InvalidWeaving, []⟩
def d_UnknownName : DefP := ⟨fun K => He.ma K (He.ga K "UnknownName") "__init__", "__init__", "UnknownName.__init__", defArgs s_UnknownName, defBody s_UnknownName, defScope s_UnknownName, []⟩
def d_InUse : DefP := ⟨fun K => He.ma K (He.ga K "InUse") "__init__", "__init__", "InUse.__init__", defArgs s_InUse, defBody s_InUse, defScope s_InUse, []⟩
def d_TooMany : DefP := ⟨fun K => He.ma K (He.ga K "TooMany") "__init__", "__init__", "TooMany.__init__", defArgs s_TooMany, defBody s_TooMany, defScope s_TooMany, []⟩
def d_Broken : DefP := ⟨fun K => He.ma K (He.ga K "Broken") "__init__", "__init__", "Broken.__init__", defArgs s_Broken, defBody s_Broken, defScope s_Broken, []⟩
def fn0 : List DefP := [d_law_draw, d_law_pool, d_law, d_law_pick, d_law_odd, d_law_error, d_law_field, d_law_right, d_law_limits, d_InvalidNumber, d_InvalidText, d_InvalidName, d_InvalidWish, d_InvalidIndex, d_InvalidPicture, d_InvalidEvent, d_InvalidHearing, d_NotAHouse, d_InvalidStands, d_InvalidKeys, d_InvalidRows, d_WrongLine, d_InvalidWeaving, d_UnknownName, d_InUse, d_TooMany, d_Broken]
def fn : List DefP := fn0
def fa0 : List He.Fa := [.glo "_law_draw", .glo "_law_pool", .glo "law", .glo "_law_pick", .glo "_law_odd", .glo "_law_error", .glo "_law_field", .glo "_law_right", .glo "_law_limits", .free "any", .free "all", .free "bool", .free "enumerate", .free "int", .free "isinstance", .free "len", .free "list", .free "range", .free "repr", .free "str", .free "tuple", .free "zip", .free "max", .free "min", .free "abs", .free "divmod", .free "ValueError", .free "LookupError", .free "ArithmeticError", .free "KeyError"]
def fa1 : List He.Fa := [.free "IndexError", .free "ZeroDivisionError", .glo "InvalidNumber", .meth "InvalidNumber" "__init__", .glo "InvalidText", .meth "InvalidText" "__init__", .glo "InvalidName", .meth "InvalidName" "__init__", .glo "InvalidWish", .meth "InvalidWish" "__init__", .glo "InvalidIndex", .meth "InvalidIndex" "__init__", .glo "InvalidPicture", .meth "InvalidPicture" "__init__", .glo "InvalidEvent", .meth "InvalidEvent" "__init__", .glo "InvalidHearing", .meth "InvalidHearing" "__init__", .glo "NotAHouse", .meth "NotAHouse" "__init__", .glo "InvalidStands", .meth "InvalidStands" "__init__", .glo "InvalidKeys", .meth "InvalidKeys" "__init__", .glo "InvalidRows", .meth "InvalidRows" "__init__", .glo "WrongLine", .meth "WrongLine" "__init__", .glo "InvalidWeaving", .meth "InvalidWeaving" "__init__"]
def fa2 : List He.Fa := [.glo "UnknownName", .meth "UnknownName" "__init__", .glo "InUse", .meth "InUse" "__init__", .glo "TooMany", .meth "TooMany" "__init__", .glo "Broken", .meth "Broken" "__init__", .glo "NothingToUndo", .glo "WrongValue", .glo "WrongState", .glo "NoAnswer"]
def fa : List He.Fa := fa0 ++ fa1 ++ fa2
def ex (K : PySem.W.Frag) : Bool := glbB K "MOST_LINES" g_MOST_LINES && (glbB K "MOST_STANDS" g_MOST_STANDS && (glbB K "MOST_KEYS" g_MOST_KEYS && (glbB K "MOST_ROWS" g_MOST_ROWS && (glbB K "MOST_CONDITIONS" g_MOST_CONDITIONS && (glbB K "MOST_DEEDS" g_MOST_DEEDS && (glbB K "MOST_PHONES" g_MOST_PHONES && (glbB K "MOST_SHAPES" g_MOST_SHAPES && (xvB K && (nouB K && (sysB K))))))))))
def loose0 : List Str := ["__name__", "WrongValue", "InvalidNumber", "InvalidText", "InvalidName", "InvalidWish", "InvalidIndex", "InvalidPicture", "InvalidEvent", "InvalidHearing", "NotAHouse", "InvalidStands", "InvalidKeys", "InvalidRows", "WrongLine", "InvalidWeaving", "WrongState", "UnknownName", "InUse", "NothingToUndo", "NoAnswer", "TooMany", "Broken", "MOST_LINES", "MOST_STANDS", "MOST_KEYS", "MOST_ROWS", "MOST_CONDITIONS", "MOST_DEEDS", "MOST_PHONES"]
def loose1 : List Str := ["MOST_SHAPES", "_law_pool", "_law_draw", "_law_pick", "_law_error", "_law_field", "_law_limits", "_law_odd", "_law_right"]
def loose : List Str := loose0 ++ loose1
abbrev R : PySem.W.OpenRow := PySem.W.OpenLaw.row PySem.Challenge.rw_holdhouse_k01_limits_and_errors
def ts : List He.Tab := []
def asL : List Addr := [1, 3, 23, 24, 40, 41, 43, 44, 59, 60, 62, 63, 78, 79, 81, 82, 97, 98, 100, 101, 116, 117, 119, 120, 135, 136, 138, 139, 154, 155, 157, 158, 173, 174, 176, 177, 192, 193, 195, 196, 211, 212, 214, 215, 230, 231, 233, 234, 249, 250, 252, 253, 268, 269, 271, 272, 287, 288, 290, 291, 302, 303, 319, 320, 322, 323, 338, 339, 341, 342, 353, 354, 365, 366, 382, 383, 385, 386, 401, 402, 404, 405, 413, 414, 420, 421, 427, 428, 434, 435, 441, 442, 448, 449, 455, 456, 460, 461, 467, 468]
abbrev hk : PySem.W.Hook := hookR asL fa fn ex ts
def ob (s : PySem.W.SharedT) : AlR := obsR asL fa fn ex ts (HandSHeadRun.getT s)
theorem ob_eq (s : PySem.W.SharedT) : ob s = hk.obs s.abs := obsR_eq (HandSHeadRun.getT_eq s)
theorem runP_p1 {α β : Type} {r : PySem.W.OpenRow} {M : Nat} {w : World} {f : PySem.W.SharedT → α} {g : PySem.W.SharedT → β} {a : α} {b : β} (h : RunP r M w (fun s => (f s, g s)) (a, b)) : RunP r M w f a := fun os => by
  have e := h os
  revert e
  generalize (HandSHeadRun.endF (HandSHeadRun.stepQ (HandSHeadRun.denQ HandSHeadRun.tabQ) r.prog w) M r.prog w os) = x
  cases x with
  | none => intro e; cases e
  | some s => intro e; exact congrArg some (congrArg Prod.fst (Option.some.inj e))
theorem runP_p2 {α β : Type} {r : PySem.W.OpenRow} {M : Nat} {w : World} {f : PySem.W.SharedT → α} {g : PySem.W.SharedT → β} {a : α} {b : β} (h : RunP r M w (fun s => (f s, g s)) (a, b)) : RunP r M w g b := fun os => by
  have e := h os
  revert e
  generalize (HandSHeadRun.endF (HandSHeadRun.stepQ (HandSHeadRun.denQ HandSHeadRun.tabQ) r.prog w) M r.prog w os) = x
  cases x with
  | none => intro e; cases e
  | some s => intro e; exact congrArg some (congrArg Prod.snd (Option.some.inj e))
theorem runFa (w : World) : RunP R 14000 (w.withFollow "special-get-raises" false) (fun s => (fa.all fun f => f.ok (kT asL s)) && (ex (kT asL s) && fn.all fun d => d.ok (kT asL s))) true := by
  intro os
  kernel_rfl
theorem runFb (w : World) : RunP R 14000 (w.withFollow "special-get-raises" false) (fun s => ((HandSHeadRun.looksF R.prog (PySem.W.boot_heap (w.withFollow "special-get-raises" false).params) s.abs, HandSHeadRun.seenQ (PySem.W.view R.prog [40]) loose (PySem.importedModules R.prog.main.body) (fun s => PySem.W.xlAt (PySem.W.view R.prog [40]) [] s && PySem.W.recOk R.toRowW.records s) s.abs), (fn.map (fun d => fnAt (kT asL s) (d.at_ (kT asL s))), ts.map (fun t => He.dicW (kT asL s) (t.1 (kT asL s))), He.tabsB (HandSHeadRun.getT s) tf (kT asL s)))) ((true, PySem.W.openGood (PySem.W.view R.prog [40]) loose), (fn.map DefP.val, (ts.map fun t => some (He.keysIn (w.withFollow "special-get-raises" false).params t.2)), true)) := by
  intro os
  kernel_rfl
theorem runF1 (w : World) : Run1 R (PySem.W.view R.prog [40]) 14000 loose (w.withFollow "special-get-raises" false) := runP_p1 (runFb w)
theorem runF2 (w : World) : Run2 R hk ob 14000 (w.withFollow "special-get-raises" false) := run2_of (runP_fst (runFa w)) (runP_snd (runP_snd (runFa w))) (runP_fst (runP_snd (runFa w))) (runP_p2 (runFb w))
theorem run_F (w : World) : HandSHeadRun.RunEq R (PySem.W.view R.prog [40]) hk ob 14000 loose (w.withFollow "special-get-raises" false) := run_of (runF1 w) (runF2 w)
theorem runTa (w : World) : RunP R 14000 (w.withFollow "special-get-raises" true) (fun s => (fa.all fun f => f.ok (kT asL s)) && (ex (kT asL s) && fn.all fun d => d.ok (kT asL s))) true := by
  intro os
  kernel_rfl
theorem runTb (w : World) : RunP R 14000 (w.withFollow "special-get-raises" true) (fun s => ((HandSHeadRun.looksF R.prog (PySem.W.boot_heap (w.withFollow "special-get-raises" true).params) s.abs, HandSHeadRun.seenQ (PySem.W.view R.prog [40]) loose (PySem.importedModules R.prog.main.body) (fun s => PySem.W.xlAt (PySem.W.view R.prog [40]) [] s && PySem.W.recOk R.toRowW.records s) s.abs), (fn.map (fun d => fnAt (kT asL s) (d.at_ (kT asL s))), ts.map (fun t => He.dicW (kT asL s) (t.1 (kT asL s))), He.tabsB (HandSHeadRun.getT s) tf (kT asL s)))) ((true, PySem.W.openGood (PySem.W.view R.prog [40]) loose), (fn.map DefP.val, (ts.map fun t => some (He.keysIn (w.withFollow "special-get-raises" true).params t.2)), true)) := by
  intro os
  kernel_rfl
theorem runT1 (w : World) : Run1 R (PySem.W.view R.prog [40]) 14000 loose (w.withFollow "special-get-raises" true) := runP_p1 (runTb w)
theorem runT2 (w : World) : Run2 R hk ob 14000 (w.withFollow "special-get-raises" true) := run2_of (runP_fst (runTa w)) (runP_snd (runP_snd (runTa w))) (runP_fst (runP_snd (runTa w))) (runP_p2 (runTb w))
theorem run_T (w : World) : HandSHeadRun.RunEq R (PySem.W.view R.prog [40]) hk ob 14000 loose (w.withFollow "special-get-raises" true) := run_of (runT1 w) (runT2 w)
theorem run (w : World) : HandSHeadRun.RunEq R (PySem.W.view R.prog [40]) hk ob 14000 loose w := PySem.W.byRow2 "special-get-raises" (P := fun w => HandSHeadRun.RunEq R (PySem.W.view R.prog [40]) hk ob 14000 loose w) run_F run_T w
end DL.Law
set_option maxHeartbeats 4000000
namespace DL
open PySem PySem.Spec PyProof.Rows L2

section
variable {K : PySem.W.Frag} {F H : Hp} {pa : Pa}
theorem Dt.up {v : V} {d : Da} (fh : Same F H) (h : Dt K F pa v d) : Dt K H pa v d := h.mono fh
theorem Dx.ls {v : V} {d : Da} {xs : List Da} (fh : Same F H) (h : Dx K F H pa v d) (e : d.ls = some xs) : ∃ a vs, v = .ref a ∧ H a = some (.lst vs) ∧ Dts K F pa vs xs := by
  cases d with
  | lst ys =>
    cases e
    obtain ⟨a, vs, e1, e2, e3⟩ := (show Dt K F pa v (.lst _) from h).lst_inv
    exact ⟨a, vs, e1, fh _ _ e2, e3⟩
  | bor ys =>
    cases e
    obtain ⟨a, vs, e1, _, _, e2, e3⟩ := h
    exact ⟨a, vs, e1, e2, e3⟩
  | _ => cases e
theorem Dx.sq {v : V} {d : Da} {xs : List Da} (fh : Same F H) (h : Dx K F H pa v d) (e : d.sq = some xs) : ∃ a vs, v = .ref a ∧ (H a = some (.lst vs) ∨ SqT K H a vs) ∧ Dts K F pa vs xs := by
  cases d with
  | lst ys =>
    obtain ⟨a, vs, e1, e2, e3⟩ := Dx.ls fh h (xs := xs) e
    exact ⟨a, vs, e1, .inl e2, e3⟩
  | bor ys =>
    obtain ⟨a, vs, e1, e2, e3⟩ := Dx.ls fh h (xs := xs) e
    exact ⟨a, vs, e1, .inl e2, e3⟩
  | tup ys =>
    cases e
    obtain ⟨a, vs, e1, e2, e3⟩ := (show Dt K F pa v (.tup _) from h).tup_inv
    exact ⟨a, vs, e1, .inr (same_t fh e2), e3⟩
  | _ => cases e
theorem Dts.flat : ∀ {vs : List V} {ds : List Da}, Dts K F pa vs ds → ds.all Da.flat = true → vs.all flatV = true
  | _, _, .nil, _ => rfl
  | _, _, .cons h t, f => by
    rw [List.all_cons, Bool.and_eq_true] at f
    rw [List.all_cons, Bool.and_eq_true]
    refine ⟨?_, Dts.flat t f.2⟩
    cases h <;> first | rfl | exact absurd f.1 (by simp [Da.flat])
theorem Dt.flatV {v : V} {d : Da} (h : Dt K F pa v d) (f : d.flat = true) : flatV v = true := by
  cases h <;> first | rfl | exact absurd f (by simp [Da.flat])
theorem sg_inj {a b : List Nat} : (sg a = sg b) = (a = b) := by
  refine propext ⟨fun h => ?_, fun h => by rw [h]⟩
  have := congrArg (fun s : Str => s.cps.toList) h
  simpa using this
theorem sg_beq (a b : List Nat) : (sg a == sg b) = (a == b) := by
  by_cases h : a = b
  · subst h; simp
  · have h2 : sg a ≠ sg b := fun e => h (by rw [sg_inj] at e; exact e)
    rw [beq_eq_false_iff_ne.mpr h, beq_eq_false_iff_ne.mpr h2]
theorem Dt.eqV {v w : V} {d e : Da} (h : Dt K F pa v d) (k : Dt K F pa w e) (f : d.flat = true) (g : e.flat = true) : eqV v w = eqd d e := by
  cases h <;> cases k <;> first
    | (simp [L2.eqV, eqd]; done)
    | (simp only [L2.eqV, eqd, sg_beq]; done)
    | exact absurd f (by simp [Da.flat])
    | exact absurd g (by simp [Da.flat])
theorem Dts.inV {w : V} {e : Da} (k : Dt K F pa w e) (g : e.flat = true) : ∀ {vs : List V} {ds : List Da}, Dts K F pa vs ds → ds.all Da.flat = true → inV w vs = ds.any fun z => eqd z e
  | _, _, .nil, _ => rfl
  | _, _, .cons h t, f => by
    rw [List.all_cons, Bool.and_eq_true] at f
    show ((L2.eqV _ w) || (L2.inV w _)) = _
    rw [List.any_cons, h.eqV k f.1 g, Dts.inV k g t f.2]
end

mutual
theorem eqv_py : ∀ (n : Nat) (x y : Da), x.pu n = true → y.pu n = true → PyData.eqv (x.py n) (y.py n) = eqd x y
  | n, .non, y, _, hy => by cases y <;> cases n <;> first | rfl | (simp [Da.pu] at hy; done) | simp [Da.py, PyData.eqv, eqd]
  | n, .bl a, y, _, hy => by cases y <;> cases n <;> first | rfl | (simp [Da.pu] at hy; done) | simp [Da.py, PyData.eqv, eqd]
  | n, .int a, y, _, hy => by cases y <;> cases n <;> first | rfl | (simp [Da.pu] at hy; done) | simp [Da.py, PyData.eqv, eqd]
  | n, .str a, y, _, hy => by cases y <;> cases n <;> first | rfl | (simp [Da.pu] at hy; done) | simp [Da.py, PyData.eqv, eqd, sg_beq]
  | 0, .lst xs, y, hx, _ => by simp [Da.pu] at hx
  | 0, .tup xs, y, hx, _ => by simp [Da.pu] at hx
  | 0, .bor xs, y, hx, _ => by simp [Da.pu] at hx
  | n + 1, .lst xs, y, hx, hy => by
    cases y with
    | lst ys => simp only [Da.py, PyData.eqv, eqd]; exact eqvs_py n xs ys (by simpa [Da.pu] using hx) (by simpa [Da.pu] using hy)
    | bor ys => simp only [Da.py, PyData.eqv, eqd]; exact eqvs_py n xs ys (by simpa [Da.pu] using hx) (by simpa [Da.pu] using hy)
    | obj _ _ _ => simp [Da.pu] at hy
    | pool => simp [Da.pu] at hy
    | cls _ => simp [Da.pu] at hy
    | dic0 => simp [Da.pu] at hy
    | dca => simp [Da.pu] at hy
    | dct _ => simp [Da.pu] at hy
    | exc _ _ _ _ _ => simp [Da.pu] at hy
    | exv _ _ _ => simp [Da.pu] at hy
    | _ => simp [Da.py, PyData.eqv, eqd]
  | n + 1, .bor xs, y, hx, hy => by
    cases y with
    | lst ys => simp only [Da.py, PyData.eqv, eqd]; exact eqvs_py n xs ys (by simpa [Da.pu] using hx) (by simpa [Da.pu] using hy)
    | bor ys => simp only [Da.py, PyData.eqv, eqd]; exact eqvs_py n xs ys (by simpa [Da.pu] using hx) (by simpa [Da.pu] using hy)
    | obj _ _ _ => simp [Da.pu] at hy
    | pool => simp [Da.pu] at hy
    | cls _ => simp [Da.pu] at hy
    | dic0 => simp [Da.pu] at hy
    | dca => simp [Da.pu] at hy
    | dct _ => simp [Da.pu] at hy
    | exc _ _ _ _ _ => simp [Da.pu] at hy
    | exv _ _ _ => simp [Da.pu] at hy
    | _ => simp [Da.py, PyData.eqv, eqd]
  | n + 1, .tup xs, y, hx, hy => by
    cases y with
    | tup ys => simp only [Da.py, PyData.eqv, eqd]; exact eqvs_py n xs ys (by simpa [Da.pu] using hx) (by simpa [Da.pu] using hy)
    | obj _ _ _ => simp [Da.pu] at hy
    | pool => simp [Da.pu] at hy
    | cls _ => simp [Da.pu] at hy
    | dic0 => simp [Da.pu] at hy
    | dca => simp [Da.pu] at hy
    | dct _ => simp [Da.pu] at hy
    | exc _ _ _ _ _ => simp [Da.pu] at hy
    | exv _ _ _ => simp [Da.pu] at hy
    | _ => simp [Da.py, PyData.eqv, eqd]
  | n, .obj _ _ _, y, hx, _ => by cases n <;> simp [Da.pu] at hx
  | n, .pool, y, hx, _ => by cases n <;> simp [Da.pu] at hx
  | n, .cls _, y, hx, _ => by cases n <;> simp [Da.pu] at hx
  | n, .dic0, y, hx, _ => by cases n <;> simp [Da.pu] at hx
  | n, .dca, y, hx, _ => by cases n <;> simp [Da.pu] at hx
  | n, .dct _, y, hx, _ => by cases n <;> simp [Da.pu] at hx
  | n, .exc _ _ _ _ _, y, hx, _ => by cases n <;> simp [Da.pu] at hx
  | n, .exv _ _ _, y, hx, _ => by cases n <;> simp [Da.pu] at hx
theorem eqvs_py : ∀ (n : Nat) (xs ys : List Da), xs.all (Da.pu n) = true → ys.all (Da.pu n) = true → PyData.eqvAll (xs.map (Da.py n)) (ys.map (Da.py n)) = eqds xs ys
  | n, [], [], _, _ => by simp [PyData.eqvAll, eqds]
  | n, [], _ :: _, _, _ => by simp [PyData.eqvAll, eqds]
  | n, _ :: _, [], _, _ => by simp [PyData.eqvAll, eqds]
  | n, x :: xs, y :: ys, hx, hy => by
    rw [List.all_cons, Bool.and_eq_true] at hx hy
    simp only [List.map_cons, PyData.eqvAll, eqds]
    rw [eqv_py n x y hx.1 hy.1, eqvs_py n xs ys hx.2 hy.2]
end
mutual
theorem lay_py : ∀ (n : Nat) (x : Da), x.pu n = true → (x.py n).canLay0 = true
  | n, .non, _ => by cases n <;> simp [Da.py, PyData.canLay0]
  | n, .bl _, _ => by cases n <;> simp [Da.py, PyData.canLay0]
  | n, .int _, _ => by cases n <;> simp [Da.py, PyData.canLay0]
  | n, .str l, h => by
    have h2 : l.all (· < 1114112) = true := by cases n <;> simpa [Da.pu] using h
    have h3 : PyData.strOk (sg l) = true := by
      show (l.toArray).all (· < 0x110000) = true
      rw [Array.all_toList.symm]
      simpa using h2
    cases n <;> simpa [Da.py, PyData.canLay0] using h3
  | 0, .lst _, h => by simp [Da.pu] at h
  | 0, .tup _, h => by simp [Da.pu] at h
  | 0, .bor _, h => by simp [Da.pu] at h
  | n + 1, .lst xs, h => by simp only [Da.py, PyData.canLay0]; exact lays_py n xs (by simpa [Da.pu] using h)
  | n + 1, .tup xs, h => by simp only [Da.py, PyData.canLay0]; exact lays_py n xs (by simpa [Da.pu] using h)
  | n + 1, .bor xs, h => by simp only [Da.py, PyData.canLay0]; exact lays_py n xs (by simpa [Da.pu] using h)
  | n, .obj _ _ _, h => by cases n <;> simp [Da.pu] at h
  | n, .pool, h => by cases n <;> simp [Da.pu] at h
  | n, .cls _, h => by cases n <;> simp [Da.pu] at h
  | n, .dic0, h => by cases n <;> simp [Da.pu] at h
  | n, .dca, h => by cases n <;> simp [Da.pu] at h
  | n, .dct _, h => by cases n <;> simp [Da.pu] at h
  | n, .exc _ _ _ _ _, h => by cases n <;> simp [Da.pu] at h
  | n, .exv _ _ _, h => by cases n <;> simp [Da.pu] at h
theorem lays_py : ∀ (n : Nat) (xs : List Da), xs.all (Da.pu n) = true → PyData.canLayAll0 (xs.map (Da.py n)) = true
  | n, [], _ => by simp [PyData.canLayAll0]
  | n, x :: xs, h => by
    rw [List.all_cons, Bool.and_eq_true] at h
    simp only [List.map_cons, PyData.canLayAll0, Bool.and_eq_true]
    exact ⟨lay_py n x h.1, lays_py n xs h.2⟩
end
mutual
theorem dep_py : ∀ (n : Nat) (x : Da), (x.py n).depth ≤ n
  | n, .non => by cases n <;> simp [Da.py, PyData.depth]
  | n, .bl _ => by cases n <;> simp [Da.py, PyData.depth]
  | n, .int _ => by cases n <;> simp [Da.py, PyData.depth]
  | n, .str l => by cases n <;> simp [Da.py, PyData.depth]
  | 0, .lst _ => by simp [Da.py, PyData.depth]
  | 0, .tup _ => by simp [Da.py, PyData.depth]
  | 0, .bor _ => by simp [Da.py, PyData.depth]
  | n + 1, .lst xs => by simp only [Da.py, PyData.depth]; exact Nat.succ_le_succ (deps_py n xs)
  | n + 1, .tup xs => by simp only [Da.py, PyData.depth]; exact Nat.succ_le_succ (deps_py n xs)
  | n + 1, .bor xs => by simp only [Da.py, PyData.depth]; exact Nat.succ_le_succ (deps_py n xs)
  | n, .obj _ _ _ => by cases n <;> simp [Da.py, PyData.depth]
  | n, .pool => by cases n <;> simp [Da.py, PyData.depth]
  | n, .cls _ => by cases n <;> simp [Da.py, PyData.depth]
  | 0, .dic0 => by simp [Da.py, PyData.depth]
  | 0, .dca => by simp [Da.py, PyData.depth]
  | 0, .dct _ => by simp [Da.py, PyData.depth]
  | n + 1, .dic0 => by simp [Da.py, PyData.depth, PyData.depthKv]
  | n + 1, .dca => by simp [Da.py, PyData.depth, PyData.depthKv]
  | n + 1, .dct _ => by simp [Da.py, PyData.depth, PyData.depthKv]
  | n, .exc _ _ _ _ _ => by cases n <;> simp [Da.py, PyData.depth]
  | n, .exv _ _ _ => by cases n <;> simp [Da.py, PyData.depth]
theorem deps_py : ∀ (n : Nat) (xs : List Da), PyData.depthAll (xs.map (Da.py n)) ≤ n
  | n, [] => by simp [PyData.depthAll]
  | n, x :: xs => by
    simp only [List.map_cons, PyData.depthAll]
    exact Nat.max_le.mpr ⟨dep_py n x, deps_py n xs⟩
end
theorem shaped_py {n : Nat} {x : Da} (hn : n ≤ 64) (h : x.pu n = true) : SeqAt.shaped (x.py n) = true := by
  unfold SeqAt.shaped
  rw [lay_py n x h, Bool.true_and]
  exact decide_eq_true (Nat.le_trans (dep_py n x) hn)
section
variable {K : PySem.W.Frag} {F H : Hp} {pa : Pa}
mutual
theorem Dt.dp (fh : Same F H) : ∀ {n : Nat} {v : V} {d : Da}, Dt K F pa v d → d.pu n = true → Dp K H v (d.py n)
  | n, _, _, .non, _ => by cases n <;> exact .non
  | n, _, _, .bl b, _ => by cases n <;> exact .bl b
  | n, _, _, .int i, _ => by cases n <;> exact .int i
  | n, _, _, .str l, _ => by cases n <;> exact .str _
  | 0, _, _, .lst h t, f => by simp [Da.pu] at f
  | 0, _, _, .tup h t, f => by simp [Da.pu] at f
  | n + 1, _, _, .lst h t, f => .lst (SqL.of (fh _ _ h)) (Dts.dp fh t (by simpa [Da.pu] using f))
  | n + 1, _, _, .tup h t, f => .tup (same_t fh h) (Dts.dp fh t (by simpa [Da.pu] using f))
  | n, _, _, .obj _ _ _, f => by cases n <;> simp [Da.pu] at f
  | n, _, _, .pool _, f => by cases n <;> simp [Da.pu] at f
  | n, _, _, .cls _, f => by cases n <;> simp [Da.pu] at f
  | n, _, _, .dic0 _, f => by cases n <;> simp [Da.pu] at f
  | n, _, _, .dca _, f => by cases n <;> simp [Da.pu] at f
  | n, _, _, .exv0 _, f => by cases n <;> simp [Da.pu] at f
  | n, _, _, .dct _, f => by cases n <;> simp [Da.pu] at f
  | n, _, _, .exc _ _ _, f => by cases n <;> simp [Da.pu] at f
  | n, _, _, .exv _ _ _ _, f => by cases n <;> simp [Da.pu] at f
theorem Dts.dp (fh : Same F H) : ∀ {n : Nat} {vs : List V} {ds : List Da}, Dts K F pa vs ds → ds.all (Da.pu n) = true → DpAll K H vs (ds.map (Da.py n))
  | _, _, _, .nil, _ => .nil
  | n, _, _, .cons h t, f => by
    rw [List.all_cons, Bool.and_eq_true] at f
    exact .cons (Dt.dp fh h f.1) (Dts.dp fh t f.2)
end
theorem Dx.dp (fh : Same F H) {n : Nat} {v : V} {d : Da} (h : Dx K F H pa v d) (f : d.pu n = true) : Dp K H v (d.py n) := by
  cases d with
  | bor xs =>
    obtain ⟨a, vs, e1, _, _, e2, e3⟩ := h
    subst e1
    cases n with
    | zero => simp [Da.pu] at f
    | succ n => exact .lst (SqL.of e2) (Dts.dp fh e3 (by simpa [Da.pu] using f))
  | _ => exact Dt.dp fh h f
end

def semB : B2 → Value → Value → Sem Value
  | .add => binaryOp .Add
  | .sub => binaryOp .Sub
  | .mul => binaryOp .Mult
  | .mod => binaryOp .Mod
  | .fdv => binaryOp .FloorDiv
  | .pow => binaryOp .Pow
  | .eq => compareOp .Eq
  | .ne => compareOp .NotEq
  | .lt => compareOp .Lt
  | .le => compareOp .LtE
  | .gt => compareOp .Gt
  | .ge => compareOp .GtE
  | .inn => compareOp .In
  | .nin => compareOp .NotIn
  | .is => compareOp .Is
  | .isn => compareOp .IsNot
def rB (K : PySem.W.Frag) (E : XK) (o : B2) : R2 := fun x y H Q => ∃ pa F P d e z, Same F H ∧ PoolOk F H pa P ∧ Dx K F H pa x d ∧ Dx K F H pa y e ∧ f2 o d e = some z ∧ Post K E pa F H (.ok z P) Q

section
variable {X : Cx} {E : XK}
theorem cat_case {pins : List (Addr × Obj)} {s : Shared} {σ : L2.St} {H F : Hp} {x y : V} {v u : Value} {Q : VK} {pa : Pa} {P : Po} {xs ys : List V} {a b : Addr} {ds es : List Da} (I : Inv X pins σ H s) (rx : RelV x v) (ry : RelV y u)
    (fh : Same F H) (po : PoolOk F H pa P) (ex : x = .ref a) (ey : y = .ref b) (ha : H a = some (.lst xs)) (hb : H b = some (.lst ys)) (ta : Dts X.K F pa xs ds) (tb : Dts X.K F pa ys es) (hl : ds.length + es.length ≤ lim)
    (q : Post X.K E pa F H (.ok (.lst (ds ++ es)) P) Q) : wpAny (model X.prog X.w) X.A (binaryOp .Add v u) (EP X pins σ Q) X.xe s := by
  refine op_cat pins s σ H x y v u Q I rx ry ⟨a, b, xs, ys, ex, ey, ha, hb, ?_, fun p hp => ?_⟩
  · rw [ta.length, tb.length]
    exact le_line hl
  · have hF : F p = none := fh.free hp
    exact Post.newO fh po q hp (.lst upd_same ((ta.append tb).new hF))
theorem o_add : OpR X (binaryOp .Add) (rB X.K E .add) := by
  intro pins s σ H x y v u Q I rx ry ⟨pa, F, P, d, e, z, fh, po, hx, hy, hf, q⟩
  cases d with
  | int i => cases e with
    | int j =>
      cases hf
      refine op_add pins s σ H x y v u Q I rx ry ⟨i, j, Dt.int_inv hx, Dt.int_inv hy, Post.now fh po q (Dx.of (.int _))⟩
    | _ => cases hf
  | str a => cases e with
    | str b =>
      by_cases c : a.length + b.length ≤ lim
      · have hz : z = .str (a ++ b) := by simpa [f2, addQ, c] using hf.symm
        subst hz
        refine op_add_str pins s σ H x y v u Q I rx ry ⟨sg a, sg b, Dt.str_inv hx, Dt.str_inv hy, by rw [sg_len, sg_len]; exact le_line c, ?_⟩
        have e1 : sg a ++ sg b = sg (a ++ b) := by
          apply TL.ext_tl
          rw [TL.tl_append]
        rw [e1]
        exact Post.now fh po q (Dx.of (.str _))
      · simp [f2, addQ, c] at hf
    | _ => cases hf
  | tup as => cases e with
    | tup bs =>
      by_cases c : as.length + bs.length ≤ lim
      · have hz : z = .tup (as ++ bs) := by simpa [f2, addQ, c] using hf.symm
        subst hz
        obtain ⟨a, xs, ex, ha, ta⟩ := Dt.tup_inv hx
        obtain ⟨b, ys, ey, hb, tb⟩ := Dt.tup_inv hy
        refine op_catA pins s σ H x y v u Q I rx ry ⟨a, b, xs, ys, ex, ey, same_t fh ha, same_t fh hb, ?_, fun e0 => ?_, fun _ e0 => ?_, fun _ _ p hp => ?_⟩
        · rw [ta.length, tb.length]
          exact le_line c
        · subst e0
          cases ta
          exact Post.now fh po q (Dx.of (.tup hb tb))
        · subst e0
          cases tb
          refine Post.now fh po q (Dx.of (.tup ha ?_))
          rw [List.append_nil]
          exact ta
        · have hF : F p = none := fh.free hp
          exact Post.newO fh po q hp (.tup (SqT.of upd_same) ((ta.append tb).new hF))
      · simp [f2, addQ, c] at hf
    | _ => cases hf
  | lst as => cases e with
    | lst bs =>
      by_cases c : as.length + bs.length ≤ lim
      · have hz : z = .lst (as ++ bs) := by simpa [f2, addQ, c] using hf.symm
        subst hz
        obtain ⟨a, xs, ex, ha, ta⟩ := Dx.ls (xs := as) fh hx rfl
        obtain ⟨b, ys, ey, hb, tb⟩ := Dx.ls (xs := bs) fh hy rfl
        exact cat_case I rx ry fh po ex ey ha hb ta tb c q
      · simp [f2, addQ, c] at hf
    | bor bs =>
      by_cases c : as.length + bs.length ≤ lim
      · have hz : z = .lst (as ++ bs) := by simpa [f2, addQ, c] using hf.symm
        subst hz
        obtain ⟨a, xs, ex, ha, ta⟩ := Dx.ls (xs := as) fh hx rfl
        obtain ⟨b, ys, ey, hb, tb⟩ := Dx.ls (xs := bs) fh hy rfl
        exact cat_case I rx ry fh po ex ey ha hb ta tb c q
      · simp [f2, addQ, c] at hf
    | _ => cases hf
  | bor as => cases e with
    | lst bs =>
      by_cases c : as.length + bs.length ≤ lim
      · have hz : z = .lst (as ++ bs) := by simpa [f2, addQ, c] using hf.symm
        subst hz
        obtain ⟨a, xs, ex, ha, ta⟩ := Dx.ls (xs := as) fh hx rfl
        obtain ⟨b, ys, ey, hb, tb⟩ := Dx.ls (xs := bs) fh hy rfl
        exact cat_case I rx ry fh po ex ey ha hb ta tb c q
      · simp [f2, addQ, c] at hf
    | bor bs =>
      by_cases c : as.length + bs.length ≤ lim
      · have hz : z = .lst (as ++ bs) := by simpa [f2, addQ, c] using hf.symm
        subst hz
        obtain ⟨a, xs, ex, ha, ta⟩ := Dx.ls (xs := as) fh hx rfl
        obtain ⟨b, ys, ey, hb, tb⟩ := Dx.ls (xs := bs) fh hy rfl
        exact cat_case I rx ry fh po ex ey ha hb ta tb c q
      · simp [f2, addQ, c] at hf
    | _ => cases hf
  | _ => cases e <;> cases hf
theorem o_sub : OpR X (binaryOp .Sub) (rB X.K E .sub) := by
  intro pins s σ H x y v u Q I rx ry ⟨pa, F, P, d, e, z, fh, po, hx, hy, hf, q⟩
  cases d with
  | int i => cases e with
    | int j =>
      cases hf
      exact op_sub pins s σ H x y v u Q I rx ry ⟨i, j, Dt.int_inv hx, Dt.int_inv hy, Post.now fh po q (Dx.of (.int _))⟩
    | _ => cases hf
  | _ => cases hf
theorem Dts.rep {K : PySem.W.Frag} {F : Hp} {pa : Pa} {vs : List V} {ds : List Da} (t : Dts K F pa vs ds) : ∀ k : Nat, Dts K F pa (List.replicate k vs).flatten (List.replicate k ds).flatten
  | 0 => .nil
  | k + 1 => by
    rw [List.replicate_succ, List.replicate_succ, List.flatten_cons, List.flatten_cons]
    exact t.append (Dts.rep t k)
theorem tuple_mul1 (l : Addr) (items : Array Value) (n : Nat) (dd : Option Addr) (sl : Array (Option Value)) (u : Tok) :
    Meets (Builtin.«tuple.__mul__» ⟨[.ref l, .int 1 u], []⟩) (fun _ R s => s.heap.get? l = some { cls := .type "tuple", dict := dd, data := .seq items n, slots := sl } ∧ R (.ok (.ret (Value.ref l))) s) :=
  .of_wp fun prog w A R s h => by
    obtain ⟨hp, g, d, tk, os⟩ := s
    obtain ⟨hl, h⟩ := h
    have f1 := AutoSeq1.idx_int
    wp_walk using AutoSeq1.wpAny_loadPart' hl
    exact ⟨_, rfl, h⟩
theorem op_repT1 : OpR X (binaryOp .Mult) (fun x y H Q => ∃ l xs, x = .ref l ∧ y = .int 1 ∧ SqT X.K H l xs ∧ Q (.ref l) H) := by
  intro pins s σ H x y v u Q I rx ry h
  obtain ⟨l, xs, rfl, rfl, hT, q⟩ := h
  cases rx
  obtain ⟨t, rfl⟩ := ry
  obtain ⟨its, r, ⟨⟨cls, dd, data, sl⟩, ho, hc, n, hd⟩, hs⟩ := I.tuple hT
  simp only at hc hd
  subst hc hd
  refine wpAny_binaryOp_repeat_ref (T := "tuple") (U := "int") (by decide) ⟨_, ho, rfl⟩ (fun s' => typeIs_int s' 1 t) noFill_tuple_mul PySem.F.fills_int_mul PySem.F.slot_int_rmul repeat_tuple PySem.F.slot_int_index.lookup
    (call_meets PySem.F.slot_int_rmul (typeIs_int s 1 t) PySem.F.entry_int_rmul (PySem.F.args_int_rmul_2 _ _) (int_rmul_tuple 1 t l its.toArray n dd sl)
      ⟨ho, rfl, ⟨_, ho, rfl⟩, call_meets PySem.F.slot_tuple_mul ⟨_, ho, rfl⟩ PySem.F.entry_tuple_mul (PySem.F.args_tuple_mul_2 _ _) (tuple_mul1 l its.toArray n dd sl t) ⟨ho, ?_⟩⟩)
  exact ⟨.ref l, H, I, rfl, q⟩
theorem tuple_mul0 (l : Addr) (n : Nat) (dd : Option Addr) (sl : Array (Option Value)) (x : Int) (u : Tok) (c0 : (decide (x < -(2 ^ 63)) || decide (x ≥ 2 ^ 63)) = false) :
    Meets (Builtin.«tuple.__mul__» ⟨[.ref l, .int x u], []⟩) (fun _ R s => s.heap.get? l = some { cls := .type "tuple", dict := dd, data := .seq #[] n, slots := sl } ∧ R (.ok (.ret (Value.ref l))) s) :=
  .of_wp fun prog w A R s h => by
    obtain ⟨hp, g, d, tk, os⟩ := s
    obtain ⟨hl, h⟩ := h
    have f1 := AutoSeq1.idx_int
    wp_walk using AutoSeq1.wpAny_loadPart' hl
    refine wpAny_ite_false (decide_eq_false (by rw [c0]; exact Bool.false_ne_true)) ?_
    wp_walk using AutoSeq1.wpAny_loadPart' hl
    exact ⟨_, rfl, h⟩
theorem op_repT0 : OpR X (binaryOp .Mult) (fun x y H Q => ∃ l k, x = .ref l ∧ y = .int k ∧ SqT X.K H l [] ∧ 1 ≤ k ∧ k ≤ 1000 ∧ Q (.ref l) H) := by
  intro pins s σ H x y v u Q I rx ry h
  obtain ⟨l, k, rfl, rfl, hT, k1, k2, q⟩ := h
  cases rx
  obtain ⟨t, rfl⟩ := ry
  obtain ⟨its, r, ⟨⟨cls, dd, data, sl⟩, ho, hc, n, hd⟩, hs⟩ := I.tuple hT
  simp only at hc hd
  subst hc hd
  cases r
  have c0 : (decide (k < -(2 ^ 63)) || decide (k ≥ 2 ^ 63)) = false := by
    rw [Bool.or_eq_false_iff]
    exact ⟨decide_eq_false (by omega), decide_eq_false (by omega)⟩
  refine wpAny_binaryOp_repeat_ref (T := "tuple") (U := "int") (by decide) ⟨_, ho, rfl⟩ (fun s' => typeIs_int s' k t) noFill_tuple_mul PySem.F.fills_int_mul PySem.F.slot_int_rmul repeat_tuple PySem.F.slot_int_index.lookup
    (call_meets PySem.F.slot_int_rmul (typeIs_int s k t) PySem.F.entry_int_rmul (PySem.F.args_int_rmul_2 _ _) (int_rmul_tuple k t l #[] n dd sl)
      ⟨ho, rfl, ⟨_, ho, rfl⟩, call_meets PySem.F.slot_tuple_mul ⟨_, ho, rfl⟩ PySem.F.entry_tuple_mul (PySem.F.args_tuple_mul_2 _ _) (tuple_mul0 l n dd sl k t c0) ⟨ho, ?_⟩⟩)
  exact ⟨.ref l, H, I, rfl, q⟩
theorem o_mul : OpR X (binaryOp .Mult) (rB X.K E .mul) := by
  intro pins s σ H x y v u Q I rx ry ⟨pa, F, P, d, e, z, fh, po, hx, hy, hf, q⟩
  cases d with
  | int i => cases e with
    | int j =>
      by_cases c : (-(2 ^ 64) < i ∧ i < 2 ^ 64) ∨ (-(2 ^ 64) < j ∧ j < 2 ^ 64)
      · have hz : z = .int (i * j) := by
          have h2 : (if (-(2 ^ 64) < i ∧ i < 2 ^ 64) ∨ (-(2 ^ 64) < j ∧ j < 2 ^ 64) then some (Da.int (i * j)) else none) = some z := hf
          rw [if_pos c] at h2
          exact (Option.some.inj h2).symm
        subst hz
        exact op_mul pins s σ H x y v u Q I rx ry ⟨i, j, Dt.int_inv hx, Dt.int_inv hy, c, Post.now fh po q (Dx.of (.int _))⟩
      · have h2 : (if (-(2 ^ 64) < i ∧ i < 2 ^ 64) ∨ (-(2 ^ 64) < j ∧ j < 2 ^ 64) then some (Da.int (i * j)) else none) = some z := hf
        rw [if_neg c] at h2
        cases h2
    | _ => cases hf
  | lst as => cases e with
    | int k =>
      by_cases c : 0 ≤ k ∧ k ≤ 1000 ∧ as.length ≤ 1000
      · have hz : z = .lst (List.replicate k.toNat as).flatten := by simpa [f2, mulQ, c] using hf.symm
        subst hz
        obtain ⟨a, xs, ex, ha, ta⟩ := Dx.ls (xs := as) fh hx rfl
        refine op_rep pins s σ H x y v u Q I rx ry ⟨a, k, xs, ex, Dt.int_inv hy, ha, by omega, by omega, ?_, fun p hp => ?_⟩
        · rw [ta.length, sizeLine_eq]
          have h1 : k.toNat ≤ 1000 := by omega
          have := Nat.mul_le_mul c.2.2 h1
          omega
        · have hF : F p = none := fh.free hp
          exact Post.newO fh po q hp (.lst upd_same ((Dts.rep ta _).new hF))
      · have h2 : (if 0 ≤ k ∧ k ≤ 1000 ∧ as.length ≤ 1000 then some (Da.lst (List.replicate k.toNat as).flatten) else none) = some z := hf
        rw [if_neg c] at h2
        cases h2
    | _ => cases hf
  | tup as => cases e with
    | int k =>
      by_cases c : 1 ≤ k ∧ k ≤ 1000 ∧ as.length ≤ 1000
      · have h2 : (if 1 ≤ k ∧ k ≤ 1000 ∧ as.length ≤ 1000 then some (Da.tup (List.replicate k.toNat as).flatten) else none) = some z := hf
        rw [if_pos c] at h2
        cases h2
        obtain ⟨a, xs, ex, ha, ta⟩ := Dt.tup_inv hx
        by_cases c1 : k = 1
        · subst c1
          have e1 : (List.replicate (1 : Int).toNat as).flatten = as := by simp
          rw [e1] at q
          exact op_repT1 pins s σ H x y v u Q I rx ry ⟨a, xs, ex, Dt.int_inv hy, same_t fh ha, Post.now fh po q (Dx.of (.tup ha ta))⟩
        have c2 : 2 ≤ k := by omega
        by_cases c3 : as = []
        · subst c3
          cases ta
          have e1 : (List.replicate k.toNat ([] : List Da)).flatten = [] := by simp
          rw [e1] at q
          exact op_repT0 pins s σ H x y v u Q I rx ry ⟨a, k, ex, Dt.int_inv hy, same_t fh ha, c.1, c.2.1, Post.now fh po q (Dx.of (.tup ha .nil))⟩
        refine op_repT pins s σ H x y v u Q I rx ry ⟨a, k, xs, ex, Dt.int_inv hy, same_t fh ha, ?_, c2, c.2.1, by rw [ta.length]; exact c.2.2, fun p hp => ?_⟩
        · intro e0
          subst e0
          cases ta
          exact c3 rfl
        · have hF : F p = none := fh.free hp
          exact Post.newO fh po q hp (.tup (SqT.of upd_same) ((Dts.rep ta _).new hF))
      · have h2 : (if 1 ≤ k ∧ k ≤ 1000 ∧ as.length ≤ 1000 then some (Da.tup (List.replicate k.toNat as).flatten) else none) = some z := hf
        rw [if_neg c] at h2
        cases h2
    | _ => cases hf
  | _ => cases e <;> cases hf
theorem o_mod : OpR X (binaryOp .Mod) (rB X.K E .mod) := by
  intro pins s σ H x y v u Q I rx ry ⟨pa, F, P, d, e, z, fh, po, hx, hy, hf, q⟩
  cases d with
  | int i => cases e with
    | int j =>
      have h2 : (if 0 < j then some (Da.int (i % j)) else none) = some z := hf
      by_cases c : 0 < j
      · rw [if_pos c] at h2
        cases h2
        exact op_mod pins s σ H x y v u Q I rx ry ⟨i, j, Dt.int_inv hx, Dt.int_inv hy, c, Post.now fh po q (Dx.of (.int _))⟩
      · rw [if_neg c] at h2
        cases h2
    | _ => cases hf
  | _ => cases hf
theorem o_fdv : OpR X (binaryOp .FloorDiv) (rB X.K E .fdv) := by
  intro pins s σ H x y v u Q I rx ry ⟨pa, F, P, d, e, z, fh, po, hx, hy, hf, q⟩
  cases d with
  | int i => cases e with
    | int j =>
      have h2 : (if 0 < j ∧ j < 1073741824 then some (Da.int (i / j)) else none) = some z := hf
      by_cases c : 0 < j ∧ j < 1073741824
      · rw [if_pos c] at h2
        cases h2
        exact op_fdiv pins s σ H x y v u Q I rx ry ⟨i, j, Dt.int_inv hx, Dt.int_inv hy, c, Post.now fh po q (Dx.of (.int _))⟩
      · rw [if_neg c] at h2
        cases h2
    | _ => cases hf
  | _ => cases hf
theorem o_pow : OpR X (binaryOp .Pow) (rB X.K E .pow) := by
  intro pins s σ H x y v u Q I rx ry ⟨pa, F, P, d, e, z, fh, po, hx, hy, hf, q⟩
  cases d with
  | int i => cases e with
    | int j =>
      have h2 : (if 0 ≤ j ∧ j ≤ 1000 ∧ i.natAbs < 2 ^ 64 then some (Da.int (i ^ j.toNat)) else none) = some z := hf
      by_cases c : 0 ≤ j ∧ j ≤ 1000 ∧ i.natAbs < 2 ^ 64
      · rw [if_pos c] at h2
        cases h2
        exact op_pow pins s σ H x y v u Q I rx ry ⟨i, j, Dt.int_inv hx, Dt.int_inv hy, ⟨c.1, by omega, c.2.2⟩, Post.now fh po q (Dx.of (.int _))⟩
      · rw [if_neg c] at h2
        cases h2
    | _ => cases hf
  | _ => cases hf
theorem o_cmp {op : CmpOp} {f : Int → Int → Bool} (h : OpR X (compareOp op) (rI0 fun i j => .bl (f i j))) {pins : List (Addr × Obj)} {s : Shared} {σ : L2.St} {H F : Hp} {x y : V} {v u : Value} {Q : VK} {pa : Pa} {P : Po} {d e z : Da} (I : Inv X pins σ H s)
    (rx : RelV x v) (ry : RelV y u) (fh : Same F H) (po : PoolOk F H pa P) (hx : Dx X.K F H pa x d) (hy : Dx X.K F H pa y e) (hf : cmpQ f d e = some z) (q : Post X.K E pa F H (.ok z P) Q) : wpAny (model X.prog X.w) X.A (compareOp op v u) (EP X pins σ Q) X.xe s := by
  cases d with
  | int i => cases e with
    | int j =>
      cases hf
      exact h pins s σ H x y v u Q I rx ry ⟨i, j, Dt.int_inv hx, Dt.int_inv hy, Post.now fh po q (Dx.of (.bl _))⟩
    | _ => cases hf
  | _ => cases hf
theorem o_lt : OpR X (compareOp .Lt) (rB X.K E .lt) := fun pins s σ H x y v u Q I rx ry ⟨pa, F, P, d, e, z, fh, po, hx, hy, hf, q⟩ => o_cmp op_lt I rx ry fh po hx hy hf q
theorem o_le : OpR X (compareOp .LtE) (rB X.K E .le) := fun pins s σ H x y v u Q I rx ry ⟨pa, F, P, d, e, z, fh, po, hx, hy, hf, q⟩ => o_cmp op_le I rx ry fh po hx hy hf q
theorem o_gt : OpR X (compareOp .Gt) (rB X.K E .gt) := fun pins s σ H x y v u Q I rx ry ⟨pa, F, P, d, e, z, fh, po, hx, hy, hf, q⟩ => o_cmp op_gt I rx ry fh po hx hy hf q
theorem o_ge : OpR X (compareOp .GtE) (rB X.K E .ge) := fun pins s σ H x y v u Q I rx ry ⟨pa, F, P, d, e, z, fh, po, hx, hy, hf, q⟩ => o_cmp op_ge I rx ry fh po hx hy hf q

theorem Dx.flat {K : PySem.W.Frag} {F H : Hp} {pa : Pa} {v : V} {d : Da} (h : Dx K F H pa v d) (f : d.flat = true) : Dt K F pa v d := by
  cases d with
  | bor xs => cases f
  | _ => exact h
theorem scal_flat {K : PySem.W.Frag} {F : Hp} {pa : Pa} {x y : V} {d e : Da} (hx : Dt K F pa x d) (hy : Dt K F pa y e) (fx : d.flat = true) (fy : e.flat = true) :
    (scal x y = true ∧ decide (x = y) = eqd d e) ∨ (d.pu 20 = true ∧ e.pu 20 = true) := by
  cases hx with
  | non => cases hy with
    | lst _ _ => cases fy
    | tup _ _ => cases fy
    | obj _ _ _ => cases fy
    | pool _ => cases fy
    | cls _ => cases fy
    | dic0 => cases fy
    | dca => cases fy
    | dct _ => cases fy
    | exc _ _ _ => cases fy
    | exv _ _ _ _ => cases fy
    | exv0 _ => cases fy
    | _ => exact .inl ⟨rfl, by simp [eqd]⟩
  | bl a => cases hy with
    | lst _ _ => cases fy
    | tup _ _ => cases fy
    | obj _ _ _ => cases fy
    | pool _ => cases fy
    | cls _ => cases fy
    | dic0 => cases fy
    | dca => cases fy
    | dct _ => cases fy
    | exc _ _ _ => cases fy
    | exv _ _ _ _ => cases fy
    | exv0 _ => cases fy
    | int _ => exact .inr ⟨rfl, rfl⟩
    | bl b => exact .inl ⟨rfl, by rw [dec_bl]; simp [eqd]⟩
    | _ => exact .inl ⟨rfl, by simp [eqd]⟩
  | int a => cases hy with
    | lst _ _ => cases fy
    | tup _ _ => cases fy
    | obj _ _ _ => cases fy
    | pool _ => cases fy
    | cls _ => cases fy
    | dic0 => cases fy
    | dca => cases fy
    | dct _ => cases fy
    | exc _ _ _ => cases fy
    | exv _ _ _ _ => cases fy
    | exv0 _ => cases fy
    | bl _ => exact .inr ⟨rfl, rfl⟩
    | int b => exact .inl ⟨rfl, by rw [dec_int]; simp [eqd]⟩
    | _ => exact .inl ⟨rfl, by simp [eqd]⟩
  | str a => cases hy with
    | lst _ _ => cases fy
    | tup _ _ => cases fy
    | obj _ _ _ => cases fy
    | pool _ => cases fy
    | cls _ => cases fy
    | dic0 => cases fy
    | dca => cases fy
    | dct _ => cases fy
    | exc _ _ _ => cases fy
    | exv _ _ _ _ => cases fy
    | exv0 _ => cases fy
    | str b => exact .inl ⟨rfl, by rw [dec_str, sg_beq]; simp [eqd]⟩
    | _ => exact .inl ⟨rfl, by simp [eqd]⟩
  | lst _ _ => cases fx
  | tup _ _ => cases fx
  | obj _ _ _ => cases fx
  | pool _ => cases fx
  | cls _ => cases fx
  | dic0 => cases fx
  | dca => cases fx
  | dct _ => cases fx
  | exc _ _ _ => cases fx
  | exv _ _ _ _ => cases fx
  | exv0 _ => cases fx
theorem eqQ_some {x y : Da} {b : Bool} (h : eqQ x y = some b) : b = eqd x y ∧ ((x.flat = true ∧ y.flat = true) ∨ (x.pu 20 = true ∧ y.pu 20 = true)) := by
  unfold eqQ at h
  by_cases c : (x.flat && y.flat) = true
  · rw [if_pos c] at h
    rw [Bool.and_eq_true] at c
    exact ⟨(Option.some.inj h).symm, .inl c⟩
  · rw [if_neg c] at h
    by_cases c2 : (x.pu 20 && y.pu 20) = true
    · rw [if_pos c2] at h
      rw [Bool.and_eq_true] at c2
      exact ⟨(Option.some.inj h).symm, .inr c2⟩
    · rw [if_neg c2] at h
      cases h
theorem o_eq (hu : X.A.units + 66 < cLine) : OpR X (compareOp .Eq) (rB X.K E .eq) := by
  intro pins s σ H x y v u Q I rx ry ⟨pa, F, P, d, e, z, fh, po, hx, hy, hf, q⟩
  have hf2 : (eqQ d e).map Da.bl = some z := hf
  cases hq : eqQ d e with
  | none => rw [hq] at hf2; cases hf2
  | some b =>
    rw [hq] at hf2
    cases hf2
    obtain ⟨eb, hc⟩ := eqQ_some hq
    subst eb
    have deep : d.pu 20 = true → e.pu 20 = true → wpAny (model X.prog X.w) X.A (compareOp .Eq v u) (EP X pins σ Q) X.xe s := fun c1 c2 => by
      refine op_eqD (by omega) pins s σ H x y v u Q I rx ry ⟨d.py 20, e.py 20, Dx.dp fh hx c1, Dx.dp fh hy c2, shaped_py (by decide) c1, shaped_py (by decide) c2, ?_⟩
      rw [eqv_py 20 d e c1 c2]
      exact Post.now fh po q (Dx.of (.bl _))
    rcases hc with ⟨c1, c2⟩ | ⟨c1, c2⟩
    · rcases scal_flat (hx.flat c1) (hy.flat c2) c1 c2 with ⟨h1, h2⟩ | ⟨h1, h2⟩
      · refine op_eq pins s σ H x y v u Q I rx ry ⟨h1, ?_⟩
        rw [h2]
        exact Post.now fh po q (Dx.of (.bl _))
      · exact deep h1 h2
    · exact deep c1 c2
theorem o_ne (hu : X.A.units + 66 < cLine) : OpR X (compareOp .NotEq) (rB X.K E .ne) := by
  intro pins s σ H x y v u Q I rx ry ⟨pa, F, P, d, e, z, fh, po, hx, hy, hf, q⟩
  have hf2 : (eqQ d e).map (fun b => Da.bl (!b)) = some z := hf
  cases hq : eqQ d e with
  | none => rw [hq] at hf2; cases hf2
  | some b =>
    rw [hq] at hf2
    cases hf2
    obtain ⟨eb, hc⟩ := eqQ_some hq
    subst eb
    have deep : d.pu 20 = true → e.pu 20 = true → wpAny (model X.prog X.w) X.A (compareOp .NotEq v u) (EP X pins σ Q) X.xe s := fun c1 c2 => by
      refine op_neD (by omega) pins s σ H x y v u Q I rx ry ⟨d.py 20, e.py 20, Dx.dp fh hx c1, Dx.dp fh hy c2, shaped_py (by decide) c1, shaped_py (by decide) c2, ?_⟩
      rw [eqv_py 20 d e c1 c2]
      exact Post.now fh po q (Dx.of (.bl _))
    rcases hc with ⟨c1, c2⟩ | ⟨c1, c2⟩
    · rcases scal_flat (hx.flat c1) (hy.flat c2) c1 c2 with ⟨h1, h2⟩ | ⟨h1, h2⟩
      · refine op_ne pins s σ H x y v u Q I rx ry ⟨h1, ?_⟩
        rw [h2]
        exact Post.now fh po q (Dx.of (.bl _))
      · exact deep h1 h2
    · exact deep c1 c2
theorem any_py (n : Nat) (x : Da) (hx : x.pu n = true) : ∀ ys : List Da, ys.all (Da.pu n) = true → ((ys.map (Da.py n)).any fun z => PyData.eqv z (x.py n)) = ys.any fun z => eqd z x
  | [], _ => rfl
  | y :: ys, h => by
    rw [List.all_cons, Bool.and_eq_true] at h
    rw [List.map_cons, List.any_cons, List.any_cons, eqv_py n y x h.1 hx, any_py n x hx ys h.2]
def InCase (K : PySem.W.Frag) (F H : Hp) (pa : Pa) (x y : V) (d e : Da) (b : Bool) : Prop :=
  (∃ c l, x = .str ⟨#[c]⟩ ∧ y = .str (sg l) ∧ b = decide (c ∈ l)) ∨
  (∃ a vs ys, y = .ref a ∧ (H a = some (.lst vs) ∨ SqT K H a vs) ∧ Dts K F pa vs ys ∧ b = (ys.any fun z => eqd z d) ∧ ((d.flat = true ∧ ys.all Da.flat = true) ∨ (d.pu 20 = true ∧ ys.all (Da.pu 20) = true)))
theorem inSeq {d e : Da} {b : Bool} (h : (match e.sq with
    | some ys => if d.flat && ys.all Da.flat then some (ys.any fun z => eqd z d) else if d.pu 20 && ys.all (Da.pu 20) then some (ys.any fun z => eqd z d) else none
    | none => none) = some b) : ∃ ys, e.sq = some ys ∧ b = (ys.any fun z => eqd z d) ∧ ((d.flat = true ∧ ys.all Da.flat = true) ∨ (d.pu 20 = true ∧ ys.all (Da.pu 20) = true)) := by
  cases hs : e.sq with
  | none => rw [hs] at h; cases h
  | some ys =>
    rw [hs] at h
    refine ⟨ys, rfl, ?_⟩
    have h2 : (if (d.flat && ys.all Da.flat) = true then some (ys.any fun z => eqd z d) else if (d.pu 20 && ys.all (Da.pu 20)) = true then some (ys.any fun z => eqd z d) else none) = some b := h
    by_cases c : (d.flat && ys.all Da.flat) = true
    · rw [if_pos c] at h2
      rw [Bool.and_eq_true] at c
      exact ⟨(Option.some.inj h2).symm, .inl c⟩
    · rw [if_neg c] at h2
      by_cases c2 : (d.pu 20 && ys.all (Da.pu 20)) = true
      · rw [if_pos c2] at h2
        rw [Bool.and_eq_true] at c2
        exact ⟨(Option.some.inj h2).symm, .inr c2⟩
      · rw [if_neg c2] at h2
        cases h2
theorem inCase {K : PySem.W.Frag} {F H : Hp} {pa : Pa} {x y : V} {d e : Da} {b : Bool} (fh : Same F H) (hx : Dx K F H pa x d) (hy : Dx K F H pa y e) (h : inQ d e = some b) : InCase K F H pa x y d e b := by
  have seq : (∃ ys, e.sq = some ys ∧ b = (ys.any fun z => eqd z d) ∧ ((d.flat = true ∧ ys.all Da.flat = true) ∨ (d.pu 20 = true ∧ ys.all (Da.pu 20) = true))) → InCase K F H pa x y d e b := fun ⟨ys, e1, e2, e3⟩ => by
    obtain ⟨a, vs, e4, e5, e6⟩ := Dx.sq fh hy e1
    exact .inr ⟨a, vs, ys, e4, e5, e6, e2, e3⟩
  unfold inQ at h
  split at h
  · rename_i c l
    exact .inl ⟨c, l, Dt.str_inv hx, Dt.str_inv hy, (Option.some.inj h).symm⟩
  · exact seq (inSeq h)
theorem o_in (hu : X.A.units + 66 < cLine) : OpR X (compareOp .In) (rB X.K E .inn) := by
  intro pins s σ H x y v u Q I rx ry ⟨pa, F, P, d, e, z, fh, po, hx, hy, hf, q⟩
  have hf2 : (inQ d e).map Da.bl = some z := hf
  cases hq : inQ d e with
  | none => rw [hq] at hf2; cases hf2
  | some b =>
    rw [hq] at hf2
    cases hf2
    have fin : Q (.bl b) H := Post.now fh po q (Dx.of (.bl _))
    rcases inCase fh hx hy hq with ⟨c, l, e1, e2, e3⟩ | ⟨a, vs, ys, e1, e2, e3, e4, e5⟩
    · refine op_in_sign pins s σ H x y v u Q I rx ry ⟨c, sg l, e1, e2, ?_⟩
      subst e3
      simpa using fin
    · rcases e5 with ⟨c1, c2⟩ | ⟨c1, c2⟩
      · refine op_in_seq pins s σ H x y v u Q I rx ry ⟨a, vs, e1, e2.imp SqL.of id, (hx.flat c1).flatV c1, e3.flat c2, ?_⟩
        rw [e4, ← e3.inV (hx.flat c1) c1 c2] at fin
        exact fin
      · obtain ⟨as, r1⟩ := Dp.reads I (d.py 20) x v (Dx.dp fh hx c1) rx
        have fin2 : EP X pins σ Q (.bool ((ys.map (Da.py 20)).any fun z => PyData.eqv z (d.py 20))) s := by
          rw [any_py 20 d c1 ys c2, ← e4]
          exact ⟨.bl _, H, I, rfl, fin⟩
        have room := room_in_shaped (A := X.A) (xs := ys.map (Da.py 20)) (shaped_py (n := 20) (by decide) c1) (by omega)
        rcases e2 with e2 | e2
        · obtain ⟨bs, r2⟩ := Dp.reads I (.list (ys.map (Da.py 20))) y u (by subst e1; exact .lst (SqL.of e2) (e3.dp fh c2)) ry
          exact SeqAt.in_list_reads r2 r1 (lays_py 20 ys c2) (lay_py 20 d c1) room fin2
        · obtain ⟨bs, r2⟩ := Dp.reads I (.tuple (ys.map (Da.py 20))) y u (by subst e1; exact .tup e2 (e3.dp fh c2)) ry
          exact SeqAt.in_tuple_reads r2 r1 (lays_py 20 ys c2) (lay_py 20 d c1) room fin2
theorem o_nin (hu : X.A.units + 66 < cLine) : OpR X (compareOp .NotIn) (rB X.K E .nin) := by
  intro pins s σ H x y v u Q I rx ry ⟨pa, F, P, d, e, z, fh, po, hx, hy, hf, q⟩
  have hf2 : (inQ d e).map (fun b => Da.bl (!b)) = some z := hf
  cases hq : inQ d e with
  | none => rw [hq] at hf2; cases hf2
  | some b =>
    rw [hq] at hf2
    cases hf2
    have fin : Q (.bl (!b)) H := Post.now fh po q (Dx.of (.bl _))
    rcases inCase fh hx hy hq with ⟨c, l, e1, e2, e3⟩ | ⟨a, vs, ys, e1, e2, e3, e4, e5⟩
    · refine op_notIn_sign pins s σ H x y v u Q I rx ry ⟨c, sg l, e1, e2, ?_⟩
      subst e3
      simpa using fin
    · rcases e5 with ⟨c1, c2⟩ | ⟨c1, c2⟩
      · refine op_notIn_seq pins s σ H x y v u Q I rx ry ⟨a, vs, e1, e2.imp SqL.of id, (hx.flat c1).flatV c1, e3.flat c2, ?_⟩
        rw [e4, ← e3.inV (hx.flat c1) c1 c2] at fin
        exact fin
      · obtain ⟨as, r1⟩ := Dp.reads I (d.py 20) x v (Dx.dp fh hx c1) rx
        have fin2 : EP X pins σ Q (.bool (!(ys.map (Da.py 20)).any fun z => PyData.eqv z (d.py 20))) s := by
          rw [any_py 20 d c1 ys c2, ← e4]
          exact ⟨.bl _, H, I, rfl, fin⟩
        have room := room_in_shaped (A := X.A) (xs := ys.map (Da.py 20)) (shaped_py (n := 20) (by decide) c1) (by omega)
        rcases e2 with e2 | e2
        · obtain ⟨bs, r2⟩ := Dp.reads I (.list (ys.map (Da.py 20))) y u (by subst e1; exact .lst (SqL.of e2) (e3.dp fh c2)) ry
          exact SeqAt.notIn_list_reads r2 r1 (lays_py 20 ys c2) (lay_py 20 d c1) room fin2
        · obtain ⟨bs, r2⟩ := Dp.reads I (.tuple (ys.map (Da.py 20))) y u (by subst e1; exact .tup e2 (e3.dp fh c2)) ry
          exact SeqAt.notIn_tuple_reads r2 r1 (lays_py 20 ys c2) (lay_py 20 d c1) room fin2
theorem isQ_some {K : PySem.W.Frag} {F H : Hp} {pa : Pa} {x y : V} {d e : Da} {b : Bool} (hx : Dx K F H pa x d) (hy : Dx K F H pa y e) (h : isQ d e = some b) :
    (∃ a c : Bool, x = .bl a ∧ y = .bl c ∧ b = decide (a = c)) ∨ (y = .non ∧ b = decide (x = .non)) := by
  cases e with
  | non =>
    refine .inr ⟨Dt.non_inv hy, ?_⟩
    cases d with
    | non => rw [Dt.non_inv hx]; cases h; rfl
    | bl a => rw [Dt.bl_inv hx]; cases h; rfl
    | int a => rw [Dt.int_inv hx]; cases h; rfl
    | str a => rw [Dt.str_inv hx]; cases h; rfl
    | lst a => obtain ⟨_, _, e1, _⟩ := Dt.lst_inv hx; rw [e1]; cases h; rfl
    | tup a => obtain ⟨_, _, e1, _⟩ := Dt.tup_inv hx; rw [e1]; cases h; rfl
    | obj _ _ _ => obtain ⟨_, _, _, e1, _⟩ := Dt.obj_inv hx; rw [e1]; cases h; rfl
    | bor a => obtain ⟨_, _, e1, _⟩ := hx; rw [e1]; cases h; rfl
    | pool => cases h
    | cls _ => cases h
    | dic0 => obtain ⟨_, e1, _⟩ := Dt.dic0_inv hx; rw [e1]; cases h; rfl
    | dca => cases h
    | dct _ => cases h
    | exc _ _ _ _ _ => cases h
    | exv _ _ _ => cases h
  | bl c =>
    cases d with
    | bl a => exact .inl ⟨a, c, Dt.bl_inv hx, Dt.bl_inv hy, (Option.some.inj h).symm⟩
    | _ => cases h
  | _ => cases d <;> cases h
theorem o_is : OpR X (compareOp .Is) (rB X.K E .is) := by
  intro pins s σ H x y v u Q I rx ry ⟨pa, F, P, d, e, z, fh, po, hx, hy, hf, q⟩
  have hf2 : (isQ d e).map Da.bl = some z := hf
  cases hq : isQ d e with
  | none => rw [hq] at hf2; cases hf2
  | some b =>
    rw [hq] at hf2
    cases hf2
    have fin : Q (.bl b) H := Post.now fh po q (Dx.of (.bl _))
    rcases isQ_some hx hy hq with ⟨a, c, e1, e2, e3⟩ | ⟨e1, e2⟩
    · exact op_isBl pins s σ H x y v u Q I rx ry ⟨a, c, e1, e2, by rw [← e3]; exact fin⟩
    · exact op_isN pins s σ H x y v u Q I rx ry ⟨e1, by rw [← e2]; exact fin⟩
theorem o_isn : OpR X (compareOp .IsNot) (rB X.K E .isn) := by
  intro pins s σ H x y v u Q I rx ry ⟨pa, F, P, d, e, z, fh, po, hx, hy, hf, q⟩
  have hf2 : (isQ d e).map (fun b => Da.bl (!b)) = some z := hf
  cases hq : isQ d e with
  | none => rw [hq] at hf2; cases hf2
  | some b =>
    rw [hq] at hf2
    cases hf2
    have fin : Q (.bl (!b)) H := Post.now fh po q (Dx.of (.bl _))
    rcases isQ_some hx hy hq with ⟨a, c, e1, e2, e3⟩ | ⟨e1, e2⟩
    · exact op_notBl pins s σ H x y v u Q I rx ry ⟨a, c, e1, e2, by rw [← e3]; exact fin⟩
    · exact op_notN pins s σ H x y v u Q I rx ry ⟨e1, by rw [← e2]; exact fin⟩
theorem o_any (hu : X.A.units + 66 < cLine) : ∀ o : B2, OpR X (semB o) (rB X.K E o)
  | .add => o_add
  | .sub => o_sub
  | .mul => o_mul
  | .mod => o_mod
  | .fdv => o_fdv
  | .pow => o_pow
  | .eq => o_eq hu
  | .ne => o_ne hu
  | .lt => o_lt
  | .le => o_le
  | .gt => o_gt
  | .ge => o_ge
  | .inn => o_in hu
  | .nin => o_nin hu
  | .is => o_is
  | .isn => o_isn
end

def semC : B1 → Value
  | .len => .builtin "len"
  | .tuple => .type "tuple"
  | .list => .type "list"
  | .str => .type "str"
  | .repr => .builtin "repr"
  | .int => .type "int"
  | .abs => .builtin "abs"
  | .all => .builtin "all"
  | .any => .builtin "any"
def rC (K : PySem.W.Frag) (E : XK) (o : B1) : List V → Hp → VK → Prop := fun xs H Q => ∃ x pa F P d z, xs = [x] ∧ Same F H ∧ PoolOk F H pa P ∧ Dx K F H pa x d ∧ f1 o d = some z ∧ Post K E pa F H (.ok z P) Q

theorem blsQ_some {K : PySem.W.Frag} {F : Hp} {pa : Pa} : ∀ {vs : List V} {ds : List Da} {bs : List Bool}, Dts K F pa vs ds → blsQ ds = some bs → vs = bs.map V.bl
  | _, [], _, .nil, e => by cases e; rfl
  | _, d :: ds, bs, .cons h t, e => by
    cases d with
    | bl b =>
      have e2 : (blsQ ds).map (b :: ·) = some bs := e
      cases q : blsQ ds with
      | none => rw [q] at e2; cases e2
      | some r =>
        rw [q] at e2
        cases e2
        rw [h.bl_inv, blsQ_some t q]
        rfl
    | _ => cases e
theorem strsQ_some {K : PySem.W.Frag} {F : Hp} {pa : Pa} : ∀ {vs : List V} {ds : List Da} {ls : List (List Nat)}, Dts K F pa vs ds → strsQ ds = some ls → vs = (ls.map sg).map V.str
  | _, [], _, .nil, e => by cases e; rfl
  | _, d :: ds, ls, .cons h t, e => by
    cases d with
    | str l =>
      have e2 : (strsQ ds).map (l :: ·) = some ls := e
      cases q : strsQ ds with
      | none => rw [q] at e2; cases e2
      | some r =>
        rw [q] at e2
        cases e2
        rw [h.str_inv, strsQ_some t q]
        rfl
    | _ => cases e

section
variable {X : Cx} {E : XK}
theorem c_len : CallR X (.builtin "len") (rC X.K E .len) := by
  intro pins s σ H xs us Q I r ⟨x, pa, F, P, d, z, ex, fh, po, hx, hf, q⟩
  subst ex
  have sq : ∀ ys, d.sq = some ys → Q (.int ys.length) H → wpAny (model X.prog X.w) X.A (call (.builtin "len") us) (EP X pins σ Q) X.xe s := fun ys e1 hq => by
    obtain ⟨a, vs, e2, e3, e4⟩ := Dx.sq fh hx e1
    subst e2
    refine call_len_seq pins s σ H _ us Q I r ⟨a, vs, rfl, e3.imp SqL.of id, ?_⟩
    rw [e4.length]
    exact hq
  cases d with
  | str l =>
    have h2 : (if l.length ≤ lim then some (Da.int (l.length : Int)) else none) = some z := hf
    by_cases c : l.length ≤ lim
    · rw [if_pos c] at h2
      cases h2
      rw [Dt.str_inv hx] at r
      refine call_len_str pins s σ H _ us Q I r ⟨sg l, rfl, by rw [sg_len]; exact le_line c, ?_⟩
      rw [sg_len]
      exact Post.now fh po q (Dx.of (.int _))
    · rw [if_neg c] at h2
      cases h2
  | lst ys => cases hf; exact sq ys rfl (Post.now fh po q (Dx.of (.int _)))
  | bor ys => cases hf; exact sq ys rfl (Post.now fh po q (Dx.of (.int _)))
  | tup ys => cases hf; exact sq ys rfl (Post.now fh po q (Dx.of (.int _)))
  | _ => cases hf
theorem c_tuple : CallR X (.type "tuple") (rC X.K E .tuple) := by
  intro pins s σ H xs us Q I r ⟨x, pa, F, P, d, z, ex, fh, po, hx, hf, q⟩
  subst ex
  have ls : ∀ ys, d.ls = some ys → Post X.K E pa F H (.ok (.tup ys) P) Q → wpAny (model X.prog X.w) X.A (call (.type "tuple") us) (EP X pins σ Q) X.xe s := fun ys e1 hq => by
    obtain ⟨a, vs, e2, e3, e4⟩ := Dx.ls fh hx e1
    subst e2
    refine call_tuple_of pins s σ H _ us Q I r ⟨a, vs, rfl, .inl ⟨SqL.of e3, fun p hp => ?_⟩⟩
    exact Post.newO fh po hq hp (.tup (SqT.of upd_same) (e4.new (fh.free hp)))
  cases d with
  | lst ys => cases hf; exact ls ys rfl q
  | bor ys => cases hf; exact ls ys rfl q
  | tup ys =>
    cases hf
    obtain ⟨a, vs, e2, e3, e4⟩ := Dt.tup_inv hx
    subst e2
    exact call_tuple_of pins s σ H _ us Q I r ⟨a, vs, rfl, .inr ⟨same_t fh e3, Post.now fh po q (Dx.of (.tup e3 e4))⟩⟩
  | _ => cases hf
theorem c_list : CallR X (.type "list") (rC X.K E .list) := by
  intro pins s σ H xs us Q I r ⟨x, pa, F, P, d, z, ex, fh, po, hx, hf, q⟩
  subst ex
  have sq : ∀ ys, d.sq = some ys → Post X.K E pa F H (.ok (.lst ys) P) Q → wpAny (model X.prog X.w) X.A (call (.type "list") us) (EP X pins σ Q) X.xe s := fun ys e1 hq => by
    obtain ⟨a, vs, e2, e3, e4⟩ := Dx.sq fh hx e1
    subst e2
    refine call_list_of pins s σ H _ us Q I r ⟨a, vs, rfl, e3.imp SqL.of id, fun p hp => ?_⟩
    exact Post.newO fh po hq hp (.lst upd_same (e4.new (fh.free hp)))
  cases d with
  | lst ys => cases hf; exact sq ys rfl q
  | bor ys => cases hf; exact sq ys rfl q
  | tup ys => cases hf; exact sq ys rfl q
  | _ => cases hf
theorem c_str : CallR X (.type "str") (rC X.K E .str) := by
  intro pins s σ H xs us Q I r ⟨x, pa, F, P, d, z, ex, fh, po, hx, hf, q⟩
  subst ex
  cases d with
  | int i =>
    have h2 : (if intQ i = true then some (Da.str (toString i : Str).cps.toList) else none) = some z := hf
    by_cases c : intQ i = true
    · rw [if_pos c] at h2
      cases h2
      rw [Dt.int_inv hx] at r
      refine call_str_int pins s σ H _ us Q I r ⟨i, rfl, of_decide_eq_true c, ?_⟩
      have e1 := Post.now fh po q (Dx.of (.str _))
      rw [sg_tl] at e1
      exact e1
    · rw [if_neg c] at h2
      cases h2
  | str l =>
    cases hf
    rw [Dt.str_inv hx] at r
    exact SkE.call_str_str pins s σ H _ us Q I r ⟨sg l, rfl, Post.now fh po q (Dx.of (.str _))⟩
  | _ => cases hf
theorem c_int : CallR X (.type "int") (rC X.K E .int) := by
  intro pins s σ H xs us Q I r ⟨x, pa, F, P, d, z, ex, fh, po, hx, hf, q⟩
  subst ex
  cases d with
  | int i =>
    cases hf
    rw [Dt.int_inv hx] at r
    exact call_int1 pins s σ H _ us Q I r (.inl ⟨i, rfl, Post.now fh po q (Dx.of (.int _))⟩)
  | bl b =>
    cases hf
    rw [Dt.bl_inv hx] at r
    exact call_int1 pins s σ H _ us Q I r (.inr ⟨b, rfl, Post.now fh po q (Dx.of (.int _))⟩)
  | _ => cases hf
theorem c_abs : CallR X (.builtin "abs") (rC X.K E .abs) := by
  intro pins s σ H xs us Q I r ⟨x, pa, F, P, d, z, ex, fh, po, hx, hf, q⟩
  subst ex
  cases d with
  | int i =>
    cases hf
    rw [Dt.int_inv hx] at r
    exact call_abs pins s σ H _ us Q I r ⟨i, rfl, Post.now fh po q (Dx.of (.int _))⟩
  | _ => cases hf
theorem c_all (hc : X.calm = true) : CallR X (.builtin "all") (rC X.K E .all) := by
  intro pins s σ H xs us Q I r ⟨x, pa, F, P, d, z, ex, fh, po, hx, hf, q⟩
  subst ex
  cases d with
  | lst ys =>
    have h2 : (blsQ ys).map (fun bs => Da.bl (bs.all id)) = some z := hf
    cases hb : blsQ ys with
    | none => rw [hb] at h2; cases h2
    | some bs =>
      rw [hb] at h2
      cases h2
      obtain ⟨a, vs, e2, e3, e4⟩ := Dx.ls (xs := ys) fh hx rfl
      subst e2
      rw [blsQ_some e4 hb] at e3
      exact cr_all hc pins s σ H _ us Q I r ⟨a, bs, rfl, SqL.of e3, Post.now fh po q (Dx.of (.bl _))⟩
  | _ => cases hf
theorem c_any (hc : X.calm = true) : CallR X (.builtin "any") (rC X.K E .any) := by
  intro pins s σ H xs us Q I r ⟨x, pa, F, P, d, z, ex, fh, po, hx, hf, q⟩
  subst ex
  cases d with
  | lst ys =>
    have h2 : (blsQ ys).map (fun bs => Da.bl (bs.any id)) = some z := hf
    cases hb : blsQ ys with
    | none => rw [hb] at h2; cases h2
    | some bs =>
      rw [hb] at h2
      cases h2
      obtain ⟨a, vs, e2, e3, e4⟩ := Dx.ls (xs := ys) fh hx rfl
      subst e2
      rw [blsQ_some e4 hb] at e3
      exact cr_any hc pins s σ H _ us Q I r ⟨a, bs, rfl, SqL.of e3, Post.now fh po q (Dx.of (.bl _))⟩
  | _ => cases hf
mutual
theorem show_pr : ∀ (n : Nat) (x : Da), x.pr n = true → x.small = true → (x.py n).showable = true
  | n, .non, _, _ => by cases n <;> simp [Da.py, PyData.showable]
  | n, .bl _, _, _ => by cases n <;> simp [Da.py, PyData.showable]
  | n, .int i, _, h => by
    have h2 : i.natAbs.log2 < 1920 := of_decide_eq_true (by simpa [Da.small, intQ] using h)
    cases n <;> simpa [Da.py, PyData.showable] using h2
  | n, .str l, _, _ => by cases n <;> simp [Da.py, PyData.showable]
  | 0, .lst _, h, _ => by simp [Da.pr] at h
  | 0, .tup _, h, _ => by simp [Da.pr] at h
  | 0, .bor _, h, _ => by simp [Da.pr] at h
  | n + 1, .lst xs, h, k => by simp only [Da.py, PyData.showable]; exact shows_pr n xs (by simpa [Da.pr] using h) (by simpa [Da.small] using k)
  | n + 1, .tup xs, h, k => by simp only [Da.py, PyData.showable]; exact shows_pr n xs (by simpa [Da.pr] using h) (by simpa [Da.small] using k)
  | n + 1, .bor xs, h, k => by simp only [Da.py, PyData.showable]; exact shows_pr n xs (by simpa [Da.pr] using h) (by simpa [Da.small] using k)
  | n, .obj _ _ _, h, _ => by cases n <;> simp [Da.pr] at h
  | n, .pool, h, _ => by cases n <;> simp [Da.pr] at h
  | n, .cls _, h, _ => by cases n <;> simp [Da.pr] at h
  | 0, .dic0, h, _ => by simp [Da.pr] at h
  | 0, .dca, h, _ => by simp [Da.pr] at h
  | 0, .dct _, h, _ => by simp [Da.pr] at h
  | n + 1, .dic0, _, _ => by simp [Da.py, PyData.showable, PyData.showableKv]
  | n + 1, .dca, _, _ => by simp only [Da.py]; decide +kernel
  | n + 1, .dct _, _, _ => by simp [Da.py, PyData.showable, PyData.showableKv]
  | n, .exc _ _ _ _ _, h, _ => by cases n <;> simp [Da.pr] at h
  | n, .exv _ _ _, h, _ => by cases n <;> simp [Da.pr] at h
theorem shows_pr : ∀ (n : Nat) (xs : List Da), xs.all (Da.pr n) = true → smalls xs = true → PyData.showableAll (xs.map (Da.py n)) = true
  | n, [], _, _ => by simp [PyData.showableAll]
  | n, x :: xs, h, k => by
    rw [List.all_cons, Bool.and_eq_true] at h
    simp only [smalls, Bool.and_eq_true] at k
    simp only [List.map_cons, PyData.showableAll, Bool.and_eq_true]
    exact ⟨show_pr n x h.1 k.1, shows_pr n xs h.2 k.2⟩
end
section
variable {pins : List (Addr × Obj)} {σ : L2.St} {H F : Hp} {s : Shared} {pa : Pa}
theorem dic_rd (I : Inv X pins σ H s) {a : Addr} (e2 : H a = some (.dK [])) : Reads s.heap (.ref a) (.dict []) [a] ∧ sysModules ∉ [a] := by
  have hk := I.hok a _ e2
  obtain ⟨_, hs, ws, hkv, o, es, ep, h1, h2, h3, h4, h5, h6⟩ := (show ObjOk X.prog X.w H s.heap a (.dK []) from hk)
  have hw : ws = [] := by cases hkv; rfl
  subst hw
  have hes : es.toList = [] := by
    cases hl : es.toList with
    | nil => rfl
    | cons x r => rw [hl] at h5; cases h5
  have rd : Reads s.heap (.ref a) (.dict []) (a :: [] ++ []) := .dict h1 h2.1 h3 (by rw [hes]; exact .nil) (by rw [hes]; exact .nil)
  refine ⟨rd, fun z => ?_⟩
  have z2 : sysModules = a := by simpa using z
  rw [← z2] at hs
  simp at hs
theorem dca_rd (I : Inv X pins σ H s) {a : Addr} (e2 : H a = some (.dK [(.inr "a", .int 1)])) : ∃ as, Reads s.heap (.ref a) (.dict [(.str "a", .int 1)]) as ∧ sysModules ∉ as := by
  have hk := I.hok a _ e2
  obtain ⟨_, hs, ws, hkv, o, es, ep, h1, h2, h3, hko, hpr, h6⟩ := (show ObjOk X.prog X.w H s.heap a (.dK [(.inr "a", .int 1)]) from hk)
  cases hkv with
  | @cons _ q _ qs r t =>
    cases t
    obtain ⟨r1, r2⟩ := r
    have hl : es.toList = (es.toList) := rfl
    cases hes : es.toList with
    | nil => rw [hes] at hpr; cases hpr
    | cons e rest =>
      rw [hes] at hpr
      cases hpr with
      | cons p1 p2 p3 =>
        cases p3
        obtain ⟨t1, ek⟩ : ∃ t, e.key = Value.str "a" t := by
          have p1' : keyIs q.1 e.key = true := p1
          rw [← r1] at p1'
          rcases keyIs_shape p1' with ⟨i, t, h, _⟩ | ⟨x, t, h, h'⟩
          · cases h
          · cases h; exact ⟨t, h'⟩
        obtain ⟨t2, ev⟩ : ∃ t, e.val = Value.int 1 t := by
          rw [p2]; exact r2
        refine ⟨_, .dict h1 h2.1 h3 (by rw [hes]; show ReadsAll _ [e.key] [PyData.str "a"] _; rw [ek]; exact .cons (.str _ t1) .nil) (by rw [hes]; show ReadsAll _ [e.val] [PyData.int 1] _; rw [ev]; exact .cons (.int _ t2) .nil), fun z => ?_⟩
        have z2 : sysModules = a := by simpa using z
        rw [← z2] at hs
        simp at hs
mutual
theorem Dt.rd (I : Inv X pins σ H s) (sb : sysB X.K = true) (fh : Same F H) : ∀ {n : Nat} {v : V} {d : Da}, Dt X.K F pa v d → d.pr n = true → ∀ {u : Value}, RelV v u → ∃ as, Reads s.heap u (d.py n) as ∧ sysModules ∉ as
  | n, _, _, .non, _, u, r => by cases r; cases n <;> exact ⟨_, Reads.none, by simp⟩
  | n, _, _, .bl b, _, u, r => by cases r; cases n <;> exact ⟨_, Reads.bool b, by simp⟩
  | n, _, _, .int i, _, u, r => by obtain ⟨t, rfl⟩ := r; cases n <;> exact ⟨_, Reads.int i t, by simp⟩
  | n, _, _, .str l, _, u, r => by obtain ⟨t, rfl⟩ := r; cases n <;> exact ⟨_, Reads.str _ t, by simp⟩
  | 0, _, _, .lst h t, f, _, _ => by simp [Da.pr] at f
  | 0, _, _, .tup h t, f, _, _ => by simp [Da.pr] at f
  | n + 1, _, _, .lst h t, f, u, r => by
    cases r
    obtain ⟨its, rv, ⟨o, m, ho, hc, _, hd⟩, _⟩ := I.list (SqL.of (fh _ _ h))
    obtain ⟨as, hr, hn⟩ := Dts.rd I sb fh t (by simpa [Da.pr] using f) rv
    refine ⟨_, Reads.list ho hc hd hr, fun z => ?_⟩
    rcases List.mem_cons.mp z with z | z
    · exact sys_ne sb I.kIn ho hd z
    · exact hn z
  | n + 1, _, _, .tup h t, f, u, r => by
    cases r
    obtain ⟨its, rv, ⟨o, ho, hc, m, hd⟩, _⟩ := I.tuple (same_t fh h)
    obtain ⟨as, hr, hn⟩ := Dts.rd I sb fh t (by simpa [Da.pr] using f) rv
    exact ⟨_, Reads.tuple ho hc hd hr, hn⟩
  | n, _, _, .obj _ _ _, f, _, _ => by cases n <;> simp [Da.pr] at f
  | n, _, _, .pool _, f, _, _ => by cases n <;> simp [Da.pr] at f
  | n, _, _, .cls _, f, _, _ => by cases n <;> simp [Da.pr] at f
  | 0, _, _, .dic0 _, f, _, _ => by simp [Da.pr] at f
  | 0, _, _, .dca _, f, _, _ => by simp [Da.pr] at f
  | n, _, _, .exv0 _, f, _, _ => by cases n <;> simp [Da.pr] at f
  | n + 1, _, _, .dca e, _, u, r => by
    cases r
    obtain ⟨as, rd, hn⟩ := dca_rd I (fh _ _ e)
    exact ⟨as, rd, hn⟩
  | 0, _, _, .dct _, f, _, _ => by simp [Da.pr] at f
  | n + 1, _, _, .dct _, f, _, _ => by simp [Da.pr] at f
  | n + 1, _, _, .dic0 e, _, u, r => by
    cases r
    obtain ⟨rd, hn⟩ := dic_rd I (fh _ _ e)
    exact ⟨_, rd, hn⟩
  | n, _, _, .exc _ _ _, f, _, _ => by cases n <;> simp [Da.pr] at f
  | n, _, _, .exv _ _ _ _, f, _, _ => by cases n <;> simp [Da.pr] at f
theorem Dts.rd (I : Inv X pins σ H s) (sb : sysB X.K = true) (fh : Same F H) : ∀ {n : Nat} {vs : List V} {ds : List Da}, Dts X.K F pa vs ds → ds.all (Da.pr n) = true → ∀ {us : List Value}, Vals vs us → ∃ as, ReadsAll s.heap us (ds.map (Da.py n)) as ∧ sysModules ∉ as
  | _, _, _, .nil, _, _, r => by cases r; exact ⟨_, ReadsAll.nil, by simp⟩
  | n, _, _, .cons h t, f, _, r => by
    rw [List.all_cons, Bool.and_eq_true] at f
    cases r with
    | cons r1 r2 =>
      obtain ⟨as, q1, n1⟩ := Dt.rd I sb fh h f.1 r1
      obtain ⟨bs, q2, n2⟩ := Dts.rd I sb fh t f.2 r2
      refine ⟨_, ReadsAll.cons q1 q2, fun z => ?_⟩
      rcases List.mem_append.mp z with z | z
      · exact n1 z
      · exact n2 z
end
theorem Dx.rd (I : Inv X pins σ H s) (sb : sysB X.K = true) (fh : Same F H) {n : Nat} {v : V} {d : Da} (h : Dx X.K F H pa v d) (f : d.pr n = true) {u : Value} (r : RelV v u) : ∃ as, Reads s.heap u (d.py n) as ∧ sysModules ∉ as := by
  cases d with
  | bor xs =>
    obtain ⟨a, vs, e1, _, _, e2, e3⟩ := h
    subst e1
    cases n with
    | zero => simp [Da.pr] at f
    | succ n =>
      cases r
      obtain ⟨its, rv, ⟨o, m, ho, hc, _, hd⟩, _⟩ := I.list (SqL.of e2)
      obtain ⟨as, hr, hn⟩ := Dts.rd I sb fh e3 (by simpa [Da.pr] using f) rv
      refine ⟨_, Reads.list ho hc hd hr, fun z => ?_⟩
      rcases List.mem_cons.mp z with z | z
      · exact sys_ne sb I.kIn ho hd z
      · exact hn z
  | _ => exact Dt.rd I sb fh h f r
end
theorem c_repr (sb : sysB X.K = true) (hg : X.A.guards = some []) (hu : X.A.units + 66 < cLine) : CallR X (.builtin "repr") (rC X.K E .repr) := by
  intro pins s σ H xs us Q I r ⟨x, pa, F, P, d, z, ex, fh, po, hx, hf, q⟩
  subst ex
  by_cases hd0 : d = .dic0
  · subst hd0
    cases hf
    obtain ⟨a, e1, e2⟩ := Dt.dic0_inv hx
    subst e1
    obtain ⟨u, eu, ru⟩ := vals1 r
    subst eu
    obtain rfl : u = Value.ref a := ru
    have hk := I.hok a _ (fh _ _ e2)
    obtain ⟨_, hs, ws, hkv, o, es, ep, h1, h2, h3, h4, h5, h6⟩ := (show ObjOk X.prog X.w H s.heap a (.dK []) from hk)
    have hw : ws = [] := by cases hkv; rfl
    subst hw
    have hes : es.toList = [] := by
      cases hl : es.toList with
      | nil => rfl
      | cons x r => rw [hl] at h5; cases h5
    have rd : Reads s.heap (.ref a) (.dict []) (a :: [] ++ []) := .dict h1 h2.1 h3 (by rw [hes]; exact .nil) (by rw [hes]; exact .nil)
    have hsm : sysModules ∉ (a :: [] ++ [] : List Addr) := by
      intro z
      have z2 : sysModules = a := by simpa using z
      rw [← z2] at hs
      simp at hs
    refine repr_of_reads' rd (by rfl) (fun _ => hsm) hg (by show _ + (1 + 1) < _; omega) (fun b o e => e) (fun h' u tk k => ⟨.str _, H, I.kept k, ⟨u, rfl⟩, ?_⟩) (by show 2 ≤ sizeLine; rw [sizeLine_eq]; decide)
    have e1 := Post.now fh po q (Dx.of (.str _))
    exact e1
  have h2 : (if (d.pr 20 && d.small && decide ((shown d).length ≤ lim)) = true then some (Da.str (shown d)) else none) = some z := by
    cases d <;> first | exact hf | exact absurd rfl hd0
  by_cases c : (d.pr 20 && d.small && decide ((shown d).length ≤ lim)) = true
  · rw [if_pos c] at h2
    cases h2
    rw [Bool.and_eq_true, Bool.and_eq_true] at c
    obtain ⟨⟨c1, c2⟩, c3⟩ := c
    have c3 : (shown d).length ≤ lim := of_decide_eq_true c3
    have hsz : (PyData.shown (d.py 20)).length ≤ sizeLine := by
      have e1 : (PyData.shown (d.py 20)).length = (shown d).length := by
        rw [TL.len_tl]
        rfl
      rw [e1]
      exact le_line c3
    have fin : Q (.str (PyData.shown (d.py 20))) H := by
      have e1 := Post.now fh po q (Dx.of (.str _))
      unfold shown at e1
      rw [sg_tl] at e1
      exact e1
    obtain ⟨u, eu, ru⟩ := vals1 r
    subst eu
    have ep : ∀ (h' : Heap) (u : Tok) (tk : Nat), (∀ b o, s.heap.get? b = some o → h'.get? b = some o) → EP X pins σ Q (.str (PyData.shown (d.py 20)) u) { s with heap := h', toks := tk } :=
      fun h' u tk k => ⟨.str _, H, I.kept k, ⟨u, rfl⟩, fin⟩
    have ept : ∀ (u : Tok) (tk : Nat), EP X pins σ Q (.str (PyData.shown (d.py 20)) u) { s with toks := tk } := fun u tk => ⟨.str _, H, I.tok tk, ⟨u, rfl⟩, fin⟩
    have big : ∀ a, u = Value.ref a → wpAny (model X.prog X.w) X.A (call (.builtin "repr") [u]) (EP X pins σ Q) X.xe s := fun a e0 => by
      subst e0
      obtain ⟨as, r1, hn⟩ := Dx.rd I sb fh hx c1 ru
      have dep := dep_py 20 d
      exact repr_of_reads' r1 (show_pr 20 d c1 c2) (fun _ => hn) hg (by omega) (fun b o e => e) ep hsz
    cases d with
    | non =>
      rw [Dt.non_inv hx] at ru
      obtain rfl : u = Value.none := ru
      exact PySem.P.repr_of_none (ept _ _)
    | bl b =>
      rw [Dt.bl_inv hx] at ru
      obtain rfl : u = Value.bool b := ru
      exact PySem.P.repr_of_bool (ept _ _)
    | int i =>
      rw [Dt.int_inv hx] at ru
      obtain ⟨t, rfl⟩ : ∃ t, u = Value.int i t := ru
      exact PySem.P.repr_of_int (of_decide_eq_true (by simpa [Da.small, intQ] using c2)) (ept _ _)
    | str l =>
      rw [Dt.str_inv hx] at ru
      obtain ⟨t, rfl⟩ : ∃ t, u = Value.str (sg l) t := ru
      exact PySem.P.repr_of_str (ept _ _) hsz
    | lst ys =>
      obtain ⟨a, vs, e1, _⟩ := Dt.lst_inv hx
      rw [e1] at ru
      exact big a ru
    | tup ys =>
      obtain ⟨a, vs, e1, _⟩ := Dt.tup_inv hx
      rw [e1] at ru
      exact big a ru
    | bor ys =>
      obtain ⟨a, vs, e1, _⟩ := hx
      rw [e1] at ru
      exact big a ru
    | obj _ _ _ => simp [Da.pr] at c1
    | pool => simp [Da.pr] at c1
    | cls _ => simp [Da.pr] at c1
    | dic0 => exact absurd rfl hd0
    | dca =>
      obtain ⟨a, e1, _⟩ := Dt.dca_inv hx
      rw [e1] at ru
      exact big a ru
    | dct _ => simp [Da.pr] at c1
    | exc _ _ _ _ _ => simp [Da.pr] at c1
    | exv _ _ _ => simp [Da.pr] at c1
  · rw [if_neg c] at h2
    cases h2
theorem c_b1 (hc : X.calm = true) (hg : X.A.guards = some []) (hu : X.A.units + 66 < cLine) : ∀ o : B1, (o = .repr → sysB X.K = true) → CallR X (semC o) (rC X.K E o)
  | .len, _ => c_len
  | .tuple, _ => c_tuple
  | .list, _ => c_list
  | .str, _ => c_str
  | .repr, sb => c_repr (sb rfl) hg hu
  | .int, _ => c_int
  | .abs, _ => c_abs
  | .all, _ => c_all hc
  | .any, _ => c_any hc
def rCi (K : PySem.W.Frag) (E : XK) (o : Bi) : List V → Hp → VK → Prop := fun xs H Q => ∃ x y pa F P d e z, xs = [x, y] ∧ Same F H ∧ PoolOk F H pa P ∧ Dx K F H pa x d ∧ Dx K F H pa y e ∧ fi o d e = some z ∧ Post K E pa F H (.ok z P) Q
theorem c_min (hc : X.calm = true) : CallR X (.builtin "min") (rCi X.K E .min) := by
  intro pins s σ H xs us Q I r ⟨x, y, pa, F, P, d, e, z, ex, fh, po, hx, hy, hf, q⟩
  subst ex
  cases d with
  | int i => cases e with
    | int j =>
      cases hf
      rw [Dt.int_inv hx, Dt.int_inv hy] at r
      exact call_min2 hc pins s σ H _ us Q I r ⟨i, j, rfl, Post.now fh po q (Dx.of (.int _))⟩
    | _ => cases hf
  | _ => cases hf
theorem c_max (hc : X.calm = true) : CallR X (.builtin "max") (rCi X.K E .max) := by
  intro pins s σ H xs us Q I r ⟨x, y, pa, F, P, d, e, z, ex, fh, po, hx, hy, hf, q⟩
  subst ex
  cases d with
  | int i => cases e with
    | int j =>
      cases hf
      rw [Dt.int_inv hx, Dt.int_inv hy] at r
      exact call_max2 hc pins s σ H _ us Q I r ⟨i, j, rfl, Post.now fh po q (Dx.of (.int _))⟩
    | _ => cases hf
  | _ => cases hf
structure InsTy (K : PySem.W.Frag) (C : Str) : Prop where
  cl : Cls K (He.ga K C)
  ha : PySem.W.findIn K (.ref (He.ga K C)) "__class__" = some (some (.builtin "object.__class__"))
  hn : PySem.W.specialIn K (.builtin "object.__class__") "__get__" = some (some (.builtin "getset_descriptor.__get__"))
  ht : PySem.W.takesIn K (.builtin "object.__class__") = some true
  hm : PySem.W.mroIn K (He.ga K C) (.type "object") = some true
def tyV1 (K : PySem.W.Frag) : Ty → V
  | .b n => .ty n
  | .c C => .ref (He.ga K C)
def IsiFact (K : PySem.W.Frag) : Ty → Prop
  | .b _ => True
  | .c D => InsTy K D ∧ ∀ a : String, a ∈ ["NoneType", "bool", "int", "str", "list", "tuple", "dict"] → PySem.W.kitOne K (.type a) (.ref (He.ga K D)) = some false
theorem tyX_of {K : PySem.W.Frag} {F H : Hp} {pa : Pa} {x : V} {d : Da} {t : Ty} (fh : Same F H) (hx : Dx K F H pa x d) (ht : tyQ d = some t) (hi : ∀ C, t = .c C → InsTy K C) : TyX K H x (tyW K t) := by
  cases d with
  | non => cases ht; rw [Dt.non_inv hx]; exact .base .non
  | bl b => cases ht; rw [Dt.bl_inv hx]; exact .base (.bl b)
  | int i => cases ht; rw [Dt.int_inv hx]; exact .base (.int i)
  | str l => cases ht; rw [Dt.str_inv hx]; exact .base (.str _)
  | lst ys =>
    cases ht
    obtain ⟨a, vs, e2, e3, e4⟩ := Dx.ls (xs := ys) fh hx rfl
    subst e2
    exact .base (.lst e3)
  | bor ys =>
    cases ht
    obtain ⟨a, vs, e2, e3, e4⟩ := Dx.ls (xs := ys) fh hx rfl
    subst e2
    exact .base (.lst e3)
  | tup ys =>
    cases ht
    obtain ⟨a, vs, e2, e3, e4⟩ := Dt.tup_inv hx
    subst e2
    rcases same_t fh e3 with (h | ⟨o, h⟩) | ⟨o, its, n, h, hcl, _⟩
    · exact .base (.tup h)
    · exact .fTuple h
    · exact .kTuple h hcl
  | obj C fs ds =>
    cases ht
    obtain ⟨a, dx, vs, e2, e3, e4, e5⟩ := Dt.obj_inv hx
    subst e2
    have T := hi C rfl
    exact .base (.ins (fh _ _ e3) T.cl T.ha T.hn T.ht T.hm)
  | pool => cases ht
  | cls _ => cases ht
  | dic0 =>
    cases ht
    obtain ⟨a, e2, e3⟩ := Dt.dic0_inv hx
    subst e2
    exact .base (.dK (fh _ _ e3))
  | dca =>
    cases ht
    obtain ⟨a, e2, e3⟩ := Dt.dca_inv hx
    subst e2
    exact .base (.dK (fh _ _ e3))
  | dct ps =>
    cases ht
    obtain ⟨a, e2, e3⟩ := Dt.dct_inv hx
    subst e2
    exact .base (.dK (fh _ _ e3))
  | exc _ _ _ _ _ => cases ht
  | exv _ _ _ => cases ht
def rIs (K : PySem.W.Frag) (E : XK) (T : Ty) : List V → Hp → VK → Prop := fun xs H Q => ∃ x pa F P d b, xs = [x, tyV1 K T] ∧ Same F H ∧ PoolOk F H pa P ∧ Dx K F H pa x d ∧ isiQ d T = some b ∧ Post K E pa F H (.ok (.bl b) P) Q
theorem c_isi {T : Ty} (hT : IsiFact X.K T) : CallR X (.builtin "isinstance") (rIs X.K E T) := by
  intro pins s σ H xs us Q I r ⟨x, pa, F, P, d, b, ex, fh, po, hx, hf, q⟩
  subst ex
  have fin : Q (.bl b) H := Post.now fh po q (Dx.of (.bl _))
  cases ht : tyQ d with
  | none =>
    unfold isiQ at hf
    rw [ht] at hf
    cases T <;> cases hf
  | some t =>
    unfold isiQ at hf
    rw [ht] at hf
    have cv : ClsV (tyV1 X.K T) (tyW X.K T) := by
      cases T with
      | b n => exact .ty n
      | c C => exact .own _
    cases t with
    | b a =>
      have tx := tyX_of fh hx ht (fun C e => by cases e)
      cases T with
      | b n => exact call_isi pins s σ H _ us Q I r ⟨x, _, _, _, b, rfl, cv, tx, kit_ty hf, fin⟩
      | c D =>
        cases hf
        refine call_isi pins s σ H _ us Q I r ⟨x, _, _, _, false, rfl, cv, tx, hT.2 a ?_, fin⟩
        cases d <;> cases ht <;> simp
    | c C =>
      cases T with
      | b n => cases hf
      | c D =>
        have hf2 : (if C = D then some true else none) = some b := hf
        by_cases c : C = D
        · subst c
          rw [if_pos rfl] at hf2
          cases hf2
          have tx := tyX_of fh hx ht (fun C' e => by cases e; exact hT.1)
          refine call_isi pins s σ H _ us Q I r ⟨x, _, _, _, true, rfl, cv, tx, ?_, fin⟩
          show (if (Value.ref _ == Value.ref _) = true then some true else _) = some true
          rw [if_pos (by simp)]
        · rw [if_neg c] at hf2
          cases hf2
end

def moId : Mo → String
  | .split => "str.split"
  | .join => "str.join"
  | .partition => "str.partition"
  | .startswith => "str.startswith"
  | .removeprefix => "str.removeprefix"
def rM (K : PySem.W.Frag) (E : XK) (o : Mo) : V → List V → Hp → VK → Prop := fun x xs H Q => ∃ y pa F P d e z, xs = [y] ∧ Same F H ∧ PoolOk F H pa P ∧ Dx K F H pa x d ∧ Dx K F H pa y e ∧ fm o d e = some z ∧ Post K E pa F H (.ok z P) Q

theorem tl_sg (l : List Nat) : TL.tl (sg l) = l := by simp [TL.tl]
theorem len_ne {b : List Nat} (h : b ≠ []) : ((sg b).length == 0) = false := by
  rw [sg_len]
  cases b with
  | nil => exact absurd rfl h
  | cons _ _ => simp
theorem tl_ne {b : List Nat} (h : b ≠ []) : TL.tl (sg b) ≠ [] := by rw [tl_sg]; exact h
theorem starts_eq (a b : List Nat) : Txt.startswith (sg a) (sg b) = TL.pre b a := by
  unfold Txt.startswith
  rw [StrLaws.subAt_eq]
  simp only [sg_len, List.drop_zero, Nat.zero_add]
  unfold TL.pre
  show (decide (b.length ≤ a.length) && (a.take b.length == b)) = (a.take b.length == b)
  by_cases c : b.length ≤ a.length
  · simp [c]
  · have h2 : (a.take b.length == b) = false := by
      rw [beq_eq_false_iff_ne]
      intro e
      have := congrArg List.length e
      simp at this
      omega
    simp [c, h2]
theorem removeprefix_eq (a b : List Nat) : Txt.removeprefix (sg a) (sg b) = sg (if TL.pre b a = true then a.drop b.length else a) := by
  rw [StrLaws.removeprefix_eq]
  have h1 := starts_eq a b
  unfold Txt.startswith at h1
  rw [h1]
  by_cases c : TL.pre b a = true
  · rw [if_pos c, if_pos c]
    simp only [sg_len]
    have : (a.drop b.length).take (a.length - b.length) = a.drop b.length := by
      apply List.take_of_length_le
      simp
    show sg ((a.drop b.length).take (a.length - b.length)) = _
    rw [this]
  · rw [if_neg c, if_neg c]
theorem joinL_len (a : List Nat) : ∀ ls : List (List Nat), (ls.map (·.length)).sum + ls.length * a.length ≤ (TL.joinL a ls).length + a.length
  | [] => by simp [TL.joinL]
  | [p] => by simp [TL.joinL]
  | p :: q :: r => by
    have ih := joinL_len a (q :: r)
    simp only [TL.joinL, List.length_append, List.map_cons, List.sum_cons, List.length_cons] at ih ⊢
    rw [Nat.add_mul, Nat.one_mul]
    omega
theorem sum_sg : ∀ ls : List (List Nat), ((ls.map sg).map (·.length)).sum = (ls.map (·.length)).sum
  | [] => rfl
  | l :: ls => by simp only [List.map_cons, List.sum_cons, sg_len, sum_sg ls]

section
variable {X : Cx} {E : XK}
theorem m_split : MtR X "str.split" (rM X.K E .split) := by
  intro pins s σ H x xs v us Q I rx r ⟨y, pa, F, P, d, e, z, ex, fh, po, hx, hy, hf, q⟩
  subst ex
  cases d with
  | str a => cases e with
    | str b =>
      have h2 : (if b ≠ [] ∧ b.all (· < 256) = true ∧ a.length + 2 ≤ lim then some (Da.lst ((TL.spl b 0 [] a).map .str)) else none) = some z := hf
      by_cases c : b ≠ [] ∧ b.all (· < 256) = true ∧ a.length + 2 ≤ lim
      · rw [if_pos c] at h2
        cases h2
        rw [Dt.str_inv hx] at rx
        rw [Dt.str_inv hy] at r
        refine mt_split pins s σ H _ _ v us Q I rx r ⟨sg a, sg b, rfl, rfl, len_ne c.1, by rw [sg_len]; exact le_line c.2.2, fun p hp => ?_⟩
        have e1 := TL.split_spl (sg a) (sg b) (tl_ne c.1) (TL.kind_ok (by show (b.toArray).all _ = true; rw [← Array.all_toList]; simpa using c.2.1))
        rw [tl_sg, tl_sg] at e1
        refine Post.newO fh po q hp (.lst upd_same ?_)
        have e2 : (Txt.split (sg a) (sg b)).map V.str = (TL.spl b 0 [] a).map fun l => V.str (sg l) := by
          rw [← e1, List.map_map]
          have : ∀ ys : List Str, ys.map V.str = ys.map ((fun l => V.str (sg l)) ∘ TL.tl) := fun ys => by
            apply List.map_congr_left
            intro t _
            show V.str t = V.str (sg (TL.tl t))
            rw [show sg (TL.tl t) = t from TL.mk_tl t]
          exact this _
        rw [e2]
        exact Dts.of_str
      · rw [if_neg c] at h2
        cases h2
    | _ => cases hf
  | _ => cases hf
theorem m_partition : MtR X "str.partition" (rM X.K E .partition) := by
  intro pins s σ H x xs v us Q I rx r ⟨y, pa, F, P, d, e, z, ex, fh, po, hx, hy, hf, q⟩
  subst ex
  cases d with
  | str a => cases e with
    | str b =>
      have h2 : (if b ≠ [] ∧ a.length ≤ lim then some (match TL.par b [] a with
        | some (u, v) => Da.tup [.str u, .str b, .str v]
        | none => Da.tup [.str a, .str [], .str []]) else none) = some z := hf
      by_cases c : b ≠ [] ∧ a.length ≤ lim
      · rw [if_pos c] at h2
        cases h2
        rw [Dt.str_inv hx] at rx
        rw [Dt.str_inv hy] at r
        refine mt_partition pins s σ H _ _ v us Q I rx r ⟨sg a, sg b, rfl, rfl, len_ne c.1, by rw [sg_len]; exact le_line c.2, fun p hp => ?_⟩
        have e1 := TL.partition_par (sg a) (sg b) (tl_ne c.1)
        rw [tl_sg, tl_sg] at e1
        cases hp2 : TL.par b [] a with
        | none =>
          rw [hp2] at e1 q
          rw [e1]
          refine Post.newO fh po q hp (.tup (SqT.of upd_same) ?_)
          have : (Str.empty : Str) = sg [] := rfl
          rw [this]
          exact .cons (.str _) (.cons (.str _) (.cons (.str _) .nil))
        | some uv =>
          obtain ⟨u1, v1⟩ := uv
          rw [hp2] at e1 q
          rw [e1]
          exact Post.newO fh po q hp (.tup (SqT.of upd_same) (.cons (.str _) (.cons (.str _) (.cons (.str _) .nil))))
      · rw [if_neg c] at h2
        cases h2
    | _ => cases hf
  | _ => cases hf
theorem m_join : MtR X "str.join" (rM X.K E .join) := by
  intro pins s σ H x xs v us Q I rx r ⟨y, pa, F, P, d, e, z, ex, fh, po, hx, hy, hf, q⟩
  subst ex
  cases d with
  | str a =>
    have h2 : (match e.sq with
      | some ys => (strsQ ys).bind fun ls => if (TL.joinL a ls).length ≤ lim ∧ a.length ≤ lim then some (Da.str (TL.joinL a ls)) else none
      | none => none) = some z := hf
    cases hs : e.sq with
    | none => rw [hs] at h2; cases h2
    | some ys =>
      rw [hs] at h2
      have h3 : ((strsQ ys).bind fun ls => if (TL.joinL a ls).length ≤ lim ∧ a.length ≤ lim then some (Da.str (TL.joinL a ls)) else none) = some z := h2
      cases hl : strsQ ys with
      | none => rw [hl] at h3; cases h3
      | some ls =>
        rw [hl] at h3
        have h4 : (if (TL.joinL a ls).length ≤ lim ∧ a.length ≤ lim then some (Da.str (TL.joinL a ls)) else none) = some z := h3
        by_cases c : (TL.joinL a ls).length ≤ lim ∧ a.length ≤ lim
        · rw [if_pos c] at h4
          cases h4
          obtain ⟨p, vs, e2, e3, e4⟩ := Dx.sq fh hy hs
          have e5 := strsQ_some e4 hl
          rw [e5] at e3
          rw [Dt.str_inv hx] at rx
          subst e2
          refine mt_join pins s σ H _ _ v us Q I rx r ⟨sg a, p, ls.map sg, rfl, rfl, e3.imp SqL.of _root_.id, ?_, ?_⟩
          · rw [sum_sg, List.length_map, sg_len]
            have := joinL_len a ls
            have h5 : lim + lim ≤ 16777216 := by decide
            omega
          · have e6 : Txt.join (sg a) (ls.map sg) = sg (TL.joinL a ls) := by
              apply TL.ext_tl
              have := TL.tl_join (sg a) (ls.map sg)
              rw [tl_sg, List.map_map] at this
              have e7 : ls.map (TL.tl ∘ sg) = ls := by
                have : ∀ l ∈ ls, (TL.tl ∘ sg) l = l := fun l _ => tl_sg l
                rw [List.map_congr_left this, List.map_id']
              rw [e7] at this
              rw [tl_sg, TL.join_eq, this]
            rw [e6]
            exact Post.now fh po q (Dx.of (.str _))
        · rw [if_neg c] at h4
          cases h4
  | _ => cases hf
theorem m_starts : MtR X "str.startswith" (rM X.K E .startswith) := by
  intro pins s σ H x xs v us Q I rx r ⟨y, pa, F, P, d, e, z, ex, fh, po, hx, hy, hf, q⟩
  subst ex
  cases d with
  | str a => cases e with
    | str b =>
      cases hf
      rw [Dt.str_inv hx] at rx
      rw [Dt.str_inv hy] at r
      refine mt_startswith pins s σ H _ _ v us Q I rx r ⟨sg a, sg b, rfl, rfl, ?_⟩
      rw [starts_eq]
      exact Post.now fh po q (Dx.of (.bl _))
    | _ => cases hf
  | _ => cases hf
theorem m_removeprefix : MtR X "str.removeprefix" (rM X.K E .removeprefix) := by
  intro pins s σ H x xs v us Q I rx r ⟨y, pa, F, P, d, e, z, ex, fh, po, hx, hy, hf, q⟩
  subst ex
  cases d with
  | str a => cases e with
    | str b =>
      have h2 : (if a.length ≤ lim then some (Da.str (if TL.pre b a = true then a.drop b.length else a)) else none) = some z := hf
      by_cases c : a.length ≤ lim
      · rw [if_pos c] at h2
        cases h2
        rw [Dt.str_inv hx] at rx
        rw [Dt.str_inv hy] at r
        refine mt_removeprefix pins s σ H _ _ v us Q I rx r ⟨sg a, sg b, rfl, rfl, by rw [sg_len]; exact le_line c, ?_⟩
        rw [removeprefix_eq]
        exact Post.now fh po q (Dx.of (.str _))
      · rw [if_neg c] at h2
        cases h2
    | _ => cases hf
  | _ => cases hf
theorem m_mo : ∀ o : Mo, MtR X (moId o) (rM X.K E o)
  | .split => m_split
  | .join => m_join
  | .partition => m_partition
  | .startswith => m_starts
  | .removeprefix => m_removeprefix
theorem Dts.atI {K : PySem.W.Frag} {F : Hp} {pa : Pa} {vs : List V} {ds : List Da} {i : Int} {d : Da} (t : Dts K F pa vs ds) (h : L2.atI ds i = some d) : ∃ v, L2.atI vs i = some v ∧ Dt K F pa v d := by
  unfold L2.atI at h ⊢
  rw [t.length]
  cases q : ixN ds.length i with
  | none => rw [q] at h; cases h
  | some j =>
    rw [q] at h
    exact t.get h
def rX (K : PySem.W.Frag) (E : XK) : R2 := fun x y H Q => ∃ pa F P d e z, Same F H ∧ PoolOk F H pa P ∧ Dx K F H pa x d ∧ Dx K F H pa y e ∧ ixQ d e = some z ∧ Post K E pa F H (.ok z P) Q
theorem x_ix {K : PySem.W.Frag} {x y : V} {H : Hp} {Q : VK} (h : rX K E x y H Q) : rIx K x y H Q := by
  obtain ⟨pa, F, P, d, e, z, fh, po, hx, hy, hf, q⟩ := h
  have sq : ∀ ys i, d.sq = some ys → e = .int i → L2.atI ys i = some z → rIx K x y H Q := fun ys i e1 e2 e3 => by
    subst e2
    obtain ⟨a, vs, e4, e5, e6⟩ := Dx.sq fh hx e1
    obtain ⟨w, e7, e8⟩ := e6.atI e3
    have fin := Post.now fh po q (Dx.of e8)
    rcases e5 with e5 | e5
    · exact .inl ⟨a, vs, i, w, e4, Dt.int_inv hy, SqL.of e5, e7, fin⟩
    · exact .inr (.inl ⟨a, vs, i, w, e4, Dt.int_inv hy, e5, e7, fin⟩)
  cases d with
  | lst ys => cases e with
    | int i => exact sq ys i rfl rfl hf
    | _ => cases hf
  | bor ys => cases e with
    | int i => exact sq ys i rfl rfl hf
    | _ => cases hf
  | tup ys => cases e with
    | int i => exact sq ys i rfl rfl hf
    | _ => cases hf
  | str l => cases e with
    | int i =>
      have h2 : (if l.length ≤ lim then (L2.atI l i).map (fun c => Da.str [c]) else none) = some z := hf
      by_cases c : l.length ≤ lim
      · rw [if_pos c] at h2
        cases hq : L2.atI l i with
        | none => rw [hq] at h2; cases h2
        | some ch =>
          rw [hq] at h2
          cases h2
          refine .inr (.inr ⟨sg l, i, ch, Dt.str_inv hx, Dt.int_inv hy, by rw [sg_len]; exact le_line c, hq, ?_⟩)
          exact Post.now fh po q (Dx.of (.str [ch]))
      · rw [if_neg c] at h2
        cases h2
    | _ => cases hf
  | _ => cases hf
theorem Dts.cut {K : PySem.W.Frag} {F : Hp} {pa : Pa} {vs : List V} {ds : List Da} (t : Dts K F pa vs ds) (lo hi : Option Int) : Dts K F pa (cutV vs lo hi) (cutL ds lo hi) := by
  unfold cutV cutL
  rw [t.length]
  exact (t.drop _).take _
def rS (K : PySem.W.Frag) (E : XK) : V → Option Int → Option Int → Hp → VK → Prop := fun x lo hi H Q => ∃ pa F P d z, Same F H ∧ PoolOk F H pa P ∧ Dx K F H pa x d ∧ slQ d lo hi = some z ∧ Post K E pa F H (.ok z P) Q
theorem s_sl {K : PySem.W.Frag} {x : V} {lo hi : Option Int} {H : Hp} {Q : VK} (h : rS K E x lo hi H Q) : rSlL K x lo hi H Q ∨ rSlA K x lo hi H Q ∨ rSlS x lo hi H Q := by
  obtain ⟨pa, F, P, d, z, fh, po, hx, hf, q⟩ := h
  have ls : ∀ ys, d.ls = some ys → Post K E pa F H (.ok (.lst (cutL ys lo hi)) P) Q → rSlL K x lo hi H Q := fun ys e1 hq => by
    obtain ⟨a, vs, e4, e5, e6⟩ := Dx.ls fh hx e1
    exact ⟨a, vs, e4, SqL.of e5, fun p hp => Post.newO fh po hq hp (.lst upd_same ((e6.cut lo hi).new (fh.free hp)))⟩
  cases d with
  | lst ys => cases hf; exact .inl (ls ys rfl q)
  | bor ys => cases hf; exact .inl (ls ys rfl q)
  | tup ys =>
    cases hf
    obtain ⟨a, vs, e4, e5, e6⟩ := Dt.tup_inv hx
    refine .inr (.inl ⟨a, vs, e4, same_t fh e5, fun c => ?_, fun _ p hp => Post.newO fh po q hp (.tup (SqT.of upd_same) ((e6.cut lo hi).new (fh.free hp)))⟩)
    have e7 : cutL ys lo hi = ys := by
      unfold cutL
      rw [e6.length] at c
      rw [c.1, c.2]
      simp
    rw [e7] at q
    subst e4
    exact Post.now fh po q (Dx.of (.tup e5 e6))
  | str l =>
    have h2 : (if l.length ≤ lim then some (Da.str (cutL l lo hi)) else none) = some z := hf
    by_cases c : l.length ≤ lim
    · rw [if_pos c] at h2
      cases h2
      refine .inr (.inr ⟨sg l, Dt.str_inv hx, by rw [sg_len]; exact le_line c, ?_⟩)
      have e : cutS (sg l) lo hi = sg (cutL l lo hi) := by
        unfold cutS cutL
        rw [sg_len]
      rw [e]
      exact Post.now fh po q (Dx.of (.str _))
    · rw [if_neg c] at h2
      cases h2
  | _ => cases hf
theorem slR_any : SlR X (fun x lo hi H Q => rSlL X.K x lo hi H Q ∨ rSlA X.K x lo hi H Q ∨ rSlS x lo hi H Q) := SlR.or sl_list (SlR.or sl_tupA sl_str)
theorem tru_of {K : PySem.W.Frag} {F H : Hp} {pa : Pa} {x : V} {d : Da} {b : Bool} (fh : Same F H) (hx : Dx K F H pa x d) (h : truQ d = some b) : TruV K x H b := by
  have sq : ∀ ys, d.sq = some ys → b = (!ys.isEmpty) → TruV K x H b := fun ys e1 e0 => by
    obtain ⟨a, vs, e2, e3, e4⟩ := Dx.sq fh hx e1
    subst e2
    have e5 : b = !vs.isEmpty := by
      rw [e0]
      cases e4 <;> rfl
    rcases e3 with e3 | e3
    · exact .inl ⟨vs, SqL.of e3, e5⟩
    · exact .inr (.inl ⟨vs, e3, e5⟩)
  cases d with
  | non => cases h; rw [Dt.non_inv hx]; rfl
  | bl k => cases h; rw [Dt.bl_inv hx]; rfl
  | int i => cases h; rw [Dt.int_inv hx]; rfl
  | str l =>
    have h2 : (if l.length ≤ lim then some (!l.isEmpty) else none) = some b := h
    by_cases c : l.length ≤ lim
    · rw [if_pos c] at h2
      cases h2
      rw [Dt.str_inv hx]
      refine ⟨by rw [sg_len]; exact le_line c, ?_⟩
      rw [sg_len]
      cases l with
      | nil => rfl
      | cons c0 t0 =>
        have h5 : (((c0 :: t0).length : Nat) : Int) ≠ 0 := by
          rw [List.length_cons]
          omega
        exact (bne_iff_ne.mpr h5).symm
    · rw [if_neg c] at h2
      cases h2
  | lst ys => exact sq ys rfl (Option.some.inj h).symm
  | bor ys => exact sq ys rfl (Option.some.inj h).symm
  | tup ys => exact sq ys rfl (Option.some.inj h).symm
  | _ => cases h
end

structure Gn (P : Program) (w : World) (K : PySem.W.Frag) (mg : Str → Option Value) (base : Heap) (k : Nat) (f : Addr) (fd : FuncData) (ps : List Str) (sp : Sp) : Prop where
  len : ∀ vs H Q E, sp vs H Q E → vs.length = ps.length
  run : ∀ (A : Around) (outer : List Env) (s : Shared) (H : Hp) (args : Args) (us : List Value) (vs : List V) (Q : VK) (E : XK), Room k A → A.guards = some [] → Env0 P w K mg base A outer s H →
    BindsTo s fd args (ps.zip us) → Vals vs us → sp vs H Q E → codeAny (model P w) A (.call (.ref f) args) (CR (L2.CX P w) outer P w H s Q E) s
section
variable {P : Program} {w : World} {K : PySem.W.Frag} {mg : Str → Option Value} {base : Heap}
theorem Gn.mono {j k : Nat} {f : Addr} {fd : FuncData} {ps : List Str} {sp : Sp} (G : Gn P w K mg base j f fd ps sp) (h : j ≤ k) : Gn P w K mg base k f fd ps sp :=
  ⟨G.len, fun A outer s H args us vs Q E hr hg e0 hb r hs => G.run A outer s H args us vs Q E (hr.mono h) hg e0 hb r hs⟩
theorem Gn.imp {k : Nat} {f : Addr} {fd : FuncData} {ps : List Str} {sp sp' : Sp} (G : Gn P w K mg base k f fd ps sp) (h : ∀ vs H Q E, sp' vs H Q E → sp vs H Q E) : Gn P w K mg base k f fd ps sp' :=
  ⟨fun vs H Q E q => G.len _ _ _ _ (h _ _ _ _ q), fun A outer s H args us vs Q E hr hg e0 hb r hs => G.run A outer s H args us vs Q E hr hg e0 hb r (h _ _ _ _ hs)⟩
theorem run_body {k : Nat} {f : Addr} {x qual : Str} {params : Arguments} {body : List Stmt} {scope : Scope} {dV kV doc pm cdv ct oc : Value} {an od : Option Addr} {osl : Array (Option Value)} {N ps : List Str}
    (lk : K.lookup f = some ⟨oc, od, .func (PySem.W.fnOf x qual params body scope dV kV doc pm an cdv ct), osl⟩) (hcd : PySem.W.codeIn K cdv qual = true) (S : FnScope N ps scope)
    {A : Around} {outer : List Env} {s : Shared} {H : Hp} {args : Args} {us : List Value} {vs : List V} {Q : VK} {E : XK} (room : Room (k + 1) A) (env : Env0 P w K mg base A outer s H)
    (hbd : BindsTo s (PySem.W.fnOf x qual params body scope dV kV doc pm an cdv ct) args (ps.zip us)) (rel : Vals vs us) (hlen : vs.length = ps.length)
    (hbody : Room k (A.deeper (envOfC qual scope s.heap.objs.size f cdv)) → ∃ t, PSs (cxOf (L2.CX P w) P w K mg base N qual scope f cdv A outer s H E) body t ∧ t { nx := fun _ H' => Q .non H', rt := Q } (start N vs) H) :
    codeAny (model P w) A (.call (.ref f) args) (CR (L2.CX P w) outer P w H s Q E) s := by
  have kin : K.In s.heap := env.mod.kin.keeps fun b o q => (env.bs b o q).1
  have nol : s.heap.NoLimit := env.mod.nolimit.keeps fun b o q => (env.bs b o q).1
  have kinds : ∀ y ∈ ps.zip us, scope.names.lookup y.1 = some .local ∨
      (scope.names.lookup y.1 = some .cell ∧ ((cellsFrom (s.heap.objs.size + 1) scope.names []).lookup y.1).isSome = true) := by
    rintro ⟨n, v⟩ hy
    rcases S.par n (List.of_mem_zip hy).1 with q | q
    · exact Or.inl q
    · exact Or.inr ⟨q, PySem.W.cellsFrom_some _ _ _ (Or.inl q)⟩
  refine codeAny_call_function room.depth (kin _ _ lk) rfl S.co S.gen rfl (PySem.W.codeRec_of kin hcd) (hbd _ _ _ _ ?_)
  refine wpAny_newFunctionEnv_cells S.kind kinds fun e2 he2 s1 x1 => ?_
  subst he2
  refine ⟨nol.keeps x1.toInCall.keep, codeAny_func ?_⟩
  obtain ⟨t, ht, hq⟩ := hbody (room.deeper _)
  have inv : Inv (cxOf (L2.CX P w) P w K mg base N qual scope f cdv A outer s H E) [] (start N vs) H s1 := inv_start S room.hd env hlen rel x1
  refine wpAny_mono (ht.run [] s1 (start N vs) H _ inv hq) (fun fl s' hs => ?_) (fun e s' hs => hs)
  cases fl with
  | ret u =>
    obtain ⟨v, σ', H', J, rv, q⟩ := hs
    exact ⟨v, H', J.os, J.bare, J.base, J.hok, rv, q⟩
  | next =>
    obtain ⟨σ', H', J, q⟩ := hs
    exact ⟨V.non, H', J.os, J.bare, J.base, J.hok, rfl, q⟩
  | brk => obtain ⟨_, _, _, q⟩ := hs; exact q.elim
  | cont => obtain ⟨_, _, _, q⟩ := hs; exact q.elim
theorem gn_of {k : Nat} {f : Addr} {x qual : Str} {params : Arguments} {body : List Stmt} {scope : Scope} {dvs : List V} {kws : List (Str × V)} {fd : FuncData} {N ps : List Str} {sp : Sp}
    (D : FunD K x qual params body scope dvs kws f fd) (S : FnScope N ps scope) (len : ∀ vs H Q E, sp vs H Q E → vs.length = ps.length)
    (hbody : ∀ (cdv : Value) (A : Around) (outer : List Env) (s : Shared) (H : Hp) (vs : List V) (Q : VK) (E : XK), Room k (A.deeper (envOfC qual scope s.heap.objs.size f cdv)) → A.guards = some [] → sp vs H Q E →
      ∃ t, PSs (cxOf (L2.CX P w) P w K mg base N qual scope f cdv A outer s H E) body t ∧ t { nx := fun _ H' => Q .non H', rt := Q } (start N vs) H) : Gn P w K mg base (k + 1) f fd ps sp := by
  obtain ⟨oc, od, dV, kV, doc, pm, an, cdv, ct, osl, efd, lk, hcd, _, _⟩ := D.ex
  subst efd
  refine ⟨len, fun A outer s H args us vs Q E room hgd env hbd rel hsp => ?_⟩
  exact run_body lk hcd S room env hbd rel (len _ _ _ _ hsp) fun hr => hbody cdv A outer s H vs Q E hr hgd hsp
end

section
variable {X : Cx} {k : Nat} {f C : Addr} {fd : FuncData} {ps : List Str} {sp : Sp} {dvs : List V} {ds : List Value} {E : XK} {x m : Str} {p pos apos : Pos} {e o : Expr} {es : List Expr} {ta : TE} {t : TA}
theorem run_gn {pins : List (Addr × Obj)} {σ : L2.St} {H : Hp} {s : Shared} {Q : VK} {us : List Value} {vs : List V} (G : Gn X.prog X.w X.K X.mg X.base k f fd ps sp) (hr : Room k X.A) (hgd : X.A.guards = some []) (hb : Binds X.K fd ps ds) (hd : Vals dvs ds)
    (hx : Passes (L2.CX X.prog X.w) X E) (I : Inv X pins σ H s) (r : Vals vs us) (h : sp (vs ++ dvs) H Q E) : wpAny (model X.prog X.w) X.A (call (.ref f) us) (EP X pins σ Q) X.xe s := by
  have rr : Vals (vs ++ dvs) (us ++ ds) := r.append hd
  have hl : (us ++ ds).length = ps.length := by
    rw [← rr.length]
    exact G.len _ _ _ _ h
  refine wpAny_call (codeAny_mono (G.run X.A X.stack s H ⟨us, []⟩ (us ++ ds) (vs ++ dvs) Q E hr hgd I.env0 (hb s us I.kIn hl) rr h) fun res s' hq => ?_)
  cases res with
  | error e => exact hx pins σ H s e s' I hq
  | ok fl =>
    cases fl with
    | ret u => exact I.after hq
    | _ => exact hq.elim
theorem pe_callG (G : Gn X.prog X.w X.K X.mg X.base k f fd ps sp) (hr : Room k X.A) (hgd : X.A.guards = some []) (hg : Gl X x) (hm : X.mg x = some (.ref f)) (hk : PySem.W.keepIn X.K (.ref f) = true) (hb : Binds X.K fd ps ds) (hd : Vals dvs ds)
    (hx : Passes (L2.CX X.prog X.w) X E) (ha : PA X (e :: es) t) (hdb : (x == ("__debug__" : Str)) = false) (he : starEach (e :: es) X.env = (false, eval e X.env) :: starEach es X.env) (hpl : (backTo pos (starEach es X.env)).any (·.1) = false) :
    PE X (.Call (.Name x p) (e :: es) [] pos) (tCall sp dvs E t) := by
  refine ⟨fun pins s σ H Q I h => wpAny_Call_Name_kw (ld_glob I hg hm ?_ hdb)⟩
  refine PySem.W.callWith_K (h₀ := X.base) I.ok.mod.kin hk (thn (ha.run pos pins s σ H _ I h) ?_) he hpl
  rintro us s1 ⟨vs, H1, I1, r, q⟩
  exact ⟨I1.kIn, run_gn G hr hgd hb hd hx I1 r q⟩
theorem pe_callG0 (G : Gn X.prog X.w X.K X.mg X.base k f fd ps sp) (hr : Room k X.A) (hgd : X.A.guards = some []) (hg : Gl X x) (hm : X.mg x = some (.ref f)) (hk : PySem.W.keepIn X.K (.ref f) = true) (hb : Binds X.K fd ps ds) (hd : Vals dvs ds)
    (hx : Passes (L2.CX X.prog X.w) X E) (hdb : (x == ("__debug__" : Str)) = false) : PE X (.Call (.Name x p) [] [] pos) (tCall sp dvs E tNil) := by
  refine ⟨fun pins s σ H Q I h => wpAny_Call_Name_kw (ld_glob I hg hm ?_ hdb)⟩
  exact PySem.W.callWith_K0 I.kIn hk (run_gn (us := []) G hr hgd hb hd hx I .nil h)
theorem run_makeG {pins : List (Addr × Obj)} {σ : L2.St} {H : Hp} {s : Shared} {Q : VK} {us : List Value} {kw : List (Str × Value)} {zs : List V} {ws : List Value} (M : Mk X.K C f) (G : Gn X.prog X.w X.K X.mg X.base k f fd ps sp) (hr : Room (k + 1) X.A)
    (hgd : X.A.guards = some []) (hx : Passes (L2.CX X.prog X.w) X E) (I : Inv X pins σ H s)
    (hb : ∀ (s' : Shared), X.K.In s'.heap → BindsTo s' fd ⟨Value.ref (s.heap.objs.size + 1) :: us, kw⟩ (ps.zip (Value.ref (s.heap.objs.size + 1) :: ws))) (r : Vals zs ws)
    (h : ∀ x dx, H x = none → H dx = none → dx ≠ x → sp (.ref x :: zs) (upd (upd H dx (.own x)) x (.ins C dx [])) (fun v H2 => v = .non ∧ Q (.ref x) H2) E) :
    wpAny (model X.prog X.w) X.A (call (.ref C) us kw) (EP X pins σ Q) X.xe s := by
  have hq := h (s.heap.objs.size + 1) s.heap.objs.size (I.hok.fresh (Nat.le_succ _)) (I.hok.fresh (Nat.le_refl _)) (Nat.ne_of_lt (Nat.lt_succ_self _))
  have J := Inv.made (C := C) I
  have gd : (X.A.under (.builtin "type.__call__" ⟨Value.ref C :: us, kw⟩)).guards = some [] := by
    have e1 : Code.guards (.builtin "type.__call__" ⟨Value.ref C :: us, kw⟩) = [] := by
      unfold Code.guards Code.isGuard
      rw [if_neg (show ¬ (guardIds.contains "type.__call__" = true) by decide)]
    simp [Around.under, e1, hgd, pushGuards]
  have rc : Vals (V.ref (s.heap.objs.size + 1) :: zs) (Value.ref (s.heap.objs.size + 1) :: ws) := .cons rfl r
  refine wpAny_call (make_map (f := f) I.kIn M.makes M.init (beq_iff_eq.mp M.fn) (codeAny_mono (G.run _ X.stack _ _ _ _ _ _ E (hr.make C us kw) gd (J.env0.make C us kw) (hb _ J.kIn) rc hq) fun res s' hq' => ?_))
  cases res with
  | error e => exact hx pins σ _ _ e s' J hq'
  | ok fl =>
    cases fl with
    | ret u =>
      obtain ⟨v, H', I3, rv, ev, q3⟩ := J.after hq'
      subst ev
      exact ⟨rv, ⟨V.ref (s.heap.objs.size + 1), H', I3, rfl, q3⟩⟩
    | _ => exact hq'.elim
theorem pe_makeG (M : Mk X.K C f) (G : Gn X.prog X.w X.K X.mg X.base k f fd ps sp) (hr : Room (k + 1) X.A) (hgd : X.A.guards = some []) (hg : Gl X x) (hm : X.mg x = some (.ref C)) (hb : Binds X.K fd ps ds) (hd : Vals dvs ds)
    (hx : Passes (L2.CX X.prog X.w) X E) (ha : PA X (e :: es) t) (hdb : (x == ("__debug__" : Str)) = false) (he : starEach (e :: es) X.env = (false, eval e X.env) :: starEach es X.env) (hpl : (backTo pos (starEach es X.env)).any (·.1) = false) :
    PE X (.Call (.Name x p) (e :: es) [] pos) (tMake C sp dvs E t) := by
  refine ⟨fun pins s σ H Q I h => wpAny_Call_Name_kw (ld_glob I hg hm ?_ hdb)⟩
  refine PySem.W.callWith_K (h₀ := X.base) I.ok.mod.kin M.kp (thn (ha.run pos pins s σ H _ I h) ?_) he hpl
  rintro us s1 ⟨vs, H1, I1, r, q⟩
  refine ⟨I1.kIn, ?_⟩
  have rr : Vals (vs ++ dvs) (us ++ ds) := r.append hd
  have q0 := q (s1.heap.objs.size + 1) s1.heap.objs.size (I1.hok.fresh (Nat.le_succ _)) (I1.hok.fresh (Nat.le_refl _)) (Nat.ne_of_lt (Nat.lt_succ_self _))
  have hl : (Value.ref (s1.heap.objs.size + 1) :: us ++ ds).length = ps.length := by
    have e1 := G.len _ _ _ _ q0
    rw [← e1]
    simp [rr.length]
  exact run_makeG M G hr hgd hx I1 (fun s' k' => hb s' (Value.ref (s1.heap.objs.size + 1) :: us) k' hl) rr q
end

def visB (sc : Scope) (x : Str) : Bool := match sc.names.lookup x with
  | some .local => true
  | some .cell => true
  | some .free => true
  | _ => false
def locB (sc : Scope) (x : Str) : Bool := match sc.names.lookup x with
  | some .local => true
  | some .cell => true
  | _ => false
def gloB (sc : Scope) (x : Str) : Bool := match sc.names.lookup x with
  | some .globalImplicit => true
  | _ => false
def okNm (x : Str) : Bool := !(x == ("__debug__" : Str)) && !(x == ("__classdict__" : Str)) && !(x == ("__name__" : Str))
def nostar : Expr → Bool
  | .Starred _ _ => false
  | _ => true
def noslice : Expr → Bool
  | .Slice _ _ _ _ => false
  | _ => true
def noset : Expr → Bool
  | .Set _ _ _ => false
  | _ => true
def nocomp : Expr → Bool
  | .ListComp _ _ _ _ => false
  | .SetComp _ _ _ _ => false
  | .DictComp _ _ _ _ _ => false
  | _ => true
def nonm : Expr → Bool
  | .Name _ _ => false
  | _ => true
def nobase : Expr → Bool
  | .Call (.Name _ _) [] [] _ => false
  | _ => true
def conB : Da → Const → Bool
  | .non, .none => true
  | .bl a, .bool b => a == b
  | .int i, .int j => decide (i = j)
  | .str l, .str s => decide (s.cps.toList = l)
  | _, _ => false
def opB : B2 → Operator → Bool
  | .add, .Add => true
  | .sub, .Sub => true
  | .mul, .Mult => true
  | .mod, .Mod => true
  | .fdv, .FloorDiv => true
  | .pow, .Pow => true
  | _, _ => false
def cmB : B2 → CmpOp → Bool
  | .eq, .Eq => true
  | .ne, .NotEq => true
  | .lt, .Lt => true
  | .le, .LtE => true
  | .gt, .Gt => true
  | .ge, .GtE => true
  | .inn, .In => true
  | .nin, .NotIn => true
  | .is, .Is => true
  | .isn, .IsNot => true
  | _, _ => false
def b1Nm : B1 → Str
  | .len => "len"
  | .tuple => "tuple"
  | .list => "list"
  | .str => "str"
  | .repr => "repr"
  | .int => "int"
  | .abs => "abs"
  | .all => "all"
  | .any => "any"
def biNm : Bi → Str
  | .min => "min"
  | .max => "max"
def moNm : Mo → Str
  | .split => "split"
  | .join => "join"
  | .partition => "partition"
  | .startswith => "startswith"
  | .removeprefix => "removeprefix"
def nmEq (x y : Str) : Bool := decide (x = y)
def ownOf (N : List Str) (vs : List Nat) : List (Str × Nat) := vs.map fun i => (N.getD i Str.empty, i)
def chkNm (sc : Scope) (N : List Str) (i : Nat) : Expr → Bool
  | .Name x _ => decide (N[i]? = some x) && locB sc x
  | _ => false
def chkTs (sc : Scope) (N : List Str) : List Nat → List Expr → Bool
  | [], [] => true
  | i :: is, e :: es => chkNm sc N i e && chkTs sc N is es
  | _, _ => false
def chkTg (sc : Scope) (N : List Str) : List Nat → Expr → Bool
  | [i], .Name x _ => decide (N[i]? = some x) && locB sc x
  | [i, j], .Tuple es _ _ => chkTs sc N [i, j] es
  | [i, j, k], .Tuple es _ _ => chkTs sc N [i, j, k] es
  | [i, j, k, l], .Tuple es _ _ => chkTs sc N [i, j, k, l] es
  | [i, j, k, l, m], .Tuple es _ _ => chkTs sc N [i, j, k, l, m] es
  | _, _ => false
def CEs.plain : CEs → Bool
  | .nil => true
  | .cons _ r => r.plain
  | .star _ _ => false
def CEs.len : CEs → Nat
  | .nil => 0
  | .cons _ r => r.len + 1
  | .star _ r => r.len + 1
def CEs.ne : CEs → Bool
  | .nil => false
  | _ => true

def unm (scope : Scope) : Bool := scope.names.all fun y => !decide (y.2 = .globalExplicit)
def mkS (q : Str) (scope : Scope) : Scope := { scope with names := (q, .globalExplicit) :: scope.names }
def mark1 (q : Str) (sc : Scope) : Bool := decide (sc.names.lookup q = some .globalExplicit)
def inhS (sc scope : Scope) : Scope := match lamNames.find? (fun q => mark1 q sc && decide (scope.names.lookup q = none)) with
  | some q => mkS q scope
  | none => scope
def noArgs : Arguments → Bool
  | ⟨[], [], none, [], [], none, []⟩ => true
  | _ => false
def tst : Expr → Bool
  | .IfExp _ _ _ _ => false
  | _ => true
def bo (op : BoolOp) (y : Expr) (r : List Expr) (pos : Pos) : Expr := match r with
  | [] => y
  | z :: r => .BoolOp op (y :: z :: r) pos
def isTup : Expr → Bool
  | .Tuple _ _ _ => true
  | _ => false
def CI.tup : CI → Bool
  | .enm _ => true
  | .zip _ _ => true
  | _ => false

def nostars : List Expr → Bool
  | [] => true
  | e :: es => nostar e && nostars es
def call1 (sc : Scope) (nm : Str) : Expr → Option (List Expr)
  | .Call (.Name y _) [a] [] _ => if (nmEq nm y && gloB sc y && nostar a) = true then some [a] else none
  | _ => none
def cmp2 (op : CmpOp → Bool) : Expr → Option (List Expr)
  | .Compare l [o] [r] _ => if (op o && noset r) = true then some [l, r] else none
  | _ => none
def att1 (m : Str) : Expr → Option (List Expr)
  | .Attribute e g _ => if (nmEq m g && nobase e) = true then some [e] else none
  | _ => none
def callN (sc : Scope) (x : Str) : Expr → Option (List Expr)
  | .Call (.Name y _) (e :: es) [] _ => if (nmEq x y && gloB sc y && okNm y && nostars (e :: es)) = true then some (e :: es) else none
  | _ => none
def kwOf : List Keyword → List (Option Str)
  | [] => []
  | k :: ks => k.arg :: kwOf ks
def callK (sc : Scope) (x : Str) (ks : List Str) : Expr → Option (List Expr)
  | .Call (.Name y _) [] kws _ => if (nmEq x y && gloB sc y && okNm y && decide (kwOf kws = ks.map some) && nostars (kws.map (·.value))) = true then some (kws.map (·.value)) else none
  | _ => none
def zip2 (sc : Scope) : Expr → Option (List Expr)
  | .Call (.Name y _) [.Call (.Name z _) [a, b] [] _] [] _ => if (nmEq "list" y && gloB sc y && nmEq "zip" z && gloB sc z && nostar a && nostar b) = true then some [a, b] else none
  | _ => none
def optB (o : Option (List Expr)) (f : List Expr → Bool) : Bool := match o with
  | some es => f es
  | none => false
def isEq : CmpOp → Bool
  | .Eq => true
  | _ => false
def isNe : CmpOp → Bool
  | .NotEq => true
  | _ => false
def xoSub (sc : Scope) : XO → Expr → Option (List Expr)
  | .len _ => call1 sc "len"
  | .str _ => call1 sc "str"
  | .repr _ => call1 sc "repr"
  | .bool _ => call1 sc "bool"
  | .eq _ => cmp2 isEq
  | .ne _ => cmp2 isNe
  | .prp _ m => att1 m
  | .hand sub => fun e => if (nocomp e && nonm e) = true then sub sc e else none
  | .mk C _ => callN sc C
  | .mkK C ks _ => callK sc C ks
  | .lzip => zip2 sc
  | .bor x => callN sc x
mutual
def chkE (sc : Scope) (N : List Str) : CE → Expr → Bool
  | .var i, .Name x _ => decide (N[i]? = some x) && visB sc x && okNm x
  | .glb x _, .Name y _ => nmEq x y && gloB sc y && okNm y
  | .con d, .Constant c _ _ => conB d c
  | .b2 o a b, .BinOp l op r _ => opB o op && chkE sc N a l && chkE sc N b r
  | .b2 o a b, .Compare l [op] [r] _ => cmB o op && chkE sc N a l && chkE sc N b r && noset r
  | .chn o o' a b c, .Compare l [op, op'] [r, r'] _ => cmB o op && cmB o' op' && chkE sc N a l && chkE sc N b r && chkE sc N c r' && noset r'
  | .neg a, .UnaryOp .USub e _ => chkE sc N a e
  | .notv a, .UnaryOp .Not e _ => tst e && chkE sc N a e
  | .andv a b, .BoolOp .And (x :: y :: r) pos => tst x && tst (bo .And y r pos) && chkE sc N a x && chkE sc N b (bo .And y r pos)
  | .orv a b, .BoolOp .Or (x :: y :: r) pos => tst x && tst (bo .Or y r pos) && chkE sc N a x && chkE sc N b (bo .Or y r pos)
  | .ite t a b, .IfExp t' a' b' _ => tst t' && chkE sc N t t' && chkE sc N a a' && chkE sc N b b'
  | .call x _ as, .Call (.Name y _) es [] _ => nmEq x y && gloB sc y && okNm y && as.plain && chkA sc N as es
  | .b1 o a, .Call (.Name y _) [e] [] _ => nmEq (b1Nm o) y && gloB sc y && nostar e && chkE sc N a e
  | .bi o a b, .Call (.Name y _) [e, e'] [] _ => nmEq (biNm o) y && gloB sc y && nostar e && nostar e' && chkE sc N a e && chkE sc N b e'
  | .isi a T, .Call (.Name y _) [e, .Name t _] [] _ => nmEq "isinstance" y && gloB sc y && nostar e && chkE sc N a e && nmEq (tyNm T) t && gloB sc t && okNm t
  | .mt o a b, .Call (.Attribute e m apos) [e'] [] pos => nmEq (moNm o) m && nobase e && nostar e' && (apos.endLine == pos.line) && chkE sc N a e && chkE sc N b e'
  | .ix a b, .Subscript e i _ => noslice i && chkE sc N a e && chkE sc N b i
  | .sl a lo hi, .Subscript e (.Slice l h none _) _ => chkE sc N a e && chkO sc N lo l && chkO sc N hi h
  | .rev a, .Subscript e (.Slice none none (some (.UnaryOp .USub (.Constant (.int 1) _ _) _)) _) _ => chkE sc N a e
  | .lst as, .List es _ => chkA sc N as es
  | .tup as, .Tuple es _ _ => chkA sc N as es
  | .fld a _ f, .Attribute e g _ => nmEq f g && nobase e && chkE sc N a e
  | .lc vs tg it t e, .ListComp elt [⟨tgx, iter, ifs, as⟩] scope _ => decide (as = 0) && noset iter && (!it.tup || isTup tgx) && chkI sc N it iter && (unm scope && blkC N sc scope (ownOf N vs)) && chkTg scope N tg tgx && decide (∀ i ∈ tg, i ∈ vs) && chkC (inhS sc scope) N t ifs && chkE (inhS sc scope) N e elt
  | .xa o _ as, e => as.plain && optB (xoSub sc o e) (chkA sc N as)
  | .fst (.cons a (.cons b r)), .JoinedStr (x :: y :: es) _ => chkP sc N (.cons a (.cons b r)) (x :: y :: es)
  | .lc2 vs tg it vs1 tg1 it1 t e, .ListComp elt [⟨tgx, iter, ifs, as⟩, ⟨tgx1, iter1, ifs1, as1⟩] scope _ => decide (as = 0) && decide (as1 = 0) && noset iter && noset iter1 && (!it.tup || isTup tgx) && (!it1.tup || isTup tgx1) && chkI sc N it iter && (unm scope && blkC N sc scope (ownOf N vs)) && chkTg scope N tg tgx && decide (∀ i ∈ tg, i ∈ vs) && ifs.isEmpty && chkI scope N it1 iter1 && chkTg scope N tg1 tgx1 && decide (∀ i ∈ tg1, i ∈ vs1) && decide (∀ i ∈ vs1, i ∈ vs) && chkC scope N t ifs1 && chkE scope N e elt
  | .dnew, .Dict [] [] _ => true
  | .mth _ m _ o as, .Call (.Attribute e g apos) es [] pos => nmEq m g && nobase e && (apos.endLine == pos.line) && nostars es && decide (es.length < 30) && as.plain && chkE sc N o e && chkA sc N as es
  | .cgt x e, .Call (.Name y _) [.Lambda params body scope _] [] _ => nmEq x y && gloB sc y && okNm y && noArgs params && unm scope && LamX.lamSB sc scope && lamNames.any (fun q => mark1 q sc) && chkE scope N e body
  | _, _ => false
def chkA (sc : Scope) (N : List Str) : CEs → List Expr → Bool
  | .nil, [] => true
  | .cons a r, e :: es => nostar e && chkE sc N a e && chkA sc N r es
  | .star a r, .Starred e _ :: es => chkE sc N a e && chkA sc N r es
  | _, _ => false
def chkO (sc : Scope) (N : List Str) : CEo → Option Expr → Bool
  | .none, none => true
  | .some a, some e => chkE sc N a e
  | _, _ => false
def chkC (sc : Scope) (N : List Str) : CEo → List Expr → Bool
  | .none, [] => true
  | .some a, [e] => tst e && chkE sc N a e
  | _, _ => false
def chkI (sc : Scope) (N : List Str) : CI → Expr → Bool
  | .seq a, e => chkE sc N a e
  | .rng a, .Call (.Name y _) [e] [] _ => nmEq "range" y && gloB sc y && nostar e && chkE sc N a e
  | .rng2 a b, .Call (.Name y _) [e, e'] [] _ => nmEq "range" y && gloB sc y && nostar e && nostar e' && chkE sc N a e && chkE sc N b e'
  | .enm a, .Call (.Name y _) [e] [] _ => nmEq "enumerate" y && gloB sc y && nostar e && chkE sc N a e
  | .zip a b, .Call (.Name y _) [e, e'] [] _ => nmEq "zip" y && gloB sc y && nostar e && nostar e' && chkE sc N a e && chkE sc N b e'
  | _, _ => false
def chkP (sc : Scope) (N : List Str) : CEs → List Expr → Bool
  | .nil, [] => true
  | .cons (.con (.str l)) r, .Constant (.str s) _ _ :: es => decide (s.cps.toList = l) && chkP sc N r es
  | .cons a r, .FormattedValue e (Int.negSucc 0) none _ :: es => chkE sc N a e && chkP sc N r es
  | _, _ => false
end

def GlbOk (K : PySem.W.Frag) (mg : Str → Option Value) (x : Str) (d : Da) : Prop := ∃ v u, mg x = some u ∧ RelV v u ∧ ∀ F pa, Dt K F pa v d
def spD (K : PySem.W.Frag) (n : Nat) (f : Fs) : Sp := fun vs H Q E => vs.length = n ∧ ∃ pa F P ds, Same F H ∧ PoolOk F H pa P ∧ pa.T = lamT K ∧ Dts K F pa vs ds ∧ Post K E pa F H (f ds P) Q
def DefOk (P : Program) (w : World) (K : PySem.W.Frag) (mg : Str → Option Value) (base : Heap) (k : Nat) (x : Str) (f : Fs) : Prop :=
  ∃ fd ps, Gn P w K mg base k (He.ga K x) fd ps (spD K ps.length f) ∧ (∀ ds P', f ds P' ≠ .no → ds.length = ps.length) ∧ Binds K fd ps [] ∧ PySem.W.keepIn K (.ref (He.ga K x)) = true ∧ mg x = some (.ref (He.ga K x))
def TyOk (K : PySem.W.Frag) (mg : Str → Option Value) : Ty → Prop
  | .b n => mg (Str.ofString n) = none ∧ bootBuiltins (Str.ofString n) = some (.type n)
  | .c C => mg C = some (.ref (He.ga K C))
def MthOk (P : Program) (w : World) (K : PySem.W.Frag) (mg : Str → Option Value) (base : Heap) (k : Nat) (C m : Str) (f : Fs) : Prop :=
  ∃ g fd ps, Gn P w K mg base k g fd ps (spD K ps.length f) ∧ (∀ ds P', f ds P' ≠ .no → ds.length = ps.length) ∧ Binds K fd ps [] ∧ Meth K (He.ga K C) m g
def PrpOk (P : Program) (w : World) (K : PySem.W.Frag) (mg : Str → Option Value) (base : Heap) (k : Nat) (C m : Str) (f : Fs) : Prop :=
  Cls K (He.ga K C) ∧ ∃ p g fd ps, Gn P w K mg base k g fd ps (spD K ps.length f) ∧ (∀ ds P', f ds P' ≠ .no → ds.length = ps.length) ∧ Binds K fd ps [] ∧ PropOf K (He.ga K C) m p g
def spI (K : PySem.W.Frag) (n : Nat) (C : Str) (g : Fs) : Sp := fun vs H Q E => ∃ x dx zs pa F H0 P ds, vs = .ref x :: zs ∧ vs.length = n ∧ H0 x = none ∧ H0 dx = none ∧ dx ≠ x ∧ H = upd (upd H0 dx (.own x)) x (.ins (He.ga K C) dx []) ∧
  Same F H0 ∧ PoolOk F H0 pa P ∧ pa.T = lamT K ∧ Dts K F pa zs ds ∧ Post K E pa F H0 (g ds P) (fun v H' => v = .ref x → Q .non H')
def MakeOk (P : Program) (w : World) (K : PySem.W.Frag) (mg : Str → Option Value) (base : Heap) (k : Nat) (C : Str) (f : Fs) (bd : FuncData → List Str → Prop) : Prop :=
  ∃ g fd ps, Mk K (He.ga K C) g ∧ Gn P w K mg base k g fd ps (spI K ps.length C f) ∧ (∀ ds P', f ds P' ≠ .no → ds.length + 1 = ps.length) ∧ mg C = some (.ref (He.ga K C)) ∧ bd fd ps
def BindDf (K : PySem.W.Frag) (dfs : List Da) (fd : FuncData) (ps : List Str) : Prop := ∃ dvs ds, Vals dvs ds ∧ Binds K fd ps ds ∧ ∀ F pa, Dts K F pa dvs dfs
def BindKw (K : PySem.W.Frag) (ks : List Str) (pr : List Nat) (fd : FuncData) (ps : List Str) : Prop := pr.length + 1 = ps.length ∧ (∀ i ∈ pr, i < ks.length) ∧
  ∀ (s : Shared) (u : Value) (ws : List Value), K.In s.heap → ws.length = ks.length → BindsTo s fd ⟨[u], ks.zip ws⟩ (ps.zip (u :: pr.map fun i => ws.getD i .none))
def TyFree (K : PySem.W.Frag) (C : Str) : Prop := ∀ n ∈ (["str", "tuple", "list", "int", "bool", "NoneType"] : List String), PySem.W.subIn K (.type n) (.ref (He.ga K C)) = some false
structure NeOk (K : PySem.W.Frag) (C : Str) : Prop where
  ne : PySem.W.findIn K (.ref (He.ga K C)) "__ne__" = some (some (.builtin "object.__ne__"))
  ob : PySem.W.subIn K (.ref (He.ga K C)) (.type "object") = some true
structure CxOk (X : Cx) (E : XK) (sc : Scope) (N : List Str) (k : Nat) : Prop where
  hN : X.N = N
  nd : N.Nodup
  vis : ∀ x, visB sc x = true → Vis X.env.scope x
  glo : ∀ x, gloB sc x = true → Gl X x
  loc : ∀ x, locB sc x = true → Loc X.env.scope x ∧ (X.fn x = true ∨ X.env.scope.names.lookup x = some .local)
  sub : ∀ x, sc.names.lookup x = some .cell ∨ sc.names.lookup x = some .free → X.env.scope.names.lookup x = some .cell ∨ X.env.scope.names.lookup x = some .free
  calm : X.calm = true
  gd : X.A.guards = some []
  rm : Room (k + 1) X.A
  tk : Takes X (fun c d _ H => E c d H)
  qc : ∀ q, mark1 q sc = true → X.env.qual = q ++ ".<locals>." ∧ X.env.code = .ref (He.cT X.K (q, none)).1
def plainT : Expr → Bool
  | .UnaryOp .Not _ _ => false
  | .BoolOp _ _ _ => false
  | .IfExp _ _ _ _ => false
  | .Compare _ _ _ _ => false
  | _ => true
def isBO : Expr → Bool
  | .BoolOp _ _ _ => true
  | _ => false
structure Snd (X : Cx) (E : XK) (e : Expr) (f : Ev → Out Da) : Prop where
  pe : PE X e (up X.K E f)
  pt : tst e = true → PT X e (upT X.K E fun S => trus (f S))
  pw : isBO e = true → PW X e (upT X.K E fun S => trus (f S))
def PEs (X : Cx) (E : XK) : CEs → List Expr → Prop
  | .cons a r, e :: es => PE X e (up X.K E (evE a)) ∧ PEs X E r es
  | _, _ => True
def B1M (K : PySem.W.Frag) (mg : Str → Option Value) : B1 → Prop
  | .repr => mg "repr" = none ∧ sysB K = true
  | .len => mg "len" = none
  | .tuple => mg "tuple" = none
  | .list => mg "list" = none
  | .str => mg "str" = none
  | .int => mg "int" = none
  | .abs => mg "abs" = none
  | .all => mg "all" = none
  | .any => mg "any" = none
theorem B1M.nm {K : PySem.W.Frag} {mg : Str → Option Value} {o : B1} (h : B1M K mg o) : mg (b1Nm o) = none := by
  cases o <;> first | exact h | exact h.1
theorem B1M.sb {K : PySem.W.Frag} {mg : Str → Option Value} {o : B1} (h : B1M K mg o) (e : o = .repr) : sysB K = true := by
  subst e; exact h.2
def HandOk (P : Program) (w : World) (K : PySem.W.Frag) (mg : Str → Option Value) (base : Heap) (k : Nat) (sub : Scope → Expr → Option (List Expr)) (f : Fs) : Prop :=
  ∀ (X : Cx) (E : XK) (sc : Scope) (N : List Str) (e : Expr) (es : List Expr) (as : CEs), X.prog = P → X.w = w → X.K = K → X.mg = mg → X.base = base → CxOk X E sc N k → sub sc e = some es → as.plain = true → chkA sc N as es = true → PA X es (upA X.K E (evA as)) → PEs X E as es →
    Snd X E e (fun S => (evA as S).bind fun ds P => f ds P)
def XoOk (P : Program) (w : World) (K : PySem.W.Frag) (mg : Str → Option Value) (base : Heap) (k : Nat) : XO → Fs → Prop
  | .len C, f => mg "len" = none ∧ MthOk P w K mg base k C "__len__" f
  | .str C, f => mg "str" = none ∧ MthOk P w K mg base k C "__str__" f
  | .repr C, f => mg "repr" = none ∧ MthOk P w K mg base k C "__repr__" f
  | .bool C, f => mg "bool" = none ∧ MthOk P w K mg base k C "__bool__" f
  | .eq C, f => TyFree K C ∧ MthOk P w K mg base k C "__eq__" f
  | .ne C, f => NeOk K C ∧ MthOk P w K mg base k C "__eq__" f
  | .prp C m, f => PrpOk P w K mg base k C m f
  | .hand sub, f => HandOk P w K mg base k sub f
  | .mk C dfs, f => MakeOk P w K mg base k C f (BindDf K dfs)
  | .mkK C ks pr, f => MakeOk P w K mg base k C f (BindKw K ks pr)
  | .lzip, _ => mg "list" = none ∧ mg "zip" = none
  | .bor x, f => DefOk P w K mg base k x f
def CgOk (P : Program) (w : World) (K : PySem.W.Frag) (mg : Str → Option Value) (base : Heap) (j : Nat) (x : Str) : Prop :=
  ∀ (X : Cx) (E : XK) (sc scope : Scope) (N : List Str) (q : Str) (params : Arguments) (body : Expr) (p lpos pos : Pos) (g : Ev → Out Da), X.prog = P → X.w = w → X.K = K → X.mg = mg → X.base = base → CxOk X E sc N (j + 2) → gloB sc x = true → noArgs params = true →
    LamX.LamS X.env.scope scope → q ∈ lamNames → mark1 q sc = true →
    (∀ (A : Around) (outer : List Env) (s : Shared) (H : Hp) (E' : XK) (f c' : Addr), Room (j + 1) (A.deeper (LamX.lamEnv X scope s.heap.objs.size f c')) → A.guards = some [] → PE (LamX.lamCx X A outer s H E' scope f c') body (up X.K E' g)) →
    PE X (.Call (.Name x p) [.Lambda params body scope lpos] [] pos) (up X.K E fun S => cgtQ (g S))
def MmOk (P : Program) (w : World) (K : PySem.W.Frag) (mg : Str → Option Value) (base : Heap) (k : Nat) (C m : Str) (f : Fs) (bd : FuncData → List Str → Prop) : Prop :=
  Cls K (He.ga K C) ∧ ∃ g fd ps, Gn P w K mg base k g fd ps (spD K ps.length f) ∧ (∀ ds P', f ds P' ≠ .no → ds.length = ps.length) ∧ bd fd ps ∧ Meth K (He.ga K C) m g
def CgtOk (k : Nat) (A : Nat → Prop) : Prop := ∃ j, k = j + 2 ∧ A j
mutual
def okE (P : Program) (w : World) (K : PySem.W.Frag) (mg : Str → Option Value) (base : Heap) (k : Nat) : CE → Prop
  | .var _ => True
  | .glb x d => GlbOk K mg x d
  | .con _ => True
  | .b2 _ a b => okE P w K mg base k a ∧ okE P w K mg base k b
  | .chn _ _ a b c => okE P w K mg base k a ∧ okE P w K mg base k b ∧ okE P w K mg base k c
  | .neg a => okE P w K mg base k a
  | .notv a => okE P w K mg base k a
  | .andv a b => okE P w K mg base k a ∧ okE P w K mg base k b
  | .orv a b => okE P w K mg base k a ∧ okE P w K mg base k b
  | .ite t a b => okE P w K mg base k t ∧ okE P w K mg base k a ∧ okE P w K mg base k b
  | .call x f as => DefOk P w K mg base k x f ∧ okA P w K mg base k as
  | .b1 o a => B1M K mg o ∧ okE P w K mg base k a
  | .bi o a b => mg (biNm o) = none ∧ okE P w K mg base k a ∧ okE P w K mg base k b
  | .isi a T => mg "isinstance" = none ∧ IsiFact K T ∧ TyOk K mg T ∧ okE P w K mg base k a
  | .mt _ a b => okE P w K mg base k a ∧ okE P w K mg base k b
  | .ix a b => okE P w K mg base k a ∧ okE P w K mg base k b
  | .sl a lo hi => okE P w K mg base k a ∧ okO P w K mg base k lo ∧ okO P w K mg base k hi
  | .rev a => okE P w K mg base k a
  | .lst as => okA P w K mg base k as
  | .tup as => okA P w K mg base k as
  | .fld a C f => Cls K (He.ga K C) ∧ NoAttr K (He.ga K C) f ∧ okE P w K mg base k a
  | .xa o f as => XoOk P w K mg base k o f ∧ okA P w K mg base k as
  | .lc _ _ it t e => okI P w K mg base k it ∧ okO P w K mg base k t ∧ okE P w K mg base k e
  | .fst ps => okA P w K mg base k ps
  | .lc2 _ _ it _ _ it1 t e => okI P w K mg base k it ∧ okI P w K mg base k it1 ∧ okO P w K mg base k t ∧ okE P w K mg base k e
  | .dnew => True
  | .cgt x e => CgtOk k fun j => CgOk P w K mg base j x ∧ okE P w K mg base j e
  | .mth C m f o as => MmOk P w K mg base k C m f (fun fd ps => Binds K fd ps []) ∧ okE P w K mg base k o ∧ okA P w K mg base k as
def okA (P : Program) (w : World) (K : PySem.W.Frag) (mg : Str → Option Value) (base : Heap) (k : Nat) : CEs → Prop
  | .nil => True
  | .cons a r => okE P w K mg base k a ∧ okA P w K mg base k r
  | .star a r => okE P w K mg base k a ∧ okA P w K mg base k r
def okO (P : Program) (w : World) (K : PySem.W.Frag) (mg : Str → Option Value) (base : Heap) (k : Nat) : CEo → Prop
  | .none => True
  | .some a => okE P w K mg base k a
def okI (P : Program) (w : World) (K : PySem.W.Frag) (mg : Str → Option Value) (base : Heap) (k : Nat) : CI → Prop
  | .seq a => okE P w K mg base k a
  | .rng a => mg "range" = none ∧ okE P w K mg base k a
  | .rng2 a b => mg "range" = none ∧ okE P w K mg base k a ∧ okE P w K mg base k b
  | .enm a => mg "enumerate" = none ∧ okE P w K mg base k a
  | .zip a b => mg "zip" = none ∧ okE P w K mg base k a ∧ okE P w K mg base k b
end
end DL
namespace PySem
open AutoSeq1 (wpAny_loadPart')
theorem dl_enum_newT (l : Addr) (items : Array Value) (n : Nat) (dct : Option Addr) (sl : Array (Option Value)) :
    Meets (Builtin.«enumerate.__new__» ⟨[.type "enumerate", .ref l], []⟩) (fun _ R s => s.heap.get? l = some { cls := .type "tuple", dict := dct, data := .seq items n, slots := sl } ∧
      R (.ok (.ret (.ref (s.heap.push { cls := .type "tuple_iterator", data := .fields #[.ref l, .int 0 0] }).objs.size)))
        { s with heap := Heap.push (s.heap.push { cls := .type "tuple_iterator", data := .fields #[.ref l, .int 0 0] }) { cls := .type "enumerate", data := .fields #[.none, .bool false, .ref s.heap.objs.size, rawInt 0, .none, .none] } }) :=
  .of_wp fun prog w A R s h => by
    obtain ⟨hp, g, d, tk, os⟩ := s
    obtain ⟨hl, h⟩ := h
    have hsub := sub_enumerate
    have hT : Heap.IsTuple (Shared.heap ⟨hp, g, d, tk, os⟩) l items := ⟨_, hl, rfl, n, rfl⟩
    wp_walk using wpAny_loadPart' hl
    refine wpAny_stack_any fun st => wpAny_pure ?_
    split
    · rename_i c _ _ _ _ _
      cases (c == Value.type "enumerate")
      · wp_walk using wpAny_loadPart' hl, wpAny_pyIter_tuple hT
        exact ⟨_, rfl, h⟩
      · wp_walk using wpAny_loadPart' hl, wpAny_pyIter_tuple hT
        exact ⟨_, rfl, h⟩
    · wp_walk using wpAny_loadPart' hl, wpAny_pyIter_tuple hT
      exact ⟨_, rfl, h⟩
section
variable {prog : Program} {w : World} {A : Around} {E : Value → Shared → Prop} {s : Shared}
theorem dl_call_enumT {l : Addr} {items : Array Value} {Q : Value → Shared → Prop} (hL : s.heap.IsTuple l items)
    (h : ∀ h', IsEnum h' (s.heap.objs.size + 1) s.heap.objs.size 0 .none → h'.IsTupleIter s.heap.objs.size l 0 →
      (∀ b o, s.heap.get? b = some o → h'.get? b = some o) → Q (.ref (s.heap.objs.size + 1)) { s with heap := h' }) :
    wpAny (model prog w) A (call (.type "enumerate") [.ref l]) Q E s := by
  obtain ⟨⟨c, dct, dt, sl⟩, hl, hc, n, hd⟩ := hL
  replace hc : c = .type "tuple" := hc
  replace hd : dt = .seq items n := hd
  subst hc hd
  refine callType_new F.called_enumerate (by decide) (F.typeCall_enumerate_1 _) (F.newCall_enumerate_1 _)
    (fun obj => F.args_object_init_2 obj _) F.entry_enumerate_new (dl_enum_newT l items n dct sl) ⟨hl, ?_⟩
  have hz : (s.heap.push { cls := .type "tuple_iterator", data := .fields #[.ref l, .int 0 0] }).objs.size = s.heap.objs.size + 1 := Heap.size_push ..
  show _ ∧ _
  rw [hz]
  have he : IsEnum ((s.heap.push { cls := .type "tuple_iterator", data := .fields #[.ref l, .int 0 0] }).push
      { cls := .type "enumerate", data := .fields #[.none, .bool false, .ref s.heap.objs.size, rawInt 0, .none, .none] })
      (s.heap.objs.size + 1) s.heap.objs.size 0 .none := by
    have q := Heap.get?_push_size (s.heap.push { cls := .type "tuple_iterator", data := .fields #[.ref l, .int 0 0] })
      (o := { cls := .type "enumerate", data := .fields #[.none, .bool false, .ref s.heap.objs.size, rawInt 0, .none, .none] }) rfl
    rw [hz] at q
    exact q
  exact ⟨⟨_, he, rfl⟩, h _ he ⟨_, Heap.get?_push_of_some _ (Heap.get?_push_size _ rfl), rfl, rfl⟩ fun b o x => Heap.get?_push_of_some _ (Heap.get?_push_of_some _ x)⟩
end
end PySem
namespace DL
open PySem PySem.Spec PyProof.Rows L2

def Itet (K : PySem.W.Frag) (a : Addr) : It where
  go := fun i H => ∃ (xs : List V) (x : V), SqT K H a xs ∧ xs[i]? = some x
  yld := fun i H v H' => ∃ T x, v = .ref T ∧ H T = none ∧ H' = upd H T (.tup [.int (i : Nat), x]) ∧ ∀ xs, SqT K H a xs → xs[i]? = some x
  stop := fun i H => ∃ xs : List V, SqT K H a xs ∧ i = xs.length
theorem turn_enumT {P : Program} {w : World} {K : PySem.W.Frag} {elts : List Expr} {kk : Nat} {tpos : Pos} (a e it : Addr) (hai : a ≠ it) (hae : a ≠ e) :
    Turn P w K (.Tuple elts kk tpos) (Itet K a) [e, it] e (fun i h => (∃ old, IsEnum h e it ((i : Nat) : Int) old) ∧ h.IsTupleIter it a i ∧ e ≠ it) where
  mem := by simp
  obj := fun i h st b hb => by
    obtain ⟨⟨old, he⟩, ⟨o, ho, hc, hd⟩, _⟩ := st
    have z : b = e ∨ b = it := by simpa using hb
    rcases z with rfl | rfl
    · exact ⟨_, he, fun v q => nomatch q⟩
    · exact ⟨o, ho, fun v q => by rw [hd] at q; cases q⟩
  keep := fun i h h' st k => by
    obtain ⟨⟨old, he⟩, hi, hne⟩ := st
    exact ⟨⟨old, k e (by simp) _ he⟩, hi.at fun o q => k it (by simp) o q, hne⟩
  item := by
    intro X hP hw hK hc i pins s σ H E I hf st hg
    subst hP hw hK
    obtain ⟨⟨old, he⟩, hit, hne⟩ := st
    obtain ⟨xs, x, hq, hx⟩ := hg
    obtain ⟨its, rv, p, hz⟩ := I.tuple hq
    obtain ⟨u, hu, ru⟩ := rv.get hx
    have hT : s.heap.IsTuple a its.toArray := p
    have hel : e < s.heap.objs.size := Heap.lt_size he
    have hil : it < s.heap.objs.size := by obtain ⟨_, q, _⟩ := hit; exact Heap.lt_size q
    have hlt : i < its.toArray.size := by
      have := (List.getElem?_eq_some_iff.mp hu).1
      simpa using this
    refine wpAny_pyNext_enum_itemD (Draws.tuple (show X.A.in1.handled = none from I.ok.hd hc) it a hai its.toArray) he ⟨hit, hT⟩ hlt hne (by simp [hne, hae.symm]) fun u' h' tk hu' ho hit' hT' hsz hk => ?_
    have eu : u' = u := by
      have h1 : its[i]? = some u' := by simpa using hu'
      rw [hu] at h1
      exact (Option.some.inj h1).symm
    subst eu
    refine ⟨_, rfl, wpAny_letOwnedTupleGo_enum (s := { s with heap := h', toks := tk + 1 }) ho fun h'' he' sb => ?_⟩
    have hT2 : h''.get? s.heap.objs.size = some { cls := .type "tuple", data := .seq #[.int i tk, u'] } := (sb.2 _ (Nat.ne_of_gt hel)).trans hT'
    have new : ObjOk X.prog X.w (upd H s.heap.objs.size (.tup [.int (i : Nat), x])) h'' s.heap.objs.size (.tup [.int (i : Nat), x]) :=
      ⟨by show 2 ≤ sizeLine; decide, [.int i tk, u'], .cons ⟨_, rfl⟩ (.cons ru .nil), ⟨_, hT2, rfl, _, rfl⟩⟩
    have J : Inv X pins σ (upd H s.heap.objs.size (.tup [.int (i : Nat), x])) { s with heap := h'', toks := tk + 1 } :=
      I.turnedNew (ch := [e, it]) (fun b ob hb q => (sb.2 b (fun z => hb (by simp [z]))).trans (hk b ob (fun z => hb (by simp [z])) (fun z => hb (by simp [z])) q)) hf (Nat.le_refl _) new
    refine ⟨.ref s.heap.objs.size, _, J, rfl, ⟨_, x, rfl, I.hok.fresh (Nat.le_refl _), rfl, fun ys hy => by rw [I.tuple_inj hy hq]; exact hx⟩,
      ⟨⟨u', ?_⟩, hit'.1.at fun o q => (sb.2 it (Ne.symm hne)).trans q, hne⟩, fun b hb => ?_⟩
    · have e1 : ((i + 1 : Nat) : Int) = (i : Int) + 1 := by omega
      rw [e1]
      exact he'
    · have hb' : b < s.heap.objs.size := by
        have z : b = e ∨ b = it := by simpa using hb
        rcases z with rfl | rfl
        · exact hel
        · exact hil
      rw [upd_ne (Nat.ne_of_lt hb')]
      exact (hf b hb).1
  done := by
    intro X hP hw hK hc i pins s σ H E I hf st hg
    subst hP hw hK
    obtain ⟨⟨old, he⟩, hit, hne⟩ := st
    obtain ⟨xs, hq, hx⟩ := hg
    obtain ⟨its, rv, p, hz⟩ := I.tuple hq
    have hT : s.heap.IsTuple a its.toArray := p
    obtain ⟨f0, f1, f2, f3, f4, f5⟩ := hf it (by simp)
    have hl := rv.length
    have hn : i = its.toArray.size := by simp; omega
    subst hn
    exact wpAny_pyNext_enum_endD (Draws.tuple (show X.A.in1.handled = none from I.ok.hd hc) it a hai its.toArray) he ⟨hit, hT⟩ fun h' eb => ⟨rfl, I.turned (t' := s.toks) (fun b o hb q => eb b o hb q) f0 f1 f3 f4 f5⟩
  self := fun A i s Q E st h => let ⟨⟨_, he⟩, _⟩ := st; wpAny_pyIter_enum he h
def iEnumA (K : PySem.W.Frag) (ta : TA) : TI := fun σ H R => ta σ H fun vs H1 => ∃ a xs, vs = [.ref a] ∧ ((SqL K H1 a xs ∧ R (Ite K a) H1) ∨ (SqT K H1 a xs ∧ R (Itet K a) H1))
theorem pi_enumA {X : Cx} {e : Expr} {ta : TA} {p pos tpos : Pos} {elts : List Expr} {kk : Nat} (hg : Gl X "enumerate") (hm : X.mg "enumerate" = none) (ha : PA X [e] ta) (hs : starEach [e] X.env = [(false, eval e X.env)]) :
    PI X (.Tuple elts kk tpos) (.Call (.Name "enumerate" p) [e] [] pos) (iEnumA X.K ta) := by
  refine ⟨fun pins s σ H R I h => Call_ (ld_blt I hg hm boot_enumerate (PyProof.Rows.callWith_type1 (thn (ha.run pos pins s σ H _ I h) ?_) hs rfl))⟩
  rintro us s1 ⟨vs, H1, I1, r1, a, xs, ex, hcase⟩
  subst ex
  obtain rfl := Vals.ref1 r1
  have out : ∀ b, (b = s1.heap.objs.size + 1 ∨ b = s1.heap.objs.size) → FpOk X pins H1 b := fun b z => by
    have hle : s1.heap.objs.size ≤ b := by
      rcases z with z | z
      · rw [z]; exact Nat.le_add_right _ _
      · rw [z]; exact Nat.le_refl _
    exact I1.fpOk hle (I1.hok.fresh hle)
  rcases hcase with ⟨hq, q⟩ | ⟨hq, q⟩
  · obtain ⟨its, rv, p', hz⟩ := I1.list hq
    refine call_enumerate_list p'.isList fun h' he hit hsz hk => wpAny_pyIter_enum he ?_
    have J : Inv X pins σ H1 { s1 with heap := h' } := I1.kept (t' := s1.toks) hk
    exact ⟨s1.heap.objs.size + 1, [s1.heap.objs.size + 1, s1.heap.objs.size], _, _, H1, rfl, J, turn_enum a (s1.heap.objs.size + 1) s1.heap.objs.size, ⟨⟨.none, he⟩, hit, Nat.succ_ne_self _⟩, fun b hb => out b (by simpa using hb), q⟩
  · obtain ⟨its, rv, p', hz⟩ := I1.tuple hq
    have hT : s1.heap.IsTuple a its.toArray := p'
    have hal : a < s1.heap.objs.size := by obtain ⟨_, q, _⟩ := hT; exact Heap.lt_size q
    refine dl_call_enumT hT fun h' he hit hk => wpAny_pyIter_enum he ?_
    have J : Inv X pins σ H1 { s1 with heap := h' } := I1.kept (t' := s1.toks) hk
    exact ⟨s1.heap.objs.size + 1, [s1.heap.objs.size + 1, s1.heap.objs.size], _, _, H1, rfl, J,
      turn_enumT a (s1.heap.objs.size + 1) s1.heap.objs.size (Nat.ne_of_lt hal) (Nat.ne_of_lt (Nat.lt_succ_of_lt hal)), ⟨⟨.none, he⟩, hit, Nat.succ_ne_self _⟩, fun b hb => out b (by simpa using hb), q⟩
theorem walk_enumT {K : PySem.W.Frag} {a : Addr} {xs : List V} : Walk (Itet K a) xs.length (fun H => SqT K H a xs) (YPair (fun i => some (.int (i : Nat))) (fun i => xs[i]?)) where
  goes := fun i H hi hq => ⟨xs, xs[i], hq, List.getElem?_eq_getElem hi⟩
  stops := fun H hq => ⟨xs, hq, rfl⟩
  yields := fun i H x H' hi hq ⟨T, y, e1, e2, e3, e4⟩ => ⟨T, _, y, e1, e2, e3, rfl, e4 xs hq⟩
def iAny (K : PySem.W.Frag) (tl : TE) : TI := fun σ H R => tl σ H fun x H1 =>
  (∃ a xs, x = .ref a ∧ SqL K H1 a xs ∧ R (Itl K a) H1) ∨ (∃ a xs, x = .ref a ∧ SqT K H1 a xs ∧ R (Itt K a) H1) ∨ ∃ z, x = .str z ∧ R (Its z) H1
theorem pi_any {X : Cx} {tg l : Expr} {tl : TE} (hl : PE X l tl) : PI X tg l (iAny X.K tl) := by
  refine ⟨fun pins s σ H R I h => thn (hl.run pins s σ H _ I h) ?_⟩
  rintro v s1 ⟨x, H1, I1, r1, hcase⟩
  have out : ∀ b, b = s1.heap.objs.size → FpOk X pins H1 b := fun b z => by
    subst z
    exact I1.fpOk (Nat.le_refl _) (I1.hok.fresh (Nat.le_refl _))
  rcases hcase with ⟨a, xs, e, hq, q⟩ | ⟨a, xs, e, hq, q⟩ | ⟨z, e, q⟩
  · subst e
    obtain rfl : v = Value.ref a := r1
    obtain ⟨its, rv, p, hz⟩ := I1.list hq
    refine wpAny_pyIter_list p.isList ?_
    exact ⟨s1.heap.objs.size, [s1.heap.objs.size], _, _, H1, rfl, I1.kept (t' := s1.toks) (fun b o e => Heap.get?_push_of_some _ e), turn_list a _, ⟨_, Heap.get?_push_size _ rfl, rfl, rfl⟩, fun b hb => out b (by simpa using hb), q⟩
  · subst e
    obtain rfl : v = Value.ref a := r1
    obtain ⟨its, rv, p, hz⟩ := I1.tuple hq
    refine wpAny_pyIter_tuple (show s1.heap.IsTuple a its.toArray from p) ?_
    exact ⟨s1.heap.objs.size, [s1.heap.objs.size], _, _, H1, rfl, I1.kept (t' := s1.toks) (fun b o e => Heap.get?_push_of_some _ e), turn_tuple a _, ⟨_, Heap.get?_push_size _ rfl, rfl, rfl⟩, fun b hb => out b (by simpa using hb), q⟩
  · subst e
    obtain ⟨t, rfl⟩ : ∃ t, v = Value.str z t := r1
    cases ha : z.cps.all (· < 128)
    · exact wpAny_pyIter_wide ha (pi_one (tk := s1.toks) I1 _ (turn_str _ z t "str_iterator" (.inr rfl)) ⟨_, Heap.get?_push_size _ rfl, rfl, rfl⟩ q)
    · exact wpAny_pyIter_ascii ha (pi_one (tk := s1.toks) I1 _ (turn_str _ z t "str_ascii_iterator" (.inl rfl)) ⟨_, Heap.get?_push_size _ rfl, rfl, rfl⟩ q)

structure Wk (K : PySem.W.Frag) (pa : Pa) (R : Hp → Hp → Prop) (J : It) (ds : List Da) : Prop where
  ex : ∃ G Y, Walk J ds.length G Y ∧ (∀ F H, R F H → Same F H → G H) ∧
    ∀ i F H x H', R F H → Same F H → i < ds.length → Y i H x H' → ∃ d F', ds[i]? = some d ∧ Gr pa F H F' H' ∧ (∀ P, PoolOk F H pa P → PoolOk F' H' pa P) ∧ Dt K F' pa x d
section
variable {K : PySem.W.Frag} {pa : Pa}
theorem Wk.mono {R R' : Hp → Hp → Prop} {J : It} {ds : List Da} (w : Wk K pa R J ds) (h : ∀ F H, R' F H → R F H) : Wk K pa R' J ds := by
  obtain ⟨G, Y, w1, w2, w3⟩ := w.ex
  exact ⟨G, Y, w1, fun F H r s => w2 F H (h _ _ r) s, fun i F H x H' r => w3 i F H x H' (h _ _ r)⟩
theorem wk_list {R : Hp → Hp → Prop} {a : Addr} {vs : List V} {ds : List Da} (hr : ∀ F H, R F H → Same F H → H a = some (.lst vs) ∧ Dts K F pa vs ds) (hl : vs.length = ds.length) : Wk K pa R (Itl K a) ds := by
  refine ⟨_, _, hl ▸ walk_list (K := K) (a := a) (xs := vs), fun F H r s => SqL.of (hr F H r s).1, fun i F H x H' r s hi y => ?_⟩
  obtain ⟨rfl, hx⟩ := y
  obtain ⟨d, e1, e2⟩ := (hr F _ r s).2.getV hx
  exact ⟨d, F, e1, Gr.refl s, fun P p => p, e2⟩
theorem wk_tup {R : Hp → Hp → Prop} {a : Addr} {vs : List V} {ds : List Da} (hr : ∀ F H, R F H → Same F H → SqT K H a vs ∧ Dts K F pa vs ds) (hl : vs.length = ds.length) : Wk K pa R (Itt K a) ds := by
  refine ⟨_, _, hl ▸ walk_tup (K := K) (a := a) (xs := vs), fun F H r s => (hr F H r s).1, fun i F H x H' r s hi y => ?_⟩
  obtain ⟨rfl, hx⟩ := y
  obtain ⟨d, e1, e2⟩ := (hr F _ r s).2.getV hx
  exact ⟨d, F, e1, Gr.refl s, fun P p => p, e2⟩
theorem wk_str {R : Hp → Hp → Prop} (l : List Nat) : Wk K pa R (Its (sg l)) (l.map fun c => Da.str [c]) := by
  have hn : (l.map fun c => Da.str [c]).length = (sg l).cps.size := by simp
  refine ⟨_, _, hn ▸ walk_str (z := sg l), fun F H r s => trivial, fun i F H x H' r s hi y => ?_⟩
  obtain ⟨rfl, c, hc, hx⟩ := y
  subst hx
  refine ⟨.str [c], F, ?_, Gr.refl s, fun P p => p, .str [c]⟩
  have : l[i]? = some c := by simpa using hc
  rw [List.getElem?_map, this]
  rfl
theorem wk_rng {R : Hp → Hp → Prop} (lo : Int) (n : Nat) : Wk K pa R (Itr lo n) (rngL lo n) := by
  have hn : (rngL lo n).length = n := by simp [rngL]
  refine ⟨_, _, (by rw [hn]; exact walk_range (lo := lo) (n := n)), fun F H r s => trivial, fun i F H x H' r s hi y => ?_⟩
  obtain ⟨rfl, hx⟩ := y
  subst hx
  rw [hn] at hi
  refine ⟨.int (lo + i), F, ?_, Gr.refl s, fun P p => p, .int _⟩
  unfold rngL
  rw [List.getElem?_map, List.getElem?_range hi]
  rfl
theorem enmL_len : ∀ (k : Nat) (ds : List Da), (enmL k ds).length = ds.length
  | _, [] => rfl
  | k, _ :: ds => by simp [enmL, enmL_len (k + 1) ds]
theorem enmL_get : ∀ (k : Nat) (ds : List Da) (i : Nat) (d : Da), ds[i]? = some d → (enmL k ds)[i]? = some (.tup [.int ((k + i : Nat) : Int), d])
  | _, [], _, _, h => by simp at h
  | k, x :: ds, 0, d, h => by
    simp at h
    subst h
    simp [enmL]
  | k, x :: ds, i + 1, d, h => by
    simp at h
    have := enmL_get (k + 1) ds i d h
    simp only [enmL, List.getElem?_cons_succ]
    rw [this]
    congr 5
    omega
theorem pair_step {F H H' : Hp} {T : Addr} {x y : V} {d e : Da} (s : Same F H) (hT : H T = none) (eH : H' = upd H T (.tup [x, y])) (hx : Dt K F pa x d) (hy : Dt K F pa y e) :
    ∃ F', Gr pa F H F' H' ∧ (∀ P, PoolOk F H pa P → PoolOk F' H' pa P) ∧ Dt K F' pa (.ref T) (.tup [d, e]) := by
  subst eH
  have hF := s.free hT
  refine ⟨upd F T (.tup [x, y]), ?_, fun P p => (Gr.new s p hT).2, .tup (SqT.of upd_same) (Dts.new hF (.cons hx (.cons hy .nil)))⟩
  refine ⟨fun b u e => ?_, fun b u e => ?_, fun b u e n => ?_, fun b u e => ?_⟩
  · rw [upd_ne (ne_of_none e hF)]; exact e
  · by_cases hb : b = T
    · subst hb; rw [upd_same] at e ⊢; exact e
    · rw [upd_ne hb] at e ⊢; exact s _ _ e
  · rw [upd_ne (ne_of_none e hT)]; exact e
  · by_cases hb : b = T
    · subst hb; exact .inr hT
    · rw [upd_ne hb] at e; exact .inl e
theorem wk_enmL {R : Hp → Hp → Prop} {a : Addr} {vs : List V} {ds : List Da} (hr : ∀ F H, R F H → Same F H → H a = some (.lst vs) ∧ Dts K F pa vs ds) (hl : vs.length = ds.length) : Wk K pa R (Ite K a) (enmL 0 ds) := by
  have hn : (enmL 0 ds).length = vs.length := by rw [enmL_len, hl]
  refine ⟨_, _, hn ▸ walk_enum (K := K) (a := a) (xs := vs), fun F H r s => SqL.of (hr F H r s).1, fun i F H x H' r s hi y => ?_⟩
  obtain ⟨T, u, v, e1, e2, e3, e4, e5⟩ := y
  cases e4
  subst e1
  obtain ⟨d, e6, e7⟩ := (hr F H r s).2.getV e5
  obtain ⟨F', g, p, t⟩ := pair_step s e2 e3 (.int _) e7
  refine ⟨_, F', enmL_get 0 ds i d e6, g, p, ?_⟩
  rw [Nat.zero_add]
  exact t
theorem wk_enmT {R : Hp → Hp → Prop} {a : Addr} {vs : List V} {ds : List Da} (hr : ∀ F H, R F H → Same F H → SqT K H a vs ∧ Dts K F pa vs ds) (hl : vs.length = ds.length) : Wk K pa R (Itet K a) (enmL 0 ds) := by
  have hn : (enmL 0 ds).length = vs.length := by rw [enmL_len, hl]
  refine ⟨_, _, hn ▸ walk_enumT (K := K) (a := a) (xs := vs), fun F H r s => (hr F H r s).1, fun i F H x H' r s hi y => ?_⟩
  obtain ⟨T, u, v, e1, e2, e3, e4, e5⟩ := y
  cases e4
  subst e1
  obtain ⟨d, e6, e7⟩ := (hr F H r s).2.getV e5
  obtain ⟨F', g, p, t⟩ := pair_step s e2 e3 (.int _) e7
  refine ⟨_, F', enmL_get 0 ds i d e6, g, p, ?_⟩
  rw [Nat.zero_add]
  exact t
theorem zipL_len : ∀ xs ys : List Da, (zipL xs ys).length = min xs.length ys.length
  | [], ys => by simp [zipL]
  | _ :: _, [] => by simp [zipL]
  | _ :: xs, _ :: ys => by
    simp only [zipL, List.length_cons, zipL_len xs ys]
    omega
theorem zipL_get : ∀ (xs ys : List Da) (i : Nat) (d e : Da), xs[i]? = some d → ys[i]? = some e → (zipL xs ys)[i]? = some (.tup [d, e])
  | [], _, _, _, _, h, _ => by simp at h
  | _ :: _, [], _, _, _, _, h => by simp at h
  | x :: xs, y :: ys, 0, d, e, h1, h2 => by
    simp at h1 h2
    subst h1 h2
    rfl
  | x :: xs, y :: ys, i + 1, d, e, h1, h2 => by
    simp at h1 h2
    simp only [zipL, List.getElem?_cons_succ]
    exact zipL_get xs ys i d e h1 h2
theorem wk_zip {R : Hp → Hp → Prop} {a b : Addr} {vs ws : List V} {ds es : List Da} (hr : ∀ F H, R F H → Same F H → (H a = some (.lst vs) ∧ Dts K F pa vs ds) ∧ (H b = some (.lst ws) ∧ Dts K F pa ws es))
    (hl : vs.length = ds.length) (hl2 : ws.length = es.length) : Wk K pa R (Itz K a b) (zipL ds es) := by
  refine ⟨_, _, walk_zip (K := K) (a := a) (b := b) (xs := vs) (ys := ws) (by rw [zipL_len, hl, hl2]), fun F H r s => ⟨SqL.of (hr F H r s).1.1, SqL.of (hr F H r s).2.1⟩, fun i F H x H' r s hi y => ?_⟩
  obtain ⟨T, u, v, e1, e2, e3, e4, e5⟩ := y
  subst e1
  obtain ⟨d, d1, d2⟩ := (hr F H r s).1.2.getV e4
  obtain ⟨e, c1, c2⟩ := (hr F H r s).2.2.getV e5
  obtain ⟨F', g, p, t⟩ := pair_step s e2 e3 d2 c2
  exact ⟨_, F', zipL_get ds es i d e d1 c1, g, p, t⟩
end

def PostI (K : PySem.W.Frag) (E : XK) (pa : Pa) (F H : Hp) (o : Out (Bool × List Da)) (R : It → Hp → Prop) : Prop := match o with
  | .ok ds P' => ∀ (J : It) (F' H' : Hp), Gr pa F H F' H' → PoolOk F' H' pa P' → Wk K pa (fun F2 H2 => Gr pa F' H' F2 H2) J ds.2 → (ds.1 = true → Wk K pa (fun F2 _ => Same F' F2) J ds.2) → R J H'
  | .ex C fs ds P' => PostX K E pa F H C fs ds P'
  | .no => False
def upI (K : PySem.W.Frag) (E : XK) (f : Ev → Out (Bool × List Da)) : TI := fun σ H R => ∃ pa F S, Rel K pa F σ H S ∧ PostI K E pa F H (f S) R
theorem PI.imp {X : Cx} {tg e : Expr} {t t' : TI} (h : PI X tg e t) (i : ∀ σ H R, t' σ H R → t σ H R) : PI X tg e t' := ⟨fun pins s σ H R I q => h.run pins s σ H R I (i σ H R q)⟩
theorem Post.bindI {K : PySem.W.Frag} {E : XK} {pa : Pa} {F H : Hp} {o : Out Da} {k : Da → Po → Out (Bool × List Da)} {Q : It → Hp → Prop} (h : PostI K E pa F H (o.bind k) Q) :
    Post K E pa F H o (fun v H1 => ∃ d P1 F1, o = .ok d P1 ∧ Stp K pa F H v d P1 F1 H1 ∧ PostI K E pa F1 H1 (k d P1) Q) := by
  cases o with
  | ok d P' =>
    refine fun v F' H' g p t => ⟨d, P', F', rfl, ⟨g, p, t⟩, ?_⟩
    have h2 : PostI K E pa F H (k d P') Q := h
    cases hk : k d P' with
    | ok ds P2 => rw [hk] at h2; exact fun J F2 H2 g2 p2 w w2 => h2 J F2 H2 (g.trans p g2) p2 w w2
    | ex C fs ds P2 => rw [hk] at h2; exact PostX.rebase g p h2
    | no => rw [hk] at h2; exact h2
  | ex C fs ds P' => exact h
  | no => exact h

section
variable {X : Cx} {E : XK} {K : PySem.W.Frag}
theorem up_op {r : R2} {fa fb : Ev → Out Da} {g : Da → Da → Option Da}
    (hr : ∀ x y H Q, (∃ pa F P d e z, Same F H ∧ PoolOk F H pa P ∧ Dx K F H pa x d ∧ Dx K F H pa y e ∧ g d e = some z ∧ Post K E pa F H (.ok z P) Q) → r x y H Q) (σ : L2.St) (H : Hp) (Q : VK)
    (h : up K E (fun S => (fa S).bind fun x P => (fb (S.wp P)).bind fun y P2 => Out.of (g x y) P2) σ H Q) : tOp r (up K E fa) (up K E fb) σ H Q := by
  obtain ⟨pa, F, S, R, h⟩ := h
  refine ⟨pa, F, S, R, (Post.bind h).mono ?_⟩
  rintro v H1 ⟨d, P1, F1, _, st, h1⟩
  refine ⟨pa, F1, S.wp P1, R.grow st.g st.p, (Post.bind h1).mono ?_⟩
  rintro w H2 ⟨e, P2, F2, _, st2, h2⟩
  cases hz : g d e with
  | none => rw [hz] at h2; exact h2.elim
  | some z => rw [hz] at h2; exact hr _ _ _ _ ⟨pa, F2, P2, d, e, z, st2.g.fh, st2.p, st.t.grow st2.g, st2.t, hz, h2⟩
theorem semB_bin {o : B2} {op : Operator} (h : opB o op = true) : semB o = binaryOp op := by
  cases o <;> cases op <;> first | rfl | cases h
theorem semB_cmp {o : B2} {op : CmpOp} (h : cmB o op = true) : semB o = compareOp op := by
  cases o <;> cases op <;> first | rfl | cases h
theorem marks_of {op : CmpOp} {r : Expr} (h : noset r = true) : behindInMarks op r = false := by
  cases r <;> first | rfl | cases h
theorem g_bin {a b : Expr} {o : B2} {op : Operator} {pos : Pos} {fa fb : Ev → Out Da} (hu : X.A.units + 66 < cLine) (ho : opB o op = true) (ha : PE X a (up X.K E fa)) (hb : PE X b (up X.K E fb)) :
    PE X (.BinOp a op b pos) (up X.K E fun S => (fa S).bind fun x P => (fb (S.wp P)).bind fun y P2 => Out.of (f2 o x y) P2) := by
  have h := o_any (X := X) (E := E) hu o
  rw [semB_bin ho] at h
  exact PE.imp (pe_op h ha hb) (up_op fun x y H Q q => q)
theorem g_cmp {a b : Expr} {o : B2} {op : CmpOp} {pos : Pos} {fa fb : Ev → Out Da} (hu : X.A.units + 66 < cLine) (ho : cmB o op = true) (hn : noset b = true) (ha : PE X a (up X.K E fa)) (hb : PE X b (up X.K E fb)) :
    PE X (.Compare a [op] [b] pos) (up X.K E fun S => (fa S).bind fun x P => (fb (S.wp P)).bind fun y P2 => Out.of (f2 o x y) P2) := by
  have h := o_any (X := X) (E := E) hu o
  rw [semB_cmp ho] at h
  exact PE.imp (pe_cmpR h ha hb (marks_of hn)) (up_op fun x y H Q q => q)
theorem cmp_bl {o : B2} {op : CmpOp} (ho : cmB o op = true) {x y z : Da} (h : f2 o x y = some z) : ∃ b, z = .bl b := by
  have mp : ∀ {q : Option Bool} {g : Bool → Bool}, q.map (fun b => Da.bl (g b)) = some z → ∃ b, z = .bl b := fun {q g} e => by
    cases q with
    | none => cases e
    | some b => cases e; exact ⟨_, rfl⟩
  have cq : ∀ {f : Int → Int → Bool}, cmpQ f x y = some z → ∃ b, z = .bl b := fun {f} e => by
    unfold cmpQ at e
    split at e
    · cases e; exact ⟨_, rfl⟩
    · cases e
  cases o with
  | eq => exact mp (q := eqQ x y) (g := fun b => b) h
  | ne => exact mp (q := eqQ x y) (g := fun b => !b) h
  | lt => exact cq h
  | le => exact cq h
  | gt => exact cq h
  | ge => exact cq h
  | inn => exact mp (q := inQ x y) (g := fun b => b) h
  | nin => exact mp (q := inQ x y) (g := fun b => !b) h
  | is => exact mp (q := isQ x y) (g := fun b => b) h
  | isn => exact mp (q := isQ x y) (g := fun b => !b) h
  | _ => cases op <;> cases ho
theorem g_tcmp {a b : Expr} {o : B2} {op : CmpOp} {pos : Pos} {fa fb : Ev → Out Da} (hu : X.A.units + 66 < cLine) (ho : cmB o op = true) (hn : noset b = true) (ha : PE X a (up X.K E fa)) (hb : PE X b (up X.K E fb)) :
    PT X (.Compare a [op] [b] pos) (upT X.K E fun S => trus ((fa S).bind fun x P => (fb (S.wp P)).bind fun y P2 => Out.of (f2 o x y) P2)) := by
  have h := o_any (X := X) (E := E) hu o
  rw [semB_cmp ho] at h
  refine PT.imp (pt_cmpR h ha hb (marks_of hn)) fun σ H Q q => ?_
  refine up_op (fun x y H Q q => q) σ H _ ?_
  obtain ⟨pa, F, S, R, q⟩ := q
  refine ⟨pa, F, S, R, ?_⟩
  refine (Post.bindT q).mono ?_
  rintro v H1 ⟨d, P1, F1, e0, st, q1⟩
  have hz : ∃ b, d = .bl b := by
    cases h1 : fa S with
    | ok x1 P2 =>
      rw [h1] at e0
      cases h2 : fb (S.wp P2) with
      | ok y1 P3 =>
        have e1 : ((fb (S.wp P2)).bind fun y P2 => Out.of (f2 o x1 y) P2) = .ok d P1 := e0
        rw [h2] at e1
        cases h3 : f2 o x1 y1 with
        | none =>
          have e2 : Out.of (f2 o x1 y1) P3 = .ok d P1 := e1
          rw [h3] at e2
          cases e2
        | some z =>
          have e2 : Out.of (f2 o x1 y1) P3 = .ok d P1 := e1
          rw [h3] at e2
          cases e2
          exact cmp_bl ho h3
      | ex _ _ _ _ =>
        have e1 : ((fb (S.wp P2)).bind fun y P2 => Out.of (f2 o x1 y) P2) = .ok d P1 := e0
        rw [h2] at e1
        cases e1
      | no =>
        have e1 : ((fb (S.wp P2)).bind fun y P2 => Out.of (f2 o x1 y) P2) = .ok d P1 := e0
        rw [h2] at e1
        cases e1
    | ex _ _ _ _ => rw [h1] at e0; cases e0
    | no => rw [h1] at e0; cases e0
  obtain ⟨b', rfl⟩ := hz
  exact ⟨b', Dt.bl_inv st.t, PostT.now st.g.fh st.p q1⟩
theorem up_chain {r r' : R2} {fa fb fc : Ev → Out Da} {o o' : B2} (hr : ∀ x y H Q, rB K E o x y H Q → r x y H Q) (hr' : ∀ x y H Q, rB K E o' x y H Q → r' x y H Q) (σ : L2.St) (H : Hp) (Q : VK)
    (h : up K E (fun S => (fa S).bind fun x P => (fb (S.wp P)).bind fun y P2 => (Out.of (f2 o x y) P2).bind fun z P3 => match z with
    | .bl true => (fc (S.wp P3)).bind fun u P4 => Out.of (f2 o' y u) P4
    | .bl false => .ok (.bl false) P3
    | _ => .no) σ H Q) : tChain r r' (up K E fa) (up K E fb) (up K E fc) σ H Q := by
  obtain ⟨pa, F, S, R, h⟩ := h
  refine ⟨pa, F, S, R, (Post.bind h).mono ?_⟩
  rintro v H1 ⟨d, P1, F1, _, st, h1⟩
  have R1 := R.grow st.g st.p
  refine ⟨pa, F1, S.wp P1, R1, (Post.bind h1).mono ?_⟩
  rintro w H2 ⟨e, P2, F2, _, st2, h2⟩
  have R2' := R1.grow st2.g st2.p
  refine hr _ _ _ _ ?_
  cases hz : f2 o d e with
  | none => rw [hz] at h2; exact h2.elim
  | some z =>
    rw [hz] at h2
    refine ⟨pa, F2, P2, d, e, z, st2.g.fh, st2.p, st.t.grow st2.g, st2.t, hz, ?_⟩
    intro v3 F3 H3 g3 p3 t3
    have h3 := Post.rebase g3 p3 h2
    cases z with
    | bl k =>
      refine ⟨k, Dt.bl_inv t3, ?_⟩
      cases k with
      | true =>
        rw [if_pos rfl]
        have h3' : Post K E pa F3 H3 ((fc (S.wp P2)).bind fun u P4 => Out.of (f2 o' e u) P4) Q := h3
        refine ⟨pa, F3, S.wp P2, R2'.grow g3 p3, (Post.bind h3').mono ?_⟩
        rintro v4 H4 ⟨d4, P4, F4, _, st4, h4⟩
        refine hr' _ _ _ _ ?_
        cases hz4 : f2 o' e d4 with
        | none => rw [hz4] at h4; exact h4.elim
        | some z4 =>
          rw [hz4] at h4
          exact ⟨pa, F4, P4, e, d4, z4, st4.g.fh, st4.p, (st2.t.grow g3).grow st4.g, st4.t, hz4, h4⟩
      | false =>
        rw [if_neg (by simp)]
        exact Post.now g3.fh p3 h3 (Dx.of (.bl false))
    | _ => exact h3.elim
theorem g_chn {a b c : Expr} {o o' : B2} {op op' : CmpOp} {pos : Pos} {fa fb fc : Ev → Out Da} (hu : X.A.units + 66 < cLine) (ho : cmB o op = true) (ho' : cmB o' op' = true) (hn : noset c = true) (ha : PE X a (up X.K E fa)) (hb : PE X b (up X.K E fb)) (hc : PE X c (up X.K E fc)) :
    PE X (.Compare a [op, op'] [b, c] pos) (up X.K E fun S => (fa S).bind fun x P => (fb (S.wp P)).bind fun y P2 => (Out.of (f2 o x y) P2).bind fun z P3 => match z with
    | .bl true => (fc (S.wp P3)).bind fun u P4 => Out.of (f2 o' y u) P4
    | .bl false => .ok (.bl false) P3
    | _ => .no) := by
  have h := o_any (X := X) (E := E) hu o
  rw [semB_cmp ho] at h
  have h' := o_any (X := X) (E := E) hu o'
  rw [semB_cmp ho'] at h'
  exact PE.imp (pe_chain h h' ha hb hc (by show behindInMarks op' c = false; exact marks_of hn)) (up_chain (fun x y H Q q => q) fun x y H Q q => q)
theorem chn_bl {fa fb fc : Ev → Out Da} {o o' : B2} {op' : CmpOp} (ho' : cmB o' op' = true) {S : Ev} {d : Da} {P : Po}
    (h : ((fa S).bind fun x P => (fb (S.wp P)).bind fun y P2 => (Out.of (f2 o x y) P2).bind fun z P3 => match z with
    | .bl true => (fc (S.wp P3)).bind fun u P4 => Out.of (f2 o' y u) P4
    | .bl false => .ok (.bl false) P3
    | _ => .no) = Out.ok d P) : ∃ b, d = .bl b := by
  cases h1 : fa S with
  | ok x P1 =>
    rw [h1, Out.bind_ok] at h
    cases h2 : fb (S.wp P1) with
    | ok y P2 =>
      rw [h2, Out.bind_ok] at h
      cases h3 : f2 o x y with
      | none => rw [h3] at h; cases h
      | some z =>
        rw [h3, Out.of_some, Out.bind_ok] at h
        cases z with
        | bl k => cases k with
          | true =>
            have h4 : ((fc (S.wp P2)).bind fun u P4 => Out.of (f2 o' y u) P4) = Out.ok d P := h
            cases h5 : fc (S.wp P2) with
            | ok u P4 =>
              rw [h5, Out.bind_ok] at h4
              cases h6 : f2 o' y u with
              | none => rw [h6] at h4; cases h4
              | some z' => rw [h6] at h4; cases h4; exact cmp_bl ho' h6
            | ex _ _ _ _ => rw [h5] at h4; cases h4
            | no => rw [h5] at h4; cases h4
          | false => cases h; exact ⟨_, rfl⟩
        | _ => cases h
    | ex _ _ _ _ => rw [h2] at h; cases h
    | no => rw [h2] at h; cases h
  | ex _ _ _ _ => rw [h1] at h; cases h
  | no => rw [h1] at h; cases h
theorem g_tb {e : Expr} {f : Ev → Out Da} {t : TE} (hp : PT X e (tTest t)) (hi : ∀ σ H Q, up X.K E f σ H Q → t σ H Q) (hb : ∀ S d P, f S = .ok d P → ∃ b, d = .bl b) : PT X e (upT X.K E fun S => trus (f S)) := by
  refine PT.imp hp fun σ H Q q => hi σ H _ ?_
  obtain ⟨pa, F, S, R, q⟩ := q
  refine ⟨pa, F, S, R, (Post.bindT q).mono ?_⟩
  rintro v H1 ⟨d, P1, F1, e0, st, q1⟩
  obtain ⟨b', rfl⟩ := hb S d P1 e0
  exact ⟨b', Dt.bl_inv st.t, PostT.now st.g.fh st.p q1⟩
theorem g_tchn {a b c : Expr} {o o' : B2} {op op' : CmpOp} {pos : Pos} {fa fb fc : Ev → Out Da} (hu : X.A.units + 66 < cLine) (ho : cmB o op = true) (ho' : cmB o' op' = true) (hn : noset c = true) (ha : PE X a (up X.K E fa)) (hb : PE X b (up X.K E fb)) (hc : PE X c (up X.K E fc)) :
    PT X (.Compare a [op, op'] [b, c] pos) (upT X.K E fun S => trus ((fa S).bind fun x P => (fb (S.wp P)).bind fun y P2 => (Out.of (f2 o x y) P2).bind fun z P3 => match z with
    | .bl true => (fc (S.wp P3)).bind fun u P4 => Out.of (f2 o' y u) P4
    | .bl false => .ok (.bl false) P3
    | _ => .no)) := by
  have h := o_any (X := X) (E := E) hu o
  rw [semB_cmp ho] at h
  have h' := o_any (X := X) (E := E) hu o'
  rw [semB_cmp ho'] at h'
  exact g_tb (pt_chain h h' ha hb hc (by show behindInMarks op' c = false; exact marks_of hn)) (up_chain (fun x y H Q q => q) fun x y H Q q => q) fun S d P e => chn_bl ho' e
theorem g_var {i : Nat} {x : Str} {pos : Pos} (hN : X.N[i]? = some x) (hv : Vis X.env.scope x) (hx : okNm x = true) : PE X (.Name x pos) (up X.K E (evE (.var i))) := by
  simp only [okNm, Bool.and_eq_true, Bool.not_eq_true'] at hx
  refine PE.imp (pe_var hN hv hx.1.1 hx.1.2) fun σ H Q q => ?_
  obtain ⟨pa, F, S, R, h⟩ := q
  unfold evE at h
  cases hs : S.sl[i]? with
  | none => rw [hs] at h; exact h.elim
  | some sv =>
    rw [hs] at h
    cases sv with
    | dat d =>
      obtain ⟨v, h1, h2⟩ := R.sl i d hs
      exact ⟨v, h1, Post.now R.fh R.po h (Dx.of h2)⟩
    | own ds =>
      obtain ⟨a, xs, h1, h2, h3, h4, h5⟩ := R.ow i ds hs
      exact ⟨.ref a, h1, Post.now R.fh R.po h ⟨a, xs, rfl, h2, h3, h4, h5⟩⟩
    | un => exact h.elim
    | slf C fs ds => exact h.elim
theorem g_glb {x : Str} {d : Da} {pos : Pos} (hg : Gl X x) (hx : okNm x = true) (h : GlbOk X.K X.mg x d) : PE X (.Name x pos) (up X.K E (evE (.glb x d))) := by
  simp only [okNm, Bool.and_eq_true, Bool.not_eq_true'] at hx
  obtain ⟨v, u, h1, h2, h3⟩ := h
  refine PE.imp (pe_glob hg h1 h2 hx.1.1) fun σ H Q q => ?_
  obtain ⟨pa, F, S, R, h⟩ := q
  exact Post.now R.fh R.po h (Dx.of (h3 F pa))
theorem g_con {d : Da} {c : Const} {k : Nat} {pos : Pos} (h : conB d c = true) : PE X (.Constant c k pos) (up X.K E (evE (.con d))) := by
  have fin : ∀ {v : V}, PE X (.Constant c k pos) (tC v) → (∀ F pa, Dt X.K F pa v d) → PE X (.Constant c k pos) (up X.K E (evE (.con d))) := fun {v} hp hd => by
    refine PE.imp hp fun σ H Q q => ?_
    obtain ⟨pa, F, S, R, h⟩ := q
    exact Post.now R.fh R.po h (Dx.of (hd F pa))
  cases d with
  | non => cases c <;> first | exact fin pe_non fun _ _ => .non | cases h
  | bl a => cases c with
    | bool b =>
      have e : a = b := eq_of_beq h
      subst e
      exact fin pe_bl fun _ _ => .bl a
    | _ => cases h
  | int i => cases c with
    | int j =>
      have e : i = j := of_decide_eq_true h
      subst e
      exact fin pe_int fun _ _ => .int i
    | _ => cases h
  | str l => cases c with
    | str s =>
      have e : s.cps.toList = l := of_decide_eq_true h
      subst e
      refine fin pe_str fun F pa => ?_
      have := Dt.str (K := X.K) (F := F) (pa := pa) s.cps.toList
      rw [sg_tl] at this
      exact this
    | _ => cases h
  | _ => cases c <;> cases h
theorem g_neg {a : Expr} {pos : Pos} {fa : Ev → Out Da} (ha : PE X a (up X.K E fa)) : PE X (.UnaryOp .USub a pos) (up X.K E fun S => (fa S).bind fun x P => match x with
    | .int i => .ok (.int (-i)) P
    | _ => .no) := by
  refine PE.imp (pe_un un_neg ha) fun σ H Q q => ?_
  obtain ⟨pa, F, S, R, h⟩ := q
  refine ⟨pa, F, S, R, (Post.bind h).mono ?_⟩
  rintro v H1 ⟨d, P1, F1, _, st, h1⟩
  cases d with
  | int i => exact ⟨i, Dt.int_inv st.t, Post.now st.g.fh st.p h1 (Dx.of (.int _))⟩
  | _ => exact h1.elim
theorem step_tru {pa : Pa} {F H : Hp} {o : Out Da} {k : Bool → Po → Out Da} {Q : VK} (h : Post K E pa F H ((trus o).bind k) Q) :
    Post K E pa F H o (fun v H1 => ∃ b P1 F1, Gr pa F H F1 H1 ∧ PoolOk F1 H1 pa P1 ∧ TruV K v H1 b ∧ Post K E pa F1 H1 (k b P1) Q) := by
  cases o with
  | ok d P' =>
    intro v F' H' g p t
    cases ht : truQ d with
    | none =>
      have h2 : Post K E pa F H ((Out.of (truQ d) P').bind k) Q := h
      rw [ht] at h2
      exact h2.elim
    | some b =>
      have h2 : Post K E pa F H ((Out.of (truQ d) P').bind k) Q := h
      rw [ht] at h2
      exact ⟨b, P', F', g, p, tru_of g.fh t ht, Post.rebase g p h2⟩
  | ex C fs ds P' => exact h
  | no => exact h
theorem step_truT {pa : Pa} {F H : Hp} {o : Out Da} {Q : Bool → Hp → Prop} (h : PostT K E pa F H (trus o) Q) :
    Post K E pa F H o (fun v H1 => ∃ b, TruV K v H1 b ∧ Q b H1) := by
  cases o with
  | ok d P' =>
    intro v F' H' g p t
    cases ht : truQ d with
    | none =>
      have h2 : PostT K E pa F H (Out.of (truQ d) P') Q := h
      rw [ht] at h2
      exact h2.elim
    | some b =>
      have h2 : PostT K E pa F H (Out.of (truQ d) P') Q := h
      rw [ht] at h2
      exact ⟨b, tru_of g.fh t ht, h2 F' H' g p⟩
  | ex C fs ds P' => exact h
  | no => exact h
theorem g_not {a : Expr} {pos : Pos} {fa : Ev → Out Da} (ha : PE X a (up X.K E fa)) : PE X (.UnaryOp .Not a pos) (up X.K E fun S => (trus (fa S)).bind fun b P => .ok (.bl (!b)) P) := by
  refine PE.imp (pe_notT ha) fun σ H Q q => ?_
  obtain ⟨pa, F, S, R, h⟩ := q
  refine ⟨pa, F, S, R, (step_tru h).mono ?_⟩
  rintro v H1 ⟨b, P1, F1, g, p, t, h1⟩
  exact ⟨b, t, Post.now g.fh p h1 (Dx.of (.bl _))⟩
theorem g_tnot {a : Expr} {pos : Pos} {fa : Ev → Out Da} (ha : PT X a (upT X.K E fun S => trus (fa S))) : PT X (.UnaryOp .Not a pos) (upT X.K E fun S => trus ((trus (fa S)).bind fun b P => .ok (.bl (!b)) P)) := by
  refine PT.imp (pt_not ha) fun σ H Q q => ?_
  obtain ⟨pa, F, S, R, h⟩ := q
  refine ⟨pa, F, S, R, ?_⟩
  dsimp only at h ⊢
  cases ht : trus (fa S) with
  | ok b P1 =>
    rw [ht] at h
    exact fun F' H' g p => h F' H' g p
  | ex C fs ds P' => rw [ht] at h; exact h
  | no => rw [ht] at h; exact h
def andF (fa fb : Ev → Out Da) : Ev → Out Da := fun S => (fa S).bind fun x P => match truQ x with
  | some true => fb (S.wp P)
  | some false => .ok x P
  | none => .no
def orF (fa fb : Ev → Out Da) : Ev → Out Da := fun S => (fa S).bind fun x P => match truQ x with
  | some true => .ok x P
  | some false => fb (S.wp P)
  | none => .no
theorem g_and {a b : Expr} {rest : List Expr} {pos : Pos} {fa fb : Ev → Out Da} (ha : PE X a (up X.K E fa)) (hb : PE X (.BoolOp .And (b :: rest) pos) (up X.K E fb)) : PE X (.BoolOp .And (a :: b :: rest) pos) (up X.K E (andF fa fb)) := by
  refine PE.imp (pe_andT ha hb) fun σ H Q q => ?_
  obtain ⟨pa, F, S, R, h⟩ := q
  refine ⟨pa, F, S, R, (Post.bind h).mono ?_⟩
  rintro v H1 ⟨d, P1, F1, _, st, h1⟩
  cases ht : truQ d with
  | none => rw [ht] at h1; exact h1.elim
  | some k =>
    rw [ht] at h1
    refine ⟨k, tru_of st.g.fh st.t ht, ?_⟩
    cases k with
    | true => rw [if_pos rfl]; exact ⟨pa, F1, S.wp P1, R.grow st.g st.p, h1⟩
    | false => rw [if_neg (by simp)]; exact Post.now st.g.fh st.p h1 st.t
theorem g_or {a b : Expr} {rest : List Expr} {pos : Pos} {fa fb : Ev → Out Da} (ha : PE X a (up X.K E fa)) (hb : PE X (.BoolOp .Or (b :: rest) pos) (up X.K E fb)) : PE X (.BoolOp .Or (a :: b :: rest) pos) (up X.K E (orF fa fb)) := by
  refine PE.imp (pe_orT ha hb) fun σ H Q q => ?_
  obtain ⟨pa, F, S, R, h⟩ := q
  refine ⟨pa, F, S, R, (Post.bind h).mono ?_⟩
  rintro v H1 ⟨d, P1, F1, _, st, h1⟩
  cases ht : truQ d with
  | none => rw [ht] at h1; exact h1.elim
  | some k =>
    rw [ht] at h1
    refine ⟨k, tru_of st.g.fh st.t ht, ?_⟩
    cases k with
    | true => rw [if_pos rfl]; exact Post.now st.g.fh st.p h1 st.t
    | false => rw [if_neg (by simp)]; exact ⟨pa, F1, S.wp P1, R.grow st.g st.p, h1⟩
theorem trus_and (fa fb : Ev → Out Da) (S : Ev) : trus (andF fa fb S) = (trus (fa S)).bind fun k P => if k = true then trus (fb (S.wp P)) else .ok false P := by
  unfold andF
  cases h : fa S with
  | ok d P =>
    rw [Out.bind_ok]
    show _ = (Out.of (truQ d) P).bind _
    cases ht : truQ d with
    | none => rfl
    | some k => cases k with
      | true => rfl
      | false =>
        show (Out.of (truQ d) P) = _
        rw [ht]
        rfl
  | ex _ _ _ _ => rfl
  | no => rfl
theorem trus_or (fa fb : Ev → Out Da) (S : Ev) : trus (orF fa fb S) = (trus (fa S)).bind fun k P => if k = true then .ok true P else trus (fb (S.wp P)) := by
  unfold orF
  cases h : fa S with
  | ok d P =>
    rw [Out.bind_ok]
    show _ = (Out.of (truQ d) P).bind _
    cases ht : truQ d with
    | none => rfl
    | some k => cases k with
      | false => rfl
      | true =>
        show (Out.of (truQ d) P) = _
        rw [ht]
        rfl
  | ex _ _ _ _ => rfl
  | no => rfl
theorem PW.imp {e : Expr} {t t' : TT} (h : PW X e t) (i : ∀ σ H Q, t' σ H Q → t σ H Q) : PW X e t' := ⟨fun wh pins s σ H Q I q => h.run wh pins s σ H Q I (i σ H Q q)⟩
theorem g_tand {a b : Expr} {rest : List Expr} {pos : Pos} {fa fb : Ev → Out Da} (ha : PT X a (upT X.K E fun S => trus (fa S))) (hb : PW X (.BoolOp .And (b :: rest) pos) (upT X.K E fun S => trus (fb S))) :
    PW X (.BoolOp .And (a :: b :: rest) pos) (upT X.K E fun S => trus (andF fa fb S)) := by
  refine PW.imp (pw_and ha hb) fun σ H Q q => ?_
  obtain ⟨pa, F, S, R, h⟩ := q
  dsimp only at h
  rw [trus_and] at h
  refine ⟨pa, F, S, R, (PostT.bindT h).mono ?_⟩
  rintro k H1 ⟨P1, F1, _, g, p, h1⟩
  cases k with
  | true => rw [if_pos rfl] at h1 ⊢; exact ⟨pa, F1, S.wp P1, R.grow g p, h1⟩
  | false => rw [if_neg (by simp)] at h1 ⊢; exact PostT.now g.fh p h1
theorem g_tor {a b : Expr} {rest : List Expr} {pos : Pos} {fa fb : Ev → Out Da} (ha : PT X a (upT X.K E fun S => trus (fa S))) (hb : PW X (.BoolOp .Or (b :: rest) pos) (upT X.K E fun S => trus (fb S))) :
    PW X (.BoolOp .Or (a :: b :: rest) pos) (upT X.K E fun S => trus (orF fa fb S)) := by
  refine PW.imp (pw_or ha hb) fun σ H Q q => ?_
  obtain ⟨pa, F, S, R, h⟩ := q
  dsimp only at h
  rw [trus_or] at h
  refine ⟨pa, F, S, R, (PostT.bindT h).mono ?_⟩
  rintro k H1 ⟨P1, F1, _, g, p, h1⟩
  cases k with
  | true => rw [if_pos rfl] at h1 ⊢; exact PostT.now g.fh p h1
  | false => rw [if_neg (by simp)] at h1 ⊢; exact ⟨pa, F1, S.wp P1, R.grow g p, h1⟩
theorem g_ite {t a b : Expr} {pos : Pos} {ft fa fb : Ev → Out Da} (ht : PT X t (upT X.K E fun S => trus (ft S))) (ha : PE X a (up X.K E fa)) (hb : PE X b (up X.K E fb)) :
    PE X (.IfExp t a b pos) (up X.K E fun S => (trus (ft S)).bind fun k P => if k = true then fa (S.wp P) else fb (S.wp P)) := by
  refine PE.imp (pe_ifExp ht ha hb) fun σ H Q q => ?_
  obtain ⟨pa, F, S, R, h⟩ := q
  refine ⟨pa, F, S, R, (PostT.bind h).mono ?_⟩
  rintro k H1 ⟨P1, F1, _, g, p, h1⟩
  cases k with
  | true => rw [if_pos rfl] at h1 ⊢; exact ⟨pa, F1, S.wp P1, R.grow g p, h1⟩
  | false => rw [if_neg (by simp)] at h1 ⊢; exact ⟨pa, F1, S.wp P1, R.grow g p, h1⟩
theorem isTrue_plain {e : Expr} (h : plainT e = true) (env : Env) (whole : Sem Value) : isTrue e env whole = (do let v ← whole; standAt e.pos; holding [v] (truthy v)) := by
  cases e with
  | UnaryOp op a pos => cases op <;> first | rfl | cases h
  | _ => first | rfl | cases h
theorem g_tplain {e : Expr} {f : Ev → Out Da} (h : plainT e = true) (he : PE X e (up X.K E f)) : PT X e (upT X.K E fun S => trus (f S)) := by
  refine PT.imp (pt_truth he fun w => isTrue_plain h _ w) fun σ H Q q => ?_
  obtain ⟨pa, F, S, R, q⟩ := q
  exact ⟨pa, F, S, R, step_truT q⟩
theorem g_nil : PA X [] (upA X.K E (evA .nil)) := by
  refine PA.imp pa_nil fun σ H Q q => ?_
  obtain ⟨pa, F, S, R, h⟩ := q
  exact PostA.now R.fh R.po h .nil
theorem star_no {e : Expr} {es : List Expr} {env : Env} (h : nostar e = true) : starEach (e :: es) env = (false, eval e env) :: starEach es env := by
  cases e <;> first | rfl | cases h
theorem g_cons {e : Expr} {es : List Expr} {f : Ev → Out Da} {g : Ev → Out (List Da)} (hs : nostar e = true) (he : PE X e (up X.K E f)) (hr : PA X es (upA X.K E g)) :
    PA X (e :: es) (upA X.K E fun S => (f S).bind fun x P => (g (S.wp P)).bind fun xs P2 => .ok (x :: xs) P2) := by
  refine PA.imp (pa_cons he hr (star_no hs)) fun σ H Q q => ?_
  obtain ⟨pa, F, S, R, h⟩ := q
  refine ⟨pa, F, S, R, (Post.bindA h).mono ?_⟩
  rintro v H1 ⟨d, P1, F1, _, st, h1⟩
  refine ⟨pa, F1, S.wp P1, R.grow st.g st.p, (PostA.bindA h1).mono ?_⟩
  rintro vs H2 ⟨ds, P2, F2, _, g2, p2, t2, h2⟩
  exact PostA.now g2.fh p2 h2 (.cons (st.t.grow g2) t2)
theorem g_star {e : Expr} {es : List Expr} {p : Pos} {f : Ev → Out Da} {g : Ev → Out (List Da)} (he : PE X e (up X.K E f)) (hr : PA X es (upA X.K E g)) :
    PA X (.Starred e p :: es) (upA X.K E fun S => (f S).bind fun x P => match x.sq with
    | some ys => (g (S.wp P)).bind fun xs P2 => .ok (ys ++ xs) P2
    | none => .no) := by
  refine PA.imp (StX.pa_star he hr rfl) fun σ H Q q => ?_
  obtain ⟨pa, F, S, R, h⟩ := q
  refine ⟨pa, F, S, R, (Post.bindA h).mono ?_⟩
  rintro v H1 ⟨d, P1, F1, _, st, h1⟩
  cases hq : d.sq with
  | none => rw [hq] at h1; exact h1.elim
  | some ys =>
    rw [hq] at h1
    obtain ⟨a, vs, e2, e3, e4⟩ := Dx.sq st.g.fh st.t hq
    refine ⟨a, vs, e2, e3.symm.imp id SqL.of, pa, F1, S.wp P1, R.grow st.g st.p, (PostA.bindA h1).mono ?_⟩
    rintro ws H2 ⟨ds, P2, F2, _, g2, p2, t2, h2⟩
    exact PostA.now g2.fh p2 h2 ((Dxs.of (e4.mono g2.ff)).append t2)
theorem g_lst {es : List Expr} {pos : Pos} {f : Ev → Out (List Da)} (h : PA X es (upA X.K E f)) : PE X (.List es pos) (up X.K E fun S => (f S).bind fun ds P => if (ds.all Da.fz && decide (ds.length ≤ lim)) = true then .ok (.lst ds) P else .no) := by
  refine PE.imp (pe_lst h) fun σ H Q q => ?_
  obtain ⟨pa, F, S, R, q⟩ := q
  refine ⟨pa, F, S, R, (PostA.bind q).mono ?_⟩
  rintro vs H1 ⟨ds, P1, F1, _, g, p, t, h1⟩
  by_cases c : (ds.all Da.fz && decide (ds.length ≤ lim)) = true
  · rw [if_pos c] at h1
    rw [Bool.and_eq_true] at c
    have t2 := t.dts c.1
    refine ⟨by rw [t.length]; exact le_line (of_decide_eq_true c.2), fun p0 hp => Post.newO g.fh p h1 hp (.lst upd_same (t2.new (g.fh.free hp)))⟩
  · rw [if_neg c] at h1
    exact h1.elim
theorem g_tup {es : List Expr} {k : Nat} {pos : Pos} {f : Ev → Out (List Da)} (h : PA X es (upA X.K E f)) : PE X (.Tuple es k pos) (up X.K E fun S => (f S).bind fun ds P => if (ds.all Da.fz && decide (ds.length ≤ lim)) = true then .ok (.tup ds) P else .no) := by
  refine PE.imp (pe_tup h) fun σ H Q q => ?_
  obtain ⟨pa, F, S, R, q⟩ := q
  refine ⟨pa, F, S, R, (PostA.bind q).mono ?_⟩
  rintro vs H1 ⟨ds, P1, F1, _, g, p, t, h1⟩
  by_cases c : (ds.all Da.fz && decide (ds.length ≤ lim)) = true
  · rw [if_pos c] at h1
    rw [Bool.and_eq_true] at c
    have t2 := t.dts c.1
    refine ⟨by rw [t.length]; exact le_line (of_decide_eq_true c.2), fun p0 hp => Post.newO g.fh p h1 hp (.tup (SqT.of upd_same) (t2.new (g.fh.free hp)))⟩
  · rw [if_neg c] at h1
    exact h1.elim
end

section
variable {X : Cx} {E : XK} {K : PySem.W.Frag}
theorem plain_back {as : CEs} {es : List Expr} {sc : Scope} {N : List Str} {pos : Pos} {env : Env} (hp : as.plain = true) (hc : chkA sc N as es = true) : (backTo pos (starEach es env)).any (·.1) = false := by
  induction es generalizing as with
  | nil => rfl
  | cons e es ih =>
    cases as with
    | nil => simp [chkA] at hc
    | cons a r =>
      simp only [chkA, Bool.and_eq_true] at hc
      rw [star_no hc.1.1]
      have := ih (as := r) hp hc.2
      show (false || (backTo pos (starEach es env)).any (·.1)) = false
      rw [this]
      rfl
    | star a r => cases hp
theorem g_call {x : Str} {f : Fs} {es : List Expr} {g : Ev → Out (List Da)} {k : Nat} {p pos : Pos} (D : DefOk X.prog X.w X.K X.mg X.base k x f) (hr : Room k X.A) (hgd : X.A.guards = some []) (hg : Gl X x) (hdb : (x == ("__debug__" : Str)) = false)
    (tk : Takes X (fun c d _ H => E c d H)) (ha : PA X es (upA X.K E g)) (hn : ∀ S, es = [] → g S = .ok [] S.po) (hs : ∀ e r, es = e :: r → nostar e = true) (hpl : ∀ e r, es = e :: r → (backTo pos (starEach r X.env)).any (·.1) = false) :
    PE X (.Call (.Name x p) es [] pos) (up X.K E fun S => (g S).bind fun ds P => if ds.all Da.fz = true then f ds P else .no) := by
  obtain ⟨fd, ps, G, hlen, hb, hk, hm⟩ := D
  have px : Passes (L2.CX X.prog X.w) X E := passes_call tk fun _ _ _ _ h => h
  have key : ∀ (pa : Pa) (F H1 : Hp) (Q : VK) (vs : List V) (ds : List Da) (P1 : Po), Same F H1 → PoolOk F H1 pa P1 → pa.T = lamT X.K → Dxs X.K F H1 pa vs ds → Post X.K E pa F H1 (if ds.all Da.fz = true then f ds P1 else .no) Q →
      spD X.K ps.length f (vs ++ []) H1 Q E := fun pa F H1 Q vs ds P1 fh po tl t h => by
    by_cases c : ds.all Da.fz = true
    · rw [if_pos c] at h
      rw [List.append_nil]
      refine ⟨?_, pa, F, P1, ds, fh, po, tl, t.dts c, h⟩
      rw [t.length]
      refine hlen ds P1 fun e => ?_
      rw [e] at h
      exact h
    · rw [if_neg c] at h
      exact h.elim
  cases es with
  | nil =>
    refine PE.imp (pe_callG0 (E := E) (dvs := []) G hr hgd hg hm hk hb .nil px hdb) fun σ H Q q => ?_
    obtain ⟨pa, F, S, R, h⟩ := q
    have e0 := hn S rfl
    dsimp only at h
    rw [e0, Out.bind_ok] at h
    exact key pa F H Q [] [] S.po R.fh R.po R.tl .nil h
  | cons e r =>
    refine PE.imp (pe_callG (E := E) (dvs := []) G hr hgd hg hm hk hb .nil px ha hdb (star_no (hs e r rfl)) (hpl e r rfl)) fun σ H Q q => ?_
    obtain ⟨pa, F, S, R, h⟩ := q
    refine ⟨pa, F, S, R, (PostA.bind h).mono ?_⟩
    rintro vs H1 ⟨ds, P1, F1, _, g1, p1, t1, h1⟩
    exact key pa F1 H1 Q vs ds P1 g1.fh p1 R.tl t1 h1
theorem up_c1 {r : List V → Hp → VK → Prop} {fa : Ev → Out Da} {o : B1} (hr : ∀ xs H Q, rC K E o xs H Q → r xs H Q) (σ : L2.St) (H : Hp) (Q : VK)
    (h : up K E (fun S => (fa S).bind fun x P => Out.of (f1 o x) P) σ H Q) : tCB r (tCons (up K E fa) tNil) σ H Q := by
  obtain ⟨pa, F, S, R, h⟩ := h
  refine ⟨pa, F, S, R, (Post.bind h).mono ?_⟩
  rintro v H1 ⟨d, P1, F1, _, st, h1⟩
  refine hr _ _ _ ?_
  cases hz : f1 o d with
  | none => rw [hz] at h1; exact h1.elim
  | some z => rw [hz] at h1; exact ⟨v, pa, F1, P1, d, z, rfl, st.g.fh, st.p, st.t, hz, h1⟩
theorem boot_b1 : ∀ o : B1, bootBuiltins (b1Nm o) = some (semC o)
  | .len => by decide +kernel
  | .tuple => by decide +kernel
  | .list => by decide +kernel
  | .str => by decide +kernel
  | .repr => by decide +kernel
  | .int => by decide +kernel
  | .abs => by decide +kernel
  | .all => by decide +kernel
  | .any => by decide +kernel
theorem nm_b1 : ∀ o : B1, b1Nm o ≠ ("__name__" : Str) ∧ (b1Nm o == ("__debug__" : Str)) = false
  | .len => by decide +kernel
  | .tuple => by decide +kernel
  | .list => by decide +kernel
  | .str => by decide +kernel
  | .repr => by decide +kernel
  | .int => by decide +kernel
  | .abs => by decide +kernel
  | .all => by decide +kernel
  | .any => by decide +kernel
theorem g_b1 {o : B1} {e : Expr} {fa : Ev → Out Da} {p pos : Pos} (hc : X.calm = true) (hgd : X.A.guards = some []) (hu : X.A.units + 66 < cLine) (hg : Gl X (b1Nm o)) (hm : X.mg (b1Nm o) = none) (sb : o = .repr → sysB X.K = true) (hs : nostar e = true) (ha : PE X e (up X.K E fa)) :
    PE X (.Call (.Name (b1Nm o) p) [e] [] pos) (up X.K E fun S => (fa S).bind fun x P => Out.of (f1 o x) P) := by
  have hcall := c_b1 (X := X) (E := E) hc hgd hu o sb
  have hA : PA X [e] (tCons (up X.K E fa) tNil) := pa_cons ha pa_nil (star_no hs)
  have hst : starEach [e] X.env = (false, eval e X.env) :: starEach [] X.env := star_no hs
  have hv := boot_b1 o
  have bi : ∀ id, semC o = .builtin id → PE X (.Call (.Name (b1Nm o) p) [e] [] pos) (up X.K E fun S => (fa S).bind fun x P => Out.of (f1 o x) P) := fun id e1 => by
    rw [e1] at hcall hv
    exact PE.imp (pe_callB hcall hg hm hv hA (nm_b1 o).1 (nm_b1 o).2 hst rfl) (up_c1 fun _ _ _ q => q)
  have ty : ∀ T, semC o = .type T → PE X (.Call (.Name (b1Nm o) p) [e] [] pos) (up X.K E fun S => (fa S).bind fun x P => Out.of (f1 o x) P) := fun T e1 => by
    rw [e1] at hcall hv
    exact PE.imp (pe_callTy hcall hg hm hv hA (nm_b1 o).1 (nm_b1 o).2 hst rfl) (up_c1 fun _ _ _ q => q)
  cases o with
  | len => exact bi _ rfl
  | tuple => exact ty _ rfl
  | list => exact ty _ rfl
  | str => exact ty _ rfl
  | repr => exact bi _ rfl
  | int => exact ty _ rfl
  | abs => exact bi _ rfl
  | all => exact bi _ rfl
  | any => exact bi _ rfl
theorem g_bi {o : Bi} {e e' : Expr} {fa fb : Ev → Out Da} {p pos : Pos} (hc : X.calm = true) (hg : Gl X (biNm o)) (hm : X.mg (biNm o) = none) (hs : nostar e = true) (hs' : nostar e' = true) (ha : PE X e (up X.K E fa)) (hb : PE X e' (up X.K E fb)) :
    PE X (.Call (.Name (biNm o) p) [e, e'] [] pos) (up X.K E fun S => (fa S).bind fun x P => (fb (S.wp P)).bind fun y P2 => Out.of (fi o x y) P2) := by
  have hA : PA X [e, e'] (tCons (up X.K E fa) (tCons (up X.K E fb) tNil)) := pa_cons ha (pa_cons hb pa_nil (star_no hs')) (star_no hs)
  have hst : starEach [e, e'] X.env = (false, eval e X.env) :: starEach [e'] X.env := star_no hs
  have hpl : (backTo pos (starEach [e'] X.env)).any (·.1) = false := by rw [star_no hs']; rfl
  have tr : ∀ {r : List V → Hp → VK → Prop}, (∀ xs H Q, rCi X.K E o xs H Q → r xs H Q) → ∀ σ H Q, up X.K E (fun S => (fa S).bind fun x P => (fb (S.wp P)).bind fun y P2 => Out.of (fi o x y) P2) σ H Q →
      tCB r (tCons (up X.K E fa) (tCons (up X.K E fb) tNil)) σ H Q := fun {r} hr σ H Q h => by
    obtain ⟨pa, F, S, R, h⟩ := h
    refine ⟨pa, F, S, R, (Post.bind h).mono ?_⟩
    rintro v H1 ⟨d, P1, F1, _, st, h1⟩
    refine ⟨pa, F1, S.wp P1, R.grow st.g st.p, (Post.bind h1).mono ?_⟩
    rintro w H2 ⟨e, P2, F2, _, st2, h2⟩
    refine hr _ _ _ ?_
    cases hz : fi o d e with
    | none => rw [hz] at h2; exact h2.elim
    | some z => rw [hz] at h2; exact ⟨v, w, pa, F2, P2, d, e, z, rfl, st2.g.fh, st2.p, st.t.grow st2.g, st2.t, hz, h2⟩
  cases o with
  | min => exact PE.imp (pe_callB (c_min hc) hg hm (by decide +kernel) hA (by decide +kernel) (by decide +kernel) hst hpl) (tr fun _ _ _ q => q)
  | max => exact PE.imp (pe_callB (c_max hc) hg hm (by decide +kernel) hA (by decide +kernel) (by decide +kernel) hst hpl) (tr fun _ _ _ q => q)
theorem g_isi {e : Expr} {T : Ty} {fa : Ev → Out Da} {p pt pos : Pos} (hT : IsiFact X.K T) (hg : Gl X "isinstance") (hm : X.mg "isinstance" = none) (hgt : Gl X (tyNm T)) (ht : TyOk X.K X.mg T) (hx : okNm (tyNm T) = true) (hs : nostar e = true) (ha : PE X e (up X.K E fa)) :
    PE X (.Call (.Name "isinstance" p) [e, .Name (tyNm T) pt] [] pos) (up X.K E fun S => (fa S).bind fun x P => Out.of ((isiQ x T).map .bl) P) := by
  simp only [okNm, Bool.and_eq_true, Bool.not_eq_true'] at hx
  have hty : PE X (.Name (tyNm T) pt) (tC (tyV1 X.K T)) := by
    cases T with
    | b n => exact pe_bltn hgt ht.1 ht.2 rfl (by
        intro e1
        have h2 := hx.2
        rw [e1] at h2
        simp at h2) hx.1.1
    | c C => exact pe_glob hgt ht rfl hx.1.1
  have hA : PA X [e, .Name (tyNm T) pt] (tCons (up X.K E fa) (tCons (tC (tyV1 X.K T)) tNil)) := pa_cons ha (pa_cons hty pa_nil rfl) (star_no hs)
  refine PE.imp (pe_callB (c_isi (E := E) hT) hg hm (by decide +kernel) hA (by decide +kernel) (by decide +kernel) (star_no hs) rfl) fun σ H Q h => ?_
  obtain ⟨pa, F, S, R, h⟩ := h
  refine ⟨pa, F, S, R, (Post.bind h).mono ?_⟩
  rintro v H1 ⟨d, P1, F1, _, st, h1⟩
  cases hz : isiQ d T with
  | none => rw [hz] at h1; exact h1.elim
  | some b => rw [hz] at h1; exact ⟨v, pa, F1, P1, d, b, rfl, st.g.fh, st.p, st.t, hz, h1⟩
theorem base_of {e : Expr} {m : Str} {env : Env} (h : nobase e = true) : attributeBase e m env (eval e env) = eval e env := by
  cases e with
  | Call f as ks pos =>
    cases f with
    | Name y p =>
      cases as with
      | nil => cases ks with
        | nil => cases h
        | cons _ _ => rfl
      | cons _ _ => rfl
    | _ => rfl
  | _ => rfl
theorem g_mt {o : Mo} {e e' : Expr} {fa fb : Ev → Out Da} {apos pos : Pos} (hb0 : nobase e = true) (hs : nostar e' = true) (hl : (apos.endLine == pos.line) = true) (ha : PE X e (up X.K E fa)) (hb : PE X e' (up X.K E fb)) :
    PE X (.Call (.Attribute e (moNm o) apos) [e'] [] pos) (up X.K E fun S => (fa S).bind fun x P => if x.isStr = true then (fb (S.wp P)).bind fun y P2 => Out.of (fm o x y) P2 else .no) := by
  have rule := m_mo (X := X) (E := E) o
  have hst : starEach [e'] X.env = [(false, eval e' X.env)] := star_no hs
  have tr : ∀ σ H Q, up X.K E (fun S => (fa S).bind fun x P => if x.isStr = true then (fb (S.wp P)).bind fun y P2 => Out.of (fm o x y) P2 else .no) σ H Q → tM1 (rM X.K E o) (up X.K E fa) (up X.K E fb) σ H Q := fun σ H Q h => by
    obtain ⟨pa, F, S, R, h⟩ := h
    refine ⟨pa, F, S, R, (Post.bind h).mono ?_⟩
    rintro v H1 ⟨d, P1, F1, _, st, h1⟩
    cases d with
    | str l =>
      rw [if_pos (show (Da.str l).isStr = true from rfl)] at h1
      refine ⟨⟨sg l, Dt.str_inv st.t⟩, pa, F1, S.wp P1, R.grow st.g st.p, (Post.bind h1).mono ?_⟩
      rintro w H2 ⟨e2, P2, F2, _, st2, h2⟩
      cases hz : fm o (.str l) e2 with
      | none => rw [hz] at h2; exact h2.elim
      | some z => rw [hz] at h2; exact ⟨w, pa, F2, P2, .str l, e2, z, rfl, st2.g.fh, st2.p, st.t.grow st2.g, st2.t, hz, h2⟩
    | _ => exact h1.elim
  cases o with
  | split => exact PE.imp (pe_m1 PySem.F.slot_str_split PySem.F.type_str_split rule ha hb hst (base_of hb0) hl) tr
  | join => exact PE.imp (pe_m1 PySem.F.slot_str_join PySem.F.type_str_join rule ha hb hst (base_of hb0) hl) tr
  | partition => exact PE.imp (pe_m1 PySem.F.slot_str_partition PySem.F.type_str_partition rule ha hb hst (base_of hb0) hl) tr
  | startswith => exact PE.imp (pe_m1 PySem.F.slot_str_startswith PySem.F.type_str_startswith rule ha hb hst (base_of hb0) hl) tr
  | removeprefix => exact PE.imp (pe_m1 PySem.F.slot_str_removeprefix PySem.F.type_str_removeprefix rule ha hb hst (base_of hb0) hl) tr
theorem plainIx_of {b : Expr} (h : noslice b = true) : PlainIx b := by
  intro o i
  cases b <;> first | rfl | cases h
theorem g_ix {a b : Expr} {pos : Pos} {fa fb : Ev → Out Da} (hn : noslice b = true) (ha : PE X a (up X.K E fa)) (hb : PE X b (up X.K E fb)) :
    PE X (.Subscript a b pos) (up X.K E fun S => (fa S).bind fun x P => (fb (S.wp P)).bind fun y P2 => Out.of (ixQ x y) P2) :=
  PE.imp (pe_ix ix_seq ha hb (plainIx_of hn)) (up_op fun x y H Q q => x_ix q)
def upO (K : PySem.W.Frag) (E : XK) (f : Ev → Out (Option Int)) : TO := fun σ H Q => ∃ pa F S, Rel K pa F σ H S ∧ (match f S with
  | .ok o P' => ∀ F' H', Gr pa F H F' H' → PoolOk F' H' pa P' → Q o H'
  | .ex C fs ds P' => PostX K E pa F H C fs ds P'
  | .no => False)
theorem PO.imp {e : Option Expr} {t t' : TO} (h : PO X e t) (i : ∀ σ H Q, t' σ H Q → t σ H Q) : PO X e t' := ⟨fun pins s σ H Q I q => h.run pins s σ H Q I (i σ H Q q)⟩
theorem g_onone : PO X none (upO X.K E (evO .none)) := by
  refine PO.imp po_none fun σ H Q q => ?_
  obtain ⟨pa, F, S, R, h⟩ := q
  exact h F H (Gr.refl R.fh) R.po
theorem g_osome {e : Expr} {f : Ev → Out Da} (he : PE X e (up X.K E f)) : PO X (some e) (upO X.K E fun S => (f S).bind fun x P => match x with
    | .int i => .ok (some i) P
    | _ => .no) := by
  refine PO.imp (po_some he) fun σ H Q q => ?_
  obtain ⟨pa, F, S, R, h⟩ := q
  refine ⟨pa, F, S, R, ?_⟩
  cases hf : f S with
  | ok d P1 =>
    simp only [hf, Out.bind_ok] at h
    intro v F' H' g p t
    cases d with
    | int i => exact ⟨i, Dt.int_inv t, h F' H' g p⟩
    | _ => exact h.elim
  | ex C fs ds P' => simp only [hf, Out.bind_ex] at h; exact h
  | no => simp only [hf, Out.bind_no] at h
theorem step_o {pa : Pa} {F H : Hp} {o : Out (Option Int)} {k : Option Int → Po → Out Da} {Q : VK} (h : Post K E pa F H (o.bind k) Q) :
    match o with
    | .ok x P' => ∀ F' H', Gr pa F H F' H' → PoolOk F' H' pa P' → ∃ P1 F1, Gr pa F H F1 H' ∧ PoolOk F1 H' pa P1 ∧ Post K E pa F1 H' (k x P1) Q
    | .ex C fs ds P' => PostX K E pa F H C fs ds P'
    | .no => False := by
  cases o with
  | ok x P' => exact fun F' H' g p => ⟨P', F', g, p, Post.rebase g p h⟩
  | ex C fs ds P' => exact h
  | no => exact h
theorem g_sl {a : Expr} {l h : Option Expr} {p2 pos : Pos} {fa : Ev → Out Da} {fl fh : Ev → Out (Option Int)} (ha : PE X a (up X.K E fa)) (hl : PO X l (upO X.K E fl)) (hh : PO X h (upO X.K E fh)) :
    PE X (.Subscript a (.Slice l h none p2) pos) (up X.K E fun S => (fa S).bind fun x P => (fl (S.wp P)).bind fun lo P2 => (fh (S.wp P2)).bind fun hi P3 => Out.of (slQ x lo hi) P3) := by
  refine PE.imp (pe_slice slR_any ha hl hh) fun σ H Q q => ?_
  obtain ⟨pa, F, S, R, q⟩ := q
  refine ⟨pa, F, S, R, (Post.bind q).mono ?_⟩
  rintro v H1 ⟨d, P1, F1, _, st, q1⟩
  have R1 := R.grow st.g st.p
  refine ⟨pa, F1, S.wp P1, R1, ?_⟩
  have q2 := step_o q1
  cases hfl : fl (S.wp P1) with
  | ok lo P2 =>
    rw [hfl] at q1
    intro F2 H2 g2 p2
    have q2 := Post.rebase g2 p2 (show Post X.K E pa F1 H1 ((fh (S.wp P2)).bind fun hi P3 => Out.of (slQ d lo hi) P3) Q from q1)
    refine ⟨pa, F2, S.wp P2, R1.grow g2 p2, ?_⟩
    cases hfh : fh (S.wp P2) with
    | ok hi P3 =>
      rw [hfh] at q2
      intro F3 H3 g3 p3
      have q3 := Post.rebase g3 p3 (show Post X.K E pa F2 H2 (Out.of (slQ d lo hi) P3) Q from q2)
      cases hz : slQ d lo hi with
      | none => rw [hz] at q3; exact q3.elim
      | some z =>
        rw [hz] at q3
        exact s_sl ⟨pa, F3, P3, d, z, g3.fh, p3, (st.t.grow g2).grow g3, hz, q3⟩
    | ex C fs ds P' => rw [hfh] at q2; exact q2
    | no => rw [hfh] at q2; exact q2
  | ex C fs ds P' => rw [hfl] at q1; exact q1
  | no => rw [hfl] at q1; exact q1
theorem g_rev {a : Expr} {k : Nat} {p1 p2 p3 pos : Pos} {fa : Ev → Out Da} (ha : PE X a (up X.K E fa)) : PE X (.Subscript a (.Slice none none (some (.UnaryOp .USub (.Constant (.int 1) k p1) p2)) p3) pos) (up X.K E fun S => (fa S).bind fun x P => Out.of (x.ls.map fun xs => .lst xs.reverse) P) := by
  refine PE.imp (pe_revL ha) fun σ H Q q => ?_
  obtain ⟨pa, F, S, R, q⟩ := q
  refine ⟨pa, F, S, R, (Post.bind q).mono ?_⟩
  rintro v H1 ⟨d, P1, F1, _, st, q1⟩
  cases hz : d.ls with
  | none => rw [hz] at q1; exact q1.elim
  | some xs =>
    rw [hz] at q1
    obtain ⟨a, vs, e1, e2, e3⟩ := Dx.ls st.g.fh st.t hz
    exact ⟨a, vs, e1, SqL.of e2, fun p hp => Post.newO st.g.fh st.p q1 hp (.lst upd_same (e3.reverse.new (st.g.fh.free hp)))⟩
theorem zip_lookup {F : Hp} {pa : Pa} {f : Str} : ∀ {fs : List Str} {vs : List V} {ds : List Da} {d : Da}, Dts K F pa vs ds → (fs.zip ds).lookup f = some d → ∃ v, (fs.zip vs).lookup f = some v ∧ Dt K F pa v d
  | [], _, _, _, _, e => by simp at e
  | _ :: _, _, [], _, _, e => by simp at e
  | g :: fs, _, d0 :: ds, d, .cons h t, e => by
    rw [List.zip_cons_cons, List.lookup_cons] at e ⊢
    cases hb : f == g with
    | true =>
      rw [hb] at e
      cases e
      exact ⟨_, rfl, h⟩
    | false =>
      rw [hb] at e
      exact zip_lookup t e
theorem g_fld {a : Expr} {C f : Str} {pos : Pos} {fa : Ev → Out Da} (hc : Cls X.K (He.ga X.K C)) (hn : NoAttr X.K (He.ga X.K C) f) (hb : nobase a = true) (ha : PE X a (up X.K E fa)) :
    PE X (.Attribute a f pos) (up X.K E fun S => (fa S).bind fun x P => match x with
    | .obj D fs ds => if C = D then Out.of ((fs.zip ds).lookup f) P else .no
    | _ => .no) := by
  refine PE.imp (pe_fld ha (base_of hb)) fun σ H Q q => ?_
  obtain ⟨pa, F, S, R, q⟩ := q
  refine ⟨pa, F, S, R, (Post.bind q).mono ?_⟩
  rintro v H1 ⟨d, P1, F1, _, st, q1⟩
  cases d with
  | obj D fs ds =>
    dsimp only at q1
    by_cases c : C = D
    · subst c
      rw [if_pos rfl] at q1
      obtain ⟨a, dx, vs, e1, e2, e3, e4⟩ := Dt.obj_inv st.t
      cases hz : (fs.zip ds).lookup f with
      | none => rw [hz] at q1; exact q1.elim
      | some z =>
        rw [hz] at q1
        obtain ⟨w, h1, h2⟩ := zip_lookup e4 hz
        exact ⟨a, _, dx, _, w, e1, st.g.fh _ _ e2, hc, hn, h1, Post.now st.g.fh st.p q1 (Dx.of h2)⟩
    · rw [if_neg c] at q1
      exact q1.elim
  | _ => exact q1.elim
end

theorem setSl_get (S : Ev) (i j : Nat) (v w : Sv) (h : (setSl S i v).sl[j]? = some w) : (i = j ∧ v = w) ∨ (i ≠ j ∧ S.sl[j]? = some w) := by
  have h2 : (S.sl.set i v)[j]? = some w := h
  by_cases c : i = j
  · subst c
    by_cases l : i < S.sl.length
    · rw [List.getElem?_set_self l] at h2
      exact .inl ⟨rfl, Option.some.inj h2⟩
    · rw [List.getElem?_eq_none (by simpa using l)] at h2
      cases h2
  · rw [List.getElem?_set_ne c] at h2
    exact .inr ⟨c, h2⟩
theorem set_get {σ : L2.St} {i j : Nat} {v : Option V} (h : i ≠ j) : (σ.set i v)[j]? = σ[j]? := List.getElem?_set_ne h
section
variable {K : PySem.W.Frag} {pa : Pa} {F H : Hp} {σ : L2.St} {S : Ev}
theorem Rel.set {i : Nat} {v : V} {d : Da} (R : Rel K pa F σ H S) (t : Dt K F pa v d) : Rel K pa F (σ.set i (some v)) H (setSl S i (.dat d)) where
  fh := R.fh
  po := R.po
  sl := fun j e h => by
    have hj : j < (setSl S i (.dat d)).sl.length := (List.getElem?_eq_some_iff.mp h).1
    rcases setSl_get S i j _ _ h with ⟨c, e1⟩ | ⟨c, e1⟩
    · subst c
      cases e1
      have hl : i < σ.length := by rw [R.len]; simpa [setSl] using hj
      exact ⟨v, List.getElem?_set_self hl, t⟩
    · obtain ⟨w, h1, h2⟩ := R.sl j e e1
      exact ⟨w, by rw [set_get c]; exact h1, h2⟩
  ow := fun j ds h => by
    rcases setSl_get S i j _ _ h with ⟨c, e1⟩ | ⟨c, e1⟩
    · cases e1
    · obtain ⟨a, xs, h1, h2⟩ := R.ow j ds e1
      exact ⟨a, xs, by rw [set_get c]; exact h1, h2⟩
  dj := fun j l ds es a h1 h2 h3 h4 => by
    rcases setSl_get S i j _ _ h1 with ⟨c, e1⟩ | ⟨c, e1⟩
    · cases e1
    · rcases setSl_get S i l _ _ h2 with ⟨c2, e2⟩ | ⟨c2, e2⟩
      · cases e2
      · rw [set_get c] at h3
        rw [set_get c2] at h4
        exact R.dj j l ds es a e1 e2 h3 h4
  se := fun j C fs ds h => by
    rcases setSl_get S i j _ _ h with ⟨c, e1⟩ | ⟨c, e1⟩
    · cases e1
    · obtain ⟨a, dx, xs, h1, h2⟩ := R.se j C fs ds e1
      exact ⟨a, dx, xs, by rw [set_get c]; exact h1, h2⟩
  len := by
    rw [List.length_set, R.len]
    simp [setSl]
  tl := R.tl
theorem Rel.unset {i : Nat} {v : Option V} (R : Rel K pa F σ H S) : Rel K pa F (σ.set i v) H (setSl S i .un) where
  fh := R.fh
  po := R.po
  sl := fun j e h => by
    rcases setSl_get S i j _ _ h with ⟨c, e1⟩ | ⟨c, e1⟩
    · cases e1
    · obtain ⟨w, h1, h2⟩ := R.sl j e e1
      exact ⟨w, by rw [set_get c]; exact h1, h2⟩
  ow := fun j ds h => by
    rcases setSl_get S i j _ _ h with ⟨c, e1⟩ | ⟨c, e1⟩
    · cases e1
    · obtain ⟨a, xs, h1, h2⟩ := R.ow j ds e1
      exact ⟨a, xs, by rw [set_get c]; exact h1, h2⟩
  dj := fun j l ds es a h1 h2 h3 h4 => by
    rcases setSl_get S i j _ _ h1 with ⟨c, e1⟩ | ⟨c, e1⟩
    · cases e1
    · rcases setSl_get S i l _ _ h2 with ⟨c2, e2⟩ | ⟨c2, e2⟩
      · cases e2
      · rw [set_get c] at h3
        rw [set_get c2] at h4
        exact R.dj j l ds es a e1 e2 h3 h4
  se := fun j C fs ds h => by
    rcases setSl_get S i j _ _ h with ⟨c, e1⟩ | ⟨c, e1⟩
    · cases e1
    · obtain ⟨a, dx, xs, h1, h2⟩ := R.se j C fs ds e1
      exact ⟨a, dx, xs, by rw [set_get c]; exact h1, h2⟩
  len := by
    rw [List.length_set, R.len]
    simp [setSl]
  tl := R.tl
theorem Rel.wipe (R : Rel K pa F σ H S) : ∀ vs : List Nat, Rel K pa F (L2.wipe σ vs) H (wipeS S vs)
  | [] => R
  | v :: vs => (Rel.wipe R vs).unset
end
theorem set_none_comm (σ : L2.St) (i j : Nat) : (σ.set i none).set j none = (σ.set j none).set i none := by
  by_cases h : i = j
  · subst h; rfl
  · exact List.set_comm _ _ h
theorem wipe_set_none (σ : L2.St) (i : Nat) : ∀ vs : List Nat, wipe (σ.set i none) vs = (wipe σ vs).set i none
  | [] => rfl
  | v :: vs => by
    show (wipe (σ.set i none) vs).set v none = ((wipe σ vs).set v none).set i none
    rw [wipe_set_none σ i vs, set_none_comm]
theorem wipe_set (σ : L2.St) (i : Nat) (x : Option V) : ∀ vs : List Nat, i ∈ vs → wipe (σ.set i x) vs = wipe σ vs
  | [], h => by simp at h
  | v :: vs, h => by
    by_cases c : i = v
    · subst c
      show (wipe (σ.set i x) vs).set i none = (wipe σ vs).set i none
      rw [← wipe_set_none, ← wipe_set_none, List.set_set]
    · show (wipe (σ.set i x) vs).set v none = (wipe σ vs).set v none
      rw [wipe_set σ i x vs (by rcases List.mem_cons.mp h with e | e; exact absurd e c; exact e)]
theorem wipe_wipe (σ : L2.St) : ∀ vs : List Nat, wipe (wipe σ vs) vs = wipe σ vs
  | [] => rfl
  | v :: vs => by
    show (wipe ((wipe σ vs).set v none) vs).set v none = (wipe σ vs).set v none
    rw [wipe_set_none, wipe_wipe σ vs, List.set_set]
def setMany (σ : L2.St) : List Nat → List V → L2.St
  | i :: is, v :: vs => setMany (σ.set i (some v)) is vs
  | _, _ => σ
def setManyS (S : Ev) : List Nat → List Da → Ev
  | i :: is, d :: ds => setManyS (setSl S i (.dat d)) is ds
  | _, _ => S
theorem Rel.setMany {K : PySem.W.Frag} {pa : Pa} {F H : Hp} : ∀ {is : List Nat} {vs : List V} {ds : List Da} {σ : L2.St} {S : Ev}, Rel K pa F σ H S → Dts K F pa vs ds → Rel K pa F (DL.setMany σ is vs) H (setManyS S is ds)
  | [], _, _, _, _, R, _ => R
  | _ :: _, _, _, _, _, R, .nil => R
  | i :: is, v :: vs, d :: ds, σ, S, R, .cons h t => by
    show Rel K pa F (DL.setMany (σ.set i (some v)) is vs) H (setManyS (setSl S i (.dat d)) is ds)
    exact Rel.setMany (R.set h) t
theorem wipe_many (vs : List Nat) : ∀ (is : List Nat) (xs : List V) (σ : L2.St), (∀ i ∈ is, i ∈ vs) → wipe (setMany σ is xs) vs = wipe σ vs
  | [], _, _, _ => rfl
  | _ :: _, [], _, _ => rfl
  | i :: is, x :: xs, σ, h => by
    show wipe (setMany (σ.set i (some x)) is xs) vs = wipe σ vs
    rw [wipe_many vs is xs _ fun j hj => h j (List.mem_cons_of_mem _ hj), wipe_set σ i _ vs (h i (List.mem_cons_self ..))]
def gTg (K : PySem.W.Frag) : List Nat → TG
  | [i] => gName i
  | is => fun v σ H Q => ∃ a xs, v = .ref a ∧ SqT K H a xs ∧ xs.length = is.length ∧ Q (setMany σ is xs) H
theorem CxOk.units {X : Cx} {E : XK} {sc : Scope} {N : List Str} {k : Nat} (h : CxOk X E sc N k) : X.A.units + 66 < cLine := by
  have := h.rm.un
  omega
section
variable {X : Cx} {E : XK} {sc : Scope} {N : List Str} {k : Nat}
theorem g_nm {i : Nat} {e : Expr} (C : CxOk X E sc N k) (h : chkNm sc N i e = true) : PG X e (gName i) := by
  cases e with
  | Name x p =>
    simp only [chkNm, Bool.and_eq_true] at h
    have h1 : N[i]? = some x := of_decide_eq_true h.1
    rw [← C.hN] at h1
    exact pg_name (by rw [C.hN]; exact C.nd) h1 (C.loc x h.2).1 (C.loc x h.2).2
  | _ => cases h
def gsOf : List Nat → TGs
  | [] => gNil
  | i :: is => fun vs σ H Q => gCons (gName i) (gsOf is) vs σ H Q
theorem g_ts (C : CxOk X E sc N k) : ∀ {is : List Nat} {es : List Expr}, chkTs sc N is es = true → PGs X es (gsOf is)
  | [], [], _ => pgs_nil
  | i :: is, e :: es, h => by
    simp only [chkTs, Bool.and_eq_true] at h
    have hs : (assignEach (e :: es) X.env).map (·.2) = assign e X.env :: (assignEach es X.env).map (·.2) := by
      cases e with
      | Name x p => rfl
      | _ => cases h.1
    exact pgs_cons (g_nm C h.1) (g_ts C h.2) hs
  | [], _ :: _, h => by cases h
  | _ :: _, [], h => by cases h
theorem ts_each {env : Env} : ∀ {is : List Nat} {es : List Expr}, chkTs sc N is es = true → (assignEach es env).length = is.length ∧ (assignEach es env).all (fun x => !x.1) = true
  | [], [], _ => ⟨rfl, rfl⟩
  | i :: is, e :: es, h => by
    simp only [chkTs, Bool.and_eq_true] at h
    obtain ⟨h1, h2⟩ := ts_each (env := env) h.2
    have hs : ∃ q, assignEach (e :: es) env = (false, q) :: assignEach es env := by
      cases e with
      | Name x p => exact ⟨_, rfl⟩
      | _ => cases h.1
    obtain ⟨q, hs⟩ := hs
    rw [hs]
    exact ⟨by simp [h1], by simp [h2]⟩
  | [], _ :: _, h => by cases h
  | _ :: _, [], h => by cases h
theorem find_none {α : Type} : ∀ {l : List (Bool × α)}, l.all (fun x => !x.1) = true → l.findIdx? (·.1) = none
  | [], _ => rfl
  | x :: l, h => by
    rw [List.all_cons, Bool.and_eq_true] at h
    have h1 : x.1 = false := by simpa using h.1
    rw [List.findIdx?_cons, h1, find_none h.2]
    rfl
theorem gs_many : ∀ (is : List Nat) (xs : List V) (σ : L2.St) (H : Hp) (Q : L2.St → Hp → Prop), xs.length = is.length → Q (setMany σ is xs) H → gsOf is xs σ H Q
  | [], [], σ, H, Q, _, q => ⟨rfl, q⟩
  | i :: is, x :: xs, σ, H, Q, hl, q => ⟨x, xs, rfl, gs_many is xs _ H Q (by simpa using hl) q⟩
  | [], _ :: _, _, _, _, hl, _ => by simp at hl
  | _ :: _, [], _, _, _, hl, _ => by simp at hl
theorem PG.imp {e : Expr} {t t' : TG} (h : PG X e t) (i : ∀ v σ H Q, t' v σ H Q → t v σ H Q) : PG X e t' := ⟨fun pins s σ H v u Q I r q => h.run pins s σ H v u Q I r (i v σ H Q q)⟩
theorem g_tgT {is : List Nat} {es : List Expr} {kk : Nat} {p : Pos} (C : CxOk X E sc N k) (h : chkTs sc N is es = true) (h2 : gTg X.K is = fun v σ H Q => ∃ a xs, v = .ref a ∧ SqT X.K H a xs ∧ xs.length = is.length ∧ Q (setMany σ is xs) H) : PG X (.Tuple es kk p) (gTg X.K is) := by
  obtain ⟨l1, l2⟩ := ts_each (env := X.env) h
  refine PG.imp (pg_tup (n := is.length) C.calm (g_ts C h) l1 (find_none l2)) fun v σ H Q q => ?_
  rw [h2] at q
  obtain ⟨a, xs, e1, e2, e3, e4⟩ := q
  exact ⟨a, xs, e1, e2, e3, gs_many is xs σ H Q e3 e4⟩
theorem g_tg {is : List Nat} {e : Expr} (C : CxOk X E sc N k) (h : chkTg sc N is e = true) : PG X e (gTg X.K is) := by
  unfold chkTg at h
  split at h
  · rename_i i x p
    exact g_nm C (by simpa [chkNm] using h)
  · exact g_tgT C h rfl
  · exact g_tgT C h rfl
  · exact g_tgT C h rfl
  · exact g_tgT C h rfl
  · cases h
theorem tg_step {K : PySem.W.Frag} {pa : Pa} {F H : Hp} {σ : L2.St} {S S' : Ev} {is : List Nat} {v : V} {d : Da} (R : Rel K pa F σ H S) (t : Dt K F pa v d) (h : bindTg is d S = some S') :
    ∃ xs, Rel K pa F (setMany σ is xs) H S' ∧ ∀ Q : L2.St → Hp → Prop, Q (setMany σ is xs) H → gTg K is v σ H Q := by
  have tup : ∀ ds, d = .tup ds → (is.length ≠ 1) → gTg K is = (fun v σ H Q => ∃ a xs, v = .ref a ∧ SqT K H a xs ∧ xs.length = is.length ∧ Q (setMany σ is xs) H) → ds.length = is.length → S' = setManyS S is ds → ∃ xs, Rel K pa F (setMany σ is xs) H S' ∧ ∀ Q : L2.St → Hp → Prop, Q (setMany σ is xs) H → gTg K is v σ H Q := fun ds e1 _ e2 e3 e4 => by
    subst e1 e4
    obtain ⟨a, xs, h1, h2, h3⟩ := Dt.tup_inv t
    refine ⟨xs, R.setMany h3, fun Q q => ?_⟩
    rw [e2]
    exact ⟨a, xs, h1, same_t R.fh h2, by rw [h3.length, e3], q⟩
  unfold bindTg at h
  split at h
  · rename_i i
    by_cases c : d.fz = true
    · rw [if_pos c] at h
      cases h
      exact ⟨[v], R.set t, fun Q q => q⟩
    · rw [if_neg c] at h
      cases h
  · split at h
    · split at h
      · cases h; exact tup _ rfl (by simp) rfl rfl rfl
      · cases h
    · cases h
  · split at h
    · split at h
      · cases h; exact tup _ rfl (by simp) rfl rfl rfl
      · cases h
    · cases h
  · split at h
    · split at h
      · cases h; exact tup _ rfl (by simp) rfl rfl rfl
      · cases h
    · cases h
  · split at h
    · split at h
      · cases h; exact tup _ rfl (by simp) rfl rfl rfl
      · cases h
    · cases h
  · cases h
end
end DL
set_option maxHeartbeats 2000000
namespace ZM
open PySem PySem.Spec PyProof.Rows L2
structure Itr (pr : Program) (w : World) (t l : Addr) (vs : Array Value) (C : Nat → Heap → Prop) : Prop where
  mv : ∀ {k g g'}, C k g → (∀ c, c = t ∨ c = l → ∀ o, g.get? c = some o → g'.get? c = some o) → C k g'
  ob : ∀ {k g}, C k g → ∃ o, g.get? t = some o ∧ ∀ v, o.data ≠ .cell v
  nx : ∀ {A : Around} {E : Value → Shared → Prop} {s : Shared} {Q : Value → Shared → Prop} {k : Nat} {v : Value}, C k s.heap → vs[k]? = some v →
    (∀ g, C (k + 1) g → Heap.SameBut t s.heap g → Q v { s with heap := g }) → wpAny (model pr w) A (Builtin.SmallTypes.nextOf (.ref t)) Q E s
  en : ∀ {A : Around} {E : Value → Shared → Prop} {s : Shared} {Q : Value → Shared → Prop} {k : Nat}, A.handled = none → C k s.heap → vs[k]? = none →
    (∀ g e, Heap.ExtBut t s.heap g → (∃ o, g.get? e = some o ∧ o.cls = .type "StopIteration") → E (.ref e) { s with heap := g }) → wpAny (model pr w) A (Builtin.SmallTypes.nextOf (.ref t)) Q E s
section
variable {pr : Program} {w : World} {t l : Addr} {vs : Array Value}
theorem itr_list (ne : l ≠ t) : Itr pr w t l vs (fun k g => g.IsListIter t l k ∧ g.IsList l vs) where
  mv := fun c k => ⟨c.1.at fun o q => k t (.inl rfl) o q, c.2.at fun o q => k l (.inr rfl) o q⟩
  ob := fun ⟨⟨o, e, _, d⟩, _⟩ => ⟨o, e, fun v q => by rw [d] at q; cases q⟩
  nx := fun c hv hQ => wpAny_nextOf_list_item c.1 c.2 hv fun g c1 sb => hQ g ⟨c1, c.2.extBut sb.extBut ne⟩ sb
  en := fun hh c hv hE => wpAny_nextOf_list_end hh c.1 c.2 hv hE
theorem itr_tup (ne : l ≠ t) : Itr pr w t l vs (fun k g => g.IsTupleIter t l k ∧ g.IsTuple l vs) where
  mv := fun c k => ⟨c.1.at fun o q => k t (.inl rfl) o q, c.2.at fun o q => k l (.inr rfl) o q⟩
  ob := fun ⟨⟨o, e, _, d⟩, _⟩ => ⟨o, e, fun v q => by rw [d] at q; cases q⟩
  nx := fun c hv hQ => RZ.nextOf_tuple_item c.1 c.2 hv fun g c1 sb => hQ g ⟨c1, c.2.extBut sb.extBut ne⟩ sb
  en := fun hh c hv hE => RZ.nextOf_tuple_end hh c.1 c.2 hv hE
theorem Itr.sb {C : Nat → Heap → Prop} (I : Itr pr w t l vs C) {k : Nat} {g g' : Heap} {q : Addr} (c : C k g) (s : Heap.SameBut q g g') (n1 : t ≠ q) (n2 : l ≠ q) : C k g' :=
  I.mv c fun a ha o e => s.extBut _ _ (by rcases ha with rfl | rfl <;> assumption) e
end
section
variable {pr : Program} {w : World} {A : Around} {E : Value → Shared → Prop} {s : Shared} {z TI TO t1 t2 l1 l2 : Addr} {us vs : Array Value} {C1 C2 : Nat → Heap → Prop} {k : Nat} {u v a b : Value}
theorem zip_step {Q : Value → Shared → Prop} (D : ZipApart z TI TO t1 t2 l1 l2) (I1 : Itr pr w t1 l1 us C1) (I2 : Itr pr w t2 l2 vs C2) (hz : IsZip s.heap z TI TO .none) (hi : IsPair s.heap TI (.ref t1) (.ref t2)) (ho : IsPair s.heap TO a b)
    (c1 : C1 k s.heap) (c2 : C2 k s.heap) (hu : us[k]? = some u) (hv : vs[k]? = some v)
    (fin : ∀ g, IsZip g z TI TO (rawInt s.heap.objs.size) → IsPair g TO u v → C1 (k + 1) g → C2 (k + 1) g → IsPair g s.heap.objs.size u v →
      (∀ c o, c ≠ z → c ≠ TO → c ≠ t1 → c ≠ t2 → s.heap.get? c = some o → g.get? c = some o) → Q (.ref s.heap.objs.size) { s with heap := g }) :
    wpAny (model pr w) A (Builtin.«zip.__next__» ⟨[.ref z], []⟩) (fun f s' => ∃ x, f = .done (.ret x) ∧ Q x s') E s := by
  show wpAny _ _ (field (.ref z) 2 >>= _) _ E s
  refine wpAny_bind (wpAny_field (x := .bool false) hz rfl rfl ?_)
  show wpAny _ _ (field (.ref z) 3 >>= _) _ E s
  refine wpAny_bind (wpAny_field (x := .ref TI) hz rfl rfl ?_)
  refine wpAny_bind (wpAny_seqItems hi rfl ?_)
  show wpAny _ _ (Builtin.SmallTypes.ownedTupleIsFree (.ref z) >>= _) _ E s
  refine wpAny_bind ?_
  unfold Builtin.SmallTypes.ownedTupleIsFree; refine wpAny_bind (wpAny_field (x := .none) hz rfl rfl (wpAny_pure ?_))
  simp only [if_true]
  refine wpAny_bind (wpAny_rule ?_)
  refine wpAny_bind (wpAny_field (x := .ref TO) hz rfl rfl ?_)
  refine wpAny_bind (wpAny_setField_rec hz (by simp) fun g1 z1 b1 => ?_)
  have z1 : IsZip g1 z TI TO .ellipsis := z1
  refine wpAny_bind ?_
  rw [show ∀ x y : Value, ([x, y] : List Value).zipIdx = [(x, 0), (y, 1)] from fun _ _ => rfl]
  simp only [List.forIn_nil, List.forIn_cons]
  have p1 : C1 k g1 := I1.sb c1 b1 D.i1z D.l1z
  have q1 : C2 k g1 := I2.sb c2 b1 D.i2z D.l2z
  refine wpAny_bind (wpAny_bind (wpAny_onRaise ?_))
  show wpAny _ _ (Builtin.SmallTypes.nextOf (.ref t1) >>= _) _ _ _
  refine wpAny_bind (I1.nx p1 hu fun g2 p2 b2 => wpAny_pure ?_)
  have q2 : C2 k g2 := I2.sb q1 b2 D.i12.symm D.l2i1
  have o2 : IsPair g2 TO a b := b2.extBut _ _ D.TOi1 (b1.extBut _ _ D.TOz ho)
  refine wpAny_bind (wpAny_seqItems o2 rfl ?_)
  refine wpAny_bind (wpAny_updateSeq_pair o2 fun g3 o3 b3 => wpAny_bind (wpAny_letGo (wpAny_pure ?_)))
  have o3 : IsPair g3 TO u b := o3
  have p3 : C1 (k + 1) g3 := I1.sb p2 b3 D.TOi1.symm D.l1TO
  have q3 : C2 k g3 := I2.sb q2 b3 D.TOi2.symm D.l2TO
  refine wpAny_bind (wpAny_bind (wpAny_onRaise ?_))
  show wpAny _ _ (Builtin.SmallTypes.nextOf (.ref t2) >>= _) _ _ _
  refine wpAny_bind (I2.nx q3 hv fun g4 q4 b4 => wpAny_pure ?_)
  have p4 : C1 (k + 1) g4 := I1.sb p3 b4 D.i12 D.l1i2
  have o4 : IsPair g4 TO u b := b4.extBut _ _ D.TOi2 o3
  refine wpAny_bind (wpAny_seqItems o4 rfl ?_)
  refine wpAny_bind (wpAny_updateSeq_pair o4 fun g5 o5 b5 => wpAny_bind (wpAny_letGo (wpAny_pure (wpAny_pure ?_))))
  have o5 : IsPair g5 TO u v := o5
  have p5 : C1 (k + 1) g5 := I1.sb p4 b5 D.TOi1.symm D.l1TO
  have q5 : C2 (k + 1) g5 := I2.sb q4 b5 D.TOi2.symm D.l2TO
  have n5 : g5.objs.size = s.heap.objs.size := by rw [b5.1, b4.1, b3.1, b2.1, b1.1]
  have z5 : IsZip g5 z TI TO .ellipsis := b5.extBut _ _ D.TOz.symm (b4.extBut _ _ D.i2z.symm (b3.extBut _ _ D.TOz.symm (b2.extBut _ _ D.i1z.symm z1)))
  have r5 : ∀ c o, c ≠ z → c ≠ TO → c ≠ t1 → c ≠ t2 → s.heap.get? c = some o → g5.get? c = some o := fun c o m1 m2 m3 m4 e =>
    b5.extBut _ _ m2 (b4.extBut _ _ m4 (b3.extBut _ _ m2 (b2.extBut _ _ m3 (b1.extBut _ _ m1 e))))
  refine wpAny_bind (wpAny_seqItems o5 rfl ?_)
  refine wpAny_bind (wpAny_newTuple ?_)
  show wpAny _ _ (Builtin.SmallTypes.ownedTupleHandOut (.ref z) (.ref g5.objs.size) >>= _) _ E _
  have z6 : IsZip (g5.push { cls := .type "tuple", data := .seq #[u, v] }) z TI TO .ellipsis := Heap.get?_push_of_some _ z5
  refine wpAny_bind ?_
  unfold Builtin.SmallTypes.ownedTupleHandOut; refine wpAny_bind (wpAny_setField_rec z6 (by simp) fun g7 z7 b7 => ?_)
  have z7 : IsZip g7 z TI TO (rawInt g5.objs.size) := z7
  refine wpAny_setField_rec z7 (by simp) fun g8 z8 b8 => wpAny_pure ⟨_, rfl, ?_⟩
  have z8 : IsZip g8 z TI TO (rawInt g5.objs.size) := z8
  have up : ∀ c o, c ≠ z → g5.get? c = some o → g8.get? c = some o := fun c o m e => b8.extBut _ _ m (b7.extBut _ _ m (Heap.get?_push_of_some _ e))
  have nz : g5.objs.size ≠ z := Nat.ne_of_gt (Heap.lt_size z5)
  have pr8 : IsPair g8 g5.objs.size u v := b8.extBut _ _ nz (b7.extBut _ _ nz (Heap.get?_push_size _ rfl))
  show Q (.ref g5.objs.size) _
  rw [n5] at z8 pr8 ⊢
  exact fin g8 z8 (up _ _ D.TOz o5) (I1.mv p5 fun c hc o e => up c o (hc.elim (fun q => by rw [q]; exact D.i1z) fun q => by rw [q]; exact D.l1z) e) (I2.mv q5 fun c hc o e => up c o (hc.elim (fun q => by rw [q]; exact D.i2z) fun q => by rw [q]; exact D.l2z) e) pr8 fun c o m1 m2 m3 m4 e => up c o m1 (r5 c o m1 m2 m3 m4 e)
theorem zip_stop {Q : Fin → Shared → Prop} (hh : A.handled = none) (D : ZipApart z TI TO t1 t2 l1 l2) (I1 : Itr pr w t1 l1 us C1) (I2 : Itr pr w t2 l2 vs C2) (hz : IsZip s.heap z TI TO .none) (hi : IsPair s.heap TI (.ref t1) (.ref t2)) (ho : IsPair s.heap TO a b)
    (c1 : C1 k s.heap) (c2 : C2 k s.heap) (he : us[k]? = none ∨ vs[k]? = none)
    (fin : ∀ g e, (∀ c o, c ≠ z → c ≠ TO → c ≠ t1 → c ≠ t2 → s.heap.get? c = some o → g.get? c = some o) → (∃ o, g.get? e = some o ∧ o.cls = .type "StopIteration") → E (.ref e) { s with heap := g }) :
    wpAny (model pr w) A (Builtin.«zip.__next__» ⟨[.ref z], []⟩) Q E s := by
  show wpAny _ _ (field (.ref z) 2 >>= _) _ E s
  refine wpAny_bind (wpAny_field (x := .bool false) hz rfl rfl ?_)
  show wpAny _ _ (field (.ref z) 3 >>= _) _ E s
  refine wpAny_bind (wpAny_field (x := .ref TI) hz rfl rfl ?_)
  refine wpAny_bind (wpAny_seqItems hi rfl ?_)
  show wpAny _ _ (Builtin.SmallTypes.ownedTupleIsFree (.ref z) >>= _) _ E s
  refine wpAny_bind ?_
  unfold Builtin.SmallTypes.ownedTupleIsFree; refine wpAny_bind (wpAny_field (x := .none) hz rfl rfl (wpAny_pure ?_))
  simp only [if_true]
  refine wpAny_bind (wpAny_rule ?_)
  refine wpAny_bind (wpAny_field (x := .ref TO) hz rfl rfl ?_)
  refine wpAny_bind (wpAny_setField_rec hz (by simp) fun g1 z1 b1 => ?_)
  have z1 : IsZip g1 z TI TO .ellipsis := z1
  refine wpAny_bind ?_
  rw [show ∀ x y : Value, ([x, y] : List Value).zipIdx = [(x, 0), (y, 1)] from fun _ _ => rfl]
  simp only [List.forIn_nil, List.forIn_cons]
  have p1 : C1 k g1 := I1.sb c1 b1 D.i1z D.l1z
  have q1 : C2 k g1 := I2.sb c2 b1 D.i2z D.l2z
  refine wpAny_bind (wpAny_bind (wpAny_onRaise ?_))
  show wpAny _ _ (Builtin.SmallTypes.nextOf (.ref t1) >>= _) _ _ _
  cases hu : us[k]? with
  | none =>
    refine wpAny_bind (I1.en hh p1 hu fun g2 e b2 ⟨oe, e1, e2⟩ => ?_)
    have z2 : IsZip g2 z TI TO .ellipsis := b2 _ _ D.i1z.symm z1
    have ez : e ≠ z := fun q => by rw [q, z2] at e1; cases e1; simp at e2
    exact wpAny_setField_rec z2 (by simp) fun g3 _ b3 => fin g3 e (fun c o m1 _ m3 _ x => b3.extBut _ _ m1 (b2 _ _ m3 (b1.extBut _ _ m1 x))) ⟨oe, b3.extBut _ _ ez e1, e2⟩
  | some u =>
    have hv : vs[k]? = none := he.resolve_left (by rw [hu]; exact fun q => by cases q)
    refine wpAny_bind (I1.nx p1 hu fun g2 p2 b2 => wpAny_pure ?_)
    have q2 : C2 k g2 := I2.sb q1 b2 D.i12.symm D.l2i1
    have o2 : IsPair g2 TO a b := b2.extBut _ _ D.TOi1 (b1.extBut _ _ D.TOz ho)
    refine wpAny_bind (wpAny_seqItems o2 rfl ?_)
    refine wpAny_bind (wpAny_updateSeq_pair o2 fun g3 o3 b3 => wpAny_bind (wpAny_letGo (wpAny_pure ?_)))
    have q3 : C2 k g3 := I2.sb q2 b3 D.TOi2.symm D.l2TO
    refine wpAny_bind (wpAny_bind (wpAny_onRaise ?_))
    show wpAny _ _ (Builtin.SmallTypes.nextOf (.ref t2) >>= _) _ _ _
    refine wpAny_bind (I2.en hh q3 hv fun g4 e b4 ⟨oe, e1, e2⟩ => ?_)
    have z4 : IsZip g4 z TI TO .ellipsis := b4 _ _ D.i2z.symm (b3.extBut _ _ D.TOz.symm (b2.extBut _ _ D.i1z.symm z1))
    have ez : e ≠ z := fun q => by rw [q, z4] at e1; cases e1; simp at e2
    exact wpAny_setField_rec z4 (by simp) fun g5 _ b5 => fin g5 e (fun c o m1 m2 m3 m4 x => b5.extBut _ _ m1 (b4 _ _ m4 (b3.extBut _ _ m2 (b2.extBut _ _ m3 (b1.extBut _ _ m1 x))))) ⟨oe, b5.extBut _ _ ez e1, e2⟩
end
abbrev itO (c : String) (l : Addr) : Obj := { cls := .type c, data := .fields #[.ref l, .int 0 0] }
abbrev mxA (g : Heap) (l : Addr) : Heap := g.push (itO "tuple_iterator" l)
abbrev mxB (g : Heap) (l m : Addr) : Heap := (mxA g l).push (itO "list_iterator" m)
abbrev mxC (g : Heap) (l m : Addr) : Heap := (mxB g l m).push { cls := .type "tuple", data := .seq #[.ref g.objs.size, .ref (mxA g l).objs.size] }
abbrev mxD (g : Heap) (l m : Addr) : Heap := (mxC g l m).push { cls := .type "tuple", data := .seq #[.none, .none] }
abbrev mxE (g : Heap) (l m : Addr) : Heap := (mxD g l m).push { cls := .type "zip", data := .fields #[.none, .bool false, .bool false, .ref (mxB g l m).objs.size, .ref (mxC g l m).objs.size] }
theorem mix_new (l m : Addr) (us vs : Array Value) :
    Meets (Builtin.«zip.__new__» ⟨[.type "zip", .ref l, .ref m], []⟩) (fun _ R s => s.heap.IsTuple l us ∧ s.heap.IsList m vs ∧ R (.ok (.ret (.ref (mxD s.heap l m).objs.size))) { s with heap := mxE s.heap l m }) :=
  .of_wp fun prog w A R st hst => by
    obtain ⟨hp, g, d, tk, os⟩ := st; obtain ⟨h1, h2, hr⟩ := hst
    have hsub := sub_zip
    have k1 : Heap.IsTuple (Shared.heap ⟨hp, g, d, tk, os⟩) l us := h1
    have k2 : Heap.IsList (Shared.heap ⟨hp.push { cls := .type "tuple_iterator", data := .fields #[.ref l, .int 0 0] }, g, d, tk, os⟩) m vs := Heap.IsList.push h2 _
    wp_walk using wpAny_pyIter_tuple k1, wpAny_pyIter_list k2
    exact ⟨_, rfl, hr⟩
section
variable {prog : Program} {w : World} {A : Around} {E : Value → Shared → Prop} {s : Shared}
theorem call_mix {l m : Addr} {us vs : Array Value} {Q : Value → Shared → Prop} (h1 : s.heap.IsTuple l us) (h2 : s.heap.IsList m vs)
    (fin : ∀ g, IsZip g (s.heap.objs.size + 4) (s.heap.objs.size + 2) (s.heap.objs.size + 3) .none → IsPair g (s.heap.objs.size + 2) (.ref s.heap.objs.size) (.ref (s.heap.objs.size + 1)) → IsPair g (s.heap.objs.size + 3) .none .none →
      g.IsTupleIter s.heap.objs.size l 0 → g.IsListIter (s.heap.objs.size + 1) m 0 → (∀ c o, s.heap.get? c = some o → g.get? c = some o) → Q (.ref (s.heap.objs.size + 4)) { s with heap := g }) :
    wpAny (model prog w) A (call (.type "zip") [.ref l, .ref m]) Q E s := by
  refine callType_new F.called_zip (by decide) (F.typeCall_zip_2 _ _) (F.newCall_zip_2 _ _) (fun obj => F.args_object_init_3 obj _ _) F.entry_zip_new (mix_new l m us vs) ⟨h1, h2, ?_⟩
  generalize hn : s.heap.objs.size = n at fin
  have na : (mxA s.heap l).objs.size = n + 1 := by rw [Heap.size_push, hn]
  have nb : (mxB s.heap l m).objs.size = n + 2 := by rw [Heap.size_push, na]
  have nc : (mxC s.heap l m).objs.size = n + 3 := by rw [Heap.size_push, nb]
  have nd : (mxD s.heap l m).objs.size = n + 4 := by rw [Heap.size_push, nc]
  have up1 : ∀ {c o}, (mxD s.heap l m).get? c = some o → (mxE s.heap l m).get? c = some o := fun q => Heap.get?_push_of_some _ q
  have up2 : ∀ {c o}, (mxC s.heap l m).get? c = some o → (mxE s.heap l m).get? c = some o := fun q => up1 (Heap.get?_push_of_some _ q)
  have up3 : ∀ {c o}, (mxB s.heap l m).get? c = some o → (mxE s.heap l m).get? c = some o := fun q => up2 (Heap.get?_push_of_some _ q)
  have up4 : ∀ {c o}, (mxA s.heap l).get? c = some o → (mxE s.heap l m).get? c = some o := fun q => up3 (Heap.get?_push_of_some _ q)
  have e5 : (mxE s.heap l m).get? (mxD s.heap l m).objs.size = some _ := Heap.get?_push_size _ rfl
  have e4 : (mxE s.heap l m).get? (mxC s.heap l m).objs.size = some _ := up1 (Heap.get?_push_size _ rfl)
  have e3 : (mxE s.heap l m).get? (mxB s.heap l m).objs.size = some _ := up2 (Heap.get?_push_size _ rfl)
  have e2 : (mxE s.heap l m).get? (mxA s.heap l).objs.size = some _ := up3 (Heap.get?_push_size _ rfl)
  have e1 : (mxE s.heap l m).get? s.heap.objs.size = some _ := up4 (Heap.get?_push_size _ rfl)
  show _ ∧ _
  rw [nb, nc, nd] at e5
  rw [nb, na, hn] at e3
  rw [nc] at e4
  rw [na] at e2
  rw [hn] at e1
  rw [nd]
  exact ⟨⟨_, e5, rfl⟩, fin _ e5 e3 e4 ⟨_, e1, rfl, rfl⟩ ⟨_, e2, rfl, rfl⟩ fun c o q => up4 (Heap.get?_push_of_some _ q)⟩
end
def ItzM (K : PySem.W.Frag) (a b : Addr) : It :=
  ⟨fun i H => ∃ (us vs : List V) (x y : V), SqT K H a us ∧ SqL K H b vs ∧ us[i]? = some x ∧ vs[i]? = some y,
    fun i H v H' => ∃ T x y, v = .ref T ∧ H T = none ∧ H' = upd H T (.tup [x, y]) ∧ (∀ us, SqT K H a us → us[i]? = some x) ∧ ∀ vs, SqL K H b vs → vs[i]? = some y,
    fun i H => ∃ us vs : List V, SqT K H a us ∧ SqL K H b vs ∧ (us.length ≤ i ∨ vs.length ≤ i)⟩
def tnM (z TI TO t1 t2 a b : Addr) (i : Nat) (g : Heap) : Prop := IsZip g z TI TO .none ∧ IsPair g TI (.ref t1) (.ref t2) ∧ (∃ x y, IsPair g TO x y) ∧ g.IsTupleIter t1 a i ∧ g.IsListIter t2 b i
theorem five {z TI TO t1 t2 c : Addr} {P : Prop} (h : c ∈ [z, TI, TO, t1, t2]) (h1 : c = z → P) (h2 : c = TI → P) (h3 : c = TO → P) (h4 : c = t1 → P) (h5 : c = t2 → P) : P := by
  simp only [List.mem_cons, List.not_mem_nil, or_false] at h
  rcases h with h | h | h | h | h
  · exact h1 h
  · exact h2 h
  · exact h3 h
  · exact h4 h
  · exact h5 h
section
variable {pr : Program} {w : World} {A : Around} {E : Value → Shared → Prop} {s : Shared} {z TI TO t1 t2 l1 l2 : Addr} {us vs : Array Value} {C1 C2 : Nat → Heap → Prop} {k : Nat} {u v a b : Value}
theorem next_step {Q : Option Value → Shared → Prop} (D : ZipApart z TI TO t1 t2 l1 l2) (I1 : Itr pr w t1 l1 us C1) (I2 : Itr pr w t2 l2 vs C2) (hz : IsZip s.heap z TI TO .none) (hi : IsPair s.heap TI (.ref t1) (.ref t2)) (ho : IsPair s.heap TO a b)
    (c1 : C1 k s.heap) (c2 : C2 k s.heap) (hu : us[k]? = some u) (hv : vs[k]? = some v)
    (fin : ∀ g, IsZip g z TI TO (rawInt s.heap.objs.size) → IsPair g TO u v → C1 (k + 1) g → C2 (k + 1) g → IsPair g s.heap.objs.size u v →
      (∀ c o, c ≠ z → c ≠ TO → c ≠ t1 → c ≠ t2 → s.heap.get? c = some o → g.get? c = some o) → Q (some (.ref s.heap.objs.size)) { s with heap := g }) : wpAny (model pr w) A (pyNext (.ref z)) Q E s := by
  have ty : s.TypeIs (.ref z) "zip" := ⟨_, hz, rfl⟩
  unfold pyNext
  refine wpAny_bind (wpAny_attempt (wpAny_callSpecial?_slot (name := Str.ofString "__next__") ty F.slot_zip_next (wpAny_call_entry F.slot_zip_next ty F.entry_zip_next ?_ (F.args_zip_next_1 _))))
  exact zip_step D I1 I2 hz hi ho c1 c2 hu hv fun g m1 m2 m3 m4 m5 m6 => wpAny_pure (fin g m1 m2 m3 m4 m5 m6)
theorem next_stop {Q : Option Value → Shared → Prop} (hh : A.handled = none) (D : ZipApart z TI TO t1 t2 l1 l2) (I1 : Itr pr w t1 l1 us C1) (I2 : Itr pr w t2 l2 vs C2) (hz : IsZip s.heap z TI TO .none) (hi : IsPair s.heap TI (.ref t1) (.ref t2)) (ho : IsPair s.heap TO a b)
    (c1 : C1 k s.heap) (c2 : C2 k s.heap) (he : us[k]? = none ∨ vs[k]? = none) (fin : ∀ g, (∀ c o, c ≠ z → c ≠ TO → c ≠ t1 → c ≠ t2 → s.heap.get? c = some o → g.get? c = some o) → Q none { s with heap := g }) : wpAny (model pr w) A (pyNext (.ref z)) Q E s := by
  have ty : s.TypeIs (.ref z) "zip" := ⟨_, hz, rfl⟩
  unfold pyNext
  refine wpAny_bind (wpAny_attempt (wpAny_callSpecial?_slot (name := Str.ofString "__next__") ty F.slot_zip_next (wpAny_call_entry F.slot_zip_next ty F.entry_zip_next ?_ (F.args_zip_next_1 _))))
  refine zip_stop hh D I1 I2 hz hi ho c1 c2 he fun g e keep ⟨o, e1, e2⟩ => ?_
  exact wpAny_bind (wpAny_isInstance (T := "StopIteration") (b := true) ⟨o, e1, e2⟩ isSubtype_stop (wpAny_pure (fin _ keep)))
end
theorem turn_mix {P : Program} {w : World} {K : PySem.W.Frag} {elts : List Expr} {kk : Nat} {tpos : Pos} {a b z TI TO t1 t2 : Addr} (D : ZipApart z TI TO t1 t2 a b) : Turn P w K (.Tuple elts kk tpos) (ItzM K a b) [z, TI, TO, t1, t2] z (tnM z TI TO t1 t2 a b) where
  mem := List.mem_cons_self
  obj := fun i g st c hc => by
    obtain ⟨hz, hi, ⟨x, y, ho⟩, ⟨o1, e1, _, d1⟩, ⟨o2, e2, _, d2⟩⟩ := st
    exact five hc (fun q => ⟨_, q ▸ hz, by intro v r; cases r⟩) (fun q => ⟨_, q ▸ hi, by intro v r; cases r⟩) (fun q => ⟨_, q ▸ ho, by intro v r; cases r⟩) (fun q => ⟨o1, q ▸ e1, fun v r => by rw [d1] at r; cases r⟩) (fun q => ⟨o2, q ▸ e2, fun v r => by rw [d2] at r; cases r⟩)
  keep := fun i g g' ⟨hz, hi, ⟨x, y, ho⟩, h1, h2⟩ k => ⟨k _ (by simp) _ hz, k _ (by simp) _ hi, ⟨x, y, k _ (by simp) _ ho⟩, h1.at fun o q => k t1 (by simp) o q, h2.at fun o q => k t2 (by simp) o q⟩
  item := by
    intro X e1 e2 e3 hc i pins s σ H E I hf st hg
    subst e1 e2 e3
    obtain ⟨hz, hi, ⟨x0, y0, ho⟩, h1, h2⟩ := st
    obtain ⟨us, vs, x, y, qa, qb, hx, hy⟩ := hg
    obtain ⟨its, ra, pa, _⟩ := I.tuple qa
    obtain ⟨its2, rb, pb, _⟩ := I.list qb
    obtain ⟨u, hu, ru⟩ := ra.get hx
    obtain ⟨v, hv, rv⟩ := rb.get hy
    have zl : z < s.heap.objs.size := Heap.lt_size hz
    have lt : ∀ c ∈ [z, TI, TO, t1, t2], c < s.heap.objs.size := fun c hc => five hc (fun q => q ▸ zl) (fun q => q ▸ Heap.lt_size hi) (fun q => q ▸ Heap.lt_size ho) (fun q => by obtain ⟨_, e, _⟩ := h1; exact q ▸ Heap.lt_size e) (fun q => by obtain ⟨_, e, _⟩ := h2; exact q ▸ Heap.lt_size e)
    refine next_step D (itr_tup D.l1i1) (itr_list D.l2i2) hz hi ho ⟨h1, pa⟩ ⟨h2, pb.isList⟩ (u := u) (v := v) (by simpa using hu) (by simpa using hv) fun g z' o' c1 c2 hp hk => ⟨_, rfl, ?_⟩
    refine wpAny_letOwnedTupleGo_zip (s := { s with heap := g }) z' fun g2 z2 sb => ?_
    have hp2 : g2.get? s.heap.objs.size = some { cls := .type "tuple", data := .seq #[u, v] } := (sb.2 _ (Nat.ne_of_gt zl)).trans hp
    have hk2 : ∀ c o, c ∉ [z, TI, TO, t1, t2] → s.heap.get? c = some o → g2.get? c = some o := fun c o hn e => by
      simp only [List.mem_cons, List.not_mem_nil, or_false, not_or] at hn
      exact (sb.2 c hn.1).trans (hk c o hn.1 hn.2.2.1 hn.2.2.2.1 hn.2.2.2.2 e)
    have new : ObjOk X.prog X.w (upd H s.heap.objs.size (.tup [x, y])) g2 s.heap.objs.size (.tup [x, y]) := ⟨by show 2 ≤ sizeLine; decide, [u, v], .cons ru (.cons rv .nil), ⟨_, hp2, rfl, _, rfl⟩⟩
    have sz : s.heap.objs.size < g2.objs.size := Heap.lt_size hp2
    have I2 : Inv X pins σ (upd H s.heap.objs.size (.tup [x, y])) { s with heap := g2 } := I.turnedNew (t' := s.toks) (ch := [z, TI, TO, t1, t2]) (fun c o hb q => hk2 c o hb q) hf (Nat.le_refl _) new
    refine ⟨.ref s.heap.objs.size, _, I2, rfl, ⟨_, x, y, rfl, I.hok.fresh (Nat.le_refl _), rfl, fun l hl => by rw [I.tuple_inj hl qa]; exact hx, fun l hl => by rw [I.list_inj hl qb]; exact hy⟩, ⟨z2, ?_, ⟨u, v, ?_⟩, ?_, ?_⟩, fun c hm => ?_⟩
    · exact (sb.2 _ D.TIz).trans (hk _ _ D.TIz D.TITO D.TIi1 D.TIi2 hi)
    · exact (sb.2 _ D.TOz).trans o'
    · exact c1.1.at fun o q => (sb.2 _ D.i1z).trans q
    · exact c2.1.at fun o q => (sb.2 _ D.i2z).trans q
    · rw [upd_ne (Nat.ne_of_lt (lt c hm))]
      exact (hf c hm).1
  done := by
    intro X e1 e2 e3 hc i pins s σ H E I hf st hg
    subst e1 e2 e3
    obtain ⟨hz, hi, ⟨x0, y0, ho⟩, h1, h2⟩ := st
    obtain ⟨us, vs, qa, qb, he⟩ := hg
    obtain ⟨its, ra, pa, _⟩ := I.tuple qa
    obtain ⟨its2, rb, pb, _⟩ := I.list qb
    have na := ra.length
    have nb := rb.length
    have he : its.toArray[i]? = none ∨ its2.toArray[i]? = none := he.imp (fun q => by simp; omega) (fun q => by simp; omega)
    refine next_stop (I.ok.hd hc) D (itr_tup D.l1i1) (itr_list D.l2i2) hz hi ho ⟨h1, pa⟩ ⟨h2, pb.isList⟩ he fun g hk => ⟨rfl, ?_⟩
    refine I.turnedL (t' := s.toks) (ch := [z, TI, TO, t1, t2]) (fun c o hn q => ?_) hf
    simp only [List.mem_cons, List.not_mem_nil, or_false, not_or] at hn
    exact hk c o hn.1 hn.2.2.1 hn.2.2.2.1 hn.2.2.2.2 q
  self := fun A i s Q E st q => wpAny_pyIter_zip st.1 q
def iZipM (K : PySem.W.Frag) (ta : TA) : TI := fun σ H R => ta σ H fun vs H1 => ∃ a b xs ys, vs = [.ref a, .ref b] ∧ ((SqL K H1 a xs ∧ SqL K H1 b ys ∧ R (Itz K a b) H1) ∨ (SqT K H1 a xs ∧ SqL K H1 b ys ∧ R (ItzM K a b) H1))
theorem pi_zipM {X : Cx} {e e2 : Expr} {ta : TA} {p pos tpos : Pos} {elts : List Expr} {kk : Nat} (hg : Gl X "zip") (hm : X.mg "zip" = none) (ha : PA X [e, e2] ta)
    (hs : starEach [e, e2] X.env = (false, eval e X.env) :: starEach [e2] X.env) (hpl : (backTo pos (starEach [e2] X.env)).any (·.1) = false) : PI X (.Tuple elts kk tpos) (.Call (.Name "zip" p) [e, e2] [] pos) (iZipM X.K ta) := by
  refine ⟨fun pins s σ H R I h => Call_ (ld_blt I hg hm PyProof.Rows.boot_zip (PyProof.Rows.callWith_type1 (thn (ha.run pos pins s σ H _ I h) fun args s1 ⟨vs, H1, I1, r1, q1⟩ => ?_) hs hpl))⟩
  obtain ⟨a, b, xs, ys, rfl, q1⟩ := q1
  cases r1 with
  | cons ra r1 =>
  cases r1 with
  | cons rb r1 =>
  cases r1
  cases ra
  cases rb
  generalize hn : s1.heap.objs.size = n
  have fr : ∀ c ∈ [n + 4, n + 2, n + 3, n, n + 1], FpOk X pins H1 c := fun c hc => by
    have hle : s1.heap.objs.size ≤ c := by
      rw [hn]
      exact five hc (fun q => by rw [q]; exact Nat.le_add_right n 4) (fun q => by rw [q]; exact Nat.le_add_right n 2) (fun q => by rw [q]; exact Nat.le_add_right n 3) (fun q => by rw [q]; exact Nat.le_refl n) (fun q => by rw [q]; exact Nat.le_add_right n 1)
    exact I1.fpOk hle (I1.hok.fresh hle)
  rcases q1 with ⟨qa, qb, q⟩ | ⟨qa, qb, q⟩
  · obtain ⟨_, _, pa, _⟩ := I1.list qa
    obtain ⟨_, _, pb, _⟩ := I1.list qb
    refine call_zip_2 pa.isList pb.isList fun g hz hi ho h1 h2 _ hk => wpAny_pyIter_zip hz ?_
    rw [hn] at hz hi ho h1 h2 ⊢
    exact ⟨_, _, _, _, H1, rfl, I1.kept (t' := s1.toks) hk, turn_zip (PySem.W.ktu_apart n a b (by rw [← hn]; exact pa.lt) (by rw [← hn]; exact pb.lt)), ⟨hz, hi, ⟨_, _, ho⟩, h1, h2⟩, fr, q⟩
  · obtain ⟨_, _, pa, _⟩ := I1.tuple qa
    obtain ⟨_, _, pb, _⟩ := I1.list qb
    obtain ⟨oa, ea, _⟩ := id pa
    refine call_mix pa pb.isList fun g hz hi ho h1 h2 hk => wpAny_pyIter_zip hz ?_
    rw [hn] at hz hi ho h1 h2 ⊢
    exact ⟨_, _, _, _, H1, rfl, I1.kept (t' := s1.toks) hk, turn_mix (PySem.W.ktu_apart n a b (by rw [← hn]; exact Heap.lt_size ea) (by rw [← hn]; exact pb.lt)), ⟨hz, hi, ⟨_, _, ho⟩, h1, h2⟩, fr, q⟩
end ZM
set_option maxHeartbeats 4000000
namespace DL
open PySem PySem.Spec PyProof.Rows L2

section
variable {X : Cx} {E : XK} {K : PySem.W.Frag}
theorem ne_pool {pa : Pa} {F H : Hp} {P : Po} {D : Addr} (p : PoolOk F H pa P) (h : H D = none) : NM pa D := p.nm h
def NX (H : Hp) (a : Addr) : Prop := ∀ f, H a ≠ some (.ext f)
theorem nx_none {H : Hp} {a : Addr} (h : H a = none) : NX H a := fun f z => by rw [h] at z; cases z
theorem nx_of {H : Hp} {a : Addr} {o : HO} (h : H a = some o) (ho : ∀ f, o ≠ .ext f := by intro _ z; cases z) : NX H a := fun f z => by
  rw [h] at z
  exact ho f (Option.some.inj z)
theorem TbOk.tail {F H : Hp} {T : List (Addr × Str)} {D : Addr} {o : HO} (t : TbOk F H T) (n : ∀ q ∈ T, q.1 ≠ D) (hx : NX H D) (ho : ∀ ps, o ≠ .tbl ps) : TbOk F (upd H D o) T where
  tabs := fun q hq => by
    obtain ⟨ps, h1, h2, h3⟩ := t.tabs q hq
    refine ⟨ps, by rw [upd_ne (n q hq)]; exact h1, h2, fun pos cv hc => ?_⟩
    obtain ⟨c, e1, e2⟩ := h3 pos cv hc
    refine ⟨c, e1, ?_⟩
    have hne : c ≠ D := fun z => hx _ (z ▸ e2)
    rw [upd_ne hne]
    exact e2
  out := t.out
  only := fun a ps e => t.only a ps (upd_tbl ho e)
theorem Gr.tail {pa : Pa} {F H F' H' : Hp} {D : Addr} {o : HO} (g : Gr pa F H F' H') (hF : F' D = none) (hH : H D = none) : Gr pa F H F' (upd H' D o) where
  ff := g.ff
  fh := fun b u e => by rw [upd_ne (ne_of_none e hF)]; exact g.fh b u e
  hh := fun b u e n => by rw [upd_ne (ne_of_none e hH)]; exact g.hh b u e n
  nw := g.nw
theorem PoolOk.tail {pa : Pa} {F H : Hp} {D : Addr} {o : HO} {P : Po} (p : PoolOk F H pa P) (n : NM pa D) (hx : NX H D) (ho : ∀ ps, o ≠ .tbl ps := by intro _ z; cases z) : PoolOk F (upd H D o) pa P where
  pp := p.pp.ext (fun q e => by
    have hp := p.pp
    rw [e] at hp
    obtain ⟨_, _, _, _, h1, _⟩ := hp.at
    exact h1) fun q u e h => by
    have hq : q ≠ D := fun z => n.1 (by rw [← z, e])
    rw [upd_ne hq]
    exact h
  tb := p.tb.tail n.2 hx ho
theorem Gr.freeze {pa : Pa} {F H F' H' : Hp} {D : Addr} {o : HO} (g : Gr pa F H F' H') (hD : H' D = some o) (hF : F' D = none) (hH : H D = none) : Gr pa F H (upd F' D o) H' where
  ff := fun b u e => by rw [upd_ne (ne_of_none (g.ff b u e) hF)]; exact g.ff b u e
  fh := fun b u e => by
    by_cases c : b = D
    · subst c; rw [upd_same] at e; cases e; exact hD
    · rw [upd_ne c] at e; exact g.fh b u e
  hh := g.hh
  nw := fun b u e => by
    by_cases c : b = D
    · subst c; exact .inr hH
    · rw [upd_ne c] at e; exact g.nw b u e
theorem PoolOk.freeze {pa : Pa} {F H : Hp} {D : Addr} {o : HO} {P : Po} (p : PoolOk F H pa P) (n : NM pa D) : PoolOk (upd F D o) H pa P where
  pp := p.pp.ext (fun q e => by
    have hp := p.pp
    rw [e] at hp
    obtain ⟨_, _, _, _, h1, _⟩ := hp.at
    have hq : q ≠ D := fun z => n.1 (by rw [← z, e])
    rw [upd_ne hq]
    exact h1) fun q u e h => h
  tb := ⟨p.tb.tabs, fun q hq => by rw [upd_ne (n.2 q hq)]; exact p.tb.out q hq, p.tb.only⟩
theorem lc_sound {fi : Ev → Out (Bool × List Da)} {ft : Ev → Out Bool} {fe : Ev → Out Da} {vs tg : List Nat} {g : TG} (htg : ∀ i ∈ tg, i ∈ vs) (hg : ∀ v σ H Q, gTg K tg v σ H Q → g v σ H Q) (σ : L2.St) (H : Hp) (Q : VK)
    (h : up K E (fun S => (fi S).bind fun ds P => lcL (fun d P1 => bindTg tg d (wipeS (S.wp P1) vs)) ft fe ds.2 P []) σ H Q) :
    tLc (upI K E fi) g (upT K E0 ft) (up K E0 fe) vs σ H Q := by
  obtain ⟨pa, F, S, R, h⟩ := h
  refine ⟨pa, F, S, R, ?_⟩
  dsimp only at h
  cases hfi : fi S with
  | ex C fs ds P' => rw [hfi] at h; exact h
  | no => rw [hfi] at h; exact h
  | ok ds0 P1 =>
    rw [hfi, Out.bind_ok] at h
    obtain ⟨fl, ds⟩ := ds0
    intro J F1 H1 g1 p1 wk _ D hD
    dsimp only at h wk
    have h1 := Post.rebase g1 p1 h
    have R1 := R.grow g1 p1
    obtain ⟨G, Y, w1, w2, w3⟩ := wk.ex
    have nD : NM pa D := ne_pool p1 hD
    have hFD : F1 D = none := g1.fh.free hD
    refine lc_it w1 (Qd := fun H' => Q (.ref D) H') (fun i H' => ∃ F' P' acc ys, Gr pa F1 H1 F' H' ∧ PoolOk F' H' pa P' ∧ F' D = none ∧ H' D = some (.lst ys) ∧ Dts K F' pa ys acc ∧
      Post K E pa F1 H1 (lcL (fun d P1 => bindTg tg d (wipeS (S.wp P1) vs)) ft fe (ds.drop i) P' acc) Q) ?_ ?_ ?_ ?_
    · exact ⟨F1, P1, [], [], (Gr.refl g1.fh).tail hFD hD, p1.tail nD (nx_none hD), hFD, upd_same, .nil, h1⟩
    · rintro i H' _ ⟨F', P', acc, ys, gr, po, _⟩
      exact w2 F' H' gr gr.fh
    · rintro i x H' H'' hi ⟨F', P', acc, ys, gr, po, f0, hd, ta, hp⟩ hy
      obtain ⟨d, F'', hdi, gr2, po2, td⟩ := w3 i F' H' x H'' gr gr.fh hi hy
      have hdrop : ds.drop i = d :: ds.drop (i + 1) := by
        obtain ⟨hlt, he⟩ := List.getElem?_eq_some_iff.mp hdi
        rw [List.drop_eq_getElem_cons hlt, he]
      rw [hdrop] at hp
      unfold lcL at hp
      have po3 := po2 P' po
      have gr3 := gr.trans po gr2
      have Rw : Rel K pa F'' (wipe σ vs) H'' (wipeS (S.wp P') vs) := by
        have R3 : Rel K pa F'' σ H'' ((S.wp P1).wp P') := R1.grow gr3 po3
        exact Rel.wipe R3 vs
      cases hb : bindTg tg d (wipeS (S.wp P') vs) with
      | none => rw [hb] at hp; exact hp.elim
      | some S2 =>
        rw [hb] at hp
        dsimp only at hp
        obtain ⟨xs, R4, hstep⟩ := tg_step Rw td hb
        refine hg _ _ _ _ (hstep _ ?_)
        refine ⟨by rw [wipe_many vs tg xs _ htg, wipe_wipe], pa, F'', S2, R4, ?_⟩
        have fD : F'' D = none := gr2.stays f0 hd
        have hD2 : H'' D = some (.lst ys) := gr2.hh D _ hd nD
        have ta2 : Dts K F'' pa ys acc := ta.mono gr2.ff
        cases hft : ft S2 with
        | ex C fs es P' => rw [hft] at hp; exact hp.elim
        | no => rw [hft] at hp; exact hp.elim
        | ok b P2 =>
          rw [hft] at hp
          intro F3 H3 g3 p3
          have gr4 := gr3.trans po3 g3
          have fD3 : F3 D = none := g3.stays fD hD2
          have hD3 : H3 D = some (.lst ys) := g3.hh D _ hD2 nD
          have ta3 : Dts K F3 pa ys acc := ta2.mono g3.ff
          cases b with
          | false =>
            rw [if_neg (by simp)]
            exact ⟨F3, P2, acc, ys, gr4, p3, fD3, hD3, ta3, hp⟩
          | true =>
            rw [if_pos rfl]
            dsimp only at hp
            refine ⟨pa, F3, S2.wp P2, R4.grow g3 p3, ?_⟩
            cases hfe : fe (S2.wp P2) with
            | ex C fs es P' => rw [hfe] at hp; exact hp.elim
            | no => rw [hfe] at hp; exact hp.elim
            | ok y P3 =>
              rw [hfe] at hp
              dsimp only at hp
              by_cases c : (y.fz && decide (acc.length < lim)) = true
              · rw [if_pos c] at hp
                rw [Bool.and_eq_true] at c
                intro v F4 H4 g4 p4 t4
                have fD4 : F4 D = none := g4.stays fD3 hD3
                have hD4 : H4 D = some (.lst ys) := g4.hh D _ hD3 nD
                have ta4 : Dts K F4 pa ys acc := ta3.mono g4.ff
                have gr5 := gr4.trans p3 g4
                refine ⟨ys, hD4, ?_, F4, P3, acc ++ [y], ys ++ [v], gr5.tail fD4 hD, p4.tail nD (nx_of hD4), fD4, upd_same, ta4.snoc (t4.dt c.1), hp⟩
                rw [ta4.length]
                have := of_decide_eq_true c.2
                exact Nat.lt_of_lt_of_le this lim_le
              · rw [if_neg c] at hp
                exact hp.elim
    · rintro H' ⟨F', P', acc, ys, gr, po, f0, hd, ta, hp⟩
      rw [List.drop_length] at hp
      have hF := fun b u (e : F' b = some u) => ne_of_none e f0
      exact hp _ _ _ (gr.freeze hd f0 hD) (po.freeze nD) (Dx.of (.lst upd_same (ta.new f0)))
def PostL (K : PySem.W.Frag) (E : XK) (pa : Pa) (F H : Hp) (o : Out Da) (Q : VK) : Prop := match o with
  | .ok d P' => ∀ (D : Addr) (ys : List V) (acc : List Da) (F' H' : Hp), d = .lst acc → H D = none → Gr pa F H F' H' → PoolOk F' H' pa P' → F' D = none → H' D = some (.lst ys) → Dts K F' pa ys acc → Q (.ref D) H'
  | .ex C fs ds P' => PostX K E pa F H C fs ds P'
  | .no => False
theorem PostL.rebase {K : PySem.W.Frag} {E : XK} {pa : Pa} {F H F1 H1 : Hp} {P1 : Po} {o : Out Da} {Q : VK} (g : Gr pa F H F1 H1) (p1 : PoolOk F1 H1 pa P1) (h : PostL K E pa F H o Q) : PostL K E pa F1 H1 o Q := by
  cases o with
  | ok d P' =>
    intro D ys acc F' H' e hD k p f0 hd ta
    refine h D ys acc F' H' e ?_ (g.trans p1 k) p f0 hd ta
    cases q : H D with
    | none => rfl
    | some u =>
      have := g.hh D u q (p1.nm hD)
      rw [hD] at this
      cases this
  | ex C fs ds P' => exact PostX.rebase g p1 h
  | no => exact h
theorem lc_soundL {fi : Ev → Out (Bool × List Da)} {ft : Ev → Out Bool} {fe : Ev → Out Da} {vs tg : List Nat} {g : TG} (htg : ∀ i ∈ tg, i ∈ vs) (hg : ∀ v σ H Q, gTg K tg v σ H Q → g v σ H Q) (σ : L2.St) (H : Hp) (Q : VK)
    (h : ∃ pa F S, Rel K pa F σ H S ∧ PostL K E pa F H ((fi S).bind fun ds P => lcL (fun d P1 => bindTg tg d (wipeS (S.wp P1) vs)) ft fe ds.2 P []) Q) :
    tLc (upI K E fi) g (upT K E0 ft) (up K E0 fe) vs σ H Q := by
  obtain ⟨pa, F, S, R, h⟩ := h
  refine ⟨pa, F, S, R, ?_⟩
  cases hfi : fi S with
  | ex C fs ds P' => rw [hfi] at h; exact h
  | no => rw [hfi] at h; exact h
  | ok ds0 P1 =>
    rw [hfi, Out.bind_ok] at h
    obtain ⟨fl, ds⟩ := ds0
    intro J F1 H1 g1 p1 wk _ D hD
    dsimp only at h wk
    have h1 := PostL.rebase g1 p1 h
    have R1 := R.grow g1 p1
    obtain ⟨G, Y, w1, w2, w3⟩ := wk.ex
    have nD : NM pa D := ne_pool p1 hD
    have hFD : F1 D = none := g1.fh.free hD
    refine lc_it w1 (Qd := fun H' => Q (.ref D) H') (fun i H' => ∃ F' P' acc ys, Gr pa F1 H1 F' H' ∧ PoolOk F' H' pa P' ∧ F' D = none ∧ H' D = some (.lst ys) ∧ Dts K F' pa ys acc ∧
      PostL K E pa F1 H1 (lcL (fun d P1 => bindTg tg d (wipeS (S.wp P1) vs)) ft fe (ds.drop i) P' acc) Q) ?_ ?_ ?_ ?_
    · exact ⟨F1, P1, [], [], (Gr.refl g1.fh).tail hFD hD, p1.tail nD (nx_none hD), hFD, upd_same, .nil, h1⟩
    · rintro i H' _ ⟨F', P', acc, ys, gr, po, _⟩
      exact w2 F' H' gr gr.fh
    · rintro i x H' H'' hi ⟨F', P', acc, ys, gr, po, f0, hd, ta, hp⟩ hy
      obtain ⟨d, F'', hdi, gr2, po2, td⟩ := w3 i F' H' x H'' gr gr.fh hi hy
      have hdrop : ds.drop i = d :: ds.drop (i + 1) := by
        obtain ⟨hlt, he⟩ := List.getElem?_eq_some_iff.mp hdi
        rw [List.drop_eq_getElem_cons hlt, he]
      rw [hdrop] at hp
      unfold lcL at hp
      have po3 := po2 P' po
      have gr3 := gr.trans po gr2
      have Rw : Rel K pa F'' (wipe σ vs) H'' (wipeS (S.wp P') vs) := by
        have R3 : Rel K pa F'' σ H'' ((S.wp P1).wp P') := R1.grow gr3 po3
        exact Rel.wipe R3 vs
      cases hb : bindTg tg d (wipeS (S.wp P') vs) with
      | none => rw [hb] at hp; exact hp.elim
      | some S2 =>
        rw [hb] at hp
        dsimp only at hp
        obtain ⟨xs, R4, hstep⟩ := tg_step Rw td hb
        refine hg _ _ _ _ (hstep _ ?_)
        refine ⟨by rw [wipe_many vs tg xs _ htg, wipe_wipe], pa, F'', S2, R4, ?_⟩
        have fD : F'' D = none := gr2.stays f0 hd
        have hD2 : H'' D = some (.lst ys) := gr2.hh D _ hd nD
        have ta2 : Dts K F'' pa ys acc := ta.mono gr2.ff
        cases hft : ft S2 with
        | ex C fs es P' => rw [hft] at hp; exact hp.elim
        | no => rw [hft] at hp; exact hp.elim
        | ok b P2 =>
          rw [hft] at hp
          intro F3 H3 g3 p3
          have gr4 := gr3.trans po3 g3
          have fD3 : F3 D = none := g3.stays fD hD2
          have hD3 : H3 D = some (.lst ys) := g3.hh D _ hD2 nD
          have ta3 : Dts K F3 pa ys acc := ta2.mono g3.ff
          cases b with
          | false =>
            rw [if_neg (by simp)]
            exact ⟨F3, P2, acc, ys, gr4, p3, fD3, hD3, ta3, hp⟩
          | true =>
            rw [if_pos rfl]
            dsimp only at hp
            refine ⟨pa, F3, S2.wp P2, R4.grow g3 p3, ?_⟩
            cases hfe : fe (S2.wp P2) with
            | ex C fs es P' => rw [hfe] at hp; exact hp.elim
            | no => rw [hfe] at hp; exact hp.elim
            | ok y P3 =>
              rw [hfe] at hp
              dsimp only at hp
              by_cases c : (y.fz && decide (acc.length < lim)) = true
              · rw [if_pos c] at hp
                rw [Bool.and_eq_true] at c
                intro v F4 H4 g4 p4 t4
                have fD4 : F4 D = none := g4.stays fD3 hD3
                have hD4 : H4 D = some (.lst ys) := g4.hh D _ hD3 nD
                have ta4 : Dts K F4 pa ys acc := ta3.mono g4.ff
                have gr5 := gr4.trans p3 g4
                refine ⟨ys, hD4, ?_, F4, P3, acc ++ [y], ys ++ [v], gr5.tail fD4 hD, p4.tail nD (nx_of hD4), fD4, upd_same, ta4.snoc (t4.dt c.1), hp⟩
                rw [ta4.length]
                have := of_decide_eq_true c.2
                exact Nat.lt_of_lt_of_le this lim_le
              · rw [if_neg c] at hp
                exact hp.elim
    · rintro H' ⟨F', P', acc, ys, gr, po, f0, hd, ta, hp⟩
      rw [List.drop_length] at hp
      exact hp D ys acc F' H' rfl hD gr po f0 hd ta
def NoOwn (S : Ev) : Prop := ∀ (i : Nat) (sv : Sv), S.sl[i]? = some sv → (∃ d, sv = Sv.dat d) ∨ sv = Sv.un
theorem noOwn_hid (S : Ev) : NoOwn (hidS S) := fun i sv h => by
  have h2 : (S.sl.map Sv.hid)[i]? = some sv := h
  rw [List.getElem?_map] at h2
  cases q : S.sl[i]? with
  | none => rw [q] at h2; cases h2
  | some v =>
    rw [q] at h2
    cases h2
    cases v <;> first | exact .inl ⟨_, rfl⟩ | exact .inr rfl
theorem noOwn_set {S : Ev} {i : Nat} {v : Sv} (h : NoOwn S) (hv : (∃ d, v = .dat d) ∨ v = .un) : NoOwn (setSl S i v) := fun j sv hj => by
  rcases setSl_get S i j _ _ hj with ⟨_, e⟩ | ⟨_, e⟩
  · rw [← e]; exact hv
  · exact h j sv e
theorem noOwn_wipe {S : Ev} (h : NoOwn S) : ∀ vs : List Nat, NoOwn (wipeS S vs)
  | [] => h
  | v :: vs => noOwn_set (noOwn_wipe h vs) (.inr rfl)
theorem noOwn_wp {S : Ev} {P : Po} (h : NoOwn S) : NoOwn (S.wp P) := h
theorem noOwn_tg {is : List Nat} {d : Da} {S S' : Ev} (h : NoOwn S) (hb : bindTg is d S = some S') : NoOwn S' := by
  have st : ∀ {S : Ev} {i : Nat} {d : Da}, NoOwn S → NoOwn (setSl S i (.dat d)) := fun h => noOwn_set h (.inl ⟨_, rfl⟩)
  unfold bindTg at hb
  split at hb
  · split at hb
    · cases hb; exact st h
    · cases hb
  · split at hb
    · split at hb
      · cases hb; exact st (st h)
      · cases hb
    · cases hb
  · split at hb
    · split at hb
      · cases hb; exact st (st (st h))
      · cases hb
    · cases hb
  · split at hb
    · split at hb
      · cases hb; exact st (st (st (st h)))
      · cases hb
    · cases hb
  · split at hb
    · split at hb
      · cases hb; exact st (st (st (st (st h))))
      · cases hb
    · cases hb
  · cases hb
section
variable {K : PySem.W.Frag} {E : XK} {pa : Pa}
theorem Rel.hid {F H : Hp} {σ : L2.St} {S : Ev} (R : Rel K pa F σ H S) : Rel K pa F σ H (hidS S) where
  fh := R.fh
  po := R.po
  sl := fun i d h => by
    have h2 : (S.sl.map Sv.hid)[i]? = some (.dat d) := h
    rw [List.getElem?_map] at h2
    cases q : S.sl[i]? with
    | none => rw [q] at h2; cases h2
    | some v =>
      rw [q] at h2
      cases v with
      | dat e => cases h2; exact R.sl i _ q
      | _ => cases h2
  ow := fun i ds h => by rcases noOwn_hid S i _ h with ⟨_, e⟩ | e <;> cases e
  dj := fun i j ds es a h => by rcases noOwn_hid S i _ h with ⟨_, e⟩ | e <;> cases e
  se := fun i C fs ds h => by rcases noOwn_hid S i _ h with ⟨_, e⟩ | e <;> cases e
  tl := R.tl
  len := by rw [R.len]; simp [hidS]
theorem Rel.updD {F H : Hp} {σ : L2.St} {S : Ev} {D : Addr} {o : HO} (R : Rel K pa F σ H S) (hn : NoOwn S) (hF : F D = none) (nD : NM pa D) (nX : NX H D) (ho : ∀ ps, o ≠ .tbl ps := by intro _ z; cases z) : Rel K pa F σ (upd H D o) S where
  fh := fun b u e => by rw [upd_ne (ne_of_none e hF)]; exact R.fh b u e
  po := R.po.tail nD nX ho
  sl := R.sl
  ow := fun i ds h => by rcases hn i _ h with ⟨_, e⟩ | e <;> cases e
  dj := fun i j ds es a h => by rcases hn i _ h with ⟨_, e⟩ | e <;> cases e
  se := fun i C fs ds h => by rcases hn i _ h with ⟨_, e⟩ | e <;> cases e
  tl := R.tl
  len := R.len
theorem lc_in {J : It} {n : Nat} {G : Hp → Prop} {Y : Nat → Hp → V → Hp → Prop} (w : Walk J n G Y) {g : TG} {tt : TT} {te : TE} {vs : List Nat} {σ : L2.St} {H1 : Hp} {D : Addr} {Qd : Hp → Prop} (Pv : Nat → Hp → Prop) (h0 : Pv 0 H1) (hG : ∀ i H, i ≤ n → Pv i H → G H)
    (hs : ∀ i x H H', i < n → Pv i H → Y i H x H' → g x (wipe σ vs) H' fun σ2 H2 => wipe σ2 vs = wipe σ vs ∧ tt σ2 H2 fun b H3 =>
      if b = true then te σ2 H3 fun y H4 => ∃ acc, H4 D = some (.lst acc) ∧ acc.length < sizeLine ∧ Pv (i + 1) (upd H4 D (.lst (acc ++ [y]))) else Pv (i + 1) H3) (hd : ∀ H, Pv n H → Qd H) :
    ∃ W : Nat → Nat → Hp → Prop, (∃ m, W 0 m H1) ∧ ∀ i m H, W i m H →
      (J.stop i H ∧ Qd H) ∨ (J.go i H ∧ ∃ Nx : Hp → Prop, (∀ H', Nx H' → ∃ m', m' < m ∧ W (i + 1) m' H') ∧ ∀ x H', J.yld i H x H' → g x (wipe σ vs) H' fun σ2 H2 => wipe σ2 vs = wipe σ vs ∧ tt σ2 H2 fun b H3 =>
        if b = true then te σ2 H3 fun y H4 => ∃ acc, H4 D = some (.lst acc) ∧ acc.length < sizeLine ∧ Nx (upd H4 D (.lst (acc ++ [y]))) else Nx H3) := by
  refine ⟨fun i m H => m = n - i ∧ i ≤ n ∧ Pv i H, ⟨n, by simp, Nat.zero_le _, h0⟩, ?_⟩
  rintro i m H ⟨rfl, hi, p⟩
  have q := hG i H hi p
  by_cases hlt : i < n
  · refine .inr ⟨w.goes i H hlt q, Pv (i + 1), fun H' p' => ⟨n - (i + 1), by omega, rfl, hlt, p'⟩, fun x H' y => hs i x H H' hlt p (w.yields i H x H' hlt q y)⟩
  · have e : i = n := by omega
    subst e
    exact .inl ⟨w.stops H q, hd H p⟩
theorem lc2_sound {fi fi1 : Ev → Out (Bool × List Da)} {ft : Ev → Out Bool} {fe : Ev → Out Da} {vs tg vs1 tg1 : List Nat} (htg : ∀ i ∈ tg, i ∈ vs) (htg1 : ∀ i ∈ tg1, i ∈ vs1) (σ : L2.St) (H : Hp) (Q : VK)
    (h : up K E (fun S => (fi S).bind fun ds P => lc2L (fun d P1 => bindTg tg d (wipeS (hidS (S.wp P1)) vs)) fi1 (fun S2 d P1 => bindTg tg1 d (wipeS (S2.wp P1) vs1)) ft fe ds.2 P []) σ H Q) :
    tLc2 (upI K E fi) (gTg K tg) (upT K E0 fun S => .ok true S.po) (upI K E0 fi1) (gTg K tg1) (upT K E0 ft) (up K E0 fe) vs vs1 σ H Q := by
  obtain ⟨pa, F, S, R, h⟩ := h
  refine ⟨pa, F, S, R, ?_⟩
  dsimp only at h
  cases hfi : fi S with
  | ex C fs ds P' => rw [hfi] at h; exact h
  | no => rw [hfi] at h; exact h
  | ok ds0 P1 =>
    rw [hfi, Out.bind_ok] at h
    obtain ⟨fl, ds⟩ := ds0
    intro J F1 H1 g1 p1 wk _ D hD
    dsimp only at h wk
    have h1 := Post.rebase g1 p1 h
    have R1 := R.grow g1 p1
    obtain ⟨G, Y, w1, w2, w3⟩ := wk.ex
    have nD : NM pa D := ne_pool p1 hD
    have hFD : F1 D = none := g1.fh.free hD
    -- the outer turn's word
    let Pv : Nat → Hp → Prop := fun i H' => ∃ F' P' acc ys, Gr pa F1 H1 F' H' ∧ PoolOk F' H' pa P' ∧ F' D = none ∧ H' D = some (.lst ys) ∧ Dts K F' pa ys acc ∧
      Post K E pa F1 H1 (lc2L (fun d P1 => bindTg tg d (wipeS (hidS (S.wp P1)) vs)) fi1 (fun S2 d P1 => bindTg tg1 d (wipeS (S2.wp P1) vs1)) ft fe (ds.drop i) P' acc) Q
    have hG : ∀ i H', Pv i H' → G H' := fun i H' ⟨F', P', acc, ys, gr, po, _⟩ => w2 F' H' gr gr.fh
    refine ⟨fun i m H' => m = ds.length - i ∧ i ≤ ds.length ∧ Pv i H', ⟨ds.length, by simp, Nat.zero_le _, F1, P1, [], [], (Gr.refl g1.fh).tail hFD hD, p1.tail nD (nx_none hD), hFD, upd_same, .nil, h1⟩, ?_⟩
    rintro i m H' ⟨rfl, hi, pv⟩
    have q := hG i H' pv
    by_cases hlt : i < ds.length
    · refine .inr ⟨w1.goes i H' hlt q, Pv (i + 1), fun H'' p' => ⟨ds.length - (i + 1), by omega, rfl, hlt, p'⟩, fun x H'' y => ?_⟩
      have hy := w1.yields i H' x H'' hlt q y
      obtain ⟨F', P', acc, ys, gr, po, f0, hd, ta, hp⟩ := pv
      obtain ⟨d, F'', hdi, gr2, po2, td⟩ := w3 i F' H' x H'' gr gr.fh hlt hy
      have hdrop : ds.drop i = d :: ds.drop (i + 1) := by
        obtain ⟨hlt, he⟩ := List.getElem?_eq_some_iff.mp hdi
        rw [List.drop_eq_getElem_cons hlt, he]
      rw [hdrop] at hp
      unfold lc2L at hp
      have po3 := po2 P' po
      have gr3 := gr.trans po gr2
      have Rw : Rel K pa F'' (wipe σ vs) H'' (wipeS (hidS (S.wp P')) vs) := by
        have R3 : Rel K pa F'' σ H'' ((S.wp P1).wp P') := R1.grow gr3 po3
        exact Rel.wipe R3.hid vs
      cases hb : bindTg tg d (wipeS (hidS (S.wp P')) vs) with
      | none => rw [hb] at hp; exact hp.elim
      | some S2 =>
        rw [hb] at hp
        dsimp only at hp
        have no2 : NoOwn S2 := noOwn_tg (noOwn_wipe (noOwn_hid _) vs) hb
        obtain ⟨xs, R4, hstep⟩ := tg_step Rw td hb
        refine hstep _ ?_
        refine ⟨by rw [wipe_many vs tg xs _ htg, wipe_wipe], pa, F'', S2, R4, ?_⟩
        have fD : F'' D = none := gr2.stays f0 hd
        have hD2 : H'' D = some (.lst ys) := gr2.hh D _ hd nD
        have ta2 : Dts K F'' pa ys acc := ta.mono gr2.ff
        intro F3 H3 g3 p3
        rw [if_pos rfl]
        have gr4 := gr3.trans po3 g3
        have fD3 : F3 D = none := g3.stays fD hD2
        have hD3 : H3 D = some (.lst ys) := g3.hh D _ hD2 nD
        have ta3 : Dts K F3 pa ys acc := ta2.mono g3.ff
        have R5 : Rel K pa F3 (setMany (wipe σ vs) tg xs) H3 S2 := by
          have := R4.grow g3 p3
          exact this
        refine ⟨pa, F3, S2, R5, ?_⟩
        cases hfi1 : fi1 S2 with
        | ex C fs es P' => rw [hfi1] at hp; exact hp.elim
        | no => rw [hfi1] at hp; exact hp.elim
        | ok ds1 P4 =>
          rw [hfi1] at hp
          obtain ⟨fl1, ds1⟩ := ds1
          dsimp only at hp
          intro J1 F4 H4 g4 p4 _ wk1
          have hfl : fl1 = true := by
            by_cases c : fl1 = true
            · exact c
            · rw [if_neg c] at hp; exact hp.elim
          rw [if_pos hfl] at hp
          have wk1 := wk1 hfl
          dsimp only at wk1
          obtain ⟨G1, Y1, v1, v2, v3⟩ := wk1.ex
          have fD4 : F4 D = none := g4.stays fD3 hD3
          have hD4 : H4 D = some (.lst ys) := g4.hh D _ hD3 nD
          have R6 := R5.grow g4 p4
          have gr5 := gr4.trans p3 g4
          refine lc_in v1 (Qd := Pv (i + 1)) (fun j Hx => ∃ Fx Px accx zs, Gr pa F1 H1 Fx Hx ∧ PoolOk Fx Hx pa Px ∧ Fx D = none ∧ Hx D = some (.lst zs) ∧ Dts K Fx pa zs accx ∧ Rel K pa Fx (setMany (wipe σ vs) tg xs) Hx (S2.wp Px) ∧
            Same F4 Fx ∧
            Post K E pa F1 H1 (match lcIn (fun d P1 => bindTg tg1 d (wipeS (S2.wp P1) vs1)) ft fe (ds1.drop j) Px accx with
              | .ok acc2 P2 => lc2L (fun d P1 => bindTg tg d (wipeS (hidS (S.wp P1)) vs)) fi1 (fun S2 d P1 => bindTg tg1 d (wipeS (S2.wp P1) vs1)) ft fe (ds.drop (i + 1)) P2 acc2
              | _ => .no) Q) ?_ ?_ ?_ ?_
          · exact ⟨F4, P4, acc, ys, gr5, p4, fD4, hD4, ta3.mono g4.ff, R6, Same.refl _, hp⟩
          · rintro j Hx _ ⟨Fx, Px, accx, zs, grx, pox, fx, hx, tx, Rx, sx, hpx⟩
            exact v2 Fx Hx sx grx.fh
          · rintro j xv Hx Hy hj ⟨Fx, Px, accx, zs, grx, pox, fx, hx, tx, Rx, sx, hpx⟩ hyy
            obtain ⟨e, Fy, hde, gry, poy, tdy⟩ := v3 j Fx Hx xv Hy sx grx.fh hj hyy
            have hdrop1 : ds1.drop j = e :: ds1.drop (j + 1) := by
              obtain ⟨hlt, he⟩ := List.getElem?_eq_some_iff.mp hde
              rw [List.drop_eq_getElem_cons hlt, he]
            rw [hdrop1] at hpx
            unfold lcIn at hpx
            have poy2 := poy Px pox
            have gry2 := grx.trans pox gry
            have Ry : Rel K pa Fy (setMany (wipe σ vs) tg xs) Hy (S2.wp Px) := Rx.grow gry poy2
            have fDy : Fy D = none := gry.stays fx hx
            have hDy : Hy D = some (.lst zs) := gry.hh D _ hx nD
            have tay : Dts K Fy pa zs accx := tx.mono gry.ff
            have sy : Same F4 Fy := sx.trans gry.ff
            cases hb1 : bindTg tg1 e (wipeS (S2.wp Px) vs1) with
            | none => rw [hb1] at hpx; exact hpx.elim
            | some S3 =>
              rw [hb1] at hpx
              dsimp only at hpx
              obtain ⟨us, R7, hstep1⟩ := tg_step (Rel.wipe Ry vs1) tdy hb1
              refine hstep1 _ ?_
              refine ⟨by rw [wipe_many vs1 tg1 us _ htg1, wipe_wipe], pa, Fy, S3, R7, ?_⟩
              cases hft : ft S3 with
              | ex C fs es P' => rw [hft] at hpx; exact hpx.elim
              | no => rw [hft] at hpx; exact hpx.elim
              | ok b P5 =>
                rw [hft] at hpx
                intro F5 H5 g5 p5
                have gr6 := gry2.trans poy2 g5
                have fD5 : F5 D = none := g5.stays fDy hDy
                have hD5 : H5 D = some (.lst zs) := g5.hh D _ hDy nD
                have ta5 : Dts K F5 pa zs accx := tay.mono g5.ff
                have s5 : Same F4 F5 := sy.trans g5.ff
                have R8 : Rel K pa F5 (setMany (wipe σ vs) tg xs) H5 (S2.wp P5) := Ry.grow g5 p5
                cases b with
                | false =>
                  rw [if_neg (by simp)]
                  exact ⟨F5, P5, accx, zs, gr6, p5, fD5, hD5, ta5, R8, s5, hpx⟩
                | true =>
                  rw [if_pos rfl]
                  dsimp only at hpx
                  refine ⟨pa, F5, S3.wp P5, R7.grow g5 p5, ?_⟩
                  cases hfe : fe (S3.wp P5) with
                  | ex C fs es P' => rw [hfe] at hpx; exact hpx.elim
                  | no => rw [hfe] at hpx; exact hpx.elim
                  | ok y P6 =>
                    rw [hfe] at hpx
                    dsimp only at hpx
                    by_cases c : (y.fz && decide (accx.length < lim)) = true
                    · rw [if_pos c] at hpx
                      rw [Bool.and_eq_true] at c
                      intro v F6 H6 g6 p6 t6
                      have fD6 : F6 D = none := g6.stays fD5 hD5
                      have hD6 : H6 D = some (.lst zs) := g6.hh D _ hD5 nD
                      have ta6 : Dts K F6 pa zs accx := ta5.mono g6.ff
                      have gr7 := gr6.trans p5 g6
                      have R9 : Rel K pa F6 (setMany (wipe σ vs) tg xs) H6 (S2.wp P6) := R8.grow g6 p6
                      refine ⟨zs, hD6, ?_, F6, P6, accx ++ [y], zs ++ [v], gr7.tail fD6 hD, p6.tail nD (nx_of hD6), fD6, upd_same, ta6.snoc (t6.dt c.1), R9.updD (noOwn_wp no2) fD6 nD (nx_of hD6), s5.trans g6.ff, hpx⟩
                      rw [ta6.length]
                      have := of_decide_eq_true c.2
                      exact Nat.lt_of_lt_of_le this lim_le
                    · rw [if_neg c] at hpx
                      exact hpx.elim
          · rintro Hx ⟨Fx, Px, accx, zs, grx, pox, fx, hx, tx, _, _, hpx⟩
            rw [List.drop_length] at hpx
            exact ⟨Fx, Px, accx, zs, grx, pox, fx, hx, tx, hpx⟩
    · have e : i = ds.length := by omega
      subst e
      refine .inl ⟨w1.stops H' q, ?_⟩
      obtain ⟨F', P', acc, ys, gr, po, f0, hd, ta, hp⟩ := pv
      rw [List.drop_length] at hp
      exact hp _ _ _ (gr.freeze hd f0 hD) (po.freeze nD) (Dx.of (.lst upd_same (ta.new f0)))
end
theorem g_seq {tg e : Expr} {f : Ev → Out Da} (he : PE X e (up X.K E f)) : PI X tg e (upI X.K E fun S => (f S).bind fun x P => Out.of ((itQ x).map fun xs => (x.fz, xs)) P) := by
  refine PI.imp (pi_any he) fun σ H R q => ?_
  obtain ⟨pa, F, S, Rl, h⟩ := q
  refine ⟨pa, F, S, Rl, (Post.bindI h).mono ?_⟩
  rintro v H1 ⟨d, P1, F1, _, st, h1⟩
  cases d with
  | lst ys =>
    obtain ⟨a, vs, e1, e2, e3⟩ := Dt.lst_inv st.t
    refine .inl ⟨a, vs, e1, SqL.of (st.g.fh _ _ e2), h1 (Itl X.K a) F1 H1 (Gr.refl st.g.fh) st.p ?_ fun _ => ?_⟩
    · exact wk_list (fun F2 H2 r s => ⟨s _ _ (r.ff _ _ e2), e3.mono r.ff⟩) e3.length
    · exact wk_list (fun F2 H2 r s => ⟨s _ _ (r _ _ e2), e3.mono r⟩) e3.length
  | bor ys =>
    obtain ⟨a, vs, e1, e2, e3, e4, e5⟩ := st.t
    refine .inl ⟨a, vs, e1, SqL.of e4, h1 (Itl X.K a) F1 H1 (Gr.refl st.g.fh) st.p ?_ fun z => by cases z⟩
    exact wk_list (fun F2 H2 r s => ⟨r.hh _ _ e4 e3, e5.mono r.ff⟩) e5.length
  | tup ys =>
    obtain ⟨a, vs, e1, e2, e3⟩ := Dt.tup_inv st.t
    refine .inr (.inl ⟨a, vs, e1, same_t st.g.fh e2, h1 (Itt X.K a) F1 H1 (Gr.refl st.g.fh) st.p ?_ fun _ => ?_⟩)
    · exact wk_tup (fun F2 H2 r s => ⟨same_t s (same_t r.ff e2), e3.mono r.ff⟩) e3.length
    · exact wk_tup (fun F2 H2 r s => ⟨same_t s (same_t r e2), e3.mono r⟩) e3.length
  | str l => exact .inr (.inr ⟨sg l, Dt.str_inv st.t, h1 (Its (sg l)) F1 H1 (Gr.refl st.g.fh) st.p (wk_str l) fun _ => wk_str l⟩)
  | _ => exact h1.elim
theorem lim62 : (lim : Int) < 2 ^ 62 := by decide
theorem g_rng {tg e : Expr} {p pos : Pos} {f : Ev → Out Da} (hg : Gl X "range") (hm : X.mg "range" = none) (hs : nostar e = true) (he : PE X e (up X.K E f)) : PI X tg (.Call (.Name "range" p) [e] [] pos) (upI X.K E fun S => (f S).bind fun x P => match x with
    | .int j => if -(lim : Int) ≤ j ∧ j ≤ lim then .ok (true, rngL 0 j.toNat) P else .no
    | _ => .no) := by
  have hl := lim62
  refine PI.imp (pi_range1 hg hm (pa_cons he pa_nil (star_no hs)) (star_no hs)) fun σ H R q => ?_
  obtain ⟨pa, F, S, Rl, h⟩ := q
  refine ⟨pa, F, S, Rl, (Post.bindI h).mono ?_⟩
  rintro v H1 ⟨d, P1, F1, _, st, h1⟩
  cases d with
  | int j =>
    dsimp only at h1
    by_cases c : -(lim : Int) ≤ j ∧ j ≤ lim
    · rw [if_pos c] at h1
      exact ⟨j, by rw [Dt.int_inv st.t], by omega, by omega, h1 _ F1 H1 (Gr.refl st.g.fh) st.p (wk_rng 0 _) fun _ => wk_rng 0 _⟩
    · rw [if_neg c] at h1
      exact h1.elim
  | _ => exact h1.elim
theorem g_rng2 {tg e e' : Expr} {p pos : Pos} {f f' : Ev → Out Da} (hg : Gl X "range") (hm : X.mg "range" = none) (hs : nostar e = true) (hs' : nostar e' = true) (he : PE X e (up X.K E f)) (he' : PE X e' (up X.K E f')) :
    PI X tg (.Call (.Name "range" p) [e, e'] [] pos) (upI X.K E fun S => (f S).bind fun x P => (f' (S.wp P)).bind fun y P2 => match x, y with
    | .int i, .int j => if -(lim : Int) ≤ i ∧ i ≤ lim ∧ -(lim : Int) ≤ j ∧ j ≤ lim then .ok (true, rngL i (j - i).toNat) P2 else .no
    | _, _ => .no) := by
  have hl := lim62
  refine PI.imp (pi_range2 hg hm (pa_cons he (pa_cons he' pa_nil (star_no hs')) (star_no hs)) (by rw [star_no hs, star_no hs']; rfl) (star_no hs')) fun σ H R q => ?_
  obtain ⟨pa, F, S, Rl, h⟩ := q
  refine ⟨pa, F, S, Rl, (Post.bindI h).mono ?_⟩
  rintro v H1 ⟨d, P1, F1, _, st, h1⟩
  refine ⟨pa, F1, S.wp P1, Rl.grow st.g st.p, (Post.bindI h1).mono ?_⟩
  rintro w H2 ⟨e2, P2, F2, _, st2, h2⟩
  cases d with
  | int i => cases e2 with
    | int j =>
      dsimp only at h2
      by_cases c : -(lim : Int) ≤ i ∧ i ≤ lim ∧ -(lim : Int) ≤ j ∧ j ≤ lim
      · rw [if_pos c] at h2
        exact ⟨i, j, by rw [Dt.int_inv st.t, Dt.int_inv st2.t], ⟨by omega, by omega, by omega, by omega⟩, h2 _ F2 H2 (Gr.refl st2.g.fh) st2.p (wk_rng i _) fun _ => wk_rng i _⟩
      · rw [if_neg c] at h2
        exact h2.elim
    | _ => exact h2.elim
  | _ => cases e2 <;> exact h2.elim
theorem g_enm {e : Expr} {p pos tpos : Pos} {elts : List Expr} {kk : Nat} {f : Ev → Out Da} (hg : Gl X "enumerate") (hm : X.mg "enumerate" = none) (hs : nostar e = true) (he : PE X e (up X.K E f)) :
    PI X (.Tuple elts kk tpos) (.Call (.Name "enumerate" p) [e] [] pos) (upI X.K E fun S => (f S).bind fun x P => match x.sq with
    | some xs => .ok (x.fz, enmL 0 xs) P
    | none => .no) := by
  refine PI.imp (pi_enumA hg hm (pa_cons he pa_nil (star_no hs)) (star_no hs)) fun σ H R q => ?_
  obtain ⟨pa, F, S, Rl, h⟩ := q
  refine ⟨pa, F, S, Rl, (Post.bindI h).mono ?_⟩
  rintro v H1 ⟨d, P1, F1, _, st, h1⟩
  cases d with
  | lst ys =>
    obtain ⟨a, vs, e1, e2, e3⟩ := Dt.lst_inv st.t
    refine ⟨a, vs, by rw [e1], .inl ⟨SqL.of (st.g.fh _ _ e2), h1 (Ite X.K a) F1 H1 (Gr.refl st.g.fh) st.p ?_ fun _ => ?_⟩⟩
    · exact wk_enmL (fun F2 H2 r s => ⟨s _ _ (r.ff _ _ e2), e3.mono r.ff⟩) e3.length
    · exact wk_enmL (fun F2 H2 r s => ⟨s _ _ (r _ _ e2), e3.mono r⟩) e3.length
  | bor ys =>
    obtain ⟨a, vs, e1, e2, e3, e4, e5⟩ := st.t
    refine ⟨a, vs, by rw [e1], .inl ⟨SqL.of e4, h1 (Ite X.K a) F1 H1 (Gr.refl st.g.fh) st.p ?_ fun z => by cases z⟩⟩
    exact wk_enmL (fun F2 H2 r s => ⟨r.hh _ _ e4 e3, e5.mono r.ff⟩) e5.length
  | tup ys =>
    obtain ⟨a, vs, e1, e2, e3⟩ := Dt.tup_inv st.t
    refine ⟨a, vs, by rw [e1], .inr ⟨same_t st.g.fh e2, h1 (Itet X.K a) F1 H1 (Gr.refl st.g.fh) st.p ?_ fun _ => ?_⟩⟩
    · exact wk_enmT (fun F2 H2 r s => ⟨same_t s (same_t r.ff e2), e3.mono r.ff⟩) e3.length
    · exact wk_enmT (fun F2 H2 r s => ⟨same_t s (same_t r e2), e3.mono r⟩) e3.length
  | _ => exact h1.elim
theorem walk_mix {K : PySem.W.Frag} {a b : Addr} {us ws : List V} {n : Nat} (hn : n = min us.length ws.length) : Walk (ZM.ItzM K a b) n (fun H => SqT K H a us ∧ SqL K H b ws) (YPair (fun i => us[i]?) (fun i => ws[i]?)) := by
  subst hn
  refine ⟨fun i H lt q => ?_, fun H q => ⟨us, ws, q.1, q.2, by omega⟩, fun i H v H' lt q ⟨T, x, y, m1, m2, m3, m4, m5⟩ => ⟨T, x, y, m1, m2, m3, m4 us q.1, m5 ws q.2⟩⟩
  have m1 : i < us.length := by omega
  have m2 : i < ws.length := by omega
  exact ⟨us, ws, us[i], ws[i], q.1, q.2, List.getElem?_eq_getElem m1, List.getElem?_eq_getElem m2⟩
theorem wk_mix {K : PySem.W.Frag} {pa : Pa} {R : Hp → Hp → Prop} {a b : Addr} {vs ws : List V} {ds es : List Da} (hr : ∀ F H, R F H → Same F H → (SqT K H a vs ∧ Dts K F pa vs ds) ∧ (H b = some (.lst ws) ∧ Dts K F pa ws es))
    (hl : vs.length = ds.length) (hl2 : ws.length = es.length) : Wk K pa R (ZM.ItzM K a b) (zipL ds es) := by
  refine ⟨_, _, walk_mix (K := K) (a := a) (b := b) (us := vs) (ws := ws) (by rw [zipL_len, hl, hl2]), fun F H r s => ⟨(hr F H r s).1.1, SqL.of (hr F H r s).2.1⟩, fun i F H x H' r s hi y => ?_⟩
  obtain ⟨T, u, v, e1, e2, e3, e4, e5⟩ := y
  subst e1
  obtain ⟨d, d1, d2⟩ := (hr F H r s).1.2.getV e4
  obtain ⟨e, c1, c2⟩ := (hr F H r s).2.2.getV e5
  obtain ⟨F', g, p, t⟩ := pair_step s e2 e3 d2 c2
  exact ⟨_, F', zipL_get ds es i d e d1 c1, g, p, t⟩
theorem g_zip {e e' : Expr} {p pos tpos : Pos} {elts : List Expr} {kk : Nat} {f f' : Ev → Out Da} (hg : Gl X "zip") (hm : X.mg "zip" = none) (hs : nostar e = true) (hs' : nostar e' = true) (he : PE X e (up X.K E f)) (he' : PE X e' (up X.K E f')) :
    PI X (.Tuple elts kk tpos) (.Call (.Name "zip" p) [e, e'] [] pos) (upI X.K E fun S => (f S).bind fun x P => (f' (S.wp P)).bind fun y P2 => zipQ x y P2) := by
  refine PI.imp (ZM.pi_zipM hg hm (pa_cons he (pa_cons he' pa_nil (star_no hs')) (star_no hs)) (star_no hs) (by rw [star_no hs']; rfl)) fun σ H R q => ?_
  obtain ⟨pa, F, S, Rl, h⟩ := q
  refine ⟨pa, F, S, Rl, (Post.bindI h).mono ?_⟩
  rintro v H1 ⟨d, P1, F1, _, st, h1⟩
  refine ⟨pa, F1, S.wp P1, Rl.grow st.g st.p, (Post.bindI h1).mono ?_⟩
  rintro w H2 ⟨e2, P2, F2, _, st2, h2⟩
  have td := st.t.grow st2.g
  by_cases hz : ∃ xs ys, d = .tup xs ∧ e2 = .lst ys
  · obtain ⟨xs, ys, rfl, rfl⟩ := hz
    obtain ⟨a, vs, a1, a2, a3⟩ := Dt.tup_inv td
    obtain ⟨b, ws, b1, b2, b3⟩ := Dt.lst_inv st2.t
    refine ⟨a, b, vs, ws, by rw [a1, b1], .inr ⟨same_t st2.g.fh a2, SqL.of (st2.g.fh _ _ b2), h2 (ZM.ItzM X.K a b) F2 H2 (Gr.refl st2.g.fh) st2.p ?_ fun _ => ?_⟩⟩
    · exact wk_mix (fun F3 H3 r s => ⟨⟨same_t s (same_t r.ff a2), a3.mono r.ff⟩, ⟨s _ _ (r.ff _ _ b2), b3.mono r.ff⟩⟩) a3.length b3.length
    · exact wk_mix (fun F3 H3 r s => ⟨⟨same_t s (same_t r a2), a3.mono r⟩, ⟨s _ _ (r _ _ b2), b3.mono r⟩⟩) a3.length b3.length
  have hzt : zipT d e2 P2 = .no := by
    unfold zipT
    split
    · exact absurd ⟨_, _, rfl, rfl⟩ hz
    · rfl
  unfold zipQ at h2
  rw [hzt] at h2
  cases hd : d.ls with
  | none => rw [hd] at h2; cases e2.ls <;> exact h2.elim
  | some xs =>
    cases he2 : e2.ls with
    | none => rw [hd, he2] at h2; exact h2.elim
    | some ys =>
      rw [hd, he2] at h2
      obtain ⟨a, vs, a1, a2, a3⟩ := Dx.ls st2.g.fh td hd
      obtain ⟨b, ws, b1, b2, b3⟩ := Dx.ls st2.g.fh st2.t he2
      refine ⟨a, b, vs, ws, by rw [a1, b1], .inl ⟨SqL.of a2, SqL.of b2, h2 (Itz X.K a b) F2 H2 (Gr.refl st2.g.fh) st2.p ?_ fun z => ?_⟩⟩
      · have sta : ∀ {d : Da} {v : V} {a : Addr} {vs : List V} {xs : List Da}, Dx X.K F2 H2 pa v d → d.ls = some xs → v = .ref a → H2 a = some (.lst vs) → ∀ F3 H3, Gr pa F2 H2 F3 H3 → H3 a = some (.lst vs) := fun {d v a vs xs} t el ev ha F3 H3 g => by
          cases d with
          | lst zs =>
            obtain ⟨a', vs', c1, c2, c3⟩ := Dt.lst_inv t
            rw [c1] at ev
            cases ev
            have := st2.g.fh _ _ c2
            rw [ha] at this
            cases this
            exact g.fh _ _ (g.ff _ _ c2)
          | bor zs =>
            obtain ⟨a', vs', c1, c2, c3, c4, c5⟩ := t
            rw [c1] at ev
            cases ev
            exact g.hh _ _ ha c3
          | _ => cases el
        exact wk_zip (fun F3 H3 r s => ⟨⟨sta td hd a1 a2 F3 H3 r, a3.mono r.ff⟩, ⟨sta st2.t he2 b1 b2 F3 H3 r, b3.mono r.ff⟩⟩) a3.length b3.length
      · have z' : d.fz = true ∧ e2.fz = true := by simpa using z
        have stb : ∀ {d : Da} {v : V} {a : Addr} {vs : List V} {xs : List Da}, Dx X.K F2 H2 pa v d → d.fz = true → d.ls = some xs → v = .ref a → H2 a = some (.lst vs) → F2 a = some (.lst vs) := fun {d v a vs xs} t fz el ev ha => by
          cases d with
          | lst zs =>
            obtain ⟨a', vs', c1, c2, c3⟩ := Dt.lst_inv t
            rw [c1] at ev
            cases ev
            have := st2.g.fh _ _ c2
            rw [ha] at this
            cases this
            exact c2
          | bor zs => cases fz
          | _ => cases el
        have fa := stb td z'.1 hd a1 a2
        have fb := stb st2.t z'.2 he2 b1 b2
        exact wk_zip (fun F3 H3 r s => ⟨⟨s _ _ (r _ _ fa), a3.mono r⟩, ⟨s _ _ (r _ _ fb), b3.mono r⟩⟩) a3.length b3.length
end

theorem sg_app (a b : List Nat) : sg a ++ sg b = sg (a ++ b) := by
  apply TL.ext_tl
  rw [TL.tl_append]
section
variable {X : Cx} {E : XK}
def JS (X : Cx) (E : XK) (es : List Expr) (f : Ev → List Nat → Out Da) : Prop := ∃ ts : List TE, PJ X es ts ∧ ∀ (acc : List Nat) (σ : L2.St) (H : Hp) (Q : VK),
  (∃ pa F S, Rel X.K pa F σ H S ∧ Post X.K E pa F H (f S acc) Q) → tJs ts (sg acc) σ H (fun out H1 => Q (.str out) H1)
theorem js_nil : JS X E [] (evP .nil) := by
  refine ⟨[], .nil, fun acc σ H Q ⟨pa, F, S, R, h⟩ => ?_⟩
  exact Post.now R.fh R.po (show Post X.K E pa F H (.ok (.str acc) S.po) Q from h) (Dx.of (.str acc))
theorem sg_len2 {acc l : List Nat} (h : (acc ++ l).length ≤ lim) : (sg acc ++ sg l).length ≤ sizeLine := by
  rw [sg_app, sg_len]
  exact le_line h
theorem js_con {s : Str} {k : Nat} {pos : Pos} {es : List Expr} {g : Ev → List Nat → Out Da} (hr : JS X E es g) :
    JS X E (.Constant (.str s) k pos :: es) (fun S acc => (Out.ok (Da.str s.cps.toList) S.po).bind fun x P => match fmtQ x with
    | some l => if (acc ++ l).length ≤ lim then g (S.wp P) (acc ++ l) else .no
    | none => .no) := by
  obtain ⟨ts, pj, hj⟩ := hr
  refine ⟨tC (.str s) :: ts, .cons pe_str pj, fun acc σ H Q ⟨pa, F, S, R, h⟩ => ?_⟩
  have h1 : Post X.K E pa F H (match fmtQ (.str s.cps.toList) with
    | some l => if (acc ++ l).length ≤ lim then g (S.wp S.po) (acc ++ l) else .no
    | none => .no) Q := h
  unfold fmtQ at h1
  by_cases c0 : s.cps.toList.length ≤ lim
  · simp only [if_pos c0] at h1
    by_cases c : (acc ++ s.cps.toList).length ≤ lim
    · rw [if_pos c] at h1
      have e1 : sg acc ++ s = sg (acc ++ s.cps.toList) := by
        conv => lhs; rw [← sg_tl s]
        exact sg_app _ _
      refine ⟨s, rfl, by rw [e1, sg_len]; exact le_line c, ?_⟩
      rw [e1]
      exact hj _ σ H Q ⟨pa, F, S, R, h1⟩
    · rw [if_neg c] at h1
      exact h1.elim
  · simp only [if_neg c0] at h1
    exact h1.elim
theorem js_fmt {e : Expr} {pos : Pos} {es : List Expr} {f : Ev → Out Da} {g : Ev → List Nat → Out Da} (he : PE X e (up X.K E f)) (hr : JS X E es g) :
    JS X E (.FormattedValue e (-1) none pos :: es) (fun S acc => (f S).bind fun x P => match fmtQ x with
    | some l => if (acc ++ l).length ≤ lim then g (S.wp P) (acc ++ l) else .no
    | none => .no) := by
  obtain ⟨ts, pj, hj⟩ := hr
  refine ⟨tFmt (up X.K E f) :: ts, .cons (pe_fmt he) pj, fun acc σ H Q ⟨pa, F, S, R, h⟩ => ?_⟩
  refine ⟨pa, F, S, R, (Post.bind h).mono ?_⟩
  rintro v H1 ⟨d, P1, F1, _, st, h1⟩
  have go : ∀ l, fmtQ d = some l → (acc ++ l).length ≤ lim ∧ tJs ts (sg acc ++ sg l) σ H1 (fun out H1 => Q (.str out) H1) := fun l hl => by
    rw [hl] at h1
    dsimp only at h1
    by_cases c : (acc ++ l).length ≤ lim
    · rw [if_pos c] at h1
      refine ⟨c, ?_⟩
      rw [sg_app]
      exact hj _ σ H1 Q ⟨pa, F1, S.wp P1, R.grow st.g st.p, h1⟩
    · rw [if_neg c] at h1
      exact h1.elim
  cases d with
  | str l =>
    by_cases c0 : l.length ≤ lim
    · obtain ⟨c, q⟩ := go l (by simp [fmtQ, c0])
      exact .inl ⟨sg l, Dt.str_inv st.t, by rw [sg_len]; exact le_line c0, sg l, rfl, sg_len2 c, q⟩
    · have : fmtQ (.str l) = none := by simp [fmtQ, c0]
      rw [this] at h1
      exact h1.elim
  | int i =>
    by_cases c0 : intQ i = true
    · obtain ⟨c, q⟩ := go (toString i : Str).cps.toList (by simp [fmtQ, c0])
      rw [sg_tl] at q
      refine .inr ⟨i, Dt.int_inv st.t, of_decide_eq_true c0, (toString i : Str), rfl, ?_, q⟩
      have := sg_len2 c
      rw [sg_tl] at this
      exact this
    · have : fmtQ (.int i) = none := by simp [fmtQ, c0]
      rw [this] at h1
      exact h1.elim
  | _ => exact h1.elim
theorem g_fst {x y : Expr} {es : List Expr} {pos : Pos} {f : Ev → List Nat → Out Da} (h : JS X E (x :: y :: es) f) : PE X (.JoinedStr (x :: y :: es) pos) (up X.K E fun S => f S []) := by
  obtain ⟨ts, pj, hj⟩ := h
  refine PE.imp (pe_joined pj) fun σ H Q q => ?_
  exact hj [] σ H Q q
end
theorem lookup_rel {p : Str → NameKind → Bool} (hp : ∀ n k, p n k = true → k = .free) : ∀ {names : List (Str × NameKind)} {x : Str} {k : NameKind}, names.lookup x = some k →
    (names.map fun (n, k) => if p n k then (n, NameKind.cell) else (n, k)).lookup x = some k ∨ (k = .free ∧ (names.map fun (n, k) => if p n k then (n, NameKind.cell) else (n, k)).lookup x = some .cell)
  | [], _, _, h => by simp at h
  | (n, k0) :: r, x, k, h => by
    rw [List.lookup_cons] at h
    rw [List.map_cons]
    cases hb : x == n with
    | true =>
      rw [hb] at h
      cases h
      dsimp only
      by_cases c : p n k0 = true
      · rw [if_pos c]
        refine .inr ⟨hp n k0 c, ?_⟩
        rw [List.lookup_cons, hb]
      · rw [if_neg c]
        refine .inl ?_
        rw [List.lookup_cons, hb]
    | false =>
      rw [hb] at h
      have ih := lookup_rel hp (names := r) h
      dsimp only
      by_cases c : p n k0 = true
      · rw [if_pos c, List.lookup_cons, hb]
        exact ih
      · rw [if_neg c, List.lookup_cons, hb]
        exact ih
theorem lookup_block {scope : Scope} {cl : List (Str × Addr)} {C : Addr} {env : Env} {x : Str} {k : NameKind} (h : scope.names.lookup x = some k) :
    (compEnvC scope cl C env).scope.names.lookup x = some k ∨ (k = .free ∧ (compEnvC scope cl C env).scope.names.lookup x = some .cell) :=
  lookup_rel (p := fun n k => (k == .free && env.scope.kind == .function && env.kindOf n == some .cell)) (fun n k h => by
    simp only [Bool.and_eq_true, beq_iff_eq] at h
    exact h.1.1) h
theorem CxOk.blk {X : Cx} {E : XK} {sc scope : Scope} {N : List Str} {k : Nat} (C : CxOk X E sc N k) (s : Shared) (H : Hp) (A : Addr) (cl : List (Str × Addr)) (fp : List Addr) (hu : unm scope = true) : CxOk (X.blk s H scope (compEnvC scope cl A X.env) fp) E0 scope N k where
  hN := C.hN
  nd := C.nd
  vis := fun x h => by
    unfold visB at h
    cases hl : scope.names.lookup x with
    | none => rw [hl] at h; cases h
    | some kd =>
      rw [hl] at h
      rcases lookup_block (cl := cl) (C := A) (env := X.env) hl with q | ⟨_, q⟩
      · cases kd with
        | «local» => exact .inl q
        | cell => exact .inr (.inl q)
        | free => exact .inr (.inr q)
        | _ => cases h
      · exact .inr (.inl q)
  glo := fun x h => by
    unfold gloB at h
    cases hl : scope.names.lookup x with
    | none => rw [hl] at h; cases h
    | some kd =>
      rw [hl] at h
      cases kd with
      | globalImplicit =>
        rcases lookup_block (cl := cl) (C := A) (env := X.env) hl with q | ⟨e, _⟩
        · exact q
        · cases e
      | _ => cases h
  loc := fun x h => by
    unfold locB at h
    cases hl : scope.names.lookup x with
    | none => rw [hl] at h; cases h
    | some kd =>
      rw [hl] at h
      rcases lookup_block (cl := cl) (C := A) (env := X.env) hl with q | ⟨e, _⟩
      · cases kd with
        | «local» => exact ⟨.inl q, .inr q⟩
        | cell =>
          refine ⟨.inr q, .inl ?_⟩
          show (scope.names.lookup x == some .cell) = true
          rw [hl]
          rfl
        | _ => cases h
      · subst e; cases h
  sub := fun x h => by
    rcases h with h | h
    · rcases lookup_block (cl := cl) (C := A) (env := X.env) h with q | ⟨e, _⟩
      · exact .inl q
      · cases e
    · rcases lookup_block (cl := cl) (C := A) (env := X.env) h with q | ⟨_, q⟩
      · exact .inr q
      · exact .inl q
  calm := C.calm
  gd := C.gd
  rm := C.rm
  tk := takes0
  qc := fun q h => by
    have h1 := of_decide_eq_true h
    have h2 := List.all_eq_true.mp hu _ (PySem.mem_of_lookup h1)
    simp at h2
theorem mk_lookup {q x : Str} {sc : Scope} (h : sc.names.lookup q = none) {k : NameKind} (hk : k ≠ .globalExplicit) : (mkS q sc).names.lookup x = some k ↔ sc.names.lookup x = some k := by
  show List.lookup x ((q, NameKind.globalExplicit) :: sc.names) = some k ↔ _
  rw [List.lookup_cons]
  cases hx : (x == q) with
  | false => exact Iff.rfl
  | true =>
    have e := eq_of_beq hx
    subst e
    rw [h]
    refine ⟨fun z => absurd (Option.some.inj z).symm hk, fun z => by cases z⟩
theorem CxOk.mark {X : Cx} {E : XK} {scope : Scope} {N : List Str} {k : Nat} {q : Str} (C : CxOk X E scope N k) (hu : unm scope = true) (hq : scope.names.lookup q = none) (hm : X.env.qual = q ++ ".<locals>." ∧ X.env.code = .ref (He.cT X.K (q, none)).1) : CxOk X E (mkS q scope) N k where
  hN := C.hN
  nd := C.nd
  vis := fun x h => C.vis x (by
    unfold visB at h ⊢
    split at h
    · rename_i e; rw [(mk_lookup hq (by decide)).mp e]
    · rename_i e; rw [(mk_lookup hq (by decide)).mp e]
    · rename_i e; rw [(mk_lookup hq (by decide)).mp e]
    · cases h)
  glo := fun x h => C.glo x (by
    unfold gloB at h ⊢
    split at h
    · rename_i e; rw [(mk_lookup hq (by decide)).mp e]
    · cases h)
  loc := fun x h => C.loc x (by
    unfold locB at h ⊢
    split at h
    · rename_i e; rw [(mk_lookup hq (by decide)).mp e]
    · rename_i e; rw [(mk_lookup hq (by decide)).mp e]
    · cases h)
  sub := fun x h => C.sub x (h.elim (fun h => .inl ((mk_lookup hq (by decide)).mp h)) fun h => .inr ((mk_lookup hq (by decide)).mp h))
  calm := C.calm
  gd := C.gd
  rm := C.rm
  tk := C.tk
  qc := fun r h => by
    have h1 : List.lookup r ((q, NameKind.globalExplicit) :: scope.names) = some .globalExplicit := of_decide_eq_true h
    rw [List.lookup_cons] at h1
    cases hx : (r == q) with
    | true =>
      have e := eq_of_beq hx
      subst e
      exact hm
    | false =>
      rw [hx] at h1
      have h2 := List.all_eq_true.mp hu _ (PySem.mem_of_lookup h1)
      simp at h2
theorem CxOk.blkI {X : Cx} {E : XK} {sc scope : Scope} {N : List Str} {k : Nat} (C : CxOk X E sc N k) (s : Shared) (H : Hp) (A : Addr) (cl : List (Str × Addr)) (fp : List Addr) (hu : unm scope = true) : CxOk (X.blk s H scope (compEnvC scope cl A X.env) fp) E0 (inhS sc scope) N k := by
  have C' := C.blk (scope := scope) s H A cl fp hu
  unfold inhS
  cases h : lamNames.find? (fun q => mark1 q sc && decide (scope.names.lookup q = none)) with
  | none => exact C'
  | some q =>
    have h1 := List.find?_some h
    rw [Bool.and_eq_true] at h1
    exact C'.mark hu (of_decide_eq_true h1.2) (C.qc q h1.1)
theorem CxOk.block {X : Cx} {E : XK} {sc scope : Scope} {N : List Str} {k : Nat} {own : List (Str × Nat)} (C : CxOk X E sc N k) (h : blkC N sc scope own = true) : BlkOk X.N X.env.scope scope own := by
  have b := blkOk_by h
  rw [C.hN]
  exact ⟨b.kind, b.uniq, b.ix, fun y hy e => C.sub y.1 (b.free y hy e), b.own⟩
theorem own_snd (N : List Str) : ∀ vs : List Nat, (ownOf N vs).map (·.2) = vs
  | [] => rfl
  | v :: vs => by
    show v :: (ownOf N vs).map (·.2) = v :: vs
    rw [own_snd N vs]
section
variable {X : Cx} {E : XK} {sc scope : Scope} {N : List Str} {k : Nat}
theorem g_lc {elt tgx iter : Expr} {ifs : List Expr} {pos : Pos} {vs tg : List Nat} {fi : Ev → Out (Bool × List Da)} {ft : Ev → Out Bool} {fe : Ev → Out Da} (C : CxOk X E sc N k) (hu : unm scope = true) (hb : blkC N sc scope (ownOf N vs) = true)
    (ht : chkTg scope N tg tgx = true) (hv : ∀ i ∈ tg, i ∈ vs) (hn : noset iter = true) (hi : PI X tgx iter (upI X.K E fi))
    (hc : ∀ (s : Shared) (H : Hp) (A : Addr) (cl : List (Str × Addr)) (fp : List Addr), PTs (X.blk s H scope (compEnvC scope cl A X.env) fp) ifs (upT X.K E0 ft))
    (he : ∀ (s : Shared) (H : Hp) (A : Addr) (cl : List (Str × Addr)) (fp : List Addr), PE (X.blk s H scope (compEnvC scope cl A X.env) fp) elt (up X.K E0 fe)) :
    PE X (.ListComp elt [⟨tgx, iter, ifs, 0⟩] scope pos) (up X.K E fun S => (fi S).bind fun ds P => lcL (fun d P1 => bindTg tg d (wipeS (S.wp P1) vs)) ft fe ds.2 P []) := by
  have hs : ∀ x, foldedSetIterable iter X.env x = pure x := fun x => by
    cases iter <;> first | rfl | cases hn
  have h := pe_lc (pos := pos) (g := gTg X.K tg) C.calm (by rw [C.hN]; exact C.nd) hi (C.block hb) (fun s H A cl fp => g_tg (C.blk (scope := scope) s H A cl fp hu) ht) hc he hs
  rw [own_snd] at h
  exact PE.imp h (lc_sound hv fun v σ H Q q => q)
theorem g_lc2 {elt tgx iter tgx1 iter1 : Expr} {ifs1 : List Expr} {pos : Pos} {vs tg vs1 tg1 : List Nat} {fi fi1 : Ev → Out (Bool × List Da)} {ft : Ev → Out Bool} {fe : Ev → Out Da} (C : CxOk X E sc N k) (hu : unm scope = true) (hb : blkC N sc scope (ownOf N vs) = true)
    (ht : chkTg scope N tg tgx = true) (hv : ∀ i ∈ tg, i ∈ vs) (hn : noset iter = true) (ht1 : chkTg scope N tg1 tgx1 = true) (hv1 : ∀ i ∈ tg1, i ∈ vs1) (hvs : ∀ i ∈ vs1, i ∈ vs) (hn1 : noset iter1 = true) (hi : PI X tgx iter (upI X.K E fi))
    (hi1 : ∀ (s : Shared) (H : Hp) (A : Addr) (cl : List (Str × Addr)) (fp : List Addr), PI (X.blk s H scope (compEnvC scope cl A X.env) fp) tgx1 iter1 (upI X.K E0 fi1))
    (hc : ∀ (s : Shared) (H : Hp) (A : Addr) (cl : List (Str × Addr)) (fp : List Addr), PTs (X.blk s H scope (compEnvC scope cl A X.env) fp) ifs1 (upT X.K E0 ft))
    (he : ∀ (s : Shared) (H : Hp) (A : Addr) (cl : List (Str × Addr)) (fp : List Addr), PE (X.blk s H scope (compEnvC scope cl A X.env) fp) elt (up X.K E0 fe)) :
    PE X (.ListComp elt [⟨tgx, iter, [], 0⟩, ⟨tgx1, iter1, ifs1, 0⟩] scope pos) (up X.K E fun S => (fi S).bind fun ds P => lc2L (fun d P1 => bindTg tg d (wipeS (hidS (S.wp P1)) vs)) fi1 (fun S2 d P1 => bindTg tg1 d (wipeS (S2.wp P1) vs1)) ft fe ds.2 P []) := by
  have hs : ∀ x, foldedSetIterable iter X.env x = pure x := fun x => by
    cases iter <;> first | rfl | cases hn
  have hs1 : ∀ env x, foldedSetIterable iter1 env x = pure x := fun env x => by
    cases iter1 <;> first | rfl | cases hn1
  have h := pe_lc2 (pos := pos) (g := gTg X.K tg) (g1 := gTg X.K tg1) (tt := upT X.K E0 fun S => .ok true S.po) (vs1 := vs1) C.calm (by rw [C.hN]; exact C.nd) hi (C.block hb) (by rw [own_snd]; exact hvs) (fun s H A cl fp => g_tg (C.blk (scope := scope) s H A cl fp hu) ht)
    (fun s H A cl fp => ⟨fun pins s σ H Q I q => pts_nil.run pins s σ H Q I (by obtain ⟨pa, F, S, R, q⟩ := q; exact q F H (Gr.refl R.fh) R.po)⟩) hi1 (fun s H A cl fp => g_tg (C.blk (scope := scope) s H A cl fp hu) ht1) hc he hs hs1
  rw [own_snd] at h
  exact PE.imp h (lc2_sound hv hv1)
end

section
variable {X : Cx} {k : Nat} {E : XK} {K : PySem.W.Frag}
theorem run_gnA {f : Addr} {fd : FuncData} {ps : List Str} {sp : Sp} {A : Around} {pins : List (Addr × Obj)} {σ : L2.St} {H : Hp} {s : Shared} {Q : VK} {us : List Value} {vs : List V} (G : Gn X.prog X.w X.K X.mg X.base k f fd ps sp) (hr : Room k A) (hfr : A.frames = X.A.frames) (hgd : A.guards = some []) (hb : Binds X.K fd ps [])
    (hx : Passes (L2.CX X.prog X.w) X E) (I : Inv X pins σ H s) (r : Vals vs us) (h : sp vs H Q E) : wpAny (model X.prog X.w) A (call (.ref f) us) (EP X pins σ Q) X.xe s := by
  have hl : (us ++ []).length = ps.length := by
    rw [List.append_nil, ← r.length]
    exact G.len _ _ _ _ h
  have e0 : Env0 X.prog X.w X.K X.mg X.base A X.stack s H := ⟨by rw [hfr]; exact I.env0.frames, I.env0.mod, I.env0.bs, I.env0.bsz, I.env0.funs, I.env0.frf, I.env0.hok, I.env0.bare⟩
  have b := hb s us I.kIn hl
  rw [List.append_nil] at b
  refine wpAny_call (codeAny_mono (G.run A X.stack s H ⟨us, []⟩ us vs Q E hr hgd e0 b r h) fun res s' hq => ?_)
  cases res with
  | error e => exact hx pins σ H s e s' I hq
  | ok fl =>
    cases fl with
    | ret u => exact I.after hq
    | _ => exact hq.elim
structure ObjAt (K : PySem.W.Frag) (pa : Pa) (F H : Hp) (P : Po) (C : Str) (v : V) (d : Da) : Prop where
  fh : Same F H
  po : PoolOk F H pa P
  tl : pa.T = lamT K
  t : Dt K F pa v d
  ob : ∃ fs ds, d = .obj C fs ds
theorem ObjAt.ref {pa : Pa} {F H : Hp} {P : Po} {C : Str} {v : V} {d : Da} (o : ObjAt K pa F H P C v d) : ∃ a dx fs, v = .ref a ∧ H a = some (.ins (He.ga K C) dx fs) := by
  obtain ⟨fs, ds, e⟩ := o.ob
  have t := o.t
  rw [e] at t
  obtain ⟨a, dx, xs, h1, h2, h3, h4⟩ := Dt.obj_inv t
  exact ⟨a, dx, _, h1, o.fh _ _ h2⟩
theorem chk_post {o : Out Da} {p : Da → Bool} {pa : Pa} {F H : Hp} {Q : VK} (h : Post K E pa F H (o.chk p) Q) : Post K E pa F H o (fun v H1 => ∃ d F1, p d = true ∧ Dx K F1 H1 pa v d ∧ Q v H1) := by
  cases o with
  | ok d P1 =>
    have h : Post K E pa F H (if p d = true then .ok d P1 else .no) Q := h
    by_cases c : p d = true
    · rw [if_pos c] at h
      exact fun v F' H' g p' t => ⟨d, F', c, t, h v F' H' g p' t⟩
    · rw [if_neg c] at h
      exact h.elim
  | ex C fs ds P => exact h
  | no => exact h
variable (X) in
theorem run_obj {f : Fs} {A : Around} {pins : List (Addr × Obj)} {σ : L2.St} {H : Hp} {s : Shared} {Q : VK} {F : Hp} {pa : Pa} {P1 : Po} {vs : List V} {us : List Value} {ds : List Da} {p : Da → Bool} {g : Addr} {fd : FuncData} {ps : List Str}
    (G : Gn X.prog X.w X.K X.mg X.base k g fd ps (spD X.K ps.length f)) (hl : ∀ ds P', f ds P' ≠ .no → ds.length = ps.length) (hb : Binds X.K fd ps []) (hr : Room k A) (hfr : A.frames = X.A.frames) (hgd : A.guards = some [])
    (hx : Passes (L2.CX X.prog X.w) X E) (I : Inv X pins σ H s) (r : Vals vs us) (fh : Same F H) (po : PoolOk F H pa P1) (tl : pa.T = lamT X.K) (t : Dts X.K F pa vs ds) (h : Post X.K E pa F H ((f ds P1).chk p) Q) :
    wpAny (model X.prog X.w) A (call (.ref g) us) (EP X pins σ (fun v H1 => ∃ d F1, p d = true ∧ Dx X.K F1 H1 pa v d ∧ Q v H1)) X.xe s := by
  refine run_gnA G hr hfr hgd hb hx I r ⟨?_, pa, F, P1, ds, fh, po, tl, t, chk_post h⟩
  rw [t.length]
  refine hl ds P1 fun e => ?_
  rw [e] at h
  exact h
theorem room_ins {A : Around} (r : Room (k + 1) A) : Room k A.in1 ∧ Room k A.in1.in1 ∧ Room k A.in1.in1.in1 := by
  have h1 := r.dp
  have h2 := r.un
  exact ⟨⟨r.hd, by simpa using (by omega : A.depth + 3 * k + 5 < recursionLimit), by simpa using (by omega : A.units + 1 + 16 * k + 200 < cLine)⟩, ⟨r.hd, by simpa using (by omega : A.depth + 3 * k + 5 < recursionLimit), by simpa using (by omega : A.units + 1 + 1 + 16 * k + 200 < cLine)⟩, ⟨r.hd, by simpa using (by omega : A.depth + 3 * k + 5 < recursionLimit), by simpa using (by omega : A.units + 1 + 1 + 1 + 16 * k + 200 < cLine)⟩⟩
def rOb (K : PySem.W.Frag) (E : XK) (C : Str) (f : Fs) (p : Da → Bool) : List V → Hp → VK → Prop := fun vs H Q => ∃ v pa F P d, vs = [v] ∧ ObjAt K pa F H P C v d ∧ Post K E pa F H ((f [d] P).chk p) Q
theorem c_olen {C : Str} {f : Fs} (M : MthOk X.prog X.w X.K X.mg X.base k C "__len__" f) (hr : Room (k + 1) X.A) (hgd : X.A.guards = some []) (hx : Passes (L2.CX X.prog X.w) X E) : CallR X (.builtin "len") (rOb X.K E C f isLen) := by
  obtain ⟨g, fd, ps, G, hl, hb, hm⟩ := M
  intro pins s σ H xs us Q I r h
  obtain ⟨v, pa, F, P1, d, rfl, o, q⟩ := h
  obtain ⟨a, dx, fs, rfl, ea⟩ := o.ref
  obtain rfl := Vals.ref1 r
  obtain ⟨mA, O, _⟩ := ins_get I.hok ea
  obtain ⟨od, J, _⟩ := O.look
  obtain ⟨m, hF⟩ := I.fr
  refine PySem.W.len_K hF I.ok.mod.kin J hm.at_ hm.fn (thn (run_obj X (A := X.A.in1) G hl hb (room_ins hr).1 rfl hgd hx I (vs := [.ref a]) (us := [.ref a]) (.cons rfl .nil) o.fh o.po o.tl (.cons o.t .nil) q) ?_)
  rintro u s' ⟨w, H', I', rw', d', F1, c, t, qq⟩
  cases d' <;> first | (cases c; done) | skip
  rename_i n
  have e := Dt.int_inv (t.dt rfl)
  subst e
  obtain ⟨tk, rfl⟩ := rw'
  have c2 := of_decide_eq_true c
  exact ⟨⟨c2.1, by omega⟩, ⟨.int n, H', I'.tok _, ⟨_, rfl⟩, qq⟩⟩
theorem c_orepr {C : Str} {f : Fs} (M : MthOk X.prog X.w X.K X.mg X.base k C "__repr__" f) (hr : Room (k + 1) X.A) (hgd : X.A.guards = some []) (hx : Passes (L2.CX X.prog X.w) X E) : CallR X (.builtin "repr") (rOb X.K E C f Da.isStr) := by
  obtain ⟨g, fd, ps, G, hl, hb, hm⟩ := M
  intro pins s σ H xs us Q I r h
  obtain ⟨v, pa, F, P1, d, rfl, o, q⟩ := h
  obtain ⟨a, dx, fs, rfl, ea⟩ := o.ref
  obtain rfl := Vals.ref1 r
  obtain ⟨mA, O, _⟩ := ins_get I.hok ea
  obtain ⟨od, J, _⟩ := O.look
  obtain ⟨m, hF⟩ := I.fr
  have hu := hr.un
  refine PySem.W.repr_K (by show X.A.units + 1 < _; omega) hF I.ok.mod.kin J hm.at_ hm.fn (thn (run_obj X (A := X.A.in1) G hl hb (room_ins hr).1 rfl hgd hx I (vs := [.ref a]) (us := [.ref a]) (.cons rfl .nil) o.fh o.po o.tl (.cons o.t .nil) q) ?_)
  rintro u s' ⟨w, H', I', rw', d', F1, c, t, qq⟩
  cases d' <;> first | (cases c; done) | skip
  rename_i l
  have e := Dt.str_inv (t.dt rfl)
  subst e
  obtain ⟨tk, rfl⟩ := rw'
  exact ⟨.str (sg l), H', I', ⟨_, rfl⟩, qq⟩
theorem meetsIn_bool {prog : Program} {w : World} {x : Value} : MeetsIn prog w (Builtin.«bool.__new__» ⟨[.type "bool", x], []⟩) (fun A R s => wpAny (model prog w) A.in1 (truthy x) (fun b s' => R (.ok (.ret (.bool b))) s') (fun e s' => R (.error e) s') s) :=
  .of_wp fun A R s h => by
    obtain ⟨hp, g, d, tk, os⟩ := s
    have f1 := PySem.F.conv_sub_bool
    unfold Builtin.«bool.__new__»
    repeat (first | (refine wpAny_bind (m := truthy x) (wpAny_mono h (fun b s' h' => ?_) fun _ _ e => e)) | wp_step)
    all_goals first | exact ⟨_, rfl, h'⟩ | exact wpAny_pure ⟨_, rfl, h'⟩ | skip
theorem meetsIn_str {prog : Program} {w : World} {v : Value} : MeetsIn prog w (Builtin.«str.__new__» ⟨[.type "str", v], []⟩) (fun A R s => wpAny (model prog w) A.in1 (Builtin.Str.strOf v) (fun r s' => R (.ok (.ret r)) s') (fun e s' => R (.error e) s') s) :=
  .of_wp fun A R s h => by
    rw [str_new_tree v]
    refine wpAny_bind (wpAny_pure ?_)
    refine wpAny_bind (wpAny_of_eq isSubtype_str_str ?_)
    exact wpAny_bind (wpAny_mono h (fun r s' h' => wpAny_pure ⟨_, rfl, h'⟩) fun _ _ e => e)
theorem c_ostr {C : Str} {f : Fs} (M : MthOk X.prog X.w X.K X.mg X.base k C "__str__" f) (hr : Room (k + 1) X.A) (hgd : X.A.guards = some []) (hx : Passes (L2.CX X.prog X.w) X E) : CallR X (.type "str") (rOb X.K E C f Da.isStr) := by
  obtain ⟨g, fd, ps, G, hl, hb, hm⟩ := M
  intro pins s σ H xs us Q I r h
  obtain ⟨v, pa, F, P1, d, rfl, o, q⟩ := h
  obtain ⟨a, dx, fs, rfl, ea⟩ := o.ref
  obtain rfl := Vals.ref1 r
  obtain ⟨mA, O, _⟩ := ins_get I.hok ea
  obtain ⟨od, J, _⟩ := O.look
  have hu := hr.un
  refine callType_newIn PySem.F.called_str (by decide) (PySem.F.typeCall_str_1 _) (PySem.F.newCall_str_1 _) (fun obj => PySem.F.args_object_init_2 obj _) PySem.F.entry_str_new meetsIn_str ?_
  show wpAny (model X.prog X.w) X.A.in1.in1 (Builtin.Str.strOf (.ref a)) _ _ s
  unfold Builtin.Str.strOf
  rw [show Builtin.Str.isExactStr (Value.ref a) = false from rfl]
  simp only [Bool.false_eq_true, if_false, pure_bind]
  refine wpAny_bind (wpAny_cRoomFor (by show X.A.units + 1 + 1 < _; omega) ?_)
  refine wpAny_bind (m := callSpecial? (.ref a) (Str.ofString "__str__")) (PySem.W.special_fn I.kIn J hm.at_ (beq_iff_eq.mp hm.fn) (thn (run_obj X (A := X.A.in1.in1) G hl hb (room_ins hr).2.1 rfl hgd hx I (vs := [.ref a]) (us := [.ref a]) (.cons rfl .nil) o.fh o.po o.tl (.cons o.t .nil) q) ?_))
  rintro u s' ⟨w, H', I', rw', d', F1, c, t, qq⟩
  cases d' <;> first | (cases c; done) | skip
  rename_i l
  have e := Dt.str_inv (t.dt rfl)
  subst e
  obtain ⟨tk, rfl⟩ := rw'
  exact wpAny_pure ⟨typeIs_str _ _ _, ⟨.str (sg l), H', I', ⟨_, rfl⟩, qq⟩⟩
theorem c_obool {C : Str} {f : Fs} (M : MthOk X.prog X.w X.K X.mg X.base k C "__bool__" f) (hr : Room (k + 1) X.A) (hgd : X.A.guards = some []) (hx : Passes (L2.CX X.prog X.w) X E) : CallR X (.type "bool") (rOb X.K E C f isBl) := by
  obtain ⟨g, fd, ps, G, hl, hb, hm⟩ := M
  intro pins s σ H xs us Q I r h
  obtain ⟨v, pa, F, P1, d, rfl, o, q⟩ := h
  obtain ⟨a, dx, fs, rfl, ea⟩ := o.ref
  obtain rfl := Vals.ref1 r
  obtain ⟨mA, O, _⟩ := ins_get I.hok ea
  obtain ⟨od, J, _⟩ := O.look
  obtain ⟨m, hF⟩ := I.fr
  refine callType_newIn PySem.F.called_bool PySem.F.newNe_bool (PySem.F.typeCall_bool_1 _) (PySem.F.newCall_bool_1 _) (fun obj => PySem.F.args_object_init_2 obj _) PySem.F.entry_bool_new meetsIn_bool ?_
  refine PySem.W.truthy_K hF I.ok.mod.kin J hm.at_ hm.fn (thn (run_obj X (A := X.A.in1.in1) G hl hb (room_ins hr).2.1 rfl hgd hx I (vs := [.ref a]) (us := [.ref a]) (.cons rfl .nil) o.fh o.po o.tl (.cons o.t .nil) q) ?_)
  rintro u s' ⟨w, H', I', rw', d', F1, c, t, qq⟩
  cases d' <;> first | (cases c; done) | skip
  rename_i b
  have e := Dt.bl_inv (t.dt rfl)
  subst e
  cases rw'
  exact ⟨PySem.typeIs_bool _ _, ⟨.bl b, H', I', rfl, qq⟩⟩
def rOeq (K : PySem.W.Frag) (E : XK) (C : Str) (f : Fs) : R2 := fun x y H Q => ∃ pa F P d e, ObjAt K pa F H P C x d ∧ Dt K F pa y e ∧ ((∃ fs ds, e = .obj C fs ds) ∨ (∃ l, e = .str l) ∨ ∃ xs, e = .tup xs) ∧ Post K E pa F H ((f [d, e] P).chk isBl) Q
theorem o_oeq {C : Str} {f : Fs} (M : MthOk X.prog X.w X.K X.mg X.base k C "__eq__" f) (hT : TyFree X.K C) (hr : Room (k + 1) X.A) (hgd : X.A.guards = some []) (hx : Passes (L2.CX X.prog X.w) X E) : OpR X (compareOp .Eq) (rOeq X.K E C f) := by
  obtain ⟨g, fd, ps, G, hl, hb, hm⟩ := M
  intro pins s σ H x y u v Q I rx ry h
  obtain ⟨pa, F, P1, d, e, o, te, hk, q⟩ := h
  obtain ⟨a, dx, fs, rfl, ea⟩ := o.ref
  cases rx
  obtain ⟨mA, O, _⟩ := ins_get I.hok ea
  obtain ⟨od, J, _⟩ := O.look
  obtain ⟨m, hF⟩ := I.fr
  have hu := hr.un
  have hty : ∃ tb, PySem.W.Looks (model X.prog X.w) s.heap (typeOf v) tb ∧ PySem.W.notFirst X.K (He.ga X.K C) tb = true := by
    rcases hk with ⟨gs, es, rfl⟩ | ⟨l, rfl⟩ | ⟨xs, rfl⟩
    · obtain ⟨b, dy, zs, rfl, h2, _, _⟩ := Dt.obj_inv te
      cases ry
      obtain ⟨mB, O', _⟩ := ins_get I.hok (o.fh _ _ h2)
      obtain ⟨od', J', _⟩ := O'.look
      exact ⟨_, J'.type, by simp [PySem.W.notFirst]⟩
    · have e1 := Dt.str_inv te
      subst e1
      obtain ⟨tk, rfl⟩ := ry
      refine ⟨.type "str", .of_pure rfl, ?_⟩
      · unfold PySem.W.notFirst
        rw [hT "str" (by decide)]
        rfl
    · obtain ⟨b, zs, e1, h2, _⟩ := Dt.tup_inv te
      subst e1
      cases ry
      obtain ⟨its, rv, ht, hz⟩ := I.tuple (same_t o.fh h2)
      obtain ⟨ob, g1, g2, _⟩ := ht
      refine ⟨.type "tuple", fun A' Q' E' s' kp q' => wpAny_typeOf_ref (kp _ _ g1) (by rw [g2]; exact q'), ?_⟩
      unfold PySem.W.notFirst
      rw [hT "tuple" (by decide)]
      rfl
  obtain ⟨tb, hb1, hb2⟩ := hty
  show wpAny (model X.prog X.w) X.A (richCompare .Eq (.ref a) v) (EP X pins σ Q) X.xe s
  refine PySem.W.cmp_K (op := .Eq) (tb := tb) (by omega) hF I.ok.mod.kin J hb1 hb2 hm.at_ hm.fn (thn (run_obj X (A := X.A) G hl hb (hr.mono (Nat.le_succ _)) rfl hgd hx I (vs := [.ref a, y]) (us := [.ref a, v]) (.cons rfl (.cons ry .nil)) o.fh o.po o.tl (.cons o.t (.cons te .nil)) q) ?_)
  rintro u' s' ⟨w, H', I', rw', d', F1, c, t, qq⟩
  cases d' <;> first | (cases c; done) | skip
  rename_i b
  have e := Dt.bl_inv (t.dt rfl)
  subst e
  cases rw'
  exact ⟨.bl b, H', I', rfl, qq⟩
def rOne (K : PySem.W.Frag) (E : XK) (C : Str) (f : Fs) : R2 := fun x y H Q => ∃ pa F P d e, ObjAt K pa F H P C x d ∧ ObjAt K pa F H P C y e ∧ Post K E pa F H ((f [d, e] P).chk isBl) (fun v H' => ∃ b, v = .bl b ∧ Q (.bl (!b)) H')
theorem o_one {C : Str} {f : Fs} (M : MthOk X.prog X.w X.K X.mg X.base k C "__eq__" f) (hN : NeOk X.K C) (hr : Room (k + 1) X.A) (hgd : X.A.guards = some []) (hx : Passes (L2.CX X.prog X.w) X E) : OpR X (compareOp .NotEq) (rOne X.K E C f) := by
  obtain ⟨g, fd, ps, G, hl, hb, hm⟩ := M
  intro pins s σ H x y u v Q I rx ry h
  obtain ⟨pa, F, P1, d, e, o, o', q⟩ := h
  obtain ⟨a, dx, fs, rfl, ea⟩ := o.ref
  obtain ⟨b, dy, gs, rfl, eb⟩ := o'.ref
  cases rx
  cases ry
  obtain ⟨mA, O, _⟩ := ins_get I.hok ea
  obtain ⟨od, J, _⟩ := O.look
  obtain ⟨mB, O', _⟩ := ins_get I.hok eb
  obtain ⟨od', J', _⟩ := O'.look
  have hu := hr.un
  have inner : wpAny (model X.prog X.w) X.A.in1 (Builtin.«object.__ne__» ⟨[.ref a, .ref b], []⟩) (fun fin s' => ∃ z, fin = .done (.ret z) ∧ EP X pins σ Q z s' ∧ z ≠ .notImplemented) X.xe s := by
    unfold Builtin.«object.__ne__»
    refine wpAny_bind (wpAny_pure ?_)
    refine wpAny_bind (wpAny_cRoomFor (by show X.A.units + 1 < _; omega) ?_)
    refine wpAny_bind (m := callSpecialIfBound? (.ref a) (Str.ofString "__eq__") [.ref b]) (PySem.W.ifBound_K I.kIn J hm.at_ hm.fn (thn (run_obj X (A := X.A.in1) G hl hb (room_ins hr).1 rfl hgd hx I (vs := [.ref a, .ref b]) (us := [.ref a, .ref b]) (.cons rfl (.cons rfl .nil)) o.fh o.po o.tl (.cons o.t (.cons o'.t .nil)) q) ?_))
    rintro u' s' ⟨w, H', I', rw', d', F1, c, t, b', e1, qq⟩
    subst e1
    cases rw'
    refine wpAny_bind (m := truthy (.bool b')) (wpAny_truthy_bool (wpAny_pure ⟨_, rfl, ⟨.bl (!b'), H', I', rfl, qq⟩, by simp⟩))
  have chk : ∀ (Q' : Unit → Shared → Prop), Q' () s → wpAny (model X.prog X.w) X.A.in1 (checkBuiltinCall "object.__ne__" ⟨[.ref a, .ref b], []⟩) Q' X.xe s := fun Q' q' => by
    simp only [checkBuiltinCall, PySem.F.cmpKind_ne, PySem.F.cmpSplit_ne]
    refine wpAny_bind (wpAny_bind (J.type.here ((PySem.W.looks_subIn I.kIn hN.ob).here ?_)))
    simp only [Bool.not_true, Bool.false_eq_true, if_false]
    exact wpAny_pure q'
  have callNe : wpAny (model X.prog X.w) X.A (call (.builtin "object.__ne__") [.ref a, .ref b]) (fun z s' => EP X pins σ Q z s' ∧ z ≠ .notImplemented) X.xe s := by
    refine wpAny_call (codeAny_call_builtin PySem.F.cmp_object.ne.plain PySem.F.cmpEntry_ne (chk _ (wpAny_mono inner (fun fin s' hf => ?_) fun _ _ e => e)))
    obtain ⟨z, rfl, h1, h2⟩ := hf
    exact ⟨h1, h2⟩
  have one : wpAny (model X.prog X.w) X.A (tryCompare (.ref a) "__ne__" (.ref b)) (fun r s' => ∃ z, r = some z ∧ EP X pins σ Q z s') X.xe s := by
    unfold tryCompare
    have sp : ∀ (Q' : Option Value → Shared → Prop), wpAny (model X.prog X.w) X.A (call (.builtin "object.__ne__") [.ref a, .ref b]) (fun v => Q' (some v)) X.xe s → wpAny (model X.prog X.w) X.A (callSpecialIfBound? (.ref a) "__ne__" [.ref b]) Q' X.xe s := fun Q' hq => by
      simp only [callSpecialIfBound?, bindSpecialIfBound?]
      refine wpAny_holding (wpAny_bind (wpAny_bind (wpAny_bind (J.type.here ((PySem.W.looks_findIn I.kIn hN.ne).here ?_)))))
      refine wpAny_bind (wpAny_askSetting (wpAny_ite ?_))
      have fin : wpAny (model X.prog X.w) X.A (call (.builtin "object.__ne__") ([.ref a] ++ [.ref b]) >>= fun v => pure (some v)) Q' X.xe s := wpAny_bind (wpAny_mono hq (fun v s' h' => wpAny_pure h') fun _ _ h' => h')
      rw [PySem.F.cmp_object.ne.bind]
      split
      · exact wpAny_bind (wpAny_pure (wpAny_pure (by exact fin)))
      · exact wpAny_tryCatch (wpAny_bind (wpAny_pure (wpAny_pure (by exact fin))))
    refine wpAny_bind (sp _ (wpAny_mono callNe (fun z s' hz => ?_) fun _ _ h' => h'))
    obtain ⟨h1, h2⟩ := hz
    cases z <;> first | exact absurd rfl h2 | exact wpAny_pure ⟨_, rfl, h1⟩
  show wpAny (model X.prog X.w) X.A (richCompare .NotEq (.ref a) (.ref b)) (EP X pins σ Q) X.xe s
  unfold richCompare
  simp only [oneThing_ref]
  refine wpAny_holding (wpAny_bind (wpAny_cRoomFor (by omega) ?_))
  refine wpAny_bind (J.type.here (wpAny_bind (J'.type.here ?_)))
  simp only [bne_self_eq_false, Bool.false_eq_true, if_false]
  refine wpAny_bind (wpAny_pure ?_)
  simp only [Bool.false_eq_true, if_false]
  refine wpAny_bind (wpAny_mono one (fun r s' z => ?_) fun _ _ e => e)
  obtain ⟨z, rfl, hq⟩ := z
  exact wpAny_pure hq
end

section
variable {X : Cx} {k : Nat} {E : XK} {K : PySem.W.Frag}
theorem obj_of {C : Str} {d : Da} (h : d.isObj C = true) : ∃ fs ds, d = .obj C fs ds := by
  cases d with
  | obj D fs ds =>
    have e : D = C := of_decide_eq_true h
    subst e
    exact ⟨fs, ds, rfl⟩
  | _ => cases h
theorem obj_fz {C : Str} {d : Da} (h : d.isObj C = true) : d.fz = true := by
  obtain ⟨fs, ds, rfl⟩ := obj_of h
  rfl
theorem up_ob {C : Str} {f : Fs} {p : Da → Bool} {fa : Ev → Out Da} {r : List V → Hp → VK → Prop} (hr : ∀ xs H Q, rOb K E C f p xs H Q → r xs H Q) (σ : L2.St) (H : Hp) (Q : VK)
    (h : up K E (fun S => (fa S).bind fun d P => if d.isObj C = true then (f [d] P).chk p else .no) σ H Q) : tCB r (tCons (up K E fa) tNil) σ H Q := by
  obtain ⟨pa, F, S, R, h⟩ := h
  refine ⟨pa, F, S, R, (Post.bind h).mono ?_⟩
  rintro v H1 ⟨d, P1, F1, _, st, h1⟩
  refine hr _ _ _ ?_
  by_cases c : d.isObj C = true
  · rw [if_pos c] at h1
    exact ⟨v, pa, F1, P1, d, rfl, ⟨st.g.fh, st.p, R.tl, st.t.dt (obj_fz c), obj_of c⟩, h1⟩
  · rw [if_neg c] at h1
    exact h1.elim
theorem g_obB {C : Str} {f : Fs} {p : Da → Bool} {nm : Str} {id : String} {e : Expr} {fa : Ev → Out Da} {pp pos : Pos} (hc : CallR X (.builtin id) (rOb X.K E C f p)) (hg : Gl X nm) (hm : X.mg nm = none) (hv : bootBuiltins nm = some (.builtin id)) (h1 : nm ≠ ("__name__" : Str)) (h2 : (nm == ("__debug__" : Str)) = false) (hs : nostar e = true) (ha : PE X e (up X.K E fa)) :
    PE X (.Call (.Name nm pp) [e] [] pos) (up X.K E fun S => (fa S).bind fun d P => if d.isObj C = true then (f [d] P).chk p else .no) :=
  PE.imp (pe_callB hc hg hm hv (pa_cons ha pa_nil (star_no hs)) h1 h2 (star_no hs) rfl) (up_ob fun _ _ _ q => q)
theorem g_obT {C : Str} {f : Fs} {p : Da → Bool} {nm : Str} {T : String} {e : Expr} {fa : Ev → Out Da} {pp pos : Pos} (hc : CallR X (.type T) (rOb X.K E C f p)) (hg : Gl X nm) (hm : X.mg nm = none) (hv : bootBuiltins nm = some (.type T)) (h1 : nm ≠ ("__name__" : Str)) (h2 : (nm == ("__debug__" : Str)) = false) (hs : nostar e = true) (ha : PE X e (up X.K E fa)) :
    PE X (.Call (.Name nm pp) [e] [] pos) (up X.K E fun S => (fa S).bind fun d P => if d.isObj C = true then (f [d] P).chk p else .no) :=
  PE.imp (pe_callTy hc hg hm hv (pa_cons ha pa_nil (star_no hs)) h1 h2 (star_no hs) rfl) (up_ob fun _ _ _ q => q)
theorem tr_oeq {C : Str} {f : Fs} {fa fb : Ev → Out Da} (σ : L2.St) (H : Hp) (Q : VK) (h : up K E (fun S => (fa S).bind fun d P => (fb (S.wp P)).bind fun e P2 => if (d.isObj C && (e.isObj C || e.isStr || e.isTp)) = true then (f [d, e] P2).chk isBl else .no) σ H Q) : tOp (rOeq K E C f) (up K E fa) (up K E fb) σ H Q := by
  obtain ⟨pa, F, S, R, h⟩ := h
  refine ⟨pa, F, S, R, (Post.bind h).mono ?_⟩
  rintro v H1 ⟨d, P1, F1, _, st, h1⟩
  refine ⟨pa, F1, S.wp P1, R.grow st.g st.p, (Post.bind h1).mono ?_⟩
  rintro w H2 ⟨e, P2, F2, _, st2, h2⟩
  by_cases c : (d.isObj C && (e.isObj C || e.isStr || e.isTp)) = true
  · rw [if_pos c] at h2
    simp only [Bool.and_eq_true, Bool.or_eq_true] at c
    obtain ⟨c1, c2⟩ := c
    have k1 : (∃ fs ds, e = .obj C fs ds) ∨ (∃ l, e = .str l) ∨ ∃ xs, e = .tup xs := by
      rcases c2 with (c2 | c2) | c2
      · exact .inl (obj_of c2)
      · cases e <;> first | (cases c2; done) | exact .inr (.inl ⟨_, rfl⟩)
      · cases e <;> first | (cases c2; done) | exact .inr (.inr ⟨_, rfl⟩)
    have k2 : e.fz = true := by
      rcases k1 with ⟨_, _, rfl⟩ | ⟨_, rfl⟩ | ⟨_, rfl⟩ <;> rfl
    exact ⟨pa, F2, P2, d, e, ⟨st2.g.fh, st2.p, R.tl, (st.t.grow st2.g).dt (obj_fz c1), obj_of c1⟩, st2.t.dt k2, k1, h2⟩
  · rw [if_neg c] at h2
    exact h2.elim
theorem g_oeq {C : Str} {f : Fs} {l r : Expr} {fa fb : Ev → Out Da} {pos : Pos} (M : MthOk X.prog X.w X.K X.mg X.base k C "__eq__" f) (hT : TyFree X.K C) (hr : Room (k + 1) X.A) (hgd : X.A.guards = some []) (hx : Passes (L2.CX X.prog X.w) X E) (hn : noset r = true) (ha : PE X l (up X.K E fa)) (hb : PE X r (up X.K E fb)) :
    PE X (.Compare l [.Eq] [r] pos) (up X.K E fun S => (fa S).bind fun d P => (fb (S.wp P)).bind fun e P2 => if (d.isObj C && (e.isObj C || e.isStr || e.isTp)) = true then (f [d, e] P2).chk isBl else .no) := by
  exact PE.imp (pe_cmpR (o_oeq M hT hr hgd hx) ha hb (marks_of hn)) tr_oeq
theorem notb_post {o : Out Da} {pa : Pa} {F H : Hp} {Q : VK} (h : Post K E pa F H (o.chk isBl).notb Q) : Post K E pa F H (o.chk isBl) (fun v H' => ∃ b, v = .bl b ∧ Q (.bl (!b)) H') := by
  cases o with
  | ok d P1 =>
    cases d <;> first | exact h.elim | skip
    rename_i b
    intro v F' H' g p t
    have e := Dt.bl_inv (t.dt rfl)
    exact ⟨b, e, h (.bl (!b)) F' H' g p (Dx.of (.bl _))⟩
  | ex C fs ds P => exact h
  | no => exact h
theorem tr_one {C : Str} {f : Fs} {fa fb : Ev → Out Da} (σ : L2.St) (H : Hp) (Q : VK) (h : up K E (fun S => (fa S).bind fun d P => (fb (S.wp P)).bind fun e P2 => if (d.isObj C && e.isObj C) = true then ((f [d, e] P2).chk isBl).notb else .no) σ H Q) : tOp (rOne K E C f) (up K E fa) (up K E fb) σ H Q := by
  obtain ⟨pa, F, S, R, h⟩ := h
  refine ⟨pa, F, S, R, (Post.bind h).mono ?_⟩
  rintro v H1 ⟨d, P1, F1, _, st, h1⟩
  refine ⟨pa, F1, S.wp P1, R.grow st.g st.p, (Post.bind h1).mono ?_⟩
  rintro w H2 ⟨e, P2, F2, _, st2, h2⟩
  by_cases c : (d.isObj C && e.isObj C) = true
  · rw [if_pos c] at h2
    rw [Bool.and_eq_true] at c
    exact ⟨pa, F2, P2, d, e, ⟨st2.g.fh, st2.p, R.tl, (st.t.grow st2.g).dt (obj_fz c.1), obj_of c.1⟩, ⟨st2.g.fh, st2.p, R.tl, st2.t.dt (obj_fz c.2), obj_of c.2⟩, notb_post h2⟩
  · rw [if_neg c] at h2
    exact h2.elim
theorem g_one {C : Str} {f : Fs} {l r : Expr} {fa fb : Ev → Out Da} {pos : Pos} (M : MthOk X.prog X.w X.K X.mg X.base k C "__eq__" f) (hN : NeOk X.K C) (hr : Room (k + 1) X.A) (hgd : X.A.guards = some []) (hx : Passes (L2.CX X.prog X.w) X E) (hn : noset r = true) (ha : PE X l (up X.K E fa)) (hb : PE X r (up X.K E fb)) :
    PE X (.Compare l [.NotEq] [r] pos) (up X.K E fun S => (fa S).bind fun d P => (fb (S.wp P)).bind fun e P2 => if (d.isObj C && e.isObj C) = true then ((f [d, e] P2).chk isBl).notb else .no) := by
  exact PE.imp (pe_cmpR (o_one M hN hr hgd hx) ha hb (marks_of hn)) tr_one
theorem pt_tr {op : CmpOp} {r : R2} {ta tb : TE} {g : Ev → Out Da} {a b : Expr} {pos : Pos} (ho : OpR X (compareOp op) r) (ha : PE X a ta) (hb : PE X b tb) (hn : noset b = true) (tr : ∀ σ H Q, up X.K E g σ H Q → tOp r ta tb σ H Q) (hbl : ∀ S d P, g S = .ok d P → ∃ b, d = .bl b) :
    PT X (.Compare a [op] [b] pos) (upT X.K E fun S => trus (g S)) := by
  refine PT.imp (pt_cmpR ho ha hb (marks_of hn)) fun σ H Q q => tr σ H _ ?_
  obtain ⟨pa, F, S, R, q⟩ := q
  refine ⟨pa, F, S, R, (Post.bindT q).mono ?_⟩
  rintro v H1 ⟨d, P1, F1, e0, st, q1⟩
  obtain ⟨b, rfl⟩ := hbl S d P1 e0
  have e := Dt.bl_inv (st.t.dt rfl)
  exact ⟨b, e, PostT.now st.g.fh st.p q1⟩
theorem bl_oeq {C : Str} {f : Fs} {fa fb : Ev → Out Da} (S : Ev) (d : Da) (P : Po) (h : ((fa S).bind fun d P => (fb (S.wp P)).bind fun e P2 => if (d.isObj C && (e.isObj C || e.isStr || e.isTp)) = true then (f [d, e] P2).chk isBl else .no) = .ok d P) : ∃ b, d = .bl b := by
  cases h1 : fa S with
  | ok x P1 =>
    rw [h1, Out.bind_ok] at h
    cases h2 : fb (S.wp P1) with
    | ok y P2 =>
      rw [h2, Out.bind_ok] at h
      split at h
      · cases h3 : f [x, y] P2 with
        | ok z P3 =>
          rw [h3] at h
          cases z <;> first | (cases h; done) | skip
          cases h
          exact ⟨_, rfl⟩
        | ex C fs es P => rw [h3] at h; cases h
        | no => rw [h3] at h; cases h
      · cases h
    | ex C fs es P => rw [h2] at h; cases h
    | no => rw [h2] at h; cases h
  | ex C fs es P => rw [h1] at h; cases h
  | no => rw [h1] at h; cases h
theorem bl_one {C : Str} {f : Fs} {fa fb : Ev → Out Da} (S : Ev) (d : Da) (P : Po) (h : ((fa S).bind fun d P => (fb (S.wp P)).bind fun e P2 => if (d.isObj C && e.isObj C) = true then ((f [d, e] P2).chk isBl).notb else .no) = .ok d P) : ∃ b, d = .bl b := by
  cases h1 : fa S with
  | ok x P1 =>
    rw [h1, Out.bind_ok] at h
    cases h2 : fb (S.wp P1) with
    | ok y P2 =>
      rw [h2, Out.bind_ok] at h
      split at h
      · cases h3 : f [x, y] P2 with
        | ok z P3 =>
          rw [h3] at h
          cases z <;> first | (cases h; done) | skip
          cases h
          exact ⟨_, rfl⟩
        | ex C fs es P => rw [h3] at h; cases h
        | no => rw [h3] at h; cases h
      · cases h
    | ex C fs es P => rw [h2] at h; cases h
    | no => rw [h2] at h; cases h
  | ex C fs es P => rw [h1] at h; cases h
  | no => rw [h1] at h; cases h
theorem noex_post {o : Out Da} {E' : XK} {pa : Pa} {F H : Hp} {Q : VK} (h : Post K E pa F H o.noex Q) : Post K E' pa F H o Q := by
  cases o with
  | ok d P1 => exact h
  | ex C fs ds P => exact h.elim
  | no => exact h
theorem gprop {C : Addr} {m : Str} {p g : Addr} {fd : FuncData} {ps : List Str} {sp : Sp} {a dx : Addr} {fs : List (Str × V)} {pins : List (Addr × Obj)} {σ : L2.St} {H : Hp} {s : Shared} {Q : VK} {b : Bool} {E' : Value → Shared → Prop} (I : Inv X pins σ H s) (ea : H a = some (.ins C dx fs)) (c : Cls X.K C) (hp : PropOf X.K C m p g)
    (G : Gn X.prog X.w X.K X.mg X.base k g fd ps sp) (hr : Room (k + 1) X.A) (hgd : X.A.guards = some []) (hb : Binds X.K fd ps []) (h : sp [.ref a] H Q E0) :
    wpAny (model X.prog X.w) X.A (getAttr (.ref a) m b) (EP X pins σ Q) E' s := by
  obtain ⟨mA, O, _⟩ := ins_get I.hok ea
  obtain ⟨od, J, _⟩ := O.look
  obtain ⟨rest, hrec⟩ := hp.rec_
  have J1 := I.tok (s.toks + 1)
  have hl : ([Value.ref a] ++ []).length = ps.length := by
    rw [← G.len _ _ _ _ h]
    rfl
  have hcs : (PySem.W.clsIn X.K C).isSome = true := by
    obtain ⟨cd, hc, _⟩ := PySem.W.any_some c.hd
    rw [hc]
    rfl
  have bt := hb ({ s with toks := s.toks + 1 } : Shared) [.ref a] J1.kIn hl
  rw [List.append_nil] at bt
  have run := G.run X.A.in1 X.stack { s with toks := s.toks + 1 } H ⟨[.ref a], []⟩ [.ref a] [.ref a] Q E0 (room_ins hr).1 hgd J1.env0.in1 bt (.cons rfl .nil) h
  refine PySem.W.get_bind I.kIn J (PySem.W.plainGet_of (c.get m)).1 (PySem.W.findObj_data hcs hp.at_ hp.get hp.tak) (PySem.W.plainGet_of (c.get m)).2 (wpAny_call (PySem.W.prop_get (s := { s with toks := s.toks + 1 }) I.kIn hrec (codeAny_mono run fun res s' hq => ?_)))
  cases res with
  | error er =>
    obtain ⟨_, _, _, _, _, _, _, _, _, _, _, _, z⟩ := hq
    exact False.elim z
  | ok fl =>
    cases fl with
    | ret u =>
      obtain ⟨v, H', I3, rv, q3⟩ := J1.after hq
      show wpAny _ _ (handedOut u) _ _ _
      rw [PySem.W.handedOut_of (handed_of rv)]
      exact wpAny_pure ⟨v, H', I3, rv, q3⟩
    | _ => exact hq.elim
theorem g_prp {C m : Str} {f : Fs} {e : Expr} {fa : Ev → Out Da} {pos : Pos} (M : PrpOk X.prog X.w X.K X.mg X.base k C m f) (hr : Room (k + 1) X.A) (hgd : X.A.guards = some []) (hb0 : nobase e = true) (ha : PE X e (up X.K E fa)) :
    PE X (.Attribute e m pos) (up X.K E fun S => (fa S).bind fun d P => if d.isObj C = true then (f [d] P).noex else .no) := by
  obtain ⟨hc, p, g, fd, ps, G, hl, hb, hp⟩ := M
  refine ⟨fun pins s σ H Q I h => ?_⟩
  obtain ⟨pa, F, S, R, h⟩ := h
  refine attr_of (base_of hb0) (thn (ha.run pins s σ H _ I ⟨pa, F, S, R, Post.bind h⟩) ?_)
  rintro u s1 ⟨v, H1, I1, rv, d, P1, F1, _, st, h1⟩
  by_cases c : d.isObj C = true
  · rw [if_pos c] at h1
    have t := st.t.dt (obj_fz c)
    obtain ⟨a, dx, fs, rfl, ea⟩ := ObjAt.ref ⟨st.g.fh, st.p, R.tl, t, obj_of c⟩
    obtain rfl : u = Value.ref a := rv
    refine gprop I1 ea hc hp G hr hgd hb ⟨?_, pa, F1, P1, [d], st.g.fh, st.p, R.tl, .cons t .nil, noex_post h1⟩
    have e2 := hl [d] P1 fun e => by
      rw [e] at h1
      exact h1
    exact e2
  · rw [if_neg c] at h1
    exact h1.elim
theorem mk_sp {C : Str} {f : Fs} {n : Nat} {pa : Pa} {F H : Hp} {P : Po} {vs : List V} {ds : List Da} {Q : VK} {x dx : Addr} (hx : H x = none) (hdx : H dx = none) (hne : dx ≠ x) (fh : Same F H) (po : PoolOk F H pa P) (tl : pa.T = lamT K) (t : Dts K F pa vs ds) (hl : ds.length + 1 = n)
    (h : Post K E pa F H (f ds P) Q) : spI K n C f (.ref x :: vs) (upd (upd H dx (.own x)) x (.ins (He.ga K C) dx [])) (fun v H2 => v = .non ∧ Q (.ref x) H2) E :=
  ⟨x, dx, vs, pa, F, H, P, ds, rfl, by rw [List.length_cons, t.length]; exact hl, hx, hdx, hne, rfl, fh, po, tl, t, h.mono fun v H' q e => ⟨rfl, by rw [← e]; exact q⟩⟩
theorem g_mk {C : Str} {dfs : List Da} {f : Fs} {e : Expr} {es : List Expr} {ga : Ev → Out (List Da)} {p pos : Pos} (M : MakeOk X.prog X.w X.K X.mg X.base k C f (BindDf X.K dfs)) (hr : Room (k + 1) X.A) (hgd : X.A.guards = some []) (hx : Passes (L2.CX X.prog X.w) X E)
    (hg : Gl X C) (hdb : (C == ("__debug__" : Str)) = false) (ha : PA X (e :: es) (upA X.K E ga)) (hs : nostar e = true) (hpl : (backTo pos (starEach es X.env)).any (·.1) = false) :
    PE X (.Call (.Name C p) (e :: es) [] pos) (up X.K E fun S => (ga S).bind fun ds P => if ds.all Da.fz = true then f (ds ++ dfs) P else .no) := by
  obtain ⟨g, fd, ps, Mk', G, hl, hm, dvs, dV, hd, hb, tdf⟩ := M
  refine PE.imp (pe_makeG Mk' G hr hgd hg hm hb hd hx ha hdb (star_no hs) hpl) fun σ H Q h => ?_
  obtain ⟨pa, F, S, R, h⟩ := h
  refine ⟨pa, F, S, R, (PostA.bind h).mono ?_⟩
  rintro vs H1 ⟨ds, P1, F1, _, g1, p1, t1, h1⟩
  intro x dx hx0 hdx0 hne
  by_cases c : ds.all Da.fz = true
  · rw [if_pos c] at h1
    refine mk_sp hx0 hdx0 hne g1.fh p1 R.tl ((t1.dts c).append (tdf F1 pa)) ?_ h1
    refine hl _ P1 fun e => ?_
    rw [e] at h1
    exact h1
  · rw [if_neg c] at h1
    exact h1.elim
theorem Dts.pick {F : Hp} {pa : Pa} {zs : List V} {ds : List Da} (t : Dts K F pa zs ds) : ∀ pr : List Nat, (∀ i ∈ pr, i < zs.length) → Dts K F pa (pr.map fun i => zs.getD i .non) (pr.map fun i => ds.getD i .non)
  | [], _ => .nil
  | i :: pr, h => by
    have hi : i < zs.length := h i (List.mem_cons_self ..)
    obtain ⟨d, e1, e2⟩ := t.getV (List.getElem?_eq_getElem hi)
    refine .cons ?_ (Dts.pick t pr fun j hj => h j (List.mem_cons_of_mem _ hj))
    show Dt K F pa (zs.getD i .non) (ds.getD i .non)
    rw [List.getD_eq_getElem?_getD, List.getD_eq_getElem?_getD, e1, List.getElem?_eq_getElem hi]
    exact e2
theorem Vals.pick {zs : List V} {ws : List Value} (r : Vals zs ws) : ∀ pr : List Nat, (∀ i ∈ pr, i < zs.length) → Vals (pr.map fun i => zs.getD i .non) (pr.map fun i => ws.getD i .none)
  | [], _ => .nil
  | i :: pr, h => by
    have hi : i < zs.length := h i (List.mem_cons_self ..)
    refine .cons ?_ (Vals.pick r pr fun j hj => h j (List.mem_cons_of_mem _ hj))
    have hget : ∀ {zs : List V} {ws : List Value} {i : Nat}, Vals zs ws → i < zs.length → RelV (zs.getD i .non) (ws.getD i .none) := fun {zs ws i} r => by
      induction r generalizing i with
      | nil => intro h; exact absurd h (by simp)
      | cons r t ih =>
        intro h
        cases i with
        | zero => exact r
        | succ i => exact ih (by simpa using h)
    exact hget r hi
theorem kw_names {env : Env} {pos : Pos} : ∀ {kws : List Keyword} {ks : List Str}, kwOf kws = ks.map some → (backToKw pos (keywordEach kws env)).all (·.1.isSome) = true ∧ (backToKw pos (keywordEach kws env)).filterMap (·.1) = ks ∧ (backToKw pos (keywordEach kws env)).any (·.1.isNone) = false
  | [], [], _ => ⟨rfl, rfl, rfl⟩
  | [], _ :: _, h => by cases h
  | _ :: _, [], h => by cases h
  | ⟨a, v, kp⟩ :: kws, n :: ks, h => by
    have h1 : a = some n := (List.cons.inj h).1
    have h2 : kwOf kws = ks.map some := (List.cons.inj h).2
    subst h1
    obtain ⟨g1, g2, g3⟩ := kw_names (env := env) (pos := pos) h2
    refine ⟨?_, ?_, ?_⟩
    · show (true && _) = true
      rw [Bool.true_and]
      exact g1
    · exact congrArg (n :: ·) g2
    · show (false || _) = false
      rw [Bool.false_or]
      exact g3
theorem g_mkK {C : Str} {ks : List Str} {pr : List Nat} {f : Fs} {kws : List Keyword} {ga : Ev → Out (List Da)} {p pos : Pos} (M : MakeOk X.prog X.w X.K X.mg X.base k C f (BindKw X.K ks pr)) (hr : Room (k + 1) X.A) (hgd : X.A.guards = some []) (hx : Passes (L2.CX X.prog X.w) X E)
    (hg : Gl X C) (hdb : (C == ("__debug__" : Str)) = false) (hk : kwOf kws = ks.map some) (ha : PK X kws (upA X.K E ga)) :
    PE X (.Call (.Name C p) [] kws pos) (up X.K E fun S => (ga S).bind fun ds P => if (ds.all Da.fz && decide (ds.length = ks.length)) = true then f (pr.map fun i => ds.getD i .non) P else .no) := by
  obtain ⟨g, fd, ps, Mk', G, hl, hm, hpl, hpr, hb⟩ := M
  obtain ⟨k1, k2, k3⟩ := kw_names (env := X.env) (pos := pos) hk
  refine ⟨fun pins s σ H Q I h => ?_⟩
  obtain ⟨pa, F, S, R, h⟩ := h
  refine wpAny_Call_Name_kw (ld_glob I hg hm ?_ hdb)
  refine PySem.W.callWith_KW0 (h₀ := X.base) I.ok.mod.kin Mk'.kp k1 ?_ (by rw [k3]; rfl)
  refine thn (ha.run pos pins s σ H _ I ⟨pa, F, S, R, PostA.bind h⟩) ?_
  rintro ws s2 ⟨zs, H2, I2, rz, ds, P1, F1, _, g1, p1, t1, h1⟩
  refine ⟨I2.kIn, ?_⟩
  rw [k2]
  by_cases c : (ds.all Da.fz && decide (ds.length = ks.length)) = true
  · rw [if_pos c] at h1
    rw [Bool.and_eq_true] at c
    have td := t1.dts c.1
    have hn : (pr.map fun i => ds.getD i .non).length + 1 = ps.length := by
      rw [List.length_map]; exact hpl
    have hlk : zs.length = ks.length := by rw [t1.length]; exact of_decide_eq_true c.2
    have rp := Vals.pick rz pr fun i hi => by rw [hlk]; exact hpr i hi
    have tp := Dts.pick td pr fun i hi => by rw [hlk]; exact hpr i hi
    refine run_makeG (us := []) (kw := ks.zip ws) (zs := pr.map fun i => zs.getD i .non) (ws := pr.map fun i => ws.getD i .none) Mk' G hr hgd hx I2 (fun s' kin => hb s' _ ws kin (by rw [← rz.length]; exact hlk)) rp fun x dx hx0 hdx0 hne => mk_sp hx0 hdx0 hne g1.fh p1 R.tl tp hn h1
  · rw [if_neg c] at h1
    exact h1.elim
theorem thaw {pa : Pa} {F H : Hp} : ∀ {vs : List V} {ds : List Da}, Same F H → Dxs K F H pa vs ds → ∃ F', Same F F' ∧ Same F' H ∧ (∀ p, F' p ≠ none → F p ≠ none ∨ NM pa p) ∧ Dts K F' pa vs (ds.map Da.nb)
  | [], [], fh, .nil => ⟨F, Same.refl _, fh, fun p h => .inl h, .nil⟩
  | v :: vs, d :: ds, fh, .cons h t => by
    obtain ⟨F1, s1, s2, s3, t1⟩ := thaw fh t
    cases d with
    | bor xs =>
      obtain ⟨a, ys, rfl, h2, h3, h4, h5⟩ := h
      by_cases c : F1 a = none
      · have sm : Same F1 (upd F1 a (.lst ys)) := fun b u e => by rw [upd_ne (ne_of_none e c)]; exact e
        refine ⟨upd F1 a (.lst ys), s1.trans sm, fun b u e => ?_, fun p hp => ?_, .cons (.lst upd_same (h5.mono (s1.trans sm))) (t1.mono sm)⟩
        · by_cases cb : b = a
          · subst cb; rw [upd_same] at e; cases e; exact h4
          · rw [upd_ne cb] at e; exact s2 b u e
        · by_cases cb : p = a
          · subst cb; exact .inr h3
          · rw [upd_ne cb] at hp; exact s3 p hp
      · obtain ⟨o, ho⟩ := Option.ne_none_iff_exists'.mp c
        have e1 := s2 a o ho
        rw [h4] at e1
        cases e1
        exact ⟨F1, s1, s2, s3, .cons (.lst ho (h5.mono s1)) t1⟩
    | _ => exact ⟨F1, s1, s2, s3, .cons (Dt.mono s1 (h.dt rfl)) t1⟩
theorem Dt.bare {F F' : Hp} {pa : Pa} {v : V} {d : Da} (h : Dt K F pa v d) (hb : d.bare = true) : Dt K F' pa v d := by
  cases h <;> first | (cases hb; done) | constructor
theorem Gr.back {pa : Pa} {F H F1 F' H' : Hp} (fh : Same F H) (s1 : Same F F1) (g : Gr pa F1 H F' H') : Gr pa F H F H' where
  ff := Same.refl _
  fh := fun b u e => g.fh b u (g.ff b u (s1 b u e))
  hh := g.hh
  nw := fun b u e => .inl e
theorem PoolOk.up {pa : Pa} {F F1 H : Hp} {P : Po} (po : PoolOk F H pa P) (h : ∀ p, F1 p ≠ none → F p ≠ none ∨ NM pa p) : PoolOk F1 H pa P := by
  refine po.ext (fun p hp => ?_) (fun _ _ e => e) fun _ _ e => e
  cases e : F1 p with
  | none => rfl
  | some o =>
    rcases h p (by rw [e]; simp) with k | k
    · obtain ⟨u, hu⟩ := Option.ne_none_iff_exists'.mp k
      exact absurd (po.nmF hu) hp
    · exact absurd k hp
theorem PoolOk.back {pa : Pa} {F F1 F' H H' : Hp} {P P' : Po} (po : PoolOk F H pa P) (p' : PoolOk F' H' pa P') : PoolOk F H' pa P' where
  pp := p'.pp.ext (fun q e => by
    have hp := po.pp
    rw [e] at hp
    obtain ⟨_, _, _, _, h1, _⟩ := hp.at
    exact h1) fun _ _ _ e => e
  tb := ⟨p'.tb.tabs, po.tb.out, p'.tb.only⟩
theorem g_bor {x : Str} {f : Fs} {e : Expr} {es : List Expr} {g : Ev → Out (List Da)} {p pos : Pos} (D : DefOk X.prog X.w X.K X.mg X.base k x f) (hr : Room k X.A) (hgd : X.A.guards = some []) (hg : Gl X x) (hdb : (x == ("__debug__" : Str)) = false)
    (tk : Takes X (fun c d _ H => E c d H)) (ha : PA X (e :: es) (upA X.K E g)) (hs : nostar e = true) (hpl : (backTo pos (starEach es X.env)).any (·.1) = false) :
    PE X (.Call (.Name x p) (e :: es) [] pos) (up X.K E fun S => (g S).bind fun ds P => (f (ds.map Da.nb) P).noex.chk Da.bare) := by
  obtain ⟨fd, ps, G, hlen, hb, hk, hm⟩ := D
  have px : Passes (L2.CX X.prog X.w) X E := passes_call tk fun _ _ _ _ h => h
  refine PE.imp (pe_callG (E := E) (dvs := []) G hr hgd hg hm hk hb .nil px ha hdb (star_no hs) hpl) fun σ H Q q => ?_
  obtain ⟨pa, F, S, R, h⟩ := q
  refine ⟨pa, F, S, R, (PostA.bind h).mono ?_⟩
  rintro vs H1 ⟨ds, P1, F1, _, g1, p1, t1, h1⟩
  obtain ⟨F', s1, s2, s3, td⟩ := thaw g1.fh t1
  rw [List.append_nil]
  cases hf : f (ds.map Da.nb) P1 with
  | ex C fs es P => rw [hf] at h1; exact h1.elim
  | no => rw [hf] at h1; exact h1.elim
  | ok d P2 =>
    rw [hf] at h1
    have h1 : Post X.K E pa F1 H1 (if d.bare = true then .ok d P2 else .no) Q := h1
    by_cases c : d.bare = true
    · rw [if_pos c] at h1
      refine ⟨?_, pa, F', P1, ds.map Da.nb, s2, p1.up s3, R.tl, td, ?_⟩
      · rw [td.length]
        exact hlen _ P1 (by rw [hf]; simp)
      · rw [hf]
        intro v F2 H2 g2 p2 t2
        have df : d.fz = true := by cases d <;> first | rfl | (cases c; done)
        exact h1 v F1 H2 (Gr.back g1.fh s1 g2) (PoolOk.back (F1 := F1) p1 p2) (Dx.of ((t2.dt df).bare c))
    · rw [if_neg c] at h1
      exact h1.elim
end
theorem stars_pl' {env : Env} {pos : Pos} : ∀ {es : List Expr}, nostars es = true → (backTo pos (starEach es env)).any (·.1) = false
  | [], _ => rfl
  | e :: es, h => by
    simp only [nostars, Bool.and_eq_true] at h
    rw [star_no h.1]
    show (false || (backTo pos (starEach es env)).any (·.1)) = false
    rw [stars_pl' h.2]
    rfl
theorem meth_form {M : Model} {A : Around} {E : Value → Shared → Prop} {s : Shared} {env : Env} {o : Expr} {name : Str} {apos pos : Pos} {args : List Expr} {kws : List Keyword} {Q : Value → Shared → Prop}
    (hbase : attributeBase o name env (eval o env) = eval o env) (hform : methodCallForm (args.length + kws.length) (backTo pos (starEach args env)) (backToKw pos (keywordEach kws env)) = true) (hline : (apos.endLine == pos.line) = true)
    (h : wpAny M A (eval o env) (fun ov s1 => ∀ pl : Sem Bool, wpAny M A (getMethod ov name pl) (fun fx s2 => wpAny M A (callWith pos fx.1 fx.2 (backTo pos (starEach args env)) (backToKw pos (keywordEach kws env))) Q E s2) E s1) E s) :
    wpAny M A (eval (.Call (.Attribute o name apos) args kws pos) env) Q E s := by
  rw [arm_eval_Call, hbase]
  refine wpAny_bind (wpAny_mono h (fun ov s1 h1 => ?_) fun _ _ e => e)
  refine wpAny_bind (wpAny_standAt ?_)
  have hpos : methodCallPos true o env apos pos = pure pos := by unfold methodCallPos; simp [hline]
  unfold methodCall
  rw [hform]
  refine wpAny_bind (wpAny_holding (wpAny_mono (h1 _) (fun fx s2 h2 => ?_) fun _ _ e => e))
  exact wpAny_bind (wpAny_of_eq hpos h2)
theorem all_back {env : Env} {pos : Pos} : ∀ {es : List Expr}, nostars es = true → (backTo pos (starEach es env)).all (!·.1) = true := fun {es} h => by
  have h1 := stars_pl' (env := env) (pos := pos) h
  rw [List.all_eq_true]
  intro x hx
  rw [List.any_eq_false] at h1
  have := h1 x hx
  simpa using this
theorem form_pos {env : Env} {pos : Pos} {es : List Expr} (h : nostars es = true) (hl : es.length < 30) : methodCallForm (es.length + ([] : List Keyword).length) (backTo pos (starEach es env)) (backToKw pos (keywordEach [] env)) = true := by
  unfold methodCallForm
  rw [all_back h]
  simp [keywordEach, backToKw]
  exact hl
theorem zip_none {m : Str} : ∀ {fs : List Str} {xs : List V}, m ∉ fs → (fs.zip xs).lookup m = none
  | [], _, _ => rfl
  | _ :: _, [], _ => rfl
  | f :: fs, x :: xs, h => by
    have n : (m == f) = false := by
      rw [beq_eq_false_iff_ne]
      exact fun e => h (by rw [e]; exact List.mem_cons_self)
    show List.lookup m ((f, x) :: fs.zip xs) = none
    rw [List.lookup_cons, n]
    exact zip_none fun z => h (List.mem_cons_of_mem _ z)

section
variable {X : Cx} {E : XK} {k : Nat}
theorem g_mth {C m : Str} {f : Fs} {o : Expr} {es : List Expr} {fa : Ev → Out Da} {ga : Ev → Out (List Da)} {apos pos : Pos} (M : MmOk X.prog X.w X.K X.mg X.base k C m f (fun fd ps => Binds X.K fd ps [])) (hr : Room (k + 1) X.A) (hgd : X.A.guards = some []) (px : Passes (L2.CX X.prog X.w) X E)
    (hb0 : nobase o = true) (hl : (apos.endLine == pos.line) = true) (ns : nostars es = true) (h5 : es.length < 30) (he : PE X o (up X.K E fa)) (ha : PA X es (upA X.K E ga)) (hn : es = [] → ∀ S, ga S = .ok [] S.po) :
    PE X (.Call (.Attribute o m apos) es [] pos) (up X.K E fun S => (fa S).bind fun x P => if x.isOb C m = true then (ga (S.wp P)).bind fun ds P2 => if ds.all Da.fz = true then f (x :: ds) P2 else .no else .no) := by
  obtain ⟨cl, g, fd, ps, G, hlen0, hb, hm⟩ := M
  refine ⟨fun pins s σ H Q I h => ?_⟩
  obtain ⟨pa, F, S, R, h⟩ := h
  refine meth_form (base_of hb0) (form_pos ns h5) hl (thn (he.run pins s σ H _ I ⟨pa, F, S, R, Post.bind h⟩) ?_)
  rintro u s1 ⟨x, H1, I1, rx, d, P1, F1, _, st, q1⟩ pl
  have R1 := R.grow st.g st.p
  by_cases c0 : d.isOb C m = true
  · rw [if_pos c0] at q1
    cases d with
    | obj D0 fs zs =>
      obtain ⟨c1, c2⟩ := of_decide_eq_true c0
      subst c1
      have td := st.t.dt (d := .obj D0 fs zs) rfl
      obtain ⟨a0, dx, xs, ex, ea, e4, e5⟩ := Dt.obj_inv td
      subst ex
      obtain rfl : u = Value.ref a0 := rx
      refine getmeth_ok I1 (st.g.fh _ _ ea) cl hm (zip_none c2) ?_
      cases es with
      | nil =>
        rw [hn rfl, Out.bind_ok] at q1
        have q2 : Post X.K E pa F1 H1 (f [.obj D0 fs zs] P1) Q := q1
        have hlen := hlen0 [.obj D0 fs zs] P1 fun e => by rw [e] at q2; exact q2
        exact PySem.W.callWith_K0 (first := [.ref a0]) I1.kIn hm.kp (run_gn (us := [.ref a0]) (vs := [.ref a0]) G (hr.mono (Nat.le_succ _)) hgd hb .nil px I1 (.cons rfl .nil) ⟨by simpa using hlen, pa, F1, P1, _, st.g.fh, st.p, R.tl, .cons td .nil, q2⟩)
      | cons e0 er =>
        simp only [nostars, Bool.and_eq_true] at ns
        refine PySem.W.callWith_K (first := [.ref a0]) (h₀ := X.base) I.ok.mod.kin hm.kp (thn (ha.run pos pins s1 σ H1 _ I1 ⟨pa, F1, S.wp P1, R1, PostA.bind q1⟩) ?_) (star_no ns.1) (stars_pl' ns.2)
        rintro us s2 ⟨vs, H2, I2, rv, ds', P2, F2, e6, g2, p2, t2, q3⟩
        by_cases c : ds'.all Da.fz = true
        · rw [if_pos c] at q3
          have td2 : Dts X.K F2 pa (.ref a0 :: vs) (.obj D0 fs zs :: ds') := .cons ((st.t.grow g2).dt rfl) (t2.dts c)
          refine ⟨I2.kIn, run_gn (us := .ref a0 :: us) (vs := .ref a0 :: vs) G (hr.mono (Nat.le_succ _)) hgd hb .nil px I2 (.cons rfl rv) ⟨?_, pa, F2, P2, _, g2.fh, p2, R.tl, ?_, q3⟩⟩
          · rw [List.append_nil, td2.length]
            exact hlen0 _ P2 fun e => by rw [e] at q3; exact q3
          · rw [List.append_nil]
            exact td2
        · rw [if_neg c] at q3
          exact q3.elim
    | _ => cases c0
  · rw [if_neg c0] at q1
    exact q1.elim
end
open PySem.W (kdx_alive)

theorem ad_ne {a lo x : Nat} (h : lo - 1 < a) (h2 : x < lo) : a ≠ x := by omega
theorem ad_lt {a lo x : Nat} (h : x < lo) (h2 : lo ≤ a) : lo - 1 < a := by omega
theorem ad_le {lo a b : Nat} (h : lo ≤ a) (h2 : a < b) : lo ≤ b := by omega
theorem ad_lt1 {a n : Nat} (h : a < n) : a < n + 1 := by omega
theorem ad_ne1 {a n : Nat} (h : a < n) : a ≠ n := by omega
theorem zl_no_len : typeLookup (.type "zip") "__len__" = pure none := by rw [typeLookup_type, builtinLookup_eq_fast]; kernel_rfl
theorem zl_no_hint : typeLookup (.type "zip") "__length_hint__" = pure none := by rw [typeLookup_type, builtinLookup_eq_fast]; kernel_rfl

def ZSt (h : Heap) (S z TI TO i1 i2 l1 l2 : Addr) (xs ys : Array Value) (i : Nat) : Prop :=
  IsPair h TI (.ref i1) (.ref i2) ∧ h.IsListIter i1 l1 i ∧ h.IsListIter i2 l2 i ∧ h.IsList l1 xs ∧ h.IsList l2 ys ∧
    ((IsZip h z TI TO .none ∧ ∃ a b, IsPair h TO a b) ∨ ∃ T f oT, IsZipHeld h z TI TO T f ∧ h.get? T = some oT ∧ T ≠ z ∧ T ≠ i1 ∧ T ≠ i2 ∧ T ≠ S)
structure ZG (xs ys : Array Value) (lo : Addr) (h : Heap) (as : List Addr) : Prop where
  rise : as.Pairwise (· < ·)
  above : ∀ a ∈ as, lo < a
  pairs : ∀ (j : Nat) (a : Addr), as[j]? = some a → ∃ x y, xs[j]? = some x ∧ ys[j]? = some y ∧ h.get? a = some { cls := .type "tuple", data := .seq #[x, y] }
theorem ZG.there {xs ys : Array Value} {lo : Addr} {h : Heap} {as : List Addr} (g : ZG xs ys lo h as) {a : Addr} (ha : a ∈ as) : a < h.objs.size := by
  obtain ⟨j, hj⟩ := List.mem_iff_getElem?.mp ha
  obtain ⟨_, _, _, _, e⟩ := g.pairs j a hj
  exact Heap.lt_size e
structure ZOff (S z TI TO i1 i2 l1 l2 : Addr) : Prop where
  z : z ≠ S
  TI : TI ≠ S
  TO : TO ≠ S
  i1 : i1 ≠ S
  i2 : i2 ≠ S
  l1 : l1 ≠ S
  l2 : l2 ≠ S
section
variable {prog : Program} {w : World} {A : Around} {E : Value → Shared → Prop} {s : Shared} {R : Result → Shared → Prop} {S z TI TO i1 i2 l1 l2 : Addr} {xs ys : Array Value}
theorem ZSt.keep {h h' : Heap} {i : Nat} (O : ZOff S z TI TO i1 i2 l1 l2) (st : ZSt h S z TI TO i1 i2 l1 l2 xs ys i) (hk : ∀ b o, b ≠ S → h.get? b = some o → h'.get? b = some o) : ZSt h' S z TI TO i1 i2 l1 l2 xs ys i := by
  obtain ⟨hTI, h1, h2, hl1, hl2, hz⟩ := st
  refine ⟨hk _ _ O.TI hTI, h1.at fun o e => hk _ o O.i1 e, h2.at fun o e => hk _ o O.i2 e, hl1.at fun o e => hk _ o O.l1 e, hl2.at fun o e => hk _ o O.l2 e, ?_⟩
  rcases hz with ⟨hz, a, b, hTO⟩ | ⟨T, f, oT, hz, hT, r1, r2, r3, r4⟩
  · exact .inl ⟨hk _ _ O.z hz, a, b, hk _ _ O.TO hTO⟩
  · exact .inr ⟨T, f, oT, hk _ _ O.z hz, hk _ _ r4 hT, r1, r2, r3, r4⟩
theorem zl_item {i : Nat} {x y : Value} {Q : Option Value → Shared → Prop} (D : ZipApart z TI TO i1 i2 l1 l2) (st : ZSt s.heap S z TI TO i1 i2 l1 l2 xs ys i) (hS : S < s.heap.objs.size) (hx : xs[i]? = some x) (hy : ys[i]? = some y)
    (hQ : ∀ h', ZSt h' S z TI TO i1 i2 l1 l2 xs ys (i + 1) → h'.get? s.heap.objs.size = some { cls := .type "tuple", data := .seq #[x, y] } → (∀ b o, b ≠ z → b ≠ TO → b ≠ i1 → b ≠ i2 → s.heap.get? b = some o → h'.get? b = some o) → Q (some (.ref s.heap.objs.size)) { s with heap := h' }) :
    wpAny (model prog w) A (pyNext (.ref z)) Q E s := by
  obtain ⟨hTI, h1, h2, hl1, hl2, hz⟩ := st
  have lt : ∀ {c o}, s.heap.get? c = some o → s.heap.objs.size ≠ c := fun e => Nat.ne_of_gt (Heap.lt_size e)
  have n1 : s.heap.objs.size ≠ i1 := let ⟨_, e, _⟩ := h1; lt e
  have n2 : s.heap.objs.size ≠ i2 := let ⟨_, e, _⟩ := h2; lt e
  rcases hz with ⟨hz, a, b, hTO⟩ | ⟨T, f, oT, hz, hT, r1, r2, r3, r4⟩
  · refine wpAny_pyNext_zip_item D hz hTI hTO h1 h2 hl1 hl2 hx hy fun h' a1 a2 a3 a4 a5 a6 hk => ?_
    exact hQ h' ⟨hk _ _ D.TIz D.TITO D.TIi1 D.TIi2 hTI, a3, a4, hl1.at fun o e => hk _ o D.l1z D.l1TO D.l1i1 D.l1i2 e, hl2.at fun o e => hk _ o D.l2z D.l2TO D.l2i1 D.l2i2 e,
      .inr ⟨s.heap.objs.size, false, _, a1, a5, lt hz, n1, n2, Nat.ne_of_gt hS⟩⟩ a5 fun c o c1 c2 c3 c4 e => hk c o c1 c2 c3 c4 e
  · refine wpAny_pyNext_zip_item_held D hz hT hTI h1 h2 hl1 hl2 hx hy fun h' a1 a3 a4 a5 a6 hk => ?_
    exact hQ h' ⟨hk _ _ D.TIz D.TIi1 D.TIi2 hTI, a3, a4, hl1.at fun o e => hk _ o D.l1z D.l1i1 D.l1i2 e, hl2.at fun o e => hk _ o D.l2z D.l2i1 D.l2i2 e,
      .inr ⟨T, true, oT, a1, hk _ _ r1 r2 r3 hT, r1, r2, r3, r4⟩⟩ a5 fun c o c1 c2 c3 c4 e => hk c o c1 c3 c4 e
theorem zl_done {Q : Option Value → Shared → Prop} (hh : A.handled = none) (D : ZipApart z TI TO i1 i2 l1 l2) (st : ZSt s.heap S z TI TO i1 i2 l1 l2 xs ys (min xs.size ys.size))
    (hQ : ∀ h', (∀ b o, b ≠ z → b ≠ TO → b ≠ i1 → b ≠ i2 → s.heap.get? b = some o → h'.get? b = some o) → Q none { s with heap := h' }) : wpAny (model prog w) A (pyNext (.ref z)) Q E s := by
  obtain ⟨hTI, h1, h2, hl1, hl2, hz⟩ := st
  have hend : xs[min xs.size ys.size]? = none ∨ ys[min xs.size ys.size]? = none := by
    rcases Nat.le_total xs.size ys.size with h | h
    · exact .inl (Array.getElem?_eq_none (by rw [Nat.min_eq_left h]; exact Nat.le_refl _))
    · exact .inr (Array.getElem?_eq_none (by rw [Nat.min_eq_right h]; exact Nat.le_refl _))
  rcases hz with ⟨hz, a, b, hTO⟩ | ⟨T, f, oT, hz, hT, r1, r2, r3, r4⟩
  · exact wpAny_pyNext_zip_end hh D hz hTI hTO h1 h2 hl1 hl2 hend fun h' hk => hQ h' fun c o c1 c2 c3 c4 e => hk c o c1 c2 c3 c4 e
  · exact wpAny_pyNext_zip_end_held hh D hz hT hTI h1 h2 hl1 hl2 hend fun h' hk => hQ h' fun c o c1 c2 c3 c4 e => hk c o c1 c3 c4 e
theorem zl_loop (hh : A.handled = none) (D : ZipApart z TI TO i1 i2 l1 l2) (O : ZOff S z TI TO i1 i2 l1 l2) (lo : Addr) (hlo : S < lo ∧ z < lo ∧ TO < lo ∧ i1 < lo ∧ i2 < lo) (hn : min xs.size ys.size ≤ sizeLine) (res : Value) {h1 : Heap}
    (hR : ∀ h' tk acc c as, (∀ b o, b ≠ S → b ≠ z → b ≠ TO → b ≠ i1 → b ≠ i2 → h1.get? b = some o → h'.get? b = some o) → h'.get? S = some { cls := .type "list", dict := none, data := .seq acc c, slots := #[] } → as.length = min xs.size ys.size → ZG xs ys (lo - 1) h' as →
      acc.toList = as.map Value.ref → R (.ok (.ret res)) { s with heap := h', toks := tk }) :
    ∀ (k i : Nat) (h : Heap) (tk c : Nat) (acc : Array Value) (as : List Addr), min xs.size ys.size - i = k → i ≤ min xs.size ys.size → ZSt h S z TI TO i1 i2 l1 l2 xs ys i → (∀ b o, b ≠ S → b ≠ z → b ≠ TO → b ≠ i1 → b ≠ i2 → h1.get? b = some o → h.get? b = some o) →
      h.get? S = some { cls := .type "list", dict := none, data := .seq acc c, slots := #[] } → acc.toList = as.map Value.ref → as.length = i → ZG xs ys (lo - 1) h as → lo ≤ h.objs.size →
      codeAny (model prog w) A (.builtin "list.extend.loop" ⟨[.ref S, .ref z, res], []⟩) R { s with heap := h, toks := tk } := by
  intro k
  induction k with
  | zero =>
    intro i h tk c acc as hk hi hst hkeep hS hacc hal hG hIs
    have hin : i = min xs.size ys.size := by omega
    subst hin
    refine codeAny_builtin PySem.F.entry_extend_loop ?_
    rw [Around.under_plainId PySem.F.plain_extend_loop _]
    show wpAny _ A.in1 (pyNext (.ref z) >>= _) _ _ _
    refine wpAny_bind (zl_done (s := { s with heap := h, toks := tk }) (A := A.in1) (S := S) hh D hst fun h' he => ?_)
    refine wpAny_pure (hR h' tk acc c as (fun b o h1 h2 h3 h4 h5 e => he b o h2 h3 h4 h5 (hkeep b o h1 h2 h3 h4 h5 e)) (he S _ O.z.symm O.TO.symm O.i1.symm O.i2.symm hS) hal ⟨hG.rise, hG.above, fun j a hj => ?_⟩ hacc)
    obtain ⟨x, y, e1, e2, e3⟩ := hG.pairs j a hj
    have ha := hG.above a (List.mem_of_getElem? hj)
    exact ⟨x, y, e1, e2, he a _ (ad_ne ha hlo.2.1) (ad_ne ha hlo.2.2.1) (ad_ne ha hlo.2.2.2.1) (ad_ne ha hlo.2.2.2.2) e3⟩
  | succ k ih =>
    intro i h tk c acc as hk hi hst hkeep hS hacc hal hG hIs
    have hlt : i < min xs.size ys.size := by omega
    have hix : i < xs.size := by omega
    have hiy : i < ys.size := by omega
    have ex := Array.getElem?_eq_getElem hix
    have ey := Array.getElem?_eq_getElem hiy
    have hsz : acc.size = i := by rw [← Array.length_toList, hacc, List.length_map, hal]
    have hSl : S < h.objs.size := Heap.lt_size hS
    refine codeAny_builtin PySem.F.entry_extend_loop ?_
    rw [Around.under_plainId PySem.F.plain_extend_loop _]
    show wpAny _ A.in1 (pyNext (.ref z) >>= _) _ _ _
    refine wpAny_bind (zl_item (s := { s with heap := h, toks := tk }) (S := S) D hst hSl ex ey fun h' hst' ht hkp => ?_)
    dsimp only at ht hkp ⊢
    have hS' := hkp S _ O.z.symm O.TO.symm O.i1.symm O.i2.symm hS
    have up : ∀ b o, b ≠ S → h'.get? b = some o → (h'.update S (Obj.mapSeq (·.push (Value.ref h.objs.size)))).get? b = some o := fun b o hb e => (Heap.get?_update_other _ _ (Ne.symm hb)).trans e
    show wpAny _ A.in1 (updateSeq S (·.push (Value.ref h.objs.size)) >>= _) _ _ _
    refine wpAny_bind ?_
    have eT : (h'.update S (Obj.mapSeq (·.push (Value.ref h.objs.size)))).get? h.objs.size = _ := up _ _ (Nat.ne_of_gt hSl) ht
    refine wpAny_updateSeq hS' rfl (wpAny_pure ⟨plainId_quiet PySem.F.plain_extend_loop _, ih (i + 1) _ tk _ (acc.push (Value.ref h.objs.size)) (as ++ [h.objs.size]) (by omega) hlt (hst'.keep O up)
      (fun b o h1 h2 h3 h4 h5 e => up b o h1 (hkp b o h2 h3 h4 h5 (hkeep b o h1 h2 h3 h4 h5 e))) (Heap.get?_update_self _ hS' rfl) (by rw [Array.toList_push, hacc, List.map_append]; rfl) (by rw [List.length_append, hal]; rfl) ⟨?_, ?_, ?_⟩ ?_⟩) (by rw [hsz]; omega) (by show (acc.push (Value.ref h.objs.size)).size ≤ sizeLine + 1; rw [Array.size_push, hsz]; omega)
    · refine List.pairwise_append.mpr ⟨hG.rise, List.pairwise_singleton _ _, fun a ha b hb => ?_⟩
      rw [List.mem_singleton.mp hb]
      exact hG.there ha
    · intro a ha
      rcases List.mem_append.mp ha with ha | ha
      · exact hG.above a ha
      · rw [List.mem_singleton.mp ha]; exact ad_lt hlo.1 hIs
    · intro j b hj
      rcases Nat.lt_trichotomy j as.length with h1 | h1 | h1
      · rw [List.getElem?_append_left h1] at hj
        obtain ⟨x', y', e1, e2, e3⟩ := hG.pairs j b hj
        have hb := hG.above b (List.mem_of_getElem? hj)
        exact ⟨x', y', e1, e2, up b _ (ad_ne hb hlo.1) (hkp b _ (ad_ne hb hlo.2.1) (ad_ne hb hlo.2.2.1) (ad_ne hb hlo.2.2.2.1) (ad_ne hb hlo.2.2.2.2) e3)⟩
      · subst h1
        have hb : h.objs.size = b := by simpa using hj
        subst hb
        exact ⟨_, _, by rw [hal]; exact ex, by rw [hal]; exact ey, eT⟩
      · have hnone : (as ++ [h.objs.size])[j]? = none := List.getElem?_eq_none (by rw [List.length_append, List.length_singleton]; omega)
        rw [hnone] at hj; cases hj
    · exact ad_le hIs (Heap.lt_size eT)
theorem zl_extend (hh : A.handled = none) (D : ZipApart z TI TO i1 i2 l1 l2) (O : ZOff S z TI TO i1 i2 l1 l2) (lo : Addr) (hlo : S < lo ∧ z < lo ∧ TO < lo ∧ i1 < lo ∧ i2 < lo) (hn : min xs.size ys.size ≤ sizeLine) (res : Value) (c0 : Nat)
    (hst : ZSt s.heap S z TI TO i1 i2 l1 l2 xs ys 0) (hz : IsZip s.heap z TI TO .none) (hs : lo ≤ s.heap.objs.size) (hS : s.heap.get? S = some { cls := .type "list", data := .seq #[] c0 })
    (hR : ∀ h' tk acc c as, (∀ b o, b ≠ S → b ≠ z → b ≠ TO → b ≠ i1 → b ≠ i2 → s.heap.get? b = some o → h'.get? b = some o) → h'.get? S = some { cls := .type "list", dict := none, data := .seq acc c, slots := #[] } → as.length = min xs.size ys.size → ZG xs ys (lo - 1) h' as →
      acc.toList = as.map Value.ref → R (.ok (.ret res)) { s with heap := h', toks := tk }) :
    wpAny (model prog w) A.in1 (Builtin.List.listExtendWith (.ref S) (.ref z) res)
      (fun fin s' => match fin with | .done f => R (.ok f) s' | .again c' => c'.quiet = true ∧ codeAny (model prog w) A c' R s') (fun e s' => R (.error e) s') s := by
  have hT : s.TypeIs (.ref z) "zip" := ⟨_, hz, rfl⟩
  unfold Builtin.List.listExtendWith
  refine wpAny_bind (wpAny_typeOf hT ?_)
  have h1 : Builtin.List.listSameRef (.ref S) (.ref z) = false := by simp [Builtin.List.listSameRef, O.z.symm]
  have h2 : (Value.type "zip" == Value.type "list") = false := by decide
  have h3 : (Value.type "zip" == Value.type "tuple") = false := by decide
  simp only [h1, h2, h3, Bool.or_false, Bool.false_eq_true, if_false]
  refine wpAny_bind (wpAny_pyIter_zip hz ?_)
  refine wpAny_bind (wpAny_holding ?_)
  unfold Builtin.List.listLengthHint
  refine wpAny_bind (wpAny_specialOf hT zl_no_len ?_)
  show wpAny _ A.in1 (specialOf (Value.ref z) (Str.ofString "__length_hint__") >>= _) _ _ _
  refine wpAny_bind (wpAny_specialOf hT zl_no_hint ?_)
  refine wpAny_pure ?_
  show wpAny _ A.in1 (rule "list.extend.makes-room" >>= fun _ => Builtin.List.listTouch (.ref S) >>= fun _ =>
    again (.builtin "list.extend.loop" ⟨[.ref S, .ref z, res], []⟩)) _ _ _
  refine wpAny_bind (wpAny_rule ?_)
  refine wpAny_bind ?_
  show wpAny _ A.in1 (updateSeq S (·.push .none) >>= fun _ => updateSeq S (·.pop)) _ _ _
  refine wpAny_bind (wpAny_updateSeq hS rfl ?_)
  have hS₂ := Heap.get?_update_self (Obj.mapSeq (·.push Value.none)) hS rfl
  refine wpAny_updateSeq (hz := by seq_fits) hS₂ rfl ?_
  have hS₃ := Heap.get?_update_self (Obj.mapSeq (·.pop)) hS₂ rfl
  have oth : ∀ b o, b ≠ S → s.heap.get? b = some o → ((s.heap.update S (Obj.mapSeq (·.push Value.none))).update S (Obj.mapSeq (·.pop))).get? b = some o :=
    fun b o hb e => (Heap.get?_update_other _ _ (Ne.symm hb)).trans ((Heap.get?_update_other _ _ (Ne.symm hb)).trans e)
  refine wpAny_pure ⟨plainId_quiet PySem.F.plain_extend_loop _, zl_loop (h1 := s.heap) hh D O lo hlo hn res hR (min xs.size ys.size) 0 _ s.toks _ #[] [] (by omega) (Nat.zero_le _) (hst.keep O oth) (fun b o h1 h2 h3 h4 h5 e => oth b o h1 e) hS₃ rfl rfl ⟨List.Pairwise.nil, (fun _ ha => nomatch ha), (fun j a hj => by simp at hj)⟩ ?_⟩
  have hz2 : ((s.heap.update S (Obj.mapSeq (·.push Value.none))).update S (Obj.mapSeq (·.pop))).objs.size = s.heap.objs.size := by
    first | rw [Heap.size_update, Heap.size_update] | simp
  rw [hz2]
  exact hs
theorem zl_call {Q : Value → Shared → Prop} (hh : A.handled = none) (D : ZipApart z TI TO i1 i2 l1 l2) (lt : z < s.heap.objs.size ∧ TI < s.heap.objs.size ∧ TO < s.heap.objs.size ∧ i1 < s.heap.objs.size ∧ i2 < s.heap.objs.size ∧ l1 < s.heap.objs.size ∧ l2 < s.heap.objs.size) (hn : min xs.size ys.size ≤ sizeLine)
    (hz : IsZip s.heap z TI TO .none) (hTI : IsPair s.heap TI (.ref i1) (.ref i2)) (hTO : ∃ a b, IsPair s.heap TO a b) (h1 : s.heap.IsListIter i1 l1 0) (h2 : s.heap.IsListIter i2 l2 0) (hl1 : s.heap.IsList l1 xs) (hl2 : s.heap.IsList l2 ys)
    (hQ : ∀ h' tk acc c as, (∀ b o, b ≠ z → b ≠ TO → b ≠ i1 → b ≠ i2 → s.heap.get? b = some o → h'.get? b = some o) → h'.get? s.heap.objs.size = some { cls := .type "list", dict := none, data := .seq acc c, slots := #[] } → as.length = min xs.size ys.size → ZG xs ys s.heap.objs.size h' as →
      acc.toList = as.map Value.ref → Q (.ref s.heap.objs.size) { s with heap := h', toks := tk }) :
    wpAny (model prog w) A (call (.type "list") [.ref z]) Q E s := by
  obtain ⟨g1, g2, g3, g4, g5, g6, g7⟩ := lt
  refine callType_codes (Q₁ := fun obj s₁ => obj = .ref s.heap.objs.size ∧ s₁ = { s with heap := s.heap.push { cls := .type "list", data := .seq #[] } }) PySem.F.called_list (PySem.F.typeCall_list_1 _) PySem.F.entry_list_init
    (code_list_new _ ⟨rfl, rfl⟩) fun obj s₁ h₁ => ?_
  obtain ⟨rfl, rfl⟩ := h₁
  have hS : (s.heap.push { cls := .type "list", data := .seq #[] }).get? s.heap.objs.size = some { cls := .type "list", data := .seq #[] } := Heap.get?_push_size _ rfl
  have kp : ∀ b o, s.heap.get? b = some o → (s.heap.push { cls := .type "list", data := .seq #[] }).get? b = some o := fun b o e => Heap.get?_push_of_some _ e
  have O : ZOff s.heap.objs.size z TI TO i1 i2 l1 l2 := ⟨ad_ne1 g1, ad_ne1 g2, ad_ne1 g3, ad_ne1 g4, ad_ne1 g5, ad_ne1 g6, ad_ne1 g7⟩
  refine ⟨⟨_, hS, rfl⟩, PySem.F.args_list_init_2 _ _, ?_⟩
  show wpAny _ A.in1.in1 (do let old ← Builtin.List.listItems (.ref s.heap.objs.size); Builtin.List.listUpdate (.ref s.heap.objs.size) (fun _ => #[]); letGo old.toList.reverse; Builtin.List.listExtendWith (.ref s.heap.objs.size) (.ref z) .none) _ _ _
  refine wpAny_bind ?_
  unfold Builtin.List.listItems
  refine wpAny_bind (wpAny_seqItems hS rfl (wpAny_pure ?_))
  show wpAny _ A.in1.in1 (updateSeq s.heap.objs.size (fun _ => #[]) >>= fun _ => letGo (#[] : Array Value).toList.reverse >>= fun _ => Builtin.List.listExtendWith (.ref s.heap.objs.size) (.ref z) .none) _ _ _
  refine wpAny_bind (wpAny_updateSeq hS rfl ?_)
  have hS₂ := Heap.get?_update_self (Obj.mapSeq (fun _ => (#[] : Array Value))) hS rfl
  have oth : ∀ b o, b ≠ s.heap.objs.size → s.heap.get? b = some o → ((s.heap.push { cls := .type "list", data := .seq #[] }).update s.heap.objs.size (Obj.mapSeq (fun _ => (#[] : Array Value)))).get? b = some o :=
    fun b o hb e => (Heap.get?_update_other _ _ (Ne.symm hb)).trans (kp b o e)
  refine wpAny_bind (wpAny_letGo ?_)
  obtain ⟨ta, tb, hTO⟩ := hTO
  refine zl_extend (A := A.in1) (xs := xs) (ys := ys) hh D O (s.heap.objs.size + 1) ⟨Nat.lt_succ_self _, ad_lt1 g1, ad_lt1 g3, ad_lt1 g4, ad_lt1 g5⟩ hn .none _ ?_ (oth _ _ O.z hz) ?_ hS₂ fun h' tk acc c as hk hS' hl hG hacc => ?_
  · exact ⟨oth _ _ O.TI hTI, h1.at fun o e => oth _ o O.i1 e, h2.at fun o e => oth _ o O.i2 e, hl1.at fun o e => oth _ o O.l1 e, hl2.at fun o e => oth _ o O.l2 e, .inl ⟨oth _ _ O.z hz, ta, tb, oth _ _ O.TO hTO⟩⟩
  · have hz2 : ((s.heap.push { cls := .type "list", data := .seq #[] }).update s.heap.objs.size (Obj.mapSeq (fun _ => (#[] : Array Value)))).objs.size = s.heap.objs.size + 1 := by
      first | rw [Heap.size_update, Heap.size_push] | simp
    exact Nat.le_of_eq hz2.symm
  · exact ⟨rfl, hQ h' tk acc c as (fun b o h2 h3 h4 h5 e => hk b o (Nat.ne_of_lt (Heap.lt_size e)) h2 h3 h4 h5 (oth b o (Nat.ne_of_lt (Heap.lt_size e)) e)) hS' hl hG hacc⟩
end

def putP : Hp → List Addr → List (V × V) → Hp
  | H, a :: as, p :: kvs => putP (upd H a (.tup [p.1, p.2])) as kvs
  | H, _, _ => H
theorem putP_off {b : Addr} : ∀ (as : List Addr) (kvs : List (V × V)) (H : Hp), b ∉ as → putP H as kvs b = H b
  | [], _, _, _ => rfl
  | _ :: _, [], _, _ => rfl
  | a :: as, p :: kvs, H, h => by
    show putP (upd H a (.tup [p.1, p.2])) as kvs b = H b
    rw [putP_off as kvs _ (fun z => h (List.mem_cons_of_mem _ z)), upd_ne (fun z => h (by rw [z]; exact List.mem_cons_self))]
theorem putP_at : ∀ (as : List Addr) (kvs : List (V × V)) (H : Hp), as.length = kvs.length → as.Nodup → Paired (fun (t : Addr) (p : V × V) => putP H as kvs t = some (.tup [p.1, p.2])) as kvs
  | [], [], _, _, _ => .nil
  | [], _ :: _, _, h, _ => by cases h
  | _ :: _, [], _, h, _ => by cases h
  | a :: as, p :: kvs, H, h, hn => by
    have hn' := List.nodup_cons.mp hn
    have ih := putP_at as kvs (upd H a (.tup [p.1, p.2])) (Nat.succ.inj h) hn'.2
    refine .cons ?_ ih
    show putP (upd H a (.tup [p.1, p.2])) as kvs a = some (.tup [p.1, p.2])
    rw [putP_off as kvs _ hn'.1, upd_same]
section
variable {X : Cx}
theorem zl_laid {pins : List (Addr × Obj)} {σ : L2.St} {H : Hp} {s : Shared} {h' : Heap} {tk : Nat} {kvs : List (V × V)} {xs ys : List Value} {acc : Array Value} {c : Nat} {as : List Addr} {S : Addr} (I : Inv X pins σ H s) (hS0 : s.heap.objs.size ≤ S) (hz : kvs.length ≤ sizeLine)
    (kv : ∀ (j : Nat) (p : V × V), kvs[j]? = some p → ∃ x y, xs[j]? = some x ∧ ys[j]? = some y ∧ RelV p.1 x ∧ RelV p.2 y)
    (hk : ∀ b o, s.heap.get? b = some o → h'.get? b = some o) (hS : h'.get? S = some { cls := .type "list", dict := none, data := .seq acc c, slots := #[] }) (hl : as.length = kvs.length) (hG : ZG xs.toArray ys.toArray S h' as) (hacc : acc.toList = as.map Value.ref) :
    ∃ H' : Hp, H' = putP (upd H S (.lst (as.map V.ref))) as kvs ∧ H S = none ∧ (∀ t ∈ as, H t = none) ∧ S ∉ as ∧ as.Nodup ∧ Inv X pins σ H' { s with heap := h', toks := tk } := by
  have hSn : S ∉ as := fun z => Nat.lt_irrefl _ (hG.above _ z)
  have nd : as.Nodup := List.Pairwise.imp (fun {a b} (h : a < b) => Nat.ne_of_lt h) hG.rise
  have new : ∀ t ∈ as, H t = none := fun t ht => I.hok.fresh (Nat.le_trans hS0 (Nat.le_of_lt (hG.above t ht)))
  have newS : H S = none := I.hok.fresh hS0
  have atP := putP_at as kvs (upd H S (.lst (as.map V.ref))) hl nd
  have off : ∀ b, b ∉ as → b ≠ S → putP (upd H S (.lst (as.map V.ref))) as kvs b = H b := fun b h1 h2 => by rw [putP_off as kvs _ h1, upd_ne h2]
  have low : ∀ b o, s.heap.get? b = some o → b ∉ as ∧ b ≠ S := fun b o e => ⟨fun z => absurd (Heap.lt_size e) (Nat.not_lt.mpr (Nat.le_trans hS0 (Nat.le_of_lt (hG.above b z)))), Nat.ne_of_lt (Nat.lt_of_lt_of_le (Heap.lt_size e) hS0)⟩
  have kp : ∀ b u, H b = some u → (putP (upd H S (.lst (as.map V.ref))) as kvs) b = some u := fun b u e => by
    rw [off b (fun z => by rw [new b z] at e; cases e) (fun z => by rw [z, newS] at e; cases e)]
    exact e
  have eS : putP (upd H S (.lst (as.map V.ref))) as kvs S = some (.lst (as.map V.ref)) := by rw [putP_off as kvs _ hSn, upd_same]
  refine ⟨_, rfl, newS, new, hSn, nd, ?_⟩
  refine I.call' (ch := []) rfl ⟨fun b o q _ _ _ => hk b o q, fun b o q _ _ _ => ⟨o.slots, hk b o q⟩, fun b o q n _ => ?_, fun b o q _ => ⟨o, hk b o q⟩, fun b xs q => kp b _ q, fun b o u q => kp b _ q, fun b ps q => ⟨#[], by rw [kp b _ q]; simp⟩⟩ (fun b u q => ?_) I.bare fun b z => by simp at z
  · obtain ⟨z1, z2⟩ := low b o q
    rw [off b z1 z2]
    exact n
  · by_cases hb : b ∈ as
    · obtain ⟨j, pk, e1, e2, e3⟩ := LiI.paired_ix atP hb
      rw [e3] at q
      cases q
      obtain ⟨x, y, f1, f2, f3⟩ := hG.pairs j b e1
      obtain ⟨x', y', g1, g2, g3, g4⟩ := kv j pk e2
      rw [List.getElem?_toArray, g1] at f1
      cases f1
      rw [List.getElem?_toArray, g2] at f2
      cases f2
      exact ⟨by show 2 ≤ sizeLine; decide, [_, _], .cons g3 (.cons g4 .nil), ⟨_, f3, rfl, _, rfl⟩⟩
    · by_cases hb2 : b = S
      · rw [hb2] at q ⊢
        rw [eS] at q
        cases q
        refine ⟨by rw [List.length_map]; omega, acc.toList, c, by rw [hacc]; exact LiI.vals_refs as, ?_⟩
        rw [Array.toArray_toList]
        exact hS
      · rw [off b hb hb2] at q
        exact (I.hok b u q).stay (fun d v _ y => hk d v y) (fun d y => kp d _ y) fun d xs y => kp d _ y
def rLZip (K : PySem.W.Frag) : List V → Hp → VK → Prop := fun vs H Q => ∃ a b xs ys, vs = [.ref a, .ref b] ∧ H a = some (.lst xs) ∧ H b = some (.lst ys) ∧ xs.length ≤ 1000 ∧
  ∀ (S : Addr) (as : List Addr), H S = none → (∀ t ∈ as, H t = none) → S ∉ as → as.Nodup → as.length = (xs.zip ys).length → Q (.ref S) (putP (upd H S (.lst (as.map V.ref))) as (xs.zip ys))
theorem pe_lzip {e e2 : Expr} {ta : TA} {p p2 pos pos2 : Pos} (hc : X.calm = true) (hg : Gl X "list") (hm : X.mg "list" = none) (hg2 : Gl X "zip") (hm2 : X.mg "zip" = none) (ha : PA X [e, e2] ta)
    (hs : starEach [e, e2] X.env = (false, eval e X.env) :: starEach [e2] X.env) (hpl : (backTo pos2 (starEach [e2] X.env)).any (·.1) = false) :
    PE X (.Call (.Name "list" p) [.Call (.Name "zip" p2) [e, e2] [] pos2] [] pos) (fun σ H Q => ta σ H fun vs H1 => rLZip X.K vs H1 Q) := by
  refine ⟨fun pins s σ H Q I hq => ?_⟩
  have hs0 : starEach [.Call (.Name "zip" p2) [e, e2] [] pos2] X.env = (false, eval (.Call (.Name "zip" p2) [e, e2] [] pos2) X.env) :: starEach [] X.env := by rfl
  refine wpAny_Call_Name_kw (ld_blt I hg hm (show bootBuiltins "list" = some (.type "list") by decide +kernel) ?_)
  refine PyProof.Rows.callWith_type1 ?_ hs0 rfl
  rw [hs0]
  show wpAny _ _ (spliced ((false, eval (.Call (.Name "zip" p2) [e, e2] [] pos2) X.env) :: backTo pos (starEach [] X.env))) _ _ s
  refine Calls.spliced_cons ?_
  refine wpAny_Call_Name_kw (ld_blt I hg2 hm2 PyProof.Rows.boot_zip (PyProof.Rows.callWith_type1 (thn (ha.run pos2 pins s σ H _ I hq) fun us s1 ⟨vs, H1, I1, r1, q1⟩ => ?_) hs hpl))
  obtain ⟨a, b, xs, ys, ex, hqx, hqy, hlen, q⟩ := q1
  subst ex
  cases r1 with
  | cons r rr =>
    cases rr with
    | cons r' rr =>
      cases rr
      cases r
      cases r'
      obtain ⟨its, rv, p1, _⟩ := I1.list (.inl (.inl hqx))
      obtain ⟨its2, rv2, p2, _⟩ := I1.list (.inl (.inl hqy))
      have la : a < s1.heap.objs.size := p1.lt
      have lb : b < s1.heap.objs.size := p2.lt
      refine call_zip_2 p1.isList p2.isList fun h' hz hTI hTO h1 h2 hsz hk => ?_
      refine Calls.spliced_nil ?_
      have l1 := rv.length
      have l2 := rv2.length
      have kl : ∀ {n : Nat}, n < s1.heap.objs.size → n < h'.objs.size := fun h => by rw [hsz]; exact Nat.lt_of_lt_of_le h (Nat.le_add_right _ _)
      refine zl_call (s := { s1 with heap := h' }) (xs := its.toArray) (ys := its2.toArray) (I1.ok.hd hc) (PySem.W.ktu_apart s1.heap.objs.size a b la lb) ⟨?_, ?_, ?_, ?_, ?_, kl la, kl lb⟩ ?_ hz hTI ⟨_, _, hTO⟩ h1 h2 (p1.isList.at fun o e => hk _ o e) (p2.isList.at fun o e => hk _ o e) fun h2' tk acc c as hk2 hS hl hG hacc => ?_
      · show _ < h'.objs.size; rw [hsz]; exact Nat.add_lt_add_left (by decide) _
      · show _ < h'.objs.size; rw [hsz]; exact Nat.add_lt_add_left (by decide) _
      · show _ < h'.objs.size; rw [hsz]; exact Nat.add_lt_add_left (by decide) _
      · show _ < h'.objs.size; rw [hsz]; exact Nat.lt_add_of_pos_right (by decide)
      · show _ < h'.objs.size; rw [hsz]; exact Nat.add_lt_add_left (by decide) _
      · simp only [List.size_toArray]
        have : 1000 ≤ sizeLine := by rw [sizeLine_eq]; decide
        omega
      · have lt5 : ∀ {b : Nat} {o : Obj}, s1.heap.get? b = some o → b < s1.heap.objs.size := fun e => Heap.lt_size e
        have hz3 : (xs.zip ys).length = min its.toArray.size its2.toArray.size := by rw [List.length_zip, List.size_toArray, List.size_toArray, l1, l2]
        obtain ⟨H', rfl, n1, n2, n3, n4, J⟩ := zl_laid (tk := tk) (S := h'.objs.size) (kvs := xs.zip ys) (xs := its) (ys := its2) I1 (by rw [hsz]; exact Nat.le_add_right _ _) (by
            have : 1000 ≤ sizeLine := by rw [sizeLine_eq]; decide
            rw [List.length_zip]
            omega) (fun j pk hj => by
              rw [List.getElem?_zip_eq_some] at hj
              obtain ⟨x, e1, e2⟩ := rv.get hj.1
              obtain ⟨y, e3, e4⟩ := rv2.get hj.2
              exact ⟨x, y, e1, e3, e2, e4⟩) (fun b o e => hk2 b o (Nat.ne_of_lt (Nat.lt_of_lt_of_le (lt5 e) (Nat.le_add_right _ _))) (Nat.ne_of_lt (Nat.lt_of_lt_of_le (lt5 e) (Nat.le_add_right _ _))) (Nat.ne_of_lt (lt5 e)) (Nat.ne_of_lt (Nat.lt_of_lt_of_le (lt5 e) (Nat.le_add_right _ _))) (hk b o e)) hS (hl.trans hz3.symm) hG hacc
        exact ⟨.ref _, _, J, rfl, q _ as n1 n2 n3 n4 (hl.trans hz3.symm)⟩
end
section
variable {K : PySem.W.Frag} {E : XK}
theorem Gr.putP {pa : Pa} {P : Po} : ∀ (as : List Addr) (kvs : List (V × V)) (F H : Hp), Same F H → PoolOk F H pa P → (∀ t ∈ as, H t = none) → as.Nodup → Gr pa F H (DL.putP F as kvs) (DL.putP H as kvs) ∧ PoolOk (DL.putP F as kvs) (DL.putP H as kvs) pa P
  | [], _, F, H, fh, po, _, _ => ⟨Gr.refl fh, po⟩
  | _ :: _, [], F, H, fh, po, _, _ => ⟨Gr.refl fh, po⟩
  | a :: as, p :: kvs, F, H, fh, po, hn, nd => by
    have nd' := List.nodup_cons.mp nd
    obtain ⟨g, q⟩ := Gr.new (o := .tup [p.1, p.2]) fh po (hn a List.mem_cons_self)
    have h2 : ∀ t ∈ as, upd H a (.tup [p.1, p.2]) t = none := fun t ht => by
      rw [upd_ne (fun e => nd'.1 (by rw [← e]; exact ht))]
      exact hn t (List.mem_cons_of_mem _ ht)
    obtain ⟨g2, q2⟩ := Gr.putP as kvs (upd F a (.tup [p.1, p.2])) (upd H a (.tup [p.1, p.2])) g.fh q h2 nd'.2
    exact ⟨g.trans q g2, q2⟩
theorem zp_dts {pa : Pa} {F : Hp} : ∀ {as : List Addr} {vs ws : List V} {xs ys : List Da}, Paired (fun (t : Addr) (p : V × V) => F t = some (.tup [p.1, p.2])) as (vs.zip ws) → Dts K F pa vs xs → Dts K F pa ws ys → Dts K F pa (as.map V.ref) (zpL xs ys)
  | as, _, _, _, _, h, .nil, _ => by
    have e : as = [] := by
      have := Paired.length h
      simpa using this
    subst e
    exact .nil
  | as, _ :: _, _, _ :: _, _, h, .cons _ _, .nil => by
    have e : as = [] := by
      have := Paired.length h
      simpa using this
    subst e
    exact .nil
  | as, v :: vs, w :: ws, x :: xs, y :: ys, h, .cons hv tv, .cons hw tw => by
    cases h with
    | cons e t => exact .cons (.tup (.inl (.inl e)) (.cons hv (.cons hw .nil))) (zp_dts t tv tw)
theorem tr_lzip {f : Fs} {ga : Ev → Out (List Da)} (σ : L2.St) (H : Hp) (Q : VK) (h : up K E (fun S => (ga S).bind fun ds P => xoQ .lzip f ds P) σ H Q) : upA K E ga σ H (fun vs H1 => rLZip K vs H1 Q) := by
  obtain ⟨pa, F, S, R, h⟩ := h
  refine ⟨pa, F, S, R, (PostA.bind h).mono fun vs H1 ⟨ds, P1, F1, _, g, po, t, post⟩ => ?_⟩
  match ds, t, post with
  | [.lst xs, .lst ys], .cons t1 (.cons t2 .nil), post =>
    have hc : xs.length ≤ 1000 := by
      by_cases c : xs.length ≤ 1000
      · exact c
      · exfalso
        simp only [xoQ, if_neg c] at post
        exact post
    have post' : Post K E pa F1 H1 (.ok (.lst (zpL xs ys)) P1) Q := by simpa only [xoQ, if_pos hc] using post
    obtain ⟨a, us, rfl, ea, ta⟩ := Dt.lst_inv (Dx.dt t1 rfl)
    obtain ⟨b, ws, rfl, eb, tb⟩ := Dt.lst_inv (Dx.dt t2 rfl)
    refine ⟨a, b, us, ws, rfl, g.fh _ _ ea, g.fh _ _ eb, by rw [ta.length]; exact hc, fun S0 as n1 n2 n3 n4 n5 => ?_⟩
    obtain ⟨g1, q1⟩ := Gr.new (o := .lst (as.map V.ref)) g.fh po n1
    have n2' : ∀ t ∈ as, upd H1 S0 (.lst (as.map V.ref)) t = none := fun t ht => by
      rw [upd_ne (fun e => n3 (by rw [← e]; exact ht))]
      exact n2 t ht
    obtain ⟨g2, q2⟩ := Gr.putP as (us.zip ws) _ _ g1.fh q1 n2' n4
    refine post' _ _ _ (g1.trans q1 g2) q2 (Dx.of (.lst (xs := as.map V.ref) ?_ ?_))
    · rw [putP_off _ _ _ n3, upd_same]
    · have sm : Same F1 (DL.putP (upd F1 S0 (.lst (as.map V.ref))) as (us.zip ws)) := (g1.trans q1 g2).ff
      exact zp_dts (putP_at as (us.zip ws) _ n5 n4) (ta.mono sm) (tb.mono sm)
  | [], t, post => exact post.elim
  | [_], t, post => exact absurd post (by simp [xoQ, Post])
  | _ :: _ :: _ :: _, t, post => exact absurd post (by simp [xoQ, Post])
end

def SndE (c : CE) : Prop := ∀ {X : Cx} {E : XK} {sc : Scope} {N : List Str} {k : Nat} (_ : CxOk X E sc N k) (e : Expr), chkE sc N c e = true → okE X.prog X.w X.K X.mg X.base k c → Snd X E e (evE c)
def SndA (as : CEs) : Prop := ∀ {X : Cx} {E : XK} {sc : Scope} {N : List Str} {k : Nat} (_ : CxOk X E sc N k) (es : List Expr), okA X.prog X.w X.K X.mg X.base k as →
  (chkA sc N as es = true → PA X es (upA X.K E (evA as))) ∧ (chkP sc N as es = true → JS X E es (evP as)) ∧ (chkA sc N as es = true → PEs X E as es)
def SndO (o : CEo) : Prop := ∀ {X : Cx} {E : XK} {sc : Scope} {N : List Str} {k : Nat} (_ : CxOk X E sc N k), okO X.prog X.w X.K X.mg X.base k o →
  (∀ e, chkO sc N o e = true → PO X e (upO X.K E (evO o))) ∧ (∀ ifs, chkC sc N o ifs = true → PTs X ifs (upT X.K E (evC o)))
def SndI (i : CI) : Prop := ∀ {X : Cx} {E : XK} {sc : Scope} {N : List Str} {k : Nat} (_ : CxOk X E sc N k) (tgx e : Expr), (i.tup = true → isTup tgx = true) → chkI sc N i e = true → okI X.prog X.w X.K X.mg X.base k i → PI X tgx e (upI X.K E (evI i))
section
variable {X : Cx} {E : XK}
theorem Snd.plain {e : Expr} {f : Ev → Out Da} (h : PE X e (up X.K E f)) (hp : plainT e = true) : Snd X E e f where
  pe := h
  pt := fun _ => g_tplain hp h
  pw := fun hb => by cases e <;> first | (exfalso; simp [isBO] at hb; done) | (exfalso; simp [plainT] at hp; done)
theorem nm_eq {x y : Str} (h : nmEq x y = true) : x = y := of_decide_eq_true h
theorem ok_dbg {x : Str} (h : okNm x = true) : (x == ("__debug__" : Str)) = false := by
  simp only [okNm, Bool.and_eq_true, Bool.not_eq_true'] at h
  exact h.1.1
end
theorem snd_var (i : Nat) : SndE (.var i) := by
  intro X E sc N k C e h o
  cases e with
  | Name x p =>
    simp only [chkE, Bool.and_eq_true] at h
    have h1 : N[i]? = some x := of_decide_eq_true h.1.1
    rw [← C.hN] at h1
    exact .plain (g_var h1 (C.vis x h.1.2) h.2) rfl
  | _ => exact absurd h (by simp [chkE])
theorem snd_glb (x : Str) (d : Da) : SndE (.glb x d) := by
  intro X E sc N k C e h o
  cases e with
  | Name y p =>
    simp only [chkE, Bool.and_eq_true] at h
    have h1 := nm_eq h.1.1
    subst h1
    exact .plain (g_glb (C.glo _ h.1.2) h.2 (by simpa [okE] using o)) rfl
  | _ => exact absurd h (by simp [chkE])
theorem snd_con (d : Da) : SndE (.con d) := by
  intro X E sc N k C e h o
  cases e with
  | Constant c kk p => exact .plain (g_con (by simpa [chkE] using h)) rfl
  | _ => exact absurd h (by simp [chkE])
theorem snd_b2 (op : B2) (a b : CE) (ha : SndE a) (hb : SndE b) : SndE (.b2 op a b) := by
  intro X E sc N k C e h o
  simp only [okE] at o
  cases e with
  | BinOp l bop r p =>
    simp only [chkE, Bool.and_eq_true] at h
    exact .plain (g_bin C.units h.1.1 (ha C l h.1.2 o.1).pe (hb C r h.2 o.2).pe) rfl
  | Compare l ops rs p =>
    rcases ops with _ | ⟨cop, _ | ⟨cop2, ops⟩⟩ <;> rcases rs with _ | ⟨r, _ | ⟨r2, rs⟩⟩ <;> first | (exfalso; simp [chkE] at h; done) | skip
    simp only [chkE, Bool.and_eq_true] at h
    have h1 := (ha C l h.1.1.2 o.1).pe
    have h2 := (hb C r h.1.2 o.2).pe
    exact ⟨g_cmp C.units h.1.1.1 h.2 h1 h2, fun _ => g_tcmp C.units h.1.1.1 h.2 h1 h2, fun z => by cases z⟩
  | _ => exact absurd h (by simp [chkE])
theorem snd_chn (op op' : B2) (a b c : CE) (ha : SndE a) (hb : SndE b) (hc : SndE c) : SndE (.chn op op' a b c) := by
  intro X E sc N k C e h o
  simp only [okE] at o
  cases e with
  | Compare l ops rs p =>
    rcases ops with _ | ⟨cop, _ | ⟨cop2, _ | ⟨cop3, ops⟩⟩⟩ <;> rcases rs with _ | ⟨r, _ | ⟨r2, _ | ⟨r3, rs⟩⟩⟩ <;> first | (exfalso; simp [chkE] at h; done) | skip
    simp only [chkE, Bool.and_eq_true] at h
    have h1 := (ha C l h.1.1.1.2 o.1).pe
    have h2 := (hb C r h.1.1.2 o.2.1).pe
    have h3 := (hc C r2 h.1.2 o.2.2).pe
    exact ⟨g_chn C.units h.1.1.1.1.1 h.1.1.1.1.2 h.2 h1 h2 h3, fun _ => g_tchn C.units h.1.1.1.1.1 h.1.1.1.1.2 h.2 h1 h2 h3, fun z => by cases z⟩
  | _ => exact absurd h (by simp [chkE])
theorem snd_neg (a : CE) (ha : SndE a) : SndE (.neg a) := by
  intro X E sc N k C e h o
  simp only [okE] at o
  cases e with
  | UnaryOp op l p =>
    cases op <;> first | (exfalso; simp [chkE] at h; done) | skip
    simp only [chkE] at h
    exact .plain (g_neg (ha C l h o).pe) rfl
  | _ => exact absurd h (by simp [chkE])
theorem snd_notv (a : CE) (ha : SndE a) : SndE (.notv a) := by
  intro X E sc N k C e h o
  simp only [okE] at o
  cases e with
  | UnaryOp op l p =>
    cases op <;> first | (exfalso; simp [chkE] at h; done) | skip
    simp only [chkE, Bool.and_eq_true] at h
    have h1 := ha C l h.2 o
    exact ⟨g_not h1.pe, fun _ => g_tnot (h1.pt h.1), fun z => by cases z⟩
  | _ => exact absurd h (by simp [chkE])
section
variable {X : Cx} {E : XK}
theorem bo_pe {op : BoolOp} {y : Expr} {r : List Expr} {pos : Pos} {f : Ev → Out Da} (h : PE X (bo op y r pos) (up X.K E f)) : PE X (.BoolOp op (y :: r) pos) (up X.K E f) := by
  cases r with
  | nil => exact pe_one h
  | cons z r => exact h
theorem bo_pwA {y : Expr} {r : List Expr} {pos : Pos} {f : Ev → Out Da} (h : Snd X E (bo .And y r pos) f) (ht : tst (bo .And y r pos) = true) : PW X (.BoolOp .And (y :: r) pos) (upT X.K E fun S => trus (f S)) := by
  cases r with
  | nil => exact pw_and1 (h.pt ht)
  | cons z r => exact h.pw rfl
theorem bo_pwO {y : Expr} {r : List Expr} {pos : Pos} {f : Ev → Out Da} (h : Snd X E (bo .Or y r pos) f) (ht : tst (bo .Or y r pos) = true) : PW X (.BoolOp .Or (y :: r) pos) (upT X.K E fun S => trus (f S)) := by
  cases r with
  | nil => exact pw_or1 (h.pt ht)
  | cons z r => exact h.pw rfl
end
theorem snd_andv (a b : CE) (ha : SndE a) (hb : SndE b) : SndE (.andv a b) := by
  intro X E sc N k C e h o
  simp only [okE] at o
  cases e with
  | BoolOp op vs p =>
    cases op <;> rcases vs with _ | ⟨x, _ | ⟨y, r⟩⟩ <;> first | (exfalso; simp [chkE] at h; done) | skip
    simp only [chkE, Bool.and_eq_true] at h
    have h1 := ha C x h.1.2 o.1
    have h2 := hb C _ h.2 o.2
    have w : PW X (.BoolOp .And (x :: y :: r) p) (upT X.K E fun S => trus (andF (evE a) (evE b) S)) := g_tand (h1.pt h.1.1.1) (bo_pwA h2 h.1.1.2)
    exact ⟨g_and h1.pe (bo_pe h2.pe), fun _ => w.pt, fun _ => w⟩
  | _ => exact absurd h (by simp [chkE])
theorem snd_orv (a b : CE) (ha : SndE a) (hb : SndE b) : SndE (.orv a b) := by
  intro X E sc N k C e h o
  simp only [okE] at o
  cases e with
  | BoolOp op vs p =>
    cases op <;> rcases vs with _ | ⟨x, _ | ⟨y, r⟩⟩ <;> first | (exfalso; simp [chkE] at h; done) | skip
    simp only [chkE, Bool.and_eq_true] at h
    have h1 := ha C x h.1.2 o.1
    have h2 := hb C _ h.2 o.2
    have w : PW X (.BoolOp .Or (x :: y :: r) p) (upT X.K E fun S => trus (orF (evE a) (evE b) S)) := g_tor (h1.pt h.1.1.1) (bo_pwO h2 h.1.1.2)
    exact ⟨g_or h1.pe (bo_pe h2.pe), fun _ => w.pt, fun _ => w⟩
  | _ => exact absurd h (by simp [chkE])
theorem snd_ite (t a b : CE) (ht : SndE t) (ha : SndE a) (hb : SndE b) : SndE (.ite t a b) := by
  intro X E sc N k C e h o
  simp only [okE] at o
  cases e with
  | IfExp t' a' b' p =>
    simp only [chkE, Bool.and_eq_true] at h
    exact ⟨g_ite ((ht C t' h.1.1.2 o.1).pt h.1.1.1) (ha C a' h.1.2 o.2.1).pe (hb C b' h.2 o.2.2).pe, fun z => (by cases z), fun z => (by cases z)⟩
  | _ => exact absurd h (by simp [chkE])
theorem snd_call (x : Str) (f : Fs) (as : CEs) (has : SndA as) : SndE (.call x f as) := by
  intro X E sc N k C e h o
  simp only [okE] at o
  cases e with
  | Call fn es ks p =>
    cases fn <;> rcases ks with _ | ⟨k0, ks⟩ <;> first | (exfalso; simp [chkE] at h; done) | skip
    simp only [chkE, Bool.and_eq_true] at h
    have e1 := nm_eq h.1.1.1.1
    subst e1
    have hA := (has C es o.2).1 h.2
    refine .plain (g_call o.1 (C.rm.mono (Nat.le_succ _)) C.gd (C.glo _ h.1.1.1.2) (ok_dbg h.1.1.2) C.tk hA (fun S e0 => ?_) (fun e r e0 => ?_) (fun e r e0 => ?_)) rfl
    · subst e0
      cases as with
      | nil => rfl
      | _ => exact absurd h.2 (by simp [chkA])
    · subst e0
      cases as with
      | cons a r' => have := h.2; simp only [chkA, Bool.and_eq_true] at this; exact this.1.1
      | nil => exact absurd h.2 (by simp [chkA])
      | star a r' => have := h.1.2; simp [CEs.plain] at this
    · subst e0
      cases as with
      | cons a r' => have := h.2; simp only [chkA, Bool.and_eq_true] at this; exact plain_back (as := r') (by simpa [CEs.plain] using h.1.2) this.2
      | nil => exact absurd h.2 (by simp [chkA])
      | star a r' => have := h.1.2; simp [CEs.plain] at this
  | _ => exact absurd h (by simp [chkE])
theorem snd_b1 (op : B1) (a : CE) (ha : SndE a) : SndE (.b1 op a) := by
  intro X E sc N k C e h o
  simp only [okE] at o
  cases e with
  | Call fn es ks p =>
    cases fn <;> rcases es with _ | ⟨e0, _ | ⟨e1, es⟩⟩ <;> rcases ks with _ | ⟨k0, ks⟩ <;> first | (exfalso; simp [chkE] at h; done) | skip
    simp only [chkE, Bool.and_eq_true] at h
    have e1 := nm_eq h.1.1.1
    subst e1
    exact .plain (g_b1 C.calm C.gd C.units (C.glo _ h.1.1.2) o.1.nm o.1.sb h.1.2 (ha C e0 h.2 o.2).pe) rfl
  | _ => exact absurd h (by simp [chkE])
theorem snd_bi (op : Bi) (a b : CE) (ha : SndE a) (hb : SndE b) : SndE (.bi op a b) := by
  intro X E sc N k C e h o
  simp only [okE] at o
  cases e with
  | Call fn es ks p =>
    cases fn <;> rcases es with _ | ⟨e0, _ | ⟨e1, _ | ⟨e2, es⟩⟩⟩ <;> rcases ks with _ | ⟨k0, ks⟩ <;> first | (exfalso; simp [chkE] at h; done) | skip
    simp only [chkE, Bool.and_eq_true] at h
    have e3 := nm_eq h.1.1.1.1.1
    subst e3
    exact .plain (g_bi C.calm (C.glo _ h.1.1.1.1.2) o.1 h.1.1.1.2 h.1.1.2 (ha C e0 h.1.2 o.2.1).pe (hb C e1 h.2 o.2.2).pe) rfl
  | _ => exact absurd h (by simp [chkE])
theorem snd_isi (a : CE) (T : Ty) (ha : SndE a) : SndE (.isi a T) := by
  intro X E sc N k C e h o
  simp only [okE] at o
  cases e with
  | Call fn es ks p =>
    cases fn <;> rcases es with _ | ⟨e0, _ | ⟨e1, _ | ⟨e2, es⟩⟩⟩ <;> rcases ks with _ | ⟨k0, ks⟩ <;> first | (exfalso; simp [chkE] at h; done) | skip
    cases e1 <;> first | (exfalso; simp [chkE] at h; done) | skip
    simp only [chkE, Bool.and_eq_true] at h
    have e3 := nm_eq h.1.1.1.1.1.1
    subst e3
    have e4 := nm_eq h.1.1.2
    subst e4
    exact .plain (g_isi o.2.1 (C.glo _ h.1.1.1.1.1.2) o.1 (C.glo _ h.1.2) o.2.2.1 h.2 h.1.1.1.1.2 (ha C e0 h.1.1.1.2 o.2.2.2).pe) rfl
  | _ => exact absurd h (by simp [chkE])
theorem snd_mt (op : Mo) (a b : CE) (ha : SndE a) (hb : SndE b) : SndE (.mt op a b) := by
  intro X E sc N k C e h o
  simp only [okE] at o
  cases e with
  | Call fn es ks p =>
    cases fn <;> rcases es with _ | ⟨e0, _ | ⟨e1, es⟩⟩ <;> rcases ks with _ | ⟨k0, ks⟩ <;> first | (exfalso; simp [chkE] at h; done) | skip
    rename_i e2 m apos
    simp only [chkE, Bool.and_eq_true] at h
    have e3 := nm_eq h.1.1.1.1.1
    subst e3
    exact .plain (g_mt h.1.1.1.1.2 h.1.1.1.2 h.1.1.2 (ha C e2 h.1.2 o.1).pe (hb C e0 h.2 o.2).pe) rfl
  | _ => exact absurd h (by simp [chkE])
theorem snd_ix (a b : CE) (ha : SndE a) (hb : SndE b) : SndE (.ix a b) := by
  intro X E sc N k C e h o
  simp only [okE] at o
  cases e with
  | Subscript l i p =>
    simp only [chkE, Bool.and_eq_true] at h
    exact .plain (g_ix h.1.1 (ha C l h.1.2 o.1).pe (hb C i h.2 o.2).pe) rfl
  | _ => exact absurd h (by simp [chkE])
theorem snd_sl (a : CE) (lo hi : CEo) (ha : SndE a) (hl : SndO lo) (hh : SndO hi) : SndE (.sl a lo hi) := by
  intro X E sc N k C e h o
  simp only [okE] at o
  cases e with
  | Subscript l i p =>
    cases i <;> first | (exfalso; simp [chkE] at h; done) | skip
    rename_i l1 h1 s1 p1
    cases s1 <;> first | (exfalso; simp [chkE] at h; done) | skip
    simp only [chkE, Bool.and_eq_true] at h
    exact .plain (g_sl (ha C l h.1.1 o.1).pe ((hl C o.2.1).1 l1 h.1.2) ((hh C o.2.2).1 h1 h.2)) rfl
  | _ => exact absurd h (by simp [chkE])
theorem snd_rev (a : CE) (ha : SndE a) : SndE (.rev a) := by
  intro X E sc N k C e h o
  simp only [okE] at o
  unfold chkE at h
  split at h <;> first | (rename_i heq; cases heq; done) | skip
  all_goals first | (rename_i heq; cases heq; exact .plain (g_rev (ha C _ h o).pe) rfl) | (exact absurd h (by simp)) | skip
theorem snd_lst (as : CEs) (ha : SndA as) : SndE (.lst as) := by
  intro X E sc N k C e h o
  simp only [okE] at o
  cases e with
  | List es p => exact .plain (g_lst ((ha C es o).1 (by simpa [chkE] using h))) rfl
  | _ => exact absurd h (by simp [chkE])
theorem snd_tup (as : CEs) (ha : SndA as) : SndE (.tup as) := by
  intro X E sc N k C e h o
  simp only [okE] at o
  cases e with
  | Tuple es kk p => exact .plain (g_tup ((ha C es o).1 (by simpa [chkE] using h))) rfl
  | _ => exact absurd h (by simp [chkE])
theorem snd_fld (a : CE) (D f : Str) (ha : SndE a) : SndE (.fld a D f) := by
  intro X E sc N k C e h o
  simp only [okE] at o
  cases e with
  | Attribute l g p =>
    simp only [chkE, Bool.and_eq_true] at h
    have e3 := nm_eq h.1.1
    subst e3
    exact .plain (g_fld o.1 o.2.1 h.1.2 (ha C l h.2 o.2.2).pe) rfl
  | _ => exact absurd h (by simp [chkE])
theorem snd_lc (vs tg : List Nat) (it : CI) (t : CEo) (c : CE) (hi : SndI it) (ht : SndO t) (hc : SndE c) : SndE (.lc vs tg it t c) := by
  intro X E sc N k C e h o
  simp only [okE] at o
  cases e with
  | ListComp elt gs scope p =>
    rcases gs with _ | ⟨⟨tgx, iter, ifs, asy⟩, _ | ⟨g2, gs⟩⟩ <;> first | (exfalso; simp [chkE] at h; done) | skip
    simp only [chkE, Bool.and_eq_true] at h
    obtain ⟨⟨⟨⟨⟨⟨⟨⟨h1, h2⟩, h3⟩, h4⟩, h50, h51⟩, h6⟩, h7⟩, h8⟩, h9⟩ := h
    have e1 : asy = 0 := of_decide_eq_true h1
    subst e1
    have htup : it.tup = true → isTup tgx = true := fun e => by
      rw [e] at h3
      simpa using h3
    refine .plain (g_lc C h50 h51 h6 (of_decide_eq_true h7) h2 (hi C tgx iter htup h4 o.1) (fun s H A cl fp => ?_) (fun s H A cl fp => ?_)) rfl
    · exact (ht (C.blkI (scope := scope) s H A cl fp h50) o.2.1).2 ifs h8
    · exact (hc (C.blkI (scope := scope) s H A cl fp h50) elt h9 o.2.2).pe
  | _ => exact absurd h (by simp [chkE])
theorem snd_fst (ps : CEs) (hp : SndA ps) : SndE (.fst ps) := by
  intro X E sc N k C e h o
  simp only [okE] at o
  cases e with
  | JoinedStr es p =>
    rcases ps with _ | ⟨a, _ | ⟨b, r⟩ | ⟨b, r⟩⟩ | ⟨a, r⟩ <;> rcases es with _ | ⟨x, _ | ⟨y, es⟩⟩ <;> first | (exfalso; simp [chkE] at h; done) | skip
    have h2 : chkP sc N (.cons a (.cons b r)) (x :: y :: es) = true := by simpa [chkE] using h
    exact .plain (g_fst ((hp C (x :: y :: es) o).2.1 h2)) rfl
  | _ => exact absurd h (by simp [chkE])
theorem snd_lc2 (vs tg : List Nat) (it : CI) (vs1 tg1 : List Nat) (it1 : CI) (t : CEo) (c : CE) (hi : SndI it) (hi1 : SndI it1) (ht : SndO t) (hc : SndE c) : SndE (.lc2 vs tg it vs1 tg1 it1 t c) := by
  intro X E sc N k C e h o
  simp only [okE] at o
  cases e with
  | ListComp elt gs scope p =>
    rcases gs with _ | ⟨⟨tgx, iter, ifs, asy⟩, _ | ⟨⟨tgx1, iter1, ifs1, asy1⟩, _ | ⟨g3, gs⟩⟩⟩ <;> first | (exfalso; simp [chkE] at h; done) | skip
    simp only [chkE, Bool.and_eq_true] at h
    obtain ⟨⟨⟨⟨⟨⟨⟨⟨⟨⟨⟨⟨⟨⟨⟨⟨h1, h2⟩, h3⟩, h4⟩, h5⟩, h6⟩, h7⟩, h80, h81⟩, h9⟩, h10⟩, h11⟩, h12⟩, h13⟩, h14⟩, h15⟩, h16⟩, h17⟩ := h
    have e1 : asy = 0 := of_decide_eq_true h1
    have e2 : asy1 = 0 := of_decide_eq_true h2
    have e3 : ifs = [] := by cases ifs with | nil => rfl | cons _ _ => cases h11
    subst e1 e2 e3
    have htup : it.tup = true → isTup tgx = true := fun e => by
      rw [e] at h5
      simpa using h5
    have htup1 : it1.tup = true → isTup tgx1 = true := fun e => by
      rw [e] at h6
      simpa using h6
    refine .plain (g_lc2 C h80 h81 h9 (of_decide_eq_true h10) h3 h13 (of_decide_eq_true h14) (of_decide_eq_true h15) h4 (hi C tgx iter htup h7 o.1) (fun s H A cl fp => ?_) (fun s H A cl fp => ?_) (fun s H A cl fp => ?_)) rfl
    · exact hi1 (C.blk (scope := scope) s H A cl fp h80) tgx1 iter1 htup1 h12 o.2.1
    · exact (ht (C.blk (scope := scope) s H A cl fp h80) o.2.2.1).2 ifs1 h16
    · exact (hc (C.blk (scope := scope) s H A cl fp h80) elt h17 o.2.2.2).pe
  | _ => exact absurd h (by simp [chkE])
theorem snd_nil : SndA .nil := by
  intro X E sc N k C es o
  refine ⟨fun h => ?_, fun h => ?_, fun h => ?_⟩
  · cases es with
    | nil => exact g_nil
    | cons _ _ => exact absurd h (by simp [chkA])
  · cases es with
    | nil => exact js_nil
    | cons _ _ => exact absurd h (by simp [chkP])
  · simp [PEs]
theorem snd_cons (a : CE) (r : CEs) (ha : SndE a) (hr : SndA r) : SndA (.cons a r) := by
  intro X E sc N k C es o
  simp only [okA] at o
  refine ⟨fun h => ?_, fun h => ?_, fun h => ?_⟩
  · cases es with
    | nil => exact absurd h (by simp [chkA])
    | cons e es =>
      simp only [chkA, Bool.and_eq_true] at h
      exact g_cons h.1.1 (ha C e h.1.2 o.1).pe ((hr C es o.2).1 h.2)
  · unfold chkP at h
    split at h
    · rename_i heq; cases heq
    · rename_i l r' s kk p es' heq
      cases heq
      simp only [Bool.and_eq_true] at h
      have e1 : s.cps.toList = l := of_decide_eq_true h.1
      subst e1
      exact js_con ((hr C es' o.2).2.1 h.2)
    · rename_i heq
      cases heq
      simp only [Bool.and_eq_true] at h
      exact js_fmt (ha C _ h.1 o.1).pe ((hr C _ o.2).2.1 h.2)
    · cases h
  · cases es with
    | nil => simp [PEs]
    | cons e es =>
      simp only [chkA, Bool.and_eq_true] at h
      exact ⟨(ha C e h.1.2 o.1).pe, (hr C es o.2).2.2 h.2⟩
theorem snd_star (a : CE) (r : CEs) (ha : SndE a) (hr : SndA r) : SndA (.star a r) := by
  intro X E sc N k C es o
  simp only [okA] at o
  refine ⟨fun h => ?_, fun h => ?_, fun h => ?_⟩
  · rcases es with _ | ⟨e, es⟩
    · exact absurd h (by simp [chkA])
    · cases e <;> first | (exfalso; simp [chkA] at h; done) | skip
      rename_i e' p
      simp only [chkA, Bool.and_eq_true] at h
      exact g_star (ha C e' h.1 o.1).pe ((hr C es o.2).1 h.2)
  · exact absurd h (by simp [chkP])
  · simp [PEs]
theorem snd_onone : SndO .none := by
  intro X E sc N k C o
  refine ⟨fun e h => ?_, fun ifs h => ?_⟩
  · cases e with
    | none => exact g_onone
    | some _ => exact absurd h (by simp [chkO])
  · cases ifs with
    | nil =>
      refine ⟨fun pins s σ H Q I q => pts_nil.run pins s σ H Q I ?_⟩
      obtain ⟨pa, F, S, R, h⟩ := q
      exact PostT.now R.fh R.po h
    | cons _ _ => exact absurd h (by simp [chkC])
theorem snd_osome (a : CE) (ha : SndE a) : SndO (.some a) := by
  intro X E sc N k C o
  simp only [okO] at o
  refine ⟨fun e h => ?_, fun ifs h => ?_⟩
  · cases e with
    | none => exact absurd h (by simp [chkO])
    | some e => exact g_osome (ha C e (by simpa [chkO] using h) o).pe
  · rcases ifs with _ | ⟨e, _ | ⟨e2, ifs⟩⟩ <;> first | (exfalso; simp [chkC] at h; done) | skip
    simp only [chkC, Bool.and_eq_true] at h
    exact pts_one ((ha C e h.2 o).pt h.1)
theorem snd_seq (a : CE) (ha : SndE a) : SndI (.seq a) := by
  intro X E sc N k C tgx e ht h o
  simp only [okI] at o
  exact g_seq (ha C e (by simpa [chkI] using h) o).pe
theorem snd_rng (a : CE) (ha : SndE a) : SndI (.rng a) := by
  intro X E sc N k C tgx e ht h o
  simp only [okI] at o
  cases e with
  | Call fn es ks p =>
    cases fn <;> rcases es with _ | ⟨e0, _ | ⟨e1, es⟩⟩ <;> rcases ks with _ | ⟨k0, ks⟩ <;> first | (exfalso; simp [chkI] at h; done) | skip
    simp only [chkI, Bool.and_eq_true] at h
    have e1 := nm_eq h.1.1.1
    subst e1
    exact g_rng (C.glo _ h.1.1.2) o.1 h.1.2 (ha C e0 h.2 o.2).pe
  | _ => exact absurd h (by simp [chkI])
theorem snd_rng2 (a b : CE) (ha : SndE a) (hb : SndE b) : SndI (.rng2 a b) := by
  intro X E sc N k C tgx e ht h o
  simp only [okI] at o
  cases e with
  | Call fn es ks p =>
    cases fn <;> rcases es with _ | ⟨e0, _ | ⟨e1, _ | ⟨e2, es⟩⟩⟩ <;> rcases ks with _ | ⟨k0, ks⟩ <;> first | (exfalso; simp [chkI] at h; done) | skip
    simp only [chkI, Bool.and_eq_true] at h
    have e3 := nm_eq h.1.1.1.1.1
    subst e3
    exact g_rng2 (C.glo _ h.1.1.1.1.2) o.1 h.1.1.1.2 h.1.1.2 (ha C e0 h.1.2 o.2.1).pe (hb C e1 h.2 o.2.2).pe
  | _ => exact absurd h (by simp [chkI])
theorem snd_enm (a : CE) (ha : SndE a) : SndI (.enm a) := by
  intro X E sc N k C tgx e ht h o
  simp only [okI] at o
  have ht := ht rfl
  cases tgx <;> first | (exfalso; simp [isTup] at ht; done) | skip
  cases e with
  | Call fn es ks p =>
    cases fn <;> rcases es with _ | ⟨e0, _ | ⟨e1, es⟩⟩ <;> rcases ks with _ | ⟨k0, ks⟩ <;> first | (exfalso; simp [chkI] at h; done) | skip
    simp only [chkI, Bool.and_eq_true] at h
    have e1 := nm_eq h.1.1.1
    subst e1
    exact g_enm (C.glo _ h.1.1.2) o.1 h.1.2 (ha C e0 h.2 o.2).pe
  | _ => exact absurd h (by simp [chkI])
theorem snd_zip (a b : CE) (ha : SndE a) (hb : SndE b) : SndI (.zip a b) := by
  intro X E sc N k C tgx e ht h o
  simp only [okI] at o
  have ht := ht rfl
  cases tgx <;> first | (exfalso; simp [isTup] at ht; done) | skip
  cases e with
  | Call fn es ks p =>
    cases fn <;> rcases es with _ | ⟨e0, _ | ⟨e1, _ | ⟨e2, es⟩⟩⟩ <;> rcases ks with _ | ⟨k0, ks⟩ <;> first | (exfalso; simp [chkI] at h; done) | skip
    simp only [chkI, Bool.and_eq_true] at h
    have e3 := nm_eq h.1.1.1.1.1
    subst e3
    exact g_zip (C.glo _ h.1.1.1.1.2) o.1 h.1.1.1.2 h.1.1.2 (ha C e0 h.1.2 o.2.1).pe (hb C e1 h.2 o.2.2).pe
  | _ => exact absurd h (by simp [chkI])
theorem bind_assoc {α β γ : Type} (o : Out α) (f : α → Po → Out β) (g : β → Po → Out γ) : (o.bind f).bind g = o.bind fun a P => (f a P).bind g := by
  cases o <;> rfl
theorem ev1 (a : CE) (S : Ev) : evA (.cons a .nil) S = (evE a S).bind fun x P => .ok [x] P := by
  simp [evA]
theorem ev2 (a b : CE) (S : Ev) : evA (.cons a (.cons b .nil)) S = (evE a S).bind fun x P => (evE b (S.wp P)).bind fun y P2 => .ok [x, y] P2 := by
  simp only [evA]
  congr 1
  funext x P
  rw [bind_assoc]
  congr 1
theorem ev_xa2 (x : XO) (f : Fs) (c d : CE) : evE (.xa x f (.cons c (.cons d .nil))) = fun S => (evE c S).bind fun a P => (evE d (S.wp P)).bind fun b P2 => xoQ x f [a, b] P2 := by
  funext S
  show (evA (.cons c (.cons d .nil)) S).bind (fun ds P => xoQ x f ds P) = _
  rw [ev2]
  simp only [bind_assoc, Out.bind_ok]
theorem plain1 {sc : Scope} {N : List Str} {as : CEs} {e : Expr} (hp : as.plain = true) (h : chkA sc N as [e] = true) : ∃ c, as = .cons c .nil := by
  rcases as with _ | ⟨a, r⟩ | ⟨a, r⟩
  · simp [chkA] at h
  · rcases r with _ | ⟨b, r⟩ | ⟨b, r⟩
    · exact ⟨a, rfl⟩
    · simp [chkA] at h
    · simp [CEs.plain] at hp
  · simp [CEs.plain] at hp
theorem plain2 {sc : Scope} {N : List Str} {as : CEs} {e e' : Expr} (hp : as.plain = true) (h : chkA sc N as [e, e'] = true) : ∃ c d, as = .cons c (.cons d .nil) := by
  rcases as with _ | ⟨a, r⟩ | ⟨a, r⟩
  · simp [chkA] at h
  · rcases r with _ | ⟨b, r⟩ | ⟨b, r⟩
    · simp [chkA] at h
    · rcases r with _ | ⟨c, r⟩ | ⟨c, r⟩
      · exact ⟨a, b, rfl⟩
      · simp [chkA] at h
      · simp [CEs.plain] at hp
    · simp [CEs.plain] at hp
  · simp [CEs.plain] at hp
theorem stars_pl {env : Env} {pos : Pos} : ∀ {es : List Expr}, nostars es = true → (backTo pos (starEach es env)).any (·.1) = false
  | [], _ => rfl
  | e :: es, h => by
    simp only [nostars, Bool.and_eq_true] at h
    rw [star_no h.1]
    show (false || _) = false
    rw [Bool.false_or]
    exact stars_pl h.2
section
variable {X : Cx} {E : XK}
theorem pk_data : ∀ {kws : List Keyword} {as : CEs}, as.plain = true → (as.len = kws.length) → PEs X E as (kws.map (·.value)) → PK X kws (upA X.K E (evA as))
  | [], .nil, _, _, _ => ⟨fun pos pins s σ H Q I q => pk_nil.run pos pins s σ H Q I (by
      obtain ⟨pa, F, S, R, h⟩ := q
      exact PostA.now R.fh R.po h .nil)⟩
  | ⟨nm, v, kp⟩ :: kws, .cons a r, hp, hl, h => by
    have ih := pk_data (kws := kws) (as := r) (by simpa [CEs.plain] using hp) (by simpa [CEs.len] using hl) h.2
    refine ⟨fun pos pins s σ H Q I q => (pk_cons h.1 ih).run pos pins s σ H Q I ?_⟩
    obtain ⟨pa, F, S, R, h⟩ := q
    unfold evA at h
    refine ⟨pa, F, S, R, (Post.bindA h).mono ?_⟩
    rintro v H1 ⟨d, P1, F1, _, st, h1⟩
    refine ⟨pa, F1, S.wp P1, R.grow st.g st.p, (PostA.bindA h1).mono ?_⟩
    rintro vs H2 ⟨ds, P2, F2, _, g2, p2, t2, h2⟩
    exact PostA.now g2.fh p2 h2 (.cons (st.t.grow g2) t2)
  | [], .cons _ _, _, hl, _ => by simp [CEs.len] at hl
  | _ :: _, .nil, _, hl, _ => by simp [CEs.len] at hl
  | _, .star _ _, hp, _, _ => by simp [CEs.plain] at hp
end
theorem chk_len {sc : Scope} {N : List Str} : ∀ {as : CEs} {es : List Expr}, as.plain = true → chkA sc N as es = true → as.len = es.length
  | .nil, [], _, _ => rfl
  | .nil, _ :: _, _, h => by simp [chkA] at h
  | .cons a r, [], _, h => by simp [chkA] at h
  | .cons a r, e :: es, hp, h => by
    simp only [chkA, Bool.and_eq_true] at h
    have := chk_len (as := r) (es := es) (by simpa [CEs.plain] using hp) h.2
    simp [CEs.len, this]
  | .star _ _, _, hp, _ => by simp [CEs.plain] at hp
theorem snd_xa (x : XO) (f : Fs) (as : CEs) (has : SndA as) : SndE (.xa x f as) := by
  intro X E sc N k C e h o
  simp only [okE] at o
  obtain ⟨ox, oa⟩ := o
  have h : (as.plain && optB (xoSub sc x e) (chkA sc N as)) = true := by cases e <;> simpa [chkE] using h
  rw [Bool.and_eq_true] at h
  obtain ⟨hp, h⟩ := h
  cases hsub : xoSub sc x e with
  | none => rw [hsub] at h; cases h
  | some es =>
    rw [hsub] at h
    have hA : chkA sc N as es = true := h
    clear h
    have px : Passes (L2.CX X.prog X.w) X E := passes_call C.tk fun _ _ _ _ z => z
    have hAll := has C es oa
    -- one part
    have one : ∀ (nm : Str), xoSub sc x e = call1 sc nm e → ∃ a p pos c, e = .Call (.Name nm p) [a] [] pos ∧ es = [a] ∧ Gl X nm ∧ nostar a = true ∧ as = .cons c .nil ∧ PE X a (up X.K E (evE c)) := fun nm hx => by
      rw [hx] at hsub
      unfold call1 at hsub
      split at hsub
      · rename_i y p a pos
        split at hsub
        · rename_i hc
          simp only [Bool.and_eq_true] at hc
          cases hsub
          have e1 := nm_eq hc.1.1
          subst e1
          obtain ⟨c, rfl⟩ := plain1 hp hA
          exact ⟨a, p, pos, c, rfl, rfl, C.glo _ hc.1.2, hc.2, rfl, (hAll.2.2 hA).1⟩
        · cases hsub
      · cases hsub
    have two : ∀ (op : CmpOp → Bool) (o0 : CmpOp), (∀ o, op o = true → o = o0) → xoSub sc x e = cmp2 op e → ∃ l r pos c d, e = .Compare l [o0] [r] pos ∧ noset r = true ∧ as = .cons c (.cons d .nil) ∧ PE X l (up X.K E (evE c)) ∧ PE X r (up X.K E (evE d)) := fun op o0 hop hx => by
      rw [hx] at hsub
      unfold cmp2 at hsub
      split at hsub
      · rename_i l o1 r pos
        split at hsub
        · rename_i hc
          simp only [Bool.and_eq_true] at hc
          cases hsub
          have e1 := hop _ hc.1
          subst e1
          obtain ⟨c, d, rfl⟩ := plain2 hp hA
          have hh := hAll.2.2 hA
          exact ⟨l, r, pos, c, d, rfl, hc.2, rfl, hh.1, hh.2.1⟩
        · cases hsub
      · cases hsub
    have callOne : ∀ (nm : Str), xoSub sc x e = callN sc nm e → ∃ a r p pos, e = .Call (.Name nm p) (a :: r) [] pos ∧ es = a :: r ∧ Gl X nm ∧ okNm nm = true ∧ nostar a = true ∧ nostars r = true := fun nm hx => by
      rw [hx] at hsub
      unfold callN at hsub
      split at hsub
      · rename_i y p a r pos
        split at hsub
        · rename_i hc
          simp only [Bool.and_eq_true, nostars] at hc
          cases hsub
          have e1 := nm_eq hc.1.1.1
          subst e1
          exact ⟨a, r, p, pos, rfl, rfl, C.glo _ hc.1.1.2, hc.1.2, hc.2.1, hc.2.2⟩
        · cases hsub
      · cases hsub
    cases x with
    | len D =>
      obtain ⟨a, p, pos, c, rfl, rfl, hg, hs, rfl, pe⟩ := one "len" rfl
      refine .plain (PE.imp (g_obB (c_olen ox.2 C.rm C.gd px) hg ox.1 (by decide +kernel) (by decide +kernel) (by decide +kernel) hs pe) fun σ H Q q => ?_) rfl
      obtain ⟨pa, F, S, R, q⟩ := q
      unfold evE at q
      rw [ev1, bind_assoc] at q
      exact ⟨pa, F, S, R, q⟩
    | repr D =>
      obtain ⟨a, p, pos, c, rfl, rfl, hg, hs, rfl, pe⟩ := one "repr" rfl
      refine .plain (PE.imp (g_obB (c_orepr ox.2 C.rm C.gd px) hg ox.1 (by decide +kernel) (by decide +kernel) (by decide +kernel) hs pe) fun σ H Q q => ?_) rfl
      obtain ⟨pa, F, S, R, q⟩ := q
      unfold evE at q
      rw [ev1, bind_assoc] at q
      exact ⟨pa, F, S, R, q⟩
    | str D =>
      obtain ⟨a, p, pos, c, rfl, rfl, hg, hs, rfl, pe⟩ := one "str" rfl
      refine .plain (PE.imp (g_obT (c_ostr ox.2 C.rm C.gd px) hg ox.1 (by decide +kernel) (by decide +kernel) (by decide +kernel) hs pe) fun σ H Q q => ?_) rfl
      obtain ⟨pa, F, S, R, q⟩ := q
      unfold evE at q
      rw [ev1, bind_assoc] at q
      exact ⟨pa, F, S, R, q⟩
    | bool D =>
      obtain ⟨a, p, pos, c, rfl, rfl, hg, hs, rfl, pe⟩ := one "bool" rfl
      refine .plain (PE.imp (g_obT (c_obool ox.2 C.rm C.gd px) hg ox.1 (by decide +kernel) (by decide +kernel) (by decide +kernel) hs pe) fun σ H Q q => ?_) rfl
      obtain ⟨pa, F, S, R, q⟩ := q
      unfold evE at q
      rw [ev1, bind_assoc] at q
      exact ⟨pa, F, S, R, q⟩
    | eq D =>
      obtain ⟨l, r, pos, c, d, rfl, hn, rfl, p1, p2⟩ := two isEq .Eq (fun o ho => by cases o <;> first | rfl | cases ho) rfl
      have pe := g_oeq (pos := pos) ox.2 ox.1 C.rm C.gd px hn p1 p2
      have pt := pt_tr (pos := pos) (o_oeq (E := E) ox.2 ox.1 C.rm C.gd px) p1 p2 hn tr_oeq bl_oeq
      rw [ev_xa2]
      exact ⟨pe, fun _ => pt, fun z => by cases z⟩
    | ne D =>
      obtain ⟨l, r, pos, c, d, rfl, hn, rfl, p1, p2⟩ := two isNe .NotEq (fun o ho => by cases o <;> first | rfl | cases ho) rfl
      have pe := g_one (pos := pos) ox.2 ox.1 C.rm C.gd px hn p1 p2
      have pt := pt_tr (pos := pos) (o_one (E := E) ox.2 ox.1 C.rm C.gd px) p1 p2 hn tr_one bl_one
      rw [ev_xa2]
      exact ⟨pe, fun _ => pt, fun z => by cases z⟩
    | prp D m =>
      have hx : att1 m e = some es := hsub
      unfold att1 at hx
      split at hx
      · rename_i a g pos
        split at hx
        · rename_i hc
          simp only [Bool.and_eq_true] at hc
          cases hx
          have e1 := nm_eq hc.1
          subst e1
          obtain ⟨c, rfl⟩ := plain1 hp hA
          refine .plain (PE.imp (g_prp (E := E) ox C.rm C.gd hc.2 (hAll.2.2 hA).1) fun σ H Q q => ?_) rfl
          obtain ⟨pa, F, S, R, q⟩ := q
          unfold evE at q
          rw [ev1, bind_assoc] at q
          exact ⟨pa, F, S, R, q⟩
        · cases hx
      · cases hx
    | hand sub =>
      have hx0 : (if (nocomp e && nonm e) = true then sub sc e else none) = some es := hsub
      have hx : sub sc e = some es := by
        by_cases c : (nocomp e && nonm e) = true
        · rw [if_pos c] at hx0; exact hx0
        · rw [if_neg c] at hx0; cases hx0
      have z := ox X E sc N e es as rfl rfl rfl rfl rfl C hx hp hA (hAll.1 hA) (hAll.2.2 hA)
      have ez : (fun S => evE (.xa (.hand sub) f as) S) = fun S => (evA as S).bind fun ds P => f ds P := by
        funext S
        unfold evE
        rfl
      show Snd X E e (fun S => evE (.xa (.hand sub) f as) S)
      rw [ez]
      exact z
    | mk D dfs =>
      obtain ⟨a, r, p, pos, rfl, rfl, hg, hok, hs, hss⟩ := callOne D rfl
      refine .plain (PE.imp (g_mk ox C.rm C.gd px hg (ok_dbg hok) (hAll.1 hA) hs (stars_pl hss)) fun σ H Q q => ?_) rfl
      obtain ⟨pa, F, S, R, q⟩ := q
      unfold evE at q
      exact ⟨pa, F, S, R, q⟩
    | mkK D ks pr =>
      have hx : callK sc D ks e = some es := hsub
      unfold callK at hx
      split at hx
      · rename_i y p kws pos
        split at hx
        · rename_i hc
          simp only [Bool.and_eq_true] at hc
          cases hx
          have e1 := nm_eq hc.1.1.1.1
          subst e1
          have hl : as.len = kws.length := by rw [chk_len hp hA, List.length_map]
          refine .plain (PE.imp (g_mkK ox C.rm C.gd px (C.glo _ hc.1.1.1.2) (ok_dbg hc.1.1.2) (of_decide_eq_true hc.1.2) (pk_data hp hl (hAll.2.2 hA))) fun σ H Q q => ?_) rfl
          obtain ⟨pa, F, S, R, q⟩ := q
          unfold evE at q
          exact ⟨pa, F, S, R, q⟩
        · cases hx
      · cases hx
    | lzip =>
      have hx : zip2 sc e = some es := hsub
      unfold zip2 at hx
      split at hx
      · rename_i y p z p2 a b pos2 pos
        split at hx
        · rename_i hc
          simp only [Bool.and_eq_true] at hc
          cases hx
          have e1 := nm_eq hc.1.1.1.1.1
          have e2 := nm_eq hc.1.1.1.2
          subst e1 e2
          refine .plain (PE.imp (pe_lzip C.calm (C.glo _ hc.1.1.1.1.2) ox.1 (C.glo _ hc.1.1.2) ox.2 (hAll.1 hA) (star_no hc.1.2) (stars_pl (by simp [nostars, hc.2]))) fun σ H Q q => ?_) rfl
          obtain ⟨pa, F, S, R, q⟩ := q
          unfold evE at q
          exact tr_lzip (f := f) σ H Q ⟨pa, F, S, R, q⟩
        · cases hx
      · cases hx
    | bor y =>
      obtain ⟨a, r, p, pos, rfl, rfl, hg, hok, hs, hss⟩ := callOne y rfl
      refine .plain (PE.imp (g_bor ox (C.rm.mono (Nat.le_succ _)) C.gd hg (ok_dbg hok) C.tk (hAll.1 hA) hs (stars_pl hss)) fun σ H Q q => ?_) rfl
      obtain ⟨pa, F, S, R, q⟩ := q
      unfold evE at q
      exact ⟨pa, F, S, R, q⟩
theorem snd_dnew : SndE .dnew := by
  intro X E sc N k C e h o
  cases e with
  | Dict ks vs p =>
    rcases ks with _ | ⟨a, ks⟩ <;> rcases vs with _ | ⟨b, vs⟩ <;> first | (exfalso; simp [chkE] at h; done) | skip
    refine .plain (PE.imp pe_dnewK fun σ H Q q => ?_) rfl
    obtain ⟨pa, F, S, R, q⟩ := q
    intro d hd
    exact Post.newO R.fh R.po q hd (.dic0 upd_same)
  | _ => exact absurd h (by simp [chkE])
theorem CxOk.lam {X : Cx} {E : XK} {sc scope : Scope} {N : List Str} {k j : Nat} (C : CxOk X E sc N k) (L : LamX.LamS X.env.scope scope) (hu : unm scope = true) (A : Around) (outer : List Env) (s : Shared) (H : Hp) (E' : XK) (f c' : Addr)
    (hr : Room (j + 1) (A.deeper (LamX.lamEnv X scope s.heap.objs.size f c'))) (hg : A.guards = some []) : CxOk (LamX.lamCx X A outer s H E' scope f c') E' scope N j where
  hN := C.hN
  nd := C.nd
  vis := fun x h => by
    unfold visB at h
    split at h
    · exact .inl (by assumption)
    · exact .inr (.inl (by assumption))
    · exact .inr (.inr (by assumption))
    · cases h
  glo := fun x h => by
    unfold gloB at h
    split at h
    · assumption
    · cases h
  loc := fun x h => by
    unfold locB at h
    split at h
    · rename_i hl
      exact absurd rfl (L.own _ (PySem.mem_of_lookup hl)).1
    · rename_i hl
      exact absurd rfl (L.own _ (PySem.mem_of_lookup hl)).2
    · cases h
  sub := fun x h => h
  calm := rfl
  gd := hg
  rm := hr
  tk := takes_of rfl rfl rfl rfl
  qc := fun q h => by
    have h1 := of_decide_eq_true h
    have h2 := List.all_eq_true.mp hu _ (PySem.mem_of_lookup h1)
    simp at h2
theorem snd_cgt (x : Str) (c : CE) (hc : SndE c) : SndE (.cgt x c) := by
  intro X E sc N k C e h o
  simp only [okE] at o
  obtain ⟨j, rfl, og, oc⟩ := o
  cases e with
  | Call f es ks pos =>
    cases f with
    | Name y p =>
      rcases es with _ | ⟨a, _ | ⟨b, es⟩⟩ <;> rcases ks with _ | ⟨kk, ks⟩ <;> first | (exfalso; simp [chkE] at h; done) | skip
      cases a with
      | Lambda params body scope lpos =>
        simp only [chkE, Bool.and_eq_true] at h
        obtain ⟨⟨⟨⟨⟨⟨⟨h1, h2⟩, h3⟩, h4⟩, h5⟩, h6⟩, h7⟩, h8⟩ := h
        have e1 := nm_eq h1
        subst e1
        obtain ⟨q, hq, hm⟩ := List.any_eq_true.mp h7
        have L0 := LamX.lamS_by h6
        have L : LamX.LamS X.env.scope scope := ⟨L0.kind, L0.co, L0.gen, L0.own, fun y hy e => C.sub y.1 (L0.free y hy e)⟩
        exact .plain (og X E sc scope N q params body p lpos pos (evE c) rfl rfl rfl rfl rfl C h2 h4 L hq hm fun A outer s H E' f c' hr hg => (hc (C.lam L h5 A outer s H E' f c' hr hg) body h8 oc).pe) rfl
      | _ => exact absurd h (by simp [chkE])
    | _ => exact absurd h (by simp [chkE])
  | _ => exact absurd h (by simp [chkE])
theorem snd_mth (C m : Str) (f : Fs) (o : CE) (as : CEs) (ho : SndE o) (has : SndA as) : SndE (.mth C m f o as) := by
  intro X E sc N k CC e h ok
  simp only [okE] at ok
  cases e with
  | Call fn es ks p =>
    cases fn <;> rcases ks with _ | ⟨k0, ks⟩ <;> first | (exfalso; simp [chkE] at h; done) | skip
    rename_i e2 g apos
    simp only [chkE, Bool.and_eq_true] at h
    obtain ⟨⟨⟨⟨⟨⟨⟨h1, h2⟩, h3⟩, h4⟩, h5⟩, h6⟩, h7⟩, h8⟩ := h
    have e3 := nm_eq h1
    subst e3
    have A := has CC es ok.2.2
    refine .plain (PE.imp (g_mth ok.1 CC.rm CC.gd (passes_call CC.tk fun _ _ _ _ z => z) h2 h3 h4 (of_decide_eq_true h5) (ho CC e2 h7 ok.2.1).pe (A.1 h8) (fun he S => ?_)) fun σ H Q q => ?_) rfl
    · subst he
      cases as with
      | nil => unfold evA; rfl
      | cons => simp [chkA] at h8
      | star => simp [CEs.plain] at h6
    · obtain ⟨pa, F, S, R, q⟩ := q
      unfold evE at q
      exact ⟨pa, F, S, R, q⟩
  | _ => exact absurd h (by simp [chkE])
theorem snd (c : CE) : SndE c :=
  CE.rec (motive_1 := SndE) (motive_2 := SndA) (motive_3 := SndO) (motive_4 := SndI) snd_var snd_glb snd_con snd_b2 snd_chn snd_neg snd_notv snd_andv snd_orv snd_ite snd_call snd_b1 snd_bi snd_isi snd_mt snd_ix snd_sl snd_rev snd_lst snd_tup snd_fld snd_xa snd_lc snd_fst snd_lc2 snd_dnew snd_cgt snd_mth
    snd_nil snd_cons snd_star snd_onone snd_osome snd_seq snd_rng snd_rng2 snd_enm snd_zip c
theorem sndA (c : CEs) : SndA c :=
  CEs.rec (motive_1 := SndE) (motive_2 := SndA) (motive_3 := SndO) (motive_4 := SndI) snd_var snd_glb snd_con snd_b2 snd_chn snd_neg snd_notv snd_andv snd_orv snd_ite snd_call snd_b1 snd_bi snd_isi snd_mt snd_ix snd_sl snd_rev snd_lst snd_tup snd_fld snd_xa snd_lc snd_fst snd_lc2 snd_dnew snd_cgt snd_mth
    snd_nil snd_cons snd_star snd_onone snd_osome snd_seq snd_rng snd_rng2 snd_enm snd_zip c
theorem sndI (c : CI) : SndI c := by
  cases c with
  | seq a => exact snd_seq a (snd a)
  | rng a => exact snd_rng a (snd a)
  | rng2 a b => exact snd_rng2 a b (snd a) (snd b)
  | enm a => exact snd_enm a (snd a)
  | zip a b => exact snd_zip a b (snd a) (snd b)

inductive OutS where
  | nx (S : Ev)
  | bk (S : Ev)
  | ct (S : Ev)
  | ret (d : Da) (P : Po)
  | ex (C : Str) (fs : List Str) (ds : List Da) (P : Po)
  | no
def obind {α : Type} (o : Out α) (k : α → Po → OutS) : OutS := match o with
  | .ok a P => k a P
  | .ex C fs ds P => .ex C fs ds P
  | .no => .no
@[simp] theorem obind_ok {α : Type} (a : α) (P : Po) (k : α → Po → OutS) : obind (.ok a P) k = k a P := rfl
@[simp] theorem obind_no {α : Type} (k : α → Po → OutS) : obind (Out.no : Out α) k = .no := rfl
@[simp] theorem obind_ex {α : Type} (C : Str) (fs : List Str) (ds : List Da) (P : Po) (k : α → Po → OutS) : obind (Out.ex C fs ds P : Out α) k = .ex C fs ds P := rfl
def OutS.then (o : OutS) (k : Ev → OutS) : OutS := match o with
  | .nx S => k S
  | o => o
mutual
inductive CS : Type where
  /-- x = e -/
  | asg (i : Nat) (e : CE)
  /-- a, b, .. = e -/
  | asgT (is : List Nat) (e : CE)
  /-- a, b, .. = e, a list -/
  | asgL (is : List Nat) (e : CE)
  /-- a, b, .. = e1, e2, .. -/
  | par (is : List Nat) (es : CEs)
  /-- x = [..], x = a + b: a list of the frame's own -/
  | own (i : Nat) (es : CEs)
  | ownC (i : Nat) (a b : CE)
  /-- x = [.. for ..]: a list of the frame's own -/
  | ownL (i : Nat) (e : CE)
  /-- a, b = (e, []) and a, b = ([], e) -/
  | parN (i j : Nat) (e : CE)
  | parM (i j : Nat) (e : CE)
  | app (i : Nat) (e : CE)
  | ext (i : Nat) (e : CE)
  | ife (t : CE) (a b : CSs)
  | forr (tg : List Nat) (it : CI) (b : CSs)
  | ret (e : CE)
  | retN
  | expr (e : CE)
  | brk
  | cnt
  | pas
  /-- self.f = e -/
  | setF (C : Str) (f : Str) (e : CE)
  /-- what is never reached -/
  | dead
  /-- raise C(e), C's error has the field f -/
  | rai (C f : Str) (e : CE)
inductive CSs : Type where
  | nil
  | cons (s : CS) (r : CSs)
  /-- no code: from here on the list of slot j is not written -/
  | frz (j : Nat) (r : CSs)
  /-- n statements with a rule by hand -/
  | grp (n : Nat) (chk : Scope → List Str → List Stmt → Bool) (f : Ev → OutS) (r : CSs)
end
def Sv.nos : Sv → Bool
  | .slf _ _ _ => false
  | _ => true
def forL (bd : Da → Ev → Option Ev) (body : Ev → OutS) : List Da → Ev → OutS
  | [], S => .nx S
  | d :: ds, S => match bd d S with
    | none => .no
    | some S1 => match body S1 with
      | .nx S2 => forL bd body ds S2
      | .ct S2 => forL bd body ds S2
      | .bk S2 => .nx S2
      | .ret e P => .ret e P
      | .ex C fs es P => .ex C fs es P
      | .no => .no
def putD (f : Str) (d : Da) : List Str → List Da → List Str × List Da
  | g :: fs, e :: ds => if g = f then (g :: fs, d :: ds) else let r := putD f d fs ds; (g :: r.1, e :: r.2)
  | fs, ds => (fs ++ [f], ds ++ [d])
mutual
def evS : CS → Ev → OutS
  | .asg i e, S => obind (evE e S) fun d P => if d.fz = true then .nx (setSl (S.wp P) i (.dat d)) else .no
  | .asgT is e, S => obind (evE e S) fun d P => match bindTg is d (S.wp P) with
    | some S2 => .nx S2
    | none => .no
  | .asgL is e, S => obind (evE e S) fun d P => (match d with
    | .lst ds => if ds.length = is.length then .nx (setManyS (S.wp P) is ds) else .no
    | _ => .no)
  | .par is es, S => obind (evA es S) fun ds P => if ds.all Da.fz && decide (ds.length = is.length) then .nx (setManyS (S.wp P) is ds) else .no
  | .own i es, S => obind (evA es S) fun ds P => if ds.all Da.fz && decide (ds.length ≤ 1000) then .nx (setSl (S.wp P) i (.own ds)) else .no
  | .ownC i a b, S => obind (evE a S) fun x P => obind (evE b (S.wp P)) fun y P2 => match x.ls, y.ls with
    | some xs, some ys => if xs.length + ys.length ≤ lim then .nx (setSl (S.wp P2) i (.own (xs ++ ys))) else .no
    | _, _ => .no
  | .ownL i e, S => obind (evE e S) fun d P => (match d with
    | .lst ds => .nx (setSl (S.wp P) i (.own ds))
    | _ => .no)
  | .parN i j e, S => obind (evE e S) fun d P => if d.fz = true then .nx (setSl (setSl (S.wp P) i (.dat d)) j (.own [])) else .no
  | .parM i j e, S => obind (evE e S) fun d P => if d.fz = true then .nx (setSl (setSl (S.wp P) j (.dat d)) i (.own [])) else .no
  | .app i e, S => (match S.sl[i]? with
    | some (.own ds) => obind (evE e S) fun d P => if d.fz && decide (ds.length < lim) then .nx (setSl (S.wp P) i (.own (ds ++ [d]))) else .no
    | _ => .no)
  | .ext i e, S => (match S.sl[i]? with
    | some (.own ds) => obind (evE e S) fun d P => match d with
      | .lst es => if ds.length + es.length ≤ lim then .nx (setSl (S.wp P) i (.own (ds ++ es))) else .no
      | _ => .no
    | _ => .no)
  | .ife t a b, S => obind (trus (evE t S)) fun k P => if k = true then evSs a (S.wp P) else evSs b (S.wp P)
  | .forr tg it b, S => obind (evI it S) fun ds P => if ds.1 = true then forL (fun d S => bindTg tg d S) (evSs b) ds.2 (S.wp P) else .no
  | .ret e, S => obind (evE e S) fun d P => if d.fz = true then .ret d P else .no
  | .retN, S => .ret .non S.po
  | .expr e, S => obind (evE e S) fun _ P => .nx (S.wp P)
  | .brk, S => .bk S
  | .cnt, S => .ct S
  | .pas, S => .nx S
  | .setF C f e, S => obind (evE e S) fun d P => match (S.sl[(0:Nat)]? : Option Sv) with
    | some (.slf C' fs ds) => if d.fz && decide (fs.length < 900) && decide (C' = C) && S.sl.tail.all Sv.nos then .nx (setSl (S.wp P) 0 (.slf C (putD f d fs ds).1 (putD f d fs ds).2)) else .no
    | _ => .no
  | .dead, _ => .no
  | .rai C f e, S => obind (evE e S) fun d P => if d.fz = true then .ex C [f] [d] P else .no
def evSs : CSs → Ev → OutS
  | .nil, S => .nx S
  | .cons s r, S => (evS s S).then (evSs r)
  | .frz j r, S => (match S.sl[j]? with
    | some (.own ds) => evSs r (setSl S j (.dat (.lst ds)))
    | _ => .no)
  | .grp _ _ f r, S => (f S).then (evSs r)
end
structure RelS (K : PySem.W.Frag) (pa : Pa) (me : Option Addr) (F0 H0 F : Hp) (σ : L2.St) (H : Hp) (S : Ev) : Prop where
  rel : Rel K pa F σ H S
  gr : Gr pa F0 H0 F H
  nw : ∀ (i : Nat) (a : Addr), (∃ ds, S.sl[i]? = some (.own ds)) ∨ (∃ C fs ds, S.sl[i]? = some (.slf C fs ds)) → σ[i]? = some (some (.ref a)) → H0 a = none
  sf : ∀ (i : Nat) (C : Str) (fs : List Str) (ds : List Da), S.sl[i]? = some (.slf C fs ds) → ∃ x, me = some x ∧ σ[i]? = some (some (.ref x))
def PostS (K : PySem.W.Frag) (E : XK) (pa : Pa) (me : Option Addr) (F0 H0 F : Hp) (D : Ends) : OutS → Prop
  | .nx S => ∀ σ' F' H', RelS K pa me F0 H0 F' σ' H' S → Same F F' → D.nx σ' H'
  | .bk S => ∀ σ' F' H', RelS K pa me F0 H0 F' σ' H' S → Same F F' → D.bk σ' H'
  | .ct S => ∀ σ' F' H', RelS K pa me F0 H0 F' σ' H' S → Same F F' → D.ct σ' H'
  | .ret d P => ∀ v F' H', Gr pa F0 H0 F' H' → PoolOk F' H' pa P → Dt K F' pa v d → D.rt v H'
  | .ex C fs ds P => PostX K E pa F0 H0 C fs ds P
  | .no => False
def upS (K : PySem.W.Frag) (E : XK) (f : Ev → OutS) : TS := fun D σ H => ∃ pa me F0 H0 F S, RelS K pa me F0 H0 F σ H S ∧ PostS K E pa me F0 H0 F D (f S)
section
variable {K : PySem.W.Frag} {E : XK} {pa : Pa} {me : Option Addr} {F0 H0 F H F1 H1 : Hp} {σ : L2.St} {S : Ev} {D : Ends}
theorem RelS.grow {P1 : Po} (R : RelS K pa me F0 H0 F σ H S) (g : Gr pa F H F1 H1) (p : PoolOk F1 H1 pa P1) : RelS K pa me F0 H0 F1 σ H1 (S.wp P1) := ⟨R.rel.grow g p, R.gr.trans R.rel.po g, R.nw, R.sf⟩
theorem PostS.rebase {o : OutS} (s : Same F F1) (h : PostS K E pa me F0 H0 F D o) : PostS K E pa me F0 H0 F1 D o := by
  cases o with
  | nx S => exact fun σ' F' H' R t => h σ' F' H' R (s.trans t)
  | bk S => exact fun σ' F' H' R t => h σ' F' H' R (s.trans t)
  | ct S => exact fun σ' F' H' R t => h σ' F' H' R (s.trans t)
  | ret d P => exact h
  | ex C fs ds P => exact h
  | no => exact h
theorem step {o : Out Da} {k : Da → Po → OutS} (R : RelS K pa me F0 H0 F σ H S) (h : PostS K E pa me F0 H0 F D (obind o k)) :
    Post K E pa F H o (fun v H1 => ∃ d P1 F1, o = .ok d P1 ∧ Gr pa F H F1 H1 ∧ RelS K pa me F0 H0 F1 σ H1 (S.wp P1) ∧ Dx K F1 H1 pa v d ∧ PostS K E pa me F0 H0 F1 D (k d P1)) := by
  cases o with
  | ok d P1 => exact fun v F' H' g p t => ⟨d, P1, F', rfl, g, R.grow g p, t, PostS.rebase g.ff h⟩
  | ex C fs ds P => exact PostX.rebase R.gr R.rel.po h
  | no => exact h
theorem stepA {o : Out (List Da)} {k : List Da → Po → OutS} (R : RelS K pa me F0 H0 F σ H S) (h : PostS K E pa me F0 H0 F D (obind o k)) :
    PostA K E pa F H o (fun vs H1 => ∃ ds P1 F1, o = .ok ds P1 ∧ Gr pa F H F1 H1 ∧ RelS K pa me F0 H0 F1 σ H1 (S.wp P1) ∧ Dxs K F1 H1 pa vs ds ∧ PostS K E pa me F0 H0 F1 D (k ds P1)) := by
  cases o with
  | ok d P1 => exact fun v F' H' g p t => ⟨d, P1, F', rfl, g, R.grow g p, t, PostS.rebase g.ff h⟩
  | ex C fs ds P => exact PostX.rebase R.gr R.rel.po h
  | no => exact h
theorem stepT {o : Out Bool} {k : Bool → Po → OutS} (R : RelS K pa me F0 H0 F σ H S) (h : PostS K E pa me F0 H0 F D (obind o k)) :
    PostT K E pa F H o (fun b H1 => ∃ P1 F1, o = .ok b P1 ∧ Gr pa F H F1 H1 ∧ RelS K pa me F0 H0 F1 σ H1 (S.wp P1) ∧ PostS K E pa me F0 H0 F1 D (k b P1)) := by
  cases o with
  | ok d P1 => exact fun F' H' g p => ⟨P1, F', rfl, g, R.grow g p, PostS.rebase g.ff h⟩
  | ex C fs ds P => exact PostX.rebase R.gr R.rel.po h
  | no => exact h
theorem RelS.set {i : Nat} {v : V} {d : Da} (R : RelS K pa me F0 H0 F σ H S) (t : Dt K F pa v d) : RelS K pa me F0 H0 F (σ.set i (some v)) H (setSl S i (.dat d)) where
  rel := R.rel.set t
  gr := R.gr
  nw := fun j a h e => by
    by_cases c : i = j
    · subst c
      rcases h with ⟨ds, h⟩ | ⟨C, fs, ds, h⟩
      · rcases setSl_get S i i _ _ h with ⟨_, e1⟩ | ⟨e1, _⟩
        · cases e1
        · exact absurd rfl e1
      · rcases setSl_get S i i _ _ h with ⟨_, e1⟩ | ⟨e1, _⟩
        · cases e1
        · exact absurd rfl e1
    · rw [set_get c] at e
      refine R.nw j a ?_ e
      rcases h with ⟨ds, h⟩ | ⟨C, fs, ds, h⟩
      · rcases setSl_get S i j _ _ h with ⟨e1, _⟩ | ⟨_, e1⟩
        · exact absurd e1 c
        · exact .inl ⟨ds, e1⟩
      · rcases setSl_get S i j _ _ h with ⟨e1, _⟩ | ⟨_, e1⟩
        · exact absurd e1 c
        · exact .inr ⟨C, fs, ds, e1⟩
  sf := fun j C fs ds h => by
    by_cases c : i = j
    · subst c
      rcases setSl_get S i i _ _ h with ⟨_, e1⟩ | ⟨e1, _⟩
      · cases e1
      · exact absurd rfl e1
    · rcases setSl_get S i j _ _ h with ⟨e1, _⟩ | ⟨_, e1⟩
      · exact absurd e1 c
      · rw [set_get c]
        exact R.sf j C fs ds e1
theorem RelS.unset {i : Nat} {v : Option V} (R : RelS K pa me F0 H0 F σ H S) : RelS K pa me F0 H0 F (σ.set i v) H (setSl S i .un) where
  rel := R.rel.unset
  gr := R.gr
  nw := fun j a h e => by
    by_cases c : i = j
    · subst c
      rcases h with ⟨ds, h⟩ | ⟨C, fs, ds, h⟩
      · rcases setSl_get S i i _ _ h with ⟨_, e1⟩ | ⟨e1, _⟩
        · cases e1
        · exact absurd rfl e1
      · rcases setSl_get S i i _ _ h with ⟨_, e1⟩ | ⟨e1, _⟩
        · cases e1
        · exact absurd rfl e1
    · rw [set_get c] at e
      refine R.nw j a ?_ e
      rcases h with ⟨ds, h⟩ | ⟨C, fs, ds, h⟩
      · rcases setSl_get S i j _ _ h with ⟨e1, _⟩ | ⟨_, e1⟩
        · exact absurd e1 c
        · exact .inl ⟨ds, e1⟩
      · rcases setSl_get S i j _ _ h with ⟨e1, _⟩ | ⟨_, e1⟩
        · exact absurd e1 c
        · exact .inr ⟨C, fs, ds, e1⟩
  sf := fun j C fs ds h => by
    by_cases c : i = j
    · subst c
      rcases setSl_get S i i _ _ h with ⟨_, e1⟩ | ⟨e1, _⟩
      · cases e1
      · exact absurd rfl e1
    · rcases setSl_get S i j _ _ h with ⟨e1, _⟩ | ⟨_, e1⟩
      · exact absurd e1 c
      · rw [set_get c]
        exact R.sf j C fs ds e1
theorem RelS.setMany : ∀ {is : List Nat} {vs : List V} {ds : List Da} {σ : L2.St} {S : Ev}, RelS K pa me F0 H0 F σ H S → Dts K F pa vs ds → RelS K pa me F0 H0 F (DL.setMany σ is vs) H (setManyS S is ds)
  | [], _, _, _, _, R, _ => R
  | _ :: _, _, _, _, _, R, .nil => R
  | i :: is, v :: vs, d :: ds, σ, S, R, .cons h t => by
    show RelS K pa me F0 H0 F (DL.setMany (σ.set i (some v)) is vs) H (setManyS (setSl S i (.dat d)) is ds)
    exact RelS.setMany (R.set h) t
theorem tg_stepS {S' : Ev} {is : List Nat} {v : V} {d : Da} (R : RelS K pa me F0 H0 F σ H S) (t : Dt K F pa v d) (h : bindTg is d S = some S') :
    ∃ xs, RelS K pa me F0 H0 F (DL.setMany σ is xs) H S' ∧ ∀ Q : L2.St → Hp → Prop, Q (DL.setMany σ is xs) H → gTg K is v σ H Q := by
  have tup : ∀ ds, d = .tup ds → gTg K is = (fun v σ H Q => ∃ a xs, v = .ref a ∧ SqT K H a xs ∧ xs.length = is.length ∧ Q (DL.setMany σ is xs) H) → ds.length = is.length → S' = setManyS S is ds → ∃ xs, RelS K pa me F0 H0 F (DL.setMany σ is xs) H S' ∧ ∀ Q : L2.St → Hp → Prop, Q (DL.setMany σ is xs) H → gTg K is v σ H Q := fun ds e1 e2 e3 e4 => by
    subst e1 e4
    obtain ⟨a, xs, h1, h2, h3⟩ := Dt.tup_inv t
    refine ⟨xs, R.setMany h3, fun Q q => ?_⟩
    rw [e2]
    exact ⟨a, xs, h1, same_t R.rel.fh h2, by rw [h3.length, e3], q⟩
  unfold bindTg at h
  split at h
  · rename_i i
    by_cases c : d.fz = true
    · rw [if_pos c] at h
      cases h
      exact ⟨[v], R.set t, fun Q q => q⟩
    · rw [if_neg c] at h
      cases h
  · split at h
    · split at h
      · cases h; exact tup _ rfl rfl rfl rfl
      · cases h
    · cases h
  · split at h
    · split at h
      · cases h; exact tup _ rfl rfl rfl rfl
      · cases h
    · cases h
  · split at h
    · split at h
      · cases h; exact tup _ rfl rfl rfl rfl
      · cases h
    · cases h
  · split at h
    · split at h
      · cases h; exact tup _ rfl rfl rfl rfl
      · cases h
    · cases h
  · cases h
theorem RelS.own {i : Nat} {a : Addr} {xs : List V} {ds : List Da} (R : RelS K pa me F0 H0 F σ H S) (hF : F a = none) (hp : NM pa a) (hx : NX H a) (h0 : H0 a = none) (t : Dts K F pa xs ds)
    (hi : i < S.sl.length) (hd : ∀ j ds, j ≠ i → (S.sl[j]? = some (.own ds) ∨ ∃ C fs, S.sl[j]? = some (.slf C fs ds)) → σ[j]? ≠ some (some (.ref a))) : RelS K pa me F0 H0 F (σ.set i (some (.ref a))) (upd H a (.lst xs)) (setSl S i (.own ds)) where
  rel := {
    fh := fun b u e => by rw [upd_ne (ne_of_none e hF)]; exact R.rel.fh b u e
    po := R.rel.po.tail hp hx
    sl := fun j e h => by
      rcases setSl_get S i j _ _ h with ⟨c, e1⟩ | ⟨c, e1⟩
      · cases e1
      · obtain ⟨w, h1, h2⟩ := R.rel.sl j e e1
        exact ⟨w, by rw [set_get c]; exact h1, h2⟩
    ow := fun j es h => by
      rcases setSl_get S i j _ _ h with ⟨c, e1⟩ | ⟨c, e1⟩
      · subst c
        cases e1
        exact ⟨a, xs, List.getElem?_set_self (by rw [R.rel.len]; exact hi), hF, hp, upd_same, t⟩
      · obtain ⟨b, ys, h1, h2, h3, h4, h5⟩ := R.rel.ow j es e1
        have hb : b ≠ a := fun e => hd j es (Ne.symm c) (.inl e1) (by rw [h1, e])
        exact ⟨b, ys, by rw [set_get c]; exact h1, h2, h3, by rw [upd_ne hb]; exact h4, h5⟩
    dj := fun j l es fs b h1 h2 h3 h4 => by
      rcases setSl_get S i j _ _ h1 with ⟨c, e1⟩ | ⟨c, e1⟩
      · rcases setSl_get S i l _ _ h2 with ⟨c2, e2⟩ | ⟨c2, e2⟩
        · rw [← c, ← c2]
        · subst c
          rw [List.getElem?_set_self (by rw [R.rel.len]; exact hi)] at h3
          cases h3
          rw [set_get c2] at h4
          exact absurd h4 (hd l fs (Ne.symm c2) (.inl e2))
      · rcases setSl_get S i l _ _ h2 with ⟨c2, e2⟩ | ⟨c2, e2⟩
        · subst c2
          rw [List.getElem?_set_self (by rw [R.rel.len]; exact hi)] at h4
          cases h4
          rw [set_get c] at h3
          exact absurd h3 (hd j es (Ne.symm c) (.inl e1))
        · rw [set_get c] at h3
          rw [set_get c2] at h4
          exact R.rel.dj j l es fs b e1 e2 h3 h4
    se := fun j C fs es h => by
      rcases setSl_get S i j _ _ h with ⟨c, e1⟩ | ⟨c, e1⟩
      · cases e1
      · obtain ⟨b, dx, ys, h1, h2, h3, h4, h5⟩ := R.rel.se j C fs es e1
        have hb : b ≠ a := fun e => hd j es (Ne.symm c) (.inr ⟨C, fs, e1⟩) (by rw [h1, e])
        exact ⟨b, dx, ys, by rw [set_get c]; exact h1, h2, h3, by rw [upd_ne hb]; exact h4, h5⟩
    tl := R.rel.tl
    len := by
      rw [List.length_set, R.rel.len]
      simp [setSl] }
  gr := R.gr.tail hF h0
  nw := fun j b h e => by
    by_cases c : i = j
    · subst c
      rw [List.getElem?_set_self (by rw [R.rel.len]; exact hi)] at e
      cases e
      exact h0
    · rw [set_get c] at e
      refine R.nw j b ?_ e
      rcases h with ⟨es, h⟩ | ⟨C, fs, es, h⟩
      · rcases setSl_get S i j _ _ h with ⟨e1, _⟩ | ⟨_, e1⟩
        · exact absurd e1 c
        · exact .inl ⟨es, e1⟩
      · rcases setSl_get S i j _ _ h with ⟨e1, _⟩ | ⟨_, e1⟩
        · exact absurd e1 c
        · exact .inr ⟨C, fs, es, e1⟩
  sf := fun j C fs ds h => by
    by_cases c : i = j
    · subst c
      rcases setSl_get S i i _ _ h with ⟨_, e1⟩ | ⟨e1, _⟩
      · cases e1
      · exact absurd rfl e1
    · rcases setSl_get S i j _ _ h with ⟨e1, _⟩ | ⟨_, e1⟩
      · exact absurd e1 c
      · rw [set_get c]
        exact R.sf j C fs ds e1
theorem RelS.frz {j : Nat} {ds : List Da} (R : RelS K pa me F0 H0 F σ H S) (hj : S.sl[j]? = some (.own ds)) : ∃ F', Same F F' ∧ RelS K pa me F0 H0 F' σ H (setSl S j (.dat (.lst ds))) := by
  obtain ⟨a, xs, h1, h2, h3, h4, h5⟩ := R.rel.ow j ds hj
  have h0 : H0 a = none := R.nw j a (.inl ⟨ds, hj⟩) h1
  have sm : Same F (upd F a (.lst xs)) := fun b u e => by rw [upd_ne (ne_of_none e h2)]; exact e
  refine ⟨upd F a (.lst xs), sm, ⟨?_, R.gr.freeze h4 h2 h0, fun l b h e => R.nw l b ?_ e, fun l C fs es h => R.sf l C fs es ?_⟩⟩
  · exact {
      fh := (R.gr.freeze h4 h2 h0).fh
      po := R.rel.po.freeze h3
      sl := fun l e h => by
        rcases setSl_get S j l _ _ h with ⟨c, e1⟩ | ⟨c, e1⟩
        · subst c
          cases e1
          exact ⟨.ref a, h1, .lst upd_same (h5.mono sm)⟩
        · obtain ⟨w, g1, g2⟩ := R.rel.sl l e e1
          exact ⟨w, g1, g2.mono sm⟩
      ow := fun l es h => by
        rcases setSl_get S j l _ _ h with ⟨c, e1⟩ | ⟨c, e1⟩
        · cases e1
        · obtain ⟨b, ys, g1, g2, g3, g4, g5⟩ := R.rel.ow l es e1
          have hb : b ≠ a := fun e => c (R.rel.dj j l ds es a hj e1 h1 (by rw [g1, e]))
          exact ⟨b, ys, g1, by rw [upd_ne hb]; exact g2, g3, g4, g5.mono sm⟩
      dj := fun l m es fs b g1 g2 g3 g4 => by
        rcases setSl_get S j l _ _ g1 with ⟨c, e1⟩ | ⟨c, e1⟩
        · cases e1
        · rcases setSl_get S j m _ _ g2 with ⟨c2, e2⟩ | ⟨c2, e2⟩
          · cases e2
          · exact R.rel.dj l m es fs b e1 e2 g3 g4
      se := fun l C fs es h => by
        rcases setSl_get S j l _ _ h with ⟨c, e1⟩ | ⟨c, e1⟩
        · cases e1
        · obtain ⟨b, dx, ys, g1, g2, g3, g4, g5, g6⟩ := R.rel.se l C fs es e1
          have hb : b ≠ a := fun e => by rw [e, h4] at g4; cases g4
          exact ⟨b, dx, ys, g1, by rw [upd_ne hb]; exact g2, g3, g4, g5, g6.mono sm⟩
      tl := R.rel.tl
      len := by rw [R.rel.len]; simp [setSl] }
  · rcases h with ⟨es, h⟩ | ⟨C, fs, es, h⟩
    · rcases setSl_get S j l _ _ h with ⟨_, e1⟩ | ⟨_, e1⟩
      · cases e1
      · exact .inl ⟨es, e1⟩
    · rcases setSl_get S j l _ _ h with ⟨_, e1⟩ | ⟨_, e1⟩
      · cases e1
      · exact .inr ⟨C, fs, es, e1⟩
  · rcases setSl_get S j l _ _ h with ⟨_, e1⟩ | ⟨_, e1⟩
    · cases e1
    · exact e1
theorem putD_ok {f : Str} {v : V} {d : Da} (t : Dt K F pa v d) : ∀ (fs : List Str) (xs : List V) (ds : List Da), fs.length = xs.length → Dts K F pa xs ds → ∃ ys, putF f v (fs.zip xs) = (putD f d fs ds).1.zip ys ∧ (putD f d fs ds).1.length = ys.length ∧ Dts K F pa ys (putD f d fs ds).2
  | [], [], _, _, .nil => ⟨[v], rfl, rfl, .cons t .nil⟩
  | g :: fs, x :: xs, _, h, .cons (ds := ds) (d := e) h1 h2 => by
    show ∃ ys, (if g = f then (g, v) :: (fs.zip xs) else (g, x) :: putF f v (fs.zip xs)) = _ ∧ _
    unfold putD
    by_cases c : g = f
    · rw [if_pos c, if_pos c]
      exact ⟨v :: xs, rfl, by simpa using h, .cons t h2⟩
    · rw [if_neg c, if_neg c]
      obtain ⟨ys, e1, e2, e3⟩ := putD_ok t fs xs ds (by simpa using h) h2
      exact ⟨x :: ys, by rw [e1]; rfl, by simpa using e2, .cons h1 e3⟩
  | [], _ :: _, _, h, _ => by simp at h
  | _ :: _, [], _, h, _ => by simp at h
theorem RelS.fld {C : Str} {fs : List Str} {ds : List Da} {a : Addr} {dx : Addr} {ys : List V} {fs' : List Str} {ds' : List Da} (R : RelS K pa me F0 H0 F σ H S) (hi : S.sl[(0:Nat)]? = some (.slf C fs ds)) (h1 : σ[(0:Nat)]? = some (some (.ref a))) (hF : F a = none) (hp : NM pa a)
    (hH : ∃ fz, H a = some (.ins (He.ga K C) dx fz)) (hu : ∀ (j : Nat), j ≠ 0 → (∃ C fs ds, S.sl[j]? = some (.slf C fs ds)) → False) (l : fs'.length = ys.length) (t : Dts K F pa ys ds') :
    RelS K pa me F0 H0 F σ (upd H a (.ins (He.ga K C) dx (fs'.zip ys))) (setSl S 0 (.slf C fs' ds')) := by
  have h0 : H0 a = none := R.nw 0 a (.inr ⟨C, fs, ds, hi⟩) h1
  obtain ⟨fz, hH⟩ := hH
  refine ⟨?_, R.gr.tail hF h0, fun j b h e => R.nw j b ?_ e, fun j C2 gs es h => ?_⟩
  · exact {
      fh := fun b u e => by rw [upd_ne (ne_of_none e hF)]; exact R.rel.fh b u e
      po := R.rel.po.tail hp (nx_of hH)
      sl := fun j e h => by
        rcases setSl_get S 0 j _ _ h with ⟨c, e1⟩ | ⟨c, e1⟩
        · cases e1
        · exact R.rel.sl j e e1
      ow := fun j es h => by
        rcases setSl_get S 0 j _ _ h with ⟨c, e1⟩ | ⟨c, e1⟩
        · cases e1
        · obtain ⟨b, zs, g1, g2, g3, g4, g5⟩ := R.rel.ow j es e1
          have hb : b ≠ a := fun e => by rw [e, hH] at g4; cases g4
          exact ⟨b, zs, g1, g2, g3, by rw [upd_ne hb]; exact g4, g5⟩
      dj := fun j m es gs b g1 g2 g3 g4 => by
        rcases setSl_get S 0 j _ _ g1 with ⟨c, e1⟩ | ⟨c, e1⟩
        · cases e1
        · rcases setSl_get S 0 m _ _ g2 with ⟨c2, e2⟩ | ⟨c2, e2⟩
          · cases e2
          · exact R.rel.dj j m es gs b e1 e2 g3 g4
      se := fun j C2 gs es h => by
        rcases setSl_get S 0 j _ _ h with ⟨c, e1⟩ | ⟨c, e1⟩
        · subst c
          cases e1
          exact ⟨a, dx, ys, h1, hF, hp, upd_same, l, t⟩
        · exact (hu j (Ne.symm c) ⟨C2, gs, es, e1⟩).elim
      tl := R.rel.tl
      len := by rw [R.rel.len]; simp [setSl] }
  · rcases h with ⟨es, h⟩ | ⟨C, fs, es, h⟩
    · rcases setSl_get S 0 j _ _ h with ⟨_, e1⟩ | ⟨_, e1⟩
      · cases e1
      · exact .inl ⟨es, e1⟩
    · rcases setSl_get S 0 j _ _ h with ⟨c, e1⟩ | ⟨_, e1⟩
      · subst c
        exact .inr ⟨_, _, _, hi⟩
      · exact .inr ⟨C, fs, es, e1⟩
  · rcases setSl_get S 0 j _ _ h with ⟨c, e1⟩ | ⟨_, e1⟩
    · subst c
      exact R.sf 0 _ _ _ hi
    · exact R.sf j C2 gs es e1
end

def lclB (sc : Scope) (x : Str) : Bool := match sc.names.lookup x with
  | some .local => true
  | _ => false
def swNone (sc : Scope) (ts : List Expr) : Expr → Bool
  | .Tuple vs _ _ => !(ts.length == 2 || ts.length == 3) || ts.any (fun t => match t with
      | .Name x _ => !lclB sc x
      | _ => true) || vs.all (foldedForSure 8)
  | _ => true
def cAsg (sc : Scope) (N : List Str) (i : Nat) (f : Expr → Bool) : Stmt → Bool
  | .Assign [.Name x _] v _ => decide (N[i]? = some x) && locB sc x && f v
  | _ => false
def cAsgT (sc : Scope) (N : List Str) (is : List Nat) (f : Expr → Bool) : Stmt → Bool
  | .Assign [.Tuple ts k p] v _ => chkTg sc N is (.Tuple ts k p) && f v && nocomp v && swNone sc ts v
  | _ => false
def cPar2 (sc : Scope) (N : List Str) (i j : Nat) (f : List Expr → Bool) : Stmt → Bool
  | .Assign [.Tuple [.Name x px, .Name y py] _ _] (.Tuple [u, v] _ _) _ =>
    decide (N[i]? = some x) && decide (N[j]? = some y) && decide (i ≠ j) && lclB sc x && lclB sc y && (px.line == py.line) && nostar u && nostar v && !(foldedForSure 8 u && foldedForSure 8 v) && !(constantsAlone 8 u && constantsAlone 8 v) && f [u, v]
  | _ => false
def cPar3 (sc : Scope) (N : List Str) (i j l : Nat) (f : List Expr → Bool) : Stmt → Bool
  | .Assign [.Tuple [.Name x px, .Name y py, .Name z pz] _ _] (.Tuple [u, v, w] _ _) _ =>
    decide (N[i]? = some x) && decide (N[j]? = some y) && decide (N[l]? = some z) && decide (i ≠ j) && decide (i ≠ l) && decide (j ≠ l) && lclB sc x && lclB sc y && lclB sc z && (px.line == py.line) && (px.line == pz.line) && nostar u && nostar v && nostar w &&
    !(foldedForSure 8 u && foldedForSure 8 v && foldedForSure 8 w) && !(constantsAlone 8 u && constantsAlone 8 v && constantsAlone 8 w) && f [u, v, w]
  | _ => false
def cPar (sc : Scope) (N : List Str) (is : List Nat) (f : List Expr → Bool) (st : Stmt) : Bool := match is with
  | [i, j] => cPar2 sc N i j f st
  | [i, j, l] => cPar3 sc N i j l f st
  | _ => false
def cOwn (sc : Scope) (N : List Str) (i : Nat) (f : List Expr → Bool) : Stmt → Bool
  | .Assign [.Name x _] (.List us _) _ => decide (N[i]? = some x) && locB sc x && f us
  | _ => false
def cOwnC (sc : Scope) (N : List Str) (i : Nat) (f g : Expr → Bool) : Stmt → Bool
  | .Assign [.Name x _] (.BinOp l .Add r _) _ => decide (N[i]? = some x) && locB sc x && f l && g r
  | _ => false
def cParN (sc : Scope) (N : List Str) (i j : Nat) (f : Expr → Bool) : Stmt → Bool
  | .Assign [.Tuple [.Name x px, .Name y py] _ _] (.Tuple [u, .List [] _] _ _) _ =>
    decide (N[i]? = some x) && decide (N[j]? = some y) && decide (i ≠ j) && lclB sc x && lclB sc y && (px.line == py.line) && nostar u && f u
  | _ => false
def cParM (sc : Scope) (N : List Str) (i j : Nat) (f : Expr → Bool) : Stmt → Bool
  | .Assign [.Tuple [.Name x px, .Name y py] _ _] (.Tuple [.List [] _, u] _ _) _ =>
    decide (N[i]? = some x) && decide (N[j]? = some y) && decide (i ≠ j) && lclB sc x && lclB sc y && (px.line == py.line) && nostar u && f u
  | _ => false
def cApp (sc : Scope) (N : List Str) (nm : Str) (i : Nat) (f : Expr → Bool) : Stmt → Bool
  | .Expr (.Call (.Attribute (.Name x _) m apos) [v] [] pos) _ => decide (N[i]? = some x) && visB sc x && okNm x && nmEq m nm && (apos.endLine == pos.line) && nostar v && f v
  | _ => false
def cIf (f : Expr → Bool) (g h : List Stmt → Bool) : Stmt → Bool
  | .If c p q _ => tst c && f c && g p && h q
  | _ => false
def cFor (sc : Scope) (N : List Str) (tg : List Nat) (tp : Bool) (f : Expr → Bool) (g : List Stmt → Bool) : Stmt → Bool
  | .For tgx iter body [] _ => noset iter && (!tp || isTup tgx) && f iter && chkTg sc N tg tgx && g body
  | _ => false
def cRet (f : Expr → Bool) : Stmt → Bool
  | .Return (some v) _ => f v
  | _ => false
def cRetN : Stmt → Bool
  | .Return none _ => true
  | _ => false
def cExpr (f : Expr → Bool) : Stmt → Bool
  | .Expr v _ => nocomp v && f v
  | _ => false
def cBrk : Stmt → Bool
  | .Break _ => true
  | _ => false
def cCnt : Stmt → Bool
  | .Continue _ => true
  | _ => false
def cPas : Stmt → Bool
  | .Pass _ => true
  | _ => false
def cSetF (sc : Scope) (N : List Str) (f : Str) (g : Expr → Bool) : Stmt → Bool
  | .Assign [.Attribute (.Name x _) h _] v _ => decide (N[(0:Nat)]? = some x) && visB sc x && okNm x && nmEq f h && g v
  | _ => false
def cRai (sc : Scope) (C : Str) (g : Expr → Bool) : Stmt → Bool
  | .Raise (some (.Call (.Name x _) [v] [] _)) none _ => nmEq C x && gloB sc x && okNm x && nostar v && g v
  | _ => false
def spX (K : PySem.W.Frag) (C f : Str) : Sp := fun vs H Q _ => ∃ (a : Addr) (v : V), vs = [.ref a, v] ∧ H a = some (exo a (He.ga K C) none) ∧
  ∀ dx, H dx = none → dx ≠ a → Q .non (upd (upd H dx (exd dx [(f, v)])) a (exo a (He.ga K C) (some dx)))
def RaiseOk (P : Program) (w : World) (K : PySem.W.Frag) (mg : Str → Option Value) (base : Heap) (k : Nat) (C f : Str) : Prop :=
  ∃ fI fd ps, OexC K (He.ga K C) ∧ PySem.W.findIn K (.ref (He.ga K C)) "__init__" = some (some (.ref fI)) ∧ PySem.W.typeIn K (.ref fI) = some (.type "function") ∧ FnOk P w K mg base C8.CX0 k fI fd ps (spX K C f) ∧ Binds K fd ps [] ∧ mg C = some (.ref (He.ga K C))
def cCons (f : Stmt → Bool) (g : List Stmt → Bool) : List Stmt → Bool
  | st :: sts => f st && g sts
  | [] => false
def CE.isLc : CE → Bool
  | .lc _ _ _ _ _ => true
  | _ => false
mutual
def chkS (sc : Scope) (N : List Str) : CS → Stmt → Bool
  | .asg i e => cAsg sc N i (chkE sc N e)
  | .asgT is e => cAsgT sc N is (chkE sc N e)
  | .asgL is e => cAsgT sc N is (chkE sc N e)
  | .par is es => cPar sc N is (chkA sc N es)
  | .own i es => cOwn sc N i (chkA sc N es)
  | .ownC i a b => cOwnC sc N i (chkE sc N a) (chkE sc N b)
  | .ownL i e => fun st => e.isLc && cAsg sc N i (chkE sc N e) st
  | .parN i j e => cParN sc N i j (chkE sc N e)
  | .parM i j e => cParM sc N i j (chkE sc N e)
  | .app i e => cApp sc N "append" i (chkE sc N e)
  | .ext i e => cApp sc N "extend" i (chkE sc N e)
  | .ife t a b => cIf (chkE sc N t) (chkSs sc N a) (chkSs sc N b)
  | .forr tg it b => cFor sc N tg it.tup (chkI sc N it) (chkSs sc N b)
  | .ret e => cRet (chkE sc N e)
  | .retN => cRetN
  | .expr e => cExpr (chkE sc N e)
  | .brk => cBrk
  | .cnt => cCnt
  | .pas => cPas
  | .setF _ f e => cSetF sc N f (chkE sc N e)
  | .dead => fun _ => true
  | .rai C _ e => cRai sc C (chkE sc N e)
def chkSs (sc : Scope) (N : List Str) : CSs → List Stmt → Bool
  | .nil => fun sts => sts.isEmpty
  | .cons s r => cCons (chkS sc N s) (chkSs sc N r)
  | .frz _ r => chkSs sc N r
  | .grp n chk _ r => fun sts => chk sc N (sts.take n) && chkSs sc N r (sts.drop n)
end
structure SxOk (X : Cx) (E : XK) (sc : Scope) (N : List Str) (k : Nat) : Prop where
  cx : CxOk X E sc N k
  sq : ∀ x, X.env.scope.names.lookup x = some .local ↔ lclB sc x = true
  kd : X.env.scope.kind = .function
  ps : PassesOwn (model X.prog X.w) X.A X.env X.xe
def GrpOk (P : Program) (w : World) (K : PySem.W.Frag) (mg : Str → Option Value) (base : Heap) (k : Nat) (chk : Scope → List Str → List Stmt → Bool) (f : Ev → OutS) : Prop :=
  ∀ ⦃X : Cx⦄ ⦃E : XK⦄ ⦃sc : Scope⦄ ⦃N : List Str⦄, X.prog = P → X.w = w → X.K = K → X.mg = mg → X.base = base → SxOk X E sc N k → ∀ pre : List Stmt, chk sc N pre = true → ∀ (rest : List Stmt) (u : Ev → OutS), PSs X rest (upS X.K E u) → PSs X (pre ++ rest) (upS X.K E fun S => (f S).then u)
mutual
def okS (P : Program) (w : World) (K : PySem.W.Frag) (mg : Str → Option Value) (base : Heap) (k : Nat) : CS → Prop
  | .asg _ e => okE P w K mg base k e
  | .asgT _ e => okE P w K mg base k e
  | .asgL _ e => okE P w K mg base k e
  | .par _ es => okA P w K mg base k es
  | .own _ es => okA P w K mg base k es
  | .ownC _ a b => okE P w K mg base k a ∧ okE P w K mg base k b
  | .ownL _ e => okE P w K mg base k e
  | .parN _ _ e => okE P w K mg base k e
  | .parM _ _ e => okE P w K mg base k e
  | .app _ e => okE P w K mg base k e
  | .ext _ e => okE P w K mg base k e
  | .ife t a b => okE P w K mg base k t ∧ okSs P w K mg base k a ∧ okSs P w K mg base k b
  | .forr _ it b => okI P w K mg base k it ∧ okSs P w K mg base k b
  | .ret e => okE P w K mg base k e
  | .expr e => okE P w K mg base k e
  | .setF C f e => Cls K (He.ga K C) ∧ NoAttr K (He.ga K C) f ∧ okE P w K mg base k e
  | .rai C f e => RaiseOk P w K mg base k C f ∧ okE P w K mg base k e
  | _ => True
def okSs (P : Program) (w : World) (K : PySem.W.Frag) (mg : Str → Option Value) (base : Heap) (k : Nat) : CSs → Prop
  | .nil => True
  | .cons s r => okS P w K mg base k s ∧ okSs P w K mg base k r
  | .frz _ r => okSs P w K mg base k r
  | .grp _ chk f r => GrpOk P w K mg base k chk f ∧ okSs P w K mg base k r
end
theorem sndO (t : CEo) : SndO t := by
  cases t with
  | none => exact snd_onone
  | some a => exact snd_osome a (snd a)
section
variable {X : Cx} {E : XK} {sc : Scope} {N : List Str} {k : Nat} {pos : Pos}
theorem SxOk.bk (C : SxOk X E sc N k) : X.env.blockKind = .function := by
  unfold Env.blockKind
  rw [C.kd]
  rfl
theorem SxOk.nn (C : SxOk X E sc N k) : X.N.Nodup := by rw [C.cx.hN]; exact C.cx.nd
theorem SxOk.nm (C : SxOk X E sc N k) {i : Nat} {x : Str} (h : decide (N[i]? = some x) = true) : X.N[i]? = some x := by rw [C.cx.hN]; exact of_decide_eq_true h
theorem lcl_of {x : Str} (h : lclB sc x = true) : sc.names.lookup x = some .local := by
  unfold lclB at h
  split at h
  · assumption
  · cases h
theorem SxOk.lcl (C : SxOk X E sc N k) {x : Str} (h : lclB sc x = true) : X.env.scope.names.lookup x = some .local := (C.sq x).mpr h
theorem s_pas : PS X (.Pass pos) (upS X.K E (evS .pas)) := PS.imp ps_pass fun D σ H ⟨pa, me, F0, H0, F, S, R, q⟩ => by
  unfold evS at q
  exact q σ F H R (Same.refl _)
theorem s_brk : PS X (.Break pos) (upS X.K E (evS .brk)) := PS.imp ps_break fun D σ H ⟨pa, me, F0, H0, F, S, R, q⟩ => by
  unfold evS at q
  exact q σ F H R (Same.refl _)
theorem s_cnt : PS X (.Continue pos) (upS X.K E (evS .cnt)) := PS.imp ps_continue fun D σ H ⟨pa, me, F0, H0, F, S, R, q⟩ => by
  unfold evS at q
  exact q σ F H R (Same.refl _)
theorem s_retN : PS X (.Return none pos) (upS X.K E (evS .retN)) := PS.imp ps_retN fun D σ H ⟨pa, me, F0, H0, F, S, R, q⟩ => by
  unfold evS at q
  exact q .non F H R.gr R.rel.po .non
theorem s_dead {st : Stmt} : PS X st (upS X.K E (evS .dead)) := PS.imp ps_never fun D σ H ⟨pa, me, F0, H0, F, S, R, q⟩ => by
  unfold evS at q
  exact q
theorem s_ret {v : Expr} {e : CE} (h : PE X v (up X.K E (evE e))) : PS X (.Return (some v) pos) (upS X.K E (evS (.ret e))) := PS.imp (ps_ret h) fun D σ H ⟨pa, me, F0, H0, F, S, R, q⟩ => by
  unfold evS at q
  refine ⟨pa, F, S, R.rel, (step R q).mono ?_⟩
  rintro v H1 ⟨d, P1, F1, _, g, R1, t, q1⟩
  by_cases c : d.fz = true
  · rw [if_pos c] at q1
    exact q1 v F1 H1 R1.gr R1.rel.po (t.dt c)
  · rw [if_neg c] at q1
    exact q1.elim
theorem sw_no {v : Expr} {t : Option Expr} {l : Nat} {env : Env} (h : nocomp v = true) : swapsWith v t l env = pure false := by
  cases v <;> first | rfl | cases h
theorem s_expr {v : Expr} {e : CE} (hn : nocomp v = true) (h : PE X v (up X.K E (evE e))) : PS X (.Expr v pos) (upS X.K E (evS (.expr e))) := PS.imp (ps_expr h (sw_no hn)) fun D σ H ⟨pa, me, F0, H0, F, S, R, q⟩ => by
  unfold evS at q
  refine ⟨pa, F, S, R.rel, (step R q).mono ?_⟩
  rintro v H1 ⟨d, P1, F1, _, g, R1, t, q1⟩
  exact q1 σ F1 H1 R1 (Same.refl _)
theorem asg_tr {i : Nat} {e : CE} {te : TE} (hte : ∀ σ H Q, up X.K E (evE e) σ H Q → te σ H Q) (D : Ends) (σ : L2.St) (H : Hp) (h : upS X.K E (evS (.asg i e)) D σ H) : tAsg te (gName i) D σ H := by
  obtain ⟨pa, me, F0, H0, F, S, R, q⟩ := h
  unfold evS at q
  refine hte _ _ _ ⟨pa, F, S, R.rel, (step R q).mono ?_⟩
  rintro v H1 ⟨d, P1, F1, _, g, R1, t, q1⟩
  by_cases c : d.fz = true
  · rw [if_pos c] at q1
    exact q1 _ F1 H1 (R1.set (t.dt c)) (Same.refl _)
  · rw [if_neg c] at q1
    exact q1.elim
theorem xo_lc {o : XO} {a : Expr} {b : List Comprehension} {c : Scope} {d : Pos} : xoSub sc o (.ListComp a b c d) = none := by cases o <;> rfl
theorem xo_sc {o : XO} {a : Expr} {b : List Comprehension} {c : Scope} {d : Pos} : xoSub sc o (.SetComp a b c d) = none := by cases o <;> rfl
theorem xo_dc {o : XO} {a a' : Expr} {b : List Comprehension} {c : Scope} {d : Pos} : xoSub sc o (.DictComp a a' b c d) = none := by cases o <;> rfl
theorem s_asg {i : Nat} {x : Str} {px : Pos} {v : Expr} {e : CE} (C : SxOk X E sc N k) (hi : decide (N[i]? = some x) = true) (hl : locB sc x = true) (hv : chkE sc N e v = true) (ho : okE X.prog X.w X.K X.mg X.base k e) : PS X (.Assign [.Name x px] v pos) (upS X.K E (evS (.asg i e))) := by
  have hx := (C.cx.loc x hl).1
  have hf := (C.cx.loc x hl).2
  have plain : ∀ (h : swapsWith v (some (.Name x px)) pos.line X.env = pure false), PS X (.Assign [.Name x px] v pos) (upS X.K E (evS (.asg i e))) := fun h =>
    PS.imp (ps_set C.nn (C.nm hi) hx (snd e C.cx v hv ho).pe h hf) (asg_tr fun σ H Q q => q)
  cases v with
  | ListComp elt gs scope p =>
    cases hb : (X.env.blockKind == .function && X.env.kindOf x == some .local && px.line == p.line && !(scope.names.any fun (n, k) => n == x && (k == .local || k == .cell))) with
    | false => exact plain (by unfold swapsWith; simp only [Expr.pos]; rw [hb])
    | true =>
      have hsw : swapsWith (.ListComp elt gs scope p) (some (.Name x px)) pos.line X.env = pure true := by unfold swapsWith; simp only [Expr.pos]; rw [hb]
      have hyl : X.env.scope.names.lookup x = some .local := by
        simp only [Bool.and_eq_true] at hb
        exact eq_of_beq hb.1.1.2
      cases e with
      | lc vs tg it t c =>
        rcases gs with _ | ⟨⟨tgx, iter, ifs, asy⟩, _ | ⟨g2, gs⟩⟩ <;> first | (exfalso; simp [chkE] at hv; done) | skip
        simp only [chkE, Bool.and_eq_true] at hv
        obtain ⟨⟨⟨⟨⟨⟨⟨⟨h1, h2⟩, h3⟩, h4⟩, h50, h5⟩, h6⟩, h7⟩, h8⟩, h9⟩ := hv
        have e1 : asy = 0 := of_decide_eq_true h1
        subst e1
        have htup : it.tup = true → isTup tgx = true := fun e => by
          rw [e] at h3
          simpa using h3
        have hs : ∀ x, foldedSetIterable iter X.env x = pure x := fun x => by
          cases iter <;> first | rfl | cases h2
        have o := ho
        simp only [okE] at o
        have hh := ps_setLc (spos := pos) (pos := p) (py := px) (g := gTg X.K tg) (tt := upT X.K E0 (evC t)) (te := up X.K E0 (evE c)) C.cx.calm C.nn (C.nm hi) hyl hsw (sndI it C.cx tgx iter htup h4 o.1) (C.cx.block h5) (fun s H A cl fp => g_tg (C.cx.blk (scope := scope) s H A cl fp h50) h6)
          (fun s H A cl fp => (sndO t (C.cx.blkI (scope := scope) s H A cl fp h50) o.2.1).2 ifs h8) (fun s H A cl fp => (snd c (C.cx.blkI (scope := scope) s H A cl fp h50) elt h9 o.2.2).pe) hs
        rw [own_snd] at hh
        refine PS.imp hh (asg_tr fun σ H Q q => ?_)
        refine lc_sound (of_decide_eq_true h7) (fun v σ H Q q => q) σ H Q ?_
        obtain ⟨pa, F, S, R, q⟩ := q
        unfold evE at q
        exact ⟨pa, F, S, R, q⟩
      | lc2 vs tg it vs1 tg1 it1 t c =>
        rcases gs with _ | ⟨⟨tgx, iter, ifs, asy⟩, _ | ⟨⟨tgx1, iter1, ifs1, asy1⟩, _ | ⟨g3, gs⟩⟩⟩ <;> first | (exfalso; simp [chkE] at hv; done) | skip
        simp only [chkE, Bool.and_eq_true] at hv
        obtain ⟨⟨⟨⟨⟨⟨⟨⟨⟨⟨⟨⟨⟨⟨⟨⟨h1, h2⟩, h3⟩, h4⟩, h5⟩, h6⟩, h7⟩, h80, h81⟩, h9⟩, h10⟩, h11⟩, h12⟩, h13⟩, h14⟩, h15⟩, h16⟩, h17⟩ := hv
        have e1 : asy = 0 := of_decide_eq_true h1
        have e2 : asy1 = 0 := of_decide_eq_true h2
        have e3 : ifs = [] := by cases ifs with | nil => rfl | cons _ _ => cases h11
        subst e1 e2 e3
        have htup : it.tup = true → isTup tgx = true := fun e => by
          rw [e] at h5
          simpa using h5
        have htup1 : it1.tup = true → isTup tgx1 = true := fun e => by
          rw [e] at h6
          simpa using h6
        have hs : ∀ x, foldedSetIterable iter X.env x = pure x := fun x => by
          cases iter <;> first | rfl | cases h3
        have hs1 : ∀ env x, foldedSetIterable iter1 env x = pure x := fun env x => by
          cases iter1 <;> first | rfl | cases h4
        have o := ho
        simp only [okE] at o
        have hh := ps_setLc2 (spos := pos) (pos := p) (py := px) (g := gTg X.K tg) (g1 := gTg X.K tg1) (tt := upT X.K E0 fun S => .ok true S.po) (vs1 := vs1) (tt1 := upT X.K E0 (evC t)) (te := up X.K E0 (evE c)) (wi1 := upI X.K E0 (evI it1)) C.cx.calm C.nn (C.nm hi) hyl hsw (sndI it C.cx tgx iter htup h7 o.1) (C.cx.block h81) (by rw [own_snd]; exact of_decide_eq_true h15) (fun s H A cl fp => g_tg (C.cx.blk (scope := scope) s H A cl fp h80) h9)
          (fun s H A cl fp => ⟨fun pins s σ H Q I q => pts_nil.run pins s σ H Q I (by obtain ⟨pa, F, S, R, q⟩ := q; exact q F H (Gr.refl R.fh) R.po)⟩)
          (fun s H A cl fp => sndI it1 (C.cx.blk (scope := scope) s H A cl fp h80) tgx1 iter1 htup1 h12 o.2.1) (fun s H A cl fp => g_tg (C.cx.blk (scope := scope) s H A cl fp h80) h13)
          (fun s H A cl fp => (sndO t (C.cx.blk (scope := scope) s H A cl fp h80) o.2.2.1).2 ifs1 h16) (fun s H A cl fp => (snd c (C.cx.blk (scope := scope) s H A cl fp h80) elt h17 o.2.2.2).pe) hs hs1
        rw [own_snd] at hh
        refine PS.imp hh (asg_tr fun σ H Q q => ?_)
        refine lc2_sound (of_decide_eq_true h10) (of_decide_eq_true h14) σ H Q ?_
        obtain ⟨pa, F, S, R, q⟩ := q
        unfold evE at q
        exact ⟨pa, F, S, R, q⟩
      | _ => exact absurd hv (by simp [chkE, xo_lc, optB])
  | SetComp => exact absurd hv (by cases e <;> simp [chkE, xo_sc, optB])
  | DictComp => exact absurd hv (by cases e <;> simp [chkE, xo_dc, optB])
  | _ => exact plain (sw_no rfl)
theorem sw_none {ts vs : List Expr} {k1 k2 : Nat} {p1 p2 : Pos} {env : Env} (hq : ∀ x, env.scope.names.lookup x = some .local → lclB sc x = true) (h : (!(ts.length == 2 || ts.length == 3) || ts.any (fun t => match t with
      | .Name x _ => !lclB sc x
      | _ => true) || vs.all (foldedForSure 8)) = true) : swappedStores [.Tuple ts k1 p1] (.Tuple vs k2 p2) env = pure none := by
  unfold swappedStores
  simp only
  split
  · rfl
  split
  · rfl
  split
  · rfl
  split
  · rfl
  rename_i h1 h2 h3 h4
  exfalso
  rw [Bool.or_eq_true, Bool.or_eq_true] at h
  rcases h with (h | h) | h
  · apply h1
    rw [h]
    rfl
  · apply h3
    rw [Bool.or_eq_true]
    left
    obtain ⟨t, ht, hn⟩ := List.any_eq_true.mp h
    have lt : ∀ (f : Expr → Option Str) (l : List Expr), t ∈ l → f t = none → (l.filterMap f).length < l.length := fun f l => by
      induction l with
      | nil => intro m; cases m
      | cons y ys ih =>
        intro m e
        rcases List.mem_cons.mp m with rfl | m
        · rw [List.filterMap_cons_none e]
          exact Nat.lt_succ_of_le (List.length_filterMap_le _ _)
        · cases hy : f y with
          | none => rw [List.filterMap_cons_none hy]; exact Nat.lt_succ_of_lt (ih m e)
          | some z => rw [List.filterMap_cons_some hy]; exact Nat.succ_lt_succ (ih m e)
    rw [bne_iff_ne]
    refine Nat.ne_of_lt (lt _ ts ht ?_)
    cases t with
    | Name x p =>
      have nl : env.kindOf x ≠ some .local := fun e => by
        have e2 := hq x e
        simp [e2] at hn
      have nb : (env.kindOf x == some NameKind.local) = false := by
        cases hb : (env.kindOf x == some NameKind.local) with
        | false => rfl
        | true => exact absurd (eq_of_beq hb) nl
      simp [nb]
    | _ => rfl
  · exact h4 h
theorem s_asgT {is : List Nat} {ts : List Expr} {k1 : Nat} {p1 : Pos} {v : Expr} {e : CE} (C : SxOk X E sc N k) (ht : chkTg sc N is (.Tuple ts k1 p1) = true) (hv : PE X v (up X.K E (evE e))) (hn : nocomp v = true) (hw : swNone sc ts v = true) :
    PS X (.Assign [.Tuple ts k1 p1] v pos) (upS X.K E (evS (.asgT is e))) := by
  have hw2 : swappedStores [.Tuple ts k1 p1] v X.env = pure none := by
    cases v with
    | Tuple vs k2 p2 => exact sw_none (fun x => (C.sq x).mp) hw
    | _ => rfl
  refine PS.imp (ps_asg hv (g_tg C.cx ht) (show swapsWith v (some (.Tuple ts k1 p1)) pos.line X.env = pure false from sw_no hn) hw2 rfl) fun D σ H ⟨pa, me, F0, H0, F, S, R, q⟩ => ?_
  unfold evS at q
  refine ⟨pa, F, S, R.rel, (step R q).mono ?_⟩
  rintro v H1 ⟨d, P1, F1, _, g, R1, t, q1⟩
  cases hb : bindTg is d (S.wp P1) with
  | none => rw [hb] at q1; exact q1.elim
  | some S2 =>
    rw [hb] at q1
    by_cases c : d.fz = true
    · obtain ⟨xs, R2, hq⟩ := tg_stepS R1 (t.dt c) hb
      exact hq _ (q1 _ F1 H1 R2 (Same.refl _))
    · exfalso
      cases d with
      | bor ys =>
        unfold bindTg at hb
        split at hb
        · rw [if_neg c] at hb; cases hb
        all_goals first | cases hb | (split at hb <;> first | cases hb | (rename_i hh _; cases hh))
      | _ => exact c rfl
theorem g_tgL {is : List Nat} {es : List Expr} {kk : Nat} {p : Pos} (C : CxOk X E sc N k) (h : chkTs sc N is es = true) : PG X (.Tuple es kk p) (fun v σ H Q => ∃ a xs, v = .ref a ∧ SqL X.K H a xs ∧ xs.length = is.length ∧ Q (DL.setMany σ is xs) H) := by
  obtain ⟨l1, l2⟩ := ts_each (env := X.env) h
  refine PG.imp (pg_unl (n := is.length) C.calm (g_ts C h) l1 (find_none l2)) fun v σ H Q q => ?_
  obtain ⟨a, xs, e1, e2, e3, e4⟩ := q
  exact ⟨a, xs, e1, e2, e3, gs_many is xs σ H Q e3 e4⟩
theorem ts_of {is : List Nat} {ts : List Expr} {k1 : Nat} {p1 : Pos} (ht : chkTg sc N is (.Tuple ts k1 p1) = true) : chkTs sc N is ts = true := by
  rcases is with _ | ⟨i, _ | ⟨j, _ | ⟨l, _ | ⟨m, _ | ⟨n, _ | ⟨o, r⟩⟩⟩⟩⟩⟩
  all_goals first | exact ht | exact absurd ht (by simp [chkTg])
theorem s_asgL {is : List Nat} {ts : List Expr} {k1 : Nat} {p1 : Pos} {v : Expr} {e : CE} (C : SxOk X E sc N k) (ht : chkTg sc N is (.Tuple ts k1 p1) = true) (hv : PE X v (up X.K E (evE e))) (hn : nocomp v = true) (hw : swNone sc ts v = true) :
    PS X (.Assign [.Tuple ts k1 p1] v pos) (upS X.K E (evS (.asgL is e))) := by
  have hw2 : swappedStores [.Tuple ts k1 p1] v X.env = pure none := by
    cases v with
    | Tuple vs k2 p2 => exact sw_none (fun x => (C.sq x).mp) hw
    | _ => rfl
  refine PS.imp (ps_asg hv (g_tgL C.cx (ts_of ht)) (show swapsWith v (some (.Tuple ts k1 p1)) pos.line X.env = pure false from sw_no hn) hw2 rfl) fun D σ H ⟨pa, me, F0, H0, F, S, R, q⟩ => ?_
  unfold evS at q
  refine ⟨pa, F, S, R.rel, (step R q).mono ?_⟩
  rintro v H1 ⟨d, P1, F1, _, g, R1, t, q1⟩
  cases d with
  | lst ds =>
    by_cases c : ds.length = is.length
    · have q1 : PostS X.K E pa me F0 H0 F1 D (.nx (setManyS (S.wp P1) is ds)) := by simpa only [if_pos c] using q1
      obtain ⟨a, xs, rfl, ea, ta⟩ := Dt.lst_inv (Dx.dt t rfl)
      exact ⟨a, xs, rfl, .inl (.inl (R1.rel.fh _ _ ea)), by rw [ta.length]; exact c, q1 _ F1 H1 (R1.setMany ta) (Same.refl _)⟩
    · exfalso
      simp only [if_neg c] at q1
      exact q1
  | _ => exact q1.elim
theorem star_f : ∀ {e : Expr}, nostar e = true → (match e with | .Starred .. => true | _ => false) = false := fun {e} h => by cases e <;> first | rfl | cases h
theorem sw_some2 {x y : Str} {a b : Expr} {px py p1 p2 : Pos} {k1 k2 : Nat} {env : Env} (hk : env.blockKind = .function) (hx : env.kindOf x = some .local) (hy : env.kindOf y = some .local) (hl : (px.line == py.line) = true) (hxy : x ≠ y)
    (hs : nostar a = true) (hs2 : nostar b = true) (hf : (foldedForSure 8 a && foldedForSure 8 b) = false) (hc : (constantsAlone 8 a && constantsAlone 8 b) = false) :
    swappedStores [.Tuple [.Name x px, .Name y py] k1 p1] (.Tuple [a, b] k2 p2) env = pure (some [x, y]) := by
  have o1 := star_f hs
  have o2 := star_f hs2
  have h2 : py.line = px.line := (eq_of_beq hl).symm
  have h3 : ([x, y] : List Str).eraseDups = [x, y] := by
    have e : (y == x) = false := by simpa using fun e : y = x => hxy e.symm
    simp [List.eraseDups_cons, e]
  unfold swappedStores
  simp only [hk, List.any_cons, List.any_nil, o1, o2]
  simp [List.filterMap_cons, hx, hy, h2, h3, hf, hc, Expr.pos]
  intro h
  exfalso
  rcases h with h | h
  · cases a <;> first | (cases hs; done) | cases h
  · cases b <;> first | (cases hs2; done) | cases h
theorem sw_some3 {x y z : Str} {a b c : Expr} {px py pz p1 p2 : Pos} {k1 k2 : Nat} {env : Env} (hk : env.blockKind = .function) (hx : env.kindOf x = some .local) (hy : env.kindOf y = some .local) (hz : env.kindOf z = some .local) (hl : (px.line == py.line) = true) (hl2 : (px.line == pz.line) = true) (hxy : x ≠ y) (hxz : x ≠ z) (hyz : y ≠ z)
    (hs : nostar a = true) (hs2 : nostar b = true) (hs3 : nostar c = true) (hf : (foldedForSure 8 a && foldedForSure 8 b && foldedForSure 8 c) = false) (hc : (constantsAlone 8 a && constantsAlone 8 b && constantsAlone 8 c) = false) :
    swappedStores [.Tuple [.Name x px, .Name y py, .Name z pz] k1 p1] (.Tuple [a, b, c] k2 p2) env = pure (some [x, y, z]) := by
  have o1 := star_f hs
  have o2 := star_f hs2
  have o3 := star_f hs3
  have h2 : py.line = px.line := (eq_of_beq hl).symm
  have h2' : pz.line = px.line := (eq_of_beq hl2).symm
  have h3 : ([x, y, z] : List Str).eraseDups = [x, y, z] := by
    have e : (y == x) = false := by simpa using fun e : y = x => hxy e.symm
    have e2 : (z == x) = false := by simpa using fun e : z = x => hxz e.symm
    have e3 : (z == y) = false := by simpa using fun e : z = y => hyz e.symm
    simp [List.eraseDups_cons, e, e2, e3]
  unfold swappedStores
  simp only [hk, List.any_cons, List.any_nil, o1, o2, o3]
  rw [Bool.and_assoc] at hf hc
  simp [List.filterMap_cons, hx, hy, hz, h2, h2', h3, hf, hc, Expr.pos]
  intro h
  exfalso
  rcases h with h | h | h
  · cases a <;> first | (cases hs; done) | cases h
  · cases b <;> first | (cases hs2; done) | cases h
  · cases c <;> first | (cases hs3; done) | cases h
theorem nd_inj {l : List Str} (h : l.Nodup) {i j : Nat} (hi : i < l.length) (hj : j < l.length) : l[i] = l[j] ↔ i = j := by
  refine ⟨fun e => ?_, fun e => by subst e; rfl⟩
  by_cases c : i = j
  · exact c
  · exfalso
    rcases Nat.lt_or_gt_of_ne c with q | q
    · exact (List.pairwise_iff_getElem.mp h) i j hi hj q e
    · exact (List.pairwise_iff_getElem.mp h) j i hj hi q e.symm
theorem SxOk.ne (C : SxOk X E sc N k) {i j : Nat} {x y : Str} (hi : decide (N[i]? = some x) = true) (hj : decide (N[j]? = some y) = true) (h : i ≠ j) : x ≠ y := fun e => by
  have h1 : N[i]? = some x := of_decide_eq_true hi
  have h2 : N[j]? = some y := of_decide_eq_true hj
  subst e
  obtain ⟨l1, e1⟩ := List.getElem?_eq_some_iff.mp h1
  obtain ⟨l2, e2⟩ := List.getElem?_eq_some_iff.mp h2
  exact h ((nd_inj C.cx.nd l1 l2).mp (e1.trans e2.symm))
theorem par_tr {is : List Nat} {es : CEs} {ta : TA} (hta : ta = upA X.K E (evA es)) (D : Ends) (σ : L2.St) (H : Hp) (h : upS X.K E (evS (.par is es)) D σ H) : ta σ H fun vs H1 => vs.length = is.length ∧ D.nx (DL.setMany σ is vs) H1 := by
  subst hta
  obtain ⟨pa, me, F0, H0, F, S, R, q⟩ := h
  unfold evS at q
  refine ⟨pa, F, S, R.rel, (stepA R q).mono ?_⟩
  rintro vs H1 ⟨ds, P1, F1, _, g, R1, t, q1⟩
  by_cases c : (ds.all Da.fz && decide (ds.length = is.length)) = true
  · rw [if_pos c] at q1
    rw [Bool.and_eq_true] at c
    exact ⟨by rw [t.length]; exact of_decide_eq_true c.2, q1 _ F1 H1 (R1.setMany (t.dts c.1)) (Same.refl _)⟩
  · rw [if_neg c] at q1
    exact q1.elim
theorem upA_mono {f : Ev → Out (List Da)} {σ : L2.St} {H : Hp} {Q Q' : List V → Hp → Prop} (h : upA X.K E f σ H Q) (q : ∀ vs H1, Q vs H1 → Q' vs H1) : upA X.K E f σ H Q' := by
  obtain ⟨pa, F, S, R, h⟩ := h
  exact ⟨pa, F, S, R, h.mono q⟩
theorem s_par2 {i j : Nat} {es : CEs} {x y : Str} {px py p1 p2 : Pos} {k1 k2 : Nat} {u v : Expr} (C : SxOk X E sc N k) (hi : decide (N[i]? = some x) = true) (hj : decide (N[j]? = some y) = true) (hij : i ≠ j) (hx : lclB sc x = true) (hy : lclB sc y = true) (hl : (px.line == py.line) = true)
    (hs : nostar u = true) (hs2 : nostar v = true) (hf : (foldedForSure 8 u && foldedForSure 8 v) = false) (hc : (constantsAlone 8 u && constantsAlone 8 v) = false) (ha : PA X [u, v] (upA X.K E (evA es))) :
    PS X (.Assign [.Tuple [.Name x px, .Name y py] k1 p1] (.Tuple [u, v] k2 p2) pos) (upS X.K E (evS (.par [i, j] es))) := by
  refine PS.imp (ps_par C.cx.calm C.nn (C.nm hi) (C.nm hj) hij (C.lcl hx) (C.lcl hy) ha (sw_some2 C.bk (C.lcl hx) (C.lcl hy) hl (C.ne hi hj hij) hs hs2 hf hc) rfl) fun D σ H h => ?_
  refine upA_mono (par_tr rfl D σ H h) ?_
  rintro vs H1 ⟨hl, q⟩
  rcases vs with _ | ⟨a, _ | ⟨b, _ | ⟨c, vs⟩⟩⟩ <;> first | (exfalso; simp at hl; done) | skip
  exact ⟨a, b, rfl, q⟩
theorem s_par3 {i j l : Nat} {es : CEs} {x y z : Str} {px py pz p1 p2 : Pos} {k1 k2 : Nat} {u v w : Expr} (C : SxOk X E sc N k) (hi : decide (N[i]? = some x) = true) (hj : decide (N[j]? = some y) = true) (hl : decide (N[l]? = some z) = true) (hij : i ≠ j) (hil : i ≠ l) (hjl : j ≠ l) (hx : lclB sc x = true) (hy : lclB sc y = true) (hz : lclB sc z = true) (hp : (px.line == py.line) = true) (hp2 : (px.line == pz.line) = true)
    (hs : nostar u = true) (hs2 : nostar v = true) (hs3 : nostar w = true) (hf : (foldedForSure 8 u && foldedForSure 8 v && foldedForSure 8 w) = false) (hc : (constantsAlone 8 u && constantsAlone 8 v && constantsAlone 8 w) = false) (ha : PA X [u, v, w] (upA X.K E (evA es))) :
    PS X (.Assign [.Tuple [.Name x px, .Name y py, .Name z pz] k1 p1] (.Tuple [u, v, w] k2 p2) pos) (upS X.K E (evS (.par [i, j, l] es))) := by
  refine PS.imp (ps_par3 C.cx.calm C.nn (C.nm hi) (C.nm hj) (C.nm hl) hij hil hjl (C.lcl hx) (C.lcl hy) (C.lcl hz) ha (sw_some3 C.bk (C.lcl hx) (C.lcl hy) (C.lcl hz) hp hp2 (C.ne hi hj hij) (C.ne hi hl hil) (C.ne hj hl hjl) hs hs2 hs3 hf hc) rfl) fun D σ H h => ?_
  refine upA_mono (par_tr rfl D σ H h) ?_
  rintro vs H1 ⟨hl, q⟩
  rcases vs with _ | ⟨a, _ | ⟨b, _ | ⟨c, _ | ⟨d, vs⟩⟩⟩⟩ <;> first | (exfalso; simp at hl; done) | skip
  exact ⟨a, b, c, rfl, q⟩
end

section
variable {K : PySem.W.Frag} {E : XK} {pa : Pa} {me : Option Addr} {F0 H0 F H F1 H1 : Hp} {σ : L2.St} {S : Ev} {D : Ends}
theorem RelS.lt {i : Nat} {sv : Sv} (h : S.sl[i]? = some sv) : i < S.sl.length := (List.getElem?_eq_some_iff.mp h).1
theorem RelS.fresh (R : RelS K pa me F0 H0 F σ H S) {p : Addr} (hp : H p = none) : ∀ (j : Nat) (ds : List Da), (S.sl[j]? = some (Sv.own ds) ∨ ∃ C fs, S.sl[j]? = some (Sv.slf C fs ds)) → σ[j]? ≠ some (some (V.ref p)) := fun j ds h e => by
  rcases h with h | ⟨C, fs, h⟩
  · obtain ⟨a, xs, h1, _, _, h4, _⟩ := R.rel.ow j ds h
    rw [h1] at e
    cases e
    rw [hp] at h4
    cases h4
  · obtain ⟨a, dx, xs, h1, _, _, h4, _⟩ := R.rel.se j C fs ds h
    rw [h1] at e
    cases e
    rw [hp] at h4
    cases h4
theorem RelS.h0 (R : RelS K pa me F0 H0 F σ H S) {p : Addr} (hp : H p = none) : H0 p = none := by
  cases q : H0 p with
  | none => rfl
  | some o =>
    have := R.gr.hh p o q (ne_pool R.rel.po hp)
    rw [hp] at this
    cases this
theorem RelS.off {a : Addr} {o : HO} (R : RelS K pa me F0 H0 F σ H S) (hF : F a = none) (hp : NM pa a) (hx : NX H a) (ho : ∀ ps, o ≠ .tbl ps) (h0 : H0 a = none) (hd : ∀ (j : Nat) (ds : List Da), (S.sl[j]? = some (Sv.own ds) ∨ ∃ C fs, S.sl[j]? = some (Sv.slf C fs ds)) → σ[j]? ≠ some (some (V.ref a))) : RelS K pa me F0 H0 F σ (upd H a o) S where
  rel := {
    fh := fun b u e => by rw [upd_ne (ne_of_none e hF)]; exact R.rel.fh b u e
    po := R.rel.po.tail hp hx ho
    sl := R.rel.sl
    ow := fun j es h => by
      obtain ⟨b, ys, h1, h2, h3, h4, h5⟩ := R.rel.ow j es h
      have hb : b ≠ a := fun e => hd j es (.inl h) (by rw [h1, e])
      exact ⟨b, ys, h1, h2, h3, by rw [upd_ne hb]; exact h4, h5⟩
    dj := R.rel.dj
    se := fun j C fs es h => by
      obtain ⟨b, dx, ys, h1, h2, h3, h4, h5⟩ := R.rel.se j C fs es h
      have hb : b ≠ a := fun e => hd j es (.inr ⟨C, fs, h⟩) (by rw [h1, e])
      exact ⟨b, dx, ys, h1, h2, h3, by rw [upd_ne hb]; exact h4, h5⟩
    tl := R.rel.tl
    len := R.rel.len }
  gr := R.gr.tail hF h0
  nw := R.nw
  sf := R.sf
theorem RelS.own' {i : Nat} {a : Addr} {xs : List V} {ds : List Da} (R : RelS K pa me F0 H0 F σ H S) (hF : F a = none) (hp : NM pa a) (hx : NX H a) (h0 : H0 a = none) (t : Dts K F pa xs ds)
    (hd : ∀ (j : Nat) (ds : List Da), (S.sl[j]? = some (Sv.own ds) ∨ ∃ C fs, S.sl[j]? = some (Sv.slf C fs ds)) → σ[j]? ≠ some (some (V.ref a))) : RelS K pa me F0 H0 F (σ.set i (some (.ref a))) (upd H a (.lst xs)) (setSl S i (.own ds)) := by
  by_cases hi : i < S.sl.length
  · exact R.own hF hp hx h0 t hi fun j es _ h => hd j es h
  · have e1 : σ.set i (some (.ref a)) = σ := List.set_eq_of_length_le (by rw [R.rel.len]; omega)
    have e2 : setSl S i (.own ds) = S := by
      unfold setSl
      rw [List.set_eq_of_length_le (by omega)]
    rw [e1, e2]
    exact R.off hF hp hx (by intro _ z; cases z) h0 hd
theorem RelS.ownN {i : Nat} {p : Addr} {xs : List V} {ds : List Da} (R : RelS K pa me F0 H0 F σ H S) (hp : H p = none) (t : Dts K F pa xs ds) : RelS K pa me F0 H0 F (σ.set i (some (.ref p))) (upd H p (.lst xs)) (setSl S i (.own ds)) :=
  R.own' (R.rel.fh.free hp) (ne_pool R.rel.po hp) (nx_none hp) (R.h0 hp) t fun j es h => R.fresh hp j es h
theorem RelS.ownW {i : Nat} {a : Addr} {xs : List V} {ds es : List Da} (R : RelS K pa me F0 H0 F σ H S) (hs : S.sl[i]? = some (.own es)) (h1 : σ[i]? = some (some (.ref a))) (t : Dts K F pa xs ds) : RelS K pa me F0 H0 F σ (upd H a (.lst xs)) (setSl S i (.own ds)) := by
  obtain ⟨b, ys, g1, g2, g3, g4, g5⟩ := R.rel.ow i es hs
  rw [h1] at g1
  cases g1
  have e : σ.set i (some (.ref a)) = σ := by
    obtain ⟨hl, he⟩ := List.getElem?_eq_some_iff.mp h1
    rw [← he, List.set_getElem_self]
  have q := R.own (i := i) g2 g3 (nx_of g4) (R.nw i a (.inl ⟨es, hs⟩) h1) t (RelS.lt hs) fun j ds' hj h e2 => by
    rcases h with h | ⟨C, fs, h⟩
    · exact hj (R.rel.dj j i ds' es a h hs e2 h1)
    · obtain ⟨c, dx, zs, k1, _, _, k4, _⟩ := R.rel.se j C fs ds' h
      rw [k1] at e2
      cases e2
      rw [g4] at k4
      cases k4
  rw [e] at q
  exact q
end
section
variable {X : Cx} {E : XK} {sc : Scope} {N : List Str} {k : Nat} {pos : Pos}
theorem SxOk.slot {i : Nat} {x : Str} {σ : L2.St} {H F F0 H0 : Hp} {pa : Pa} {me : Option Addr} {S : Ev} (R : RelS X.K pa me F0 H0 F σ H S) (h : i < σ.length) : i < S.sl.length := by rw [← R.rel.len]; exact h
theorem s_own {i : Nat} {x : Str} {px p2 : Pos} {us : List Expr} {es : CEs} (C : SxOk X E sc N k) (hi : decide (N[i]? = some x) = true) (hl : locB sc x = true) (ha : PA X us (upA X.K E (evA es))) :
    PS X (.Assign [.Name x px] (.List us p2) pos) (upS X.K E (evS (.own i es))) := by
  refine PS.imp (ps_set C.nn (C.nm hi) (C.cx.loc x hl).1 (pe_lst ha) rfl (C.cx.loc x hl).2) fun D σ H h => ?_
  obtain ⟨pa, me, F0, H0, F, S, R, q⟩ := h
  unfold evS at q
  refine ⟨pa, F, S, R.rel, (stepA R q).mono ?_⟩
  rintro vs H1 ⟨ds, P1, F1, _, g, R1, t, q1⟩
  by_cases c : (ds.all Da.fz && decide (ds.length ≤ 1000)) = true
  · rw [if_pos c] at q1
    simp only [Bool.and_eq_true] at c
    exact ⟨by rw [t.length]; exact Nat.le_trans (of_decide_eq_true c.2) (by decide), fun p hp => q1 _ F1 _ (R1.ownN hp (t.dts c.1)) (Same.refl _)⟩
  · rw [if_neg c] at q1
    exact q1.elim
theorem ownL_tr {i : Nat} {vs tg : List Nat} {it : CI} {t : CEo} {c : CE} (htg : ∀ j ∈ tg, j ∈ vs) (D : Ends) (σ : L2.St) (H : Hp) (h : upS X.K E (evS (.ownL i (.lc vs tg it t c))) D σ H) : tAsg (tLc (upI X.K E (evI it)) (gTg X.K tg) (upT X.K E0 (evC t)) (up X.K E0 (evE c)) vs) (gName i) D σ H := by
  obtain ⟨pa, me, F0, H0, F, S, R, q⟩ := h
  unfold evS at q
  unfold evE at q
  refine lc_soundL htg (fun v σ H Q q => q) σ H _ ⟨pa, F, S, R.rel, ?_⟩
  cases ho : ((evI it S).bind fun ds P => lcL (fun d P1 => bindTg tg d (wipeS (S.wp P1) vs)) (evC t) (evE c) ds.2 P []) with
  | ok d P1 =>
    rw [ho] at q
    intro D' ys acc F' H' ed hD gr po f0 hd ta
    subst ed
    have R1 := R.grow gr po
    have R2 := R1.own' (i := i) (a := D') (xs := ys) f0 (ne_pool R.rel.po hD) (nx_of hd) (R.h0 hD) ta (R.fresh hD)
    have e : upd H' D' (.lst ys) = H' := funext fun b => by
      by_cases c : b = D'
      · rw [c, upd_same, hd]
      · rw [upd_ne c]
    rw [e] at R2
    exact q _ F' H' R2 gr.ff
  | ex C fs ds P => rw [ho] at q; exact PostX.rebase R.gr R.rel.po q
  | no => rw [ho] at q; exact q
theorem s_ownL {i : Nat} {x : Str} {px : Pos} {v : Expr} {e : CE} (C : SxOk X E sc N k) (he : e.isLc = true) (hi : decide (N[i]? = some x) = true) (hl : locB sc x = true) (hv : chkE sc N e v = true) (ho : okE X.prog X.w X.K X.mg X.base k e) : PS X (.Assign [.Name x px] v pos) (upS X.K E (evS (.ownL i e))) := by
  have hx := (C.cx.loc x hl).1
  have hf := (C.cx.loc x hl).2
  cases e with
  | lc vs tg it t c =>
    cases v with
    | ListComp elt gs scope p =>
      rcases gs with _ | ⟨⟨tgx, iter, ifs, asy⟩, _ | ⟨g2, gs⟩⟩ <;> first | (exfalso; simp [chkE] at hv; done) | skip
      simp only [chkE, Bool.and_eq_true] at hv
      obtain ⟨⟨⟨⟨⟨⟨⟨⟨h1, h2⟩, h3⟩, h4⟩, h50, h5⟩, h6⟩, h7⟩, h8⟩, h9⟩ := hv
      have e1 : asy = 0 := of_decide_eq_true h1
      subst e1
      have htup : it.tup = true → isTup tgx = true := fun e => by
        rw [e] at h3
        simpa using h3
      have hs : ∀ x, foldedSetIterable iter X.env x = pure x := fun x => by
        cases iter <;> first | rfl | cases h2
      have o := ho
      simp only [okE] at o
      cases hb : (X.env.blockKind == .function && X.env.kindOf x == some .local && px.line == p.line && !(scope.names.any fun (n, k) => n == x && (k == .local || k == .cell))) with
      | false =>
        have hsw : swapsWith (.ListComp elt [⟨tgx, iter, ifs, 0⟩] scope p) (some (.Name x px)) pos.line X.env = pure false := by unfold swapsWith; simp only [Expr.pos]; rw [hb]
        have hh := pe_lc (pos := p) (g := gTg X.K tg) (tt := upT X.K E0 (evC t)) (te := up X.K E0 (evE c)) C.cx.calm (by rw [C.cx.hN]; exact C.cx.nd) (sndI it C.cx tgx iter htup h4 o.1) (C.cx.block h5) (fun s H A cl fp => g_tg (C.cx.blk (scope := scope) s H A cl fp h50) h6)
          (fun s H A cl fp => (sndO t (C.cx.blkI (scope := scope) s H A cl fp h50) o.2.1).2 ifs h8) (fun s H A cl fp => (snd c (C.cx.blkI (scope := scope) s H A cl fp h50) elt h9 o.2.2).pe) hs
        rw [own_snd] at hh
        exact PS.imp (ps_set C.nn (C.nm hi) hx hh hsw hf) (ownL_tr (of_decide_eq_true h7))
      | true =>
        have hsw : swapsWith (.ListComp elt [⟨tgx, iter, ifs, 0⟩] scope p) (some (.Name x px)) pos.line X.env = pure true := by unfold swapsWith; simp only [Expr.pos]; rw [hb]
        have hyl : X.env.scope.names.lookup x = some .local := by
          simp only [Bool.and_eq_true] at hb
          exact eq_of_beq hb.1.1.2
        have hh := ps_setLc (spos := pos) (pos := p) (py := px) (g := gTg X.K tg) (tt := upT X.K E0 (evC t)) (te := up X.K E0 (evE c)) C.cx.calm C.nn (C.nm hi) hyl hsw (sndI it C.cx tgx iter htup h4 o.1) (C.cx.block h5) (fun s H A cl fp => g_tg (C.cx.blk (scope := scope) s H A cl fp h50) h6)
          (fun s H A cl fp => (sndO t (C.cx.blkI (scope := scope) s H A cl fp h50) o.2.1).2 ifs h8) (fun s H A cl fp => (snd c (C.cx.blkI (scope := scope) s H A cl fp h50) elt h9 o.2.2).pe) hs
        rw [own_snd] at hh
        exact PS.imp hh (ownL_tr (of_decide_eq_true h7))
    | _ => exact absurd hv (by simp [chkE])
  | _ => cases he
theorem ls_inv {K : PySem.W.Frag} {F H : Hp} {pa : Pa} {v : V} {d : Da} {xs : List Da} (t : Dx K F H pa v d) (h : d.ls = some xs) (s : Same F H) : ∃ a vs, v = .ref a ∧ H a = some (.lst vs) ∧ Dts K F pa vs xs := by
  cases d with
  | lst ys =>
    cases h
    obtain ⟨a, vs, h1, h2, h3⟩ := Dt.lst_inv (t.dt rfl)
    exact ⟨a, vs, h1, s _ _ h2, h3⟩
  | bor ys =>
    cases h
    obtain ⟨a, vs, h1, _, _, h4, h5⟩ := t
    exact ⟨a, vs, h1, h4, h5⟩
  | _ => cases h
theorem s_ownC0 {i : Nat} {x : Str} {px p2 : Pos} {l r : Expr} {a b : CE} (hnn : X.N.Nodup) (hnm : X.N[i]? = some x) (hlo : Loc X.env.scope x ∧ (X.fn x = true ∨ X.env.scope.names.lookup x = some .local)) (ha : PE X l (up X.K E (evE a))) (hb : PE X r (up X.K E (evE b))) :
    PS X (.Assign [.Name x px] (.BinOp l .Add r p2) pos) (upS X.K E (evS (.ownC i a b))) := by
  refine PS.imp (ps_set hnn hnm hlo.1 (pe_op op_cat ha hb) rfl hlo.2) fun D σ H h => ?_
  obtain ⟨pa, me, F0, H0, F, S, R, q⟩ := h
  unfold evS at q
  refine ⟨pa, F, S, R.rel, (step R q).mono ?_⟩
  rintro v H1 ⟨d, P1, F1, _, g, R1, t, q1⟩
  refine ⟨pa, F1, S.wp P1, R1.rel, (step R1 q1).mono ?_⟩
  rintro w H2 ⟨d2, P2, F2, _, g2, R2, t2, q2⟩
  cases h1 : d.ls with
  | none => rw [h1] at q2; exact q2.elim
  | some xs =>
    cases h2 : d2.ls with
    | none => rw [h1, h2] at q2; exact q2.elim
    | some ys =>
      rw [h1, h2] at q2
      dsimp only at q2
      by_cases c : xs.length + ys.length ≤ lim
      · rw [if_pos c] at q2
        obtain ⟨a1, vs, e1, e2, e3⟩ := ls_inv (t.grow g2) h1 g2.fh
        obtain ⟨b1, ws, k1, k2, k3⟩ := ls_inv t2 h2 g2.fh
        refine ⟨a1, b1, vs, ws, e1, k1, e2, k2, by rw [e3.length, k3.length]; exact le_line c, fun p hp => q2 _ F2 _ (R2.ownN hp (e3.append k3)) (Same.refl _)⟩
      · rw [if_neg c] at q2
        exact q2.elim
theorem s_ownC {i : Nat} {x : Str} {px p2 : Pos} {l r : Expr} {a b : CE} (C : SxOk X E sc N k) (hi : decide (N[i]? = some x) = true) (hl : locB sc x = true) (ha : PE X l (up X.K E (evE a))) (hb : PE X r (up X.K E (evE b))) :
    PS X (.Assign [.Name x px] (.BinOp l .Add r p2) pos) (upS X.K E (evS (.ownC i a b))) := s_ownC0 C.nn (C.nm hi) (C.cx.loc x hl) ha hb
theorem pe_lnil {p : Pos} : PE X (.List [] p) (tLst tNil) := pe_lst pa_nil
theorem s_parN {i j : Nat} {e : CE} {x y : Str} {px py p1 p2 p3 : Pos} {k1 k2 : Nat} {u : Expr} (C : SxOk X E sc N k) (hi : decide (N[i]? = some x) = true) (hj : decide (N[j]? = some y) = true) (hij : i ≠ j) (hx : lclB sc x = true) (hy : lclB sc y = true) (hl : (px.line == py.line) = true)
    (hs : nostar u = true) (ha : PE X u (up X.K E (evE e))) :
    PS X (.Assign [.Tuple [.Name x px, .Name y py] k1 p1] (.Tuple [u, .List [] p3] k2 p2) pos) (upS X.K E (evS (.parN i j e))) := by
  have hpa : PA X [u, .List [] p3] (tCons (up X.K E (evE e)) (tCons (tLst tNil) tNil)) := pa_cons ha (pa_cons pe_lnil pa_nil) (star_no hs)
  refine PS.imp (ps_par C.cx.calm C.nn (C.nm hi) (C.nm hj) hij (C.lcl hx) (C.lcl hy) hpa (sw_some2 C.bk (C.lcl hx) (C.lcl hy) hl (C.ne hi hj hij) hs rfl (by show (_ && false) = false; rw [Bool.and_false]) (by show (_ && false) = false; rw [Bool.and_false])) rfl) fun D σ H h => ?_
  obtain ⟨pa, me, F0, H0, F, S, R, q⟩ := h
  unfold evS at q
  refine ⟨pa, F, S, R.rel, (step R q).mono ?_⟩
  rintro v H1 ⟨d, P1, F1, _, g, R1, t, q1⟩
  by_cases c : d.fz = true
  · rw [if_pos c] at q1
    exact ⟨Nat.zero_le _, fun p hp => ⟨v, .ref p, rfl, q1 _ F1 _ ((R1.set (t.dt c)).ownN hp .nil) (Same.refl _)⟩⟩
  · rw [if_neg c] at q1
    exact q1.elim
theorem s_parM {i j : Nat} {e : CE} {x y : Str} {px py p1 p2 p3 : Pos} {k1 k2 : Nat} {u : Expr} (C : SxOk X E sc N k) (hi : decide (N[i]? = some x) = true) (hj : decide (N[j]? = some y) = true) (hij : i ≠ j) (hx : lclB sc x = true) (hy : lclB sc y = true) (hl : (px.line == py.line) = true)
    (hs : nostar u = true) (ha : PE X u (up X.K E (evE e))) :
    PS X (.Assign [.Tuple [.Name x px, .Name y py] k1 p1] (.Tuple [.List [] p3, u] k2 p2) pos) (upS X.K E (evS (.parM i j e))) := by
  have hpa : PA X [.List [] p3, u] (tCons (tLst tNil) (tCons (up X.K E (evE e)) tNil)) := pa_cons pe_lnil (pa_cons ha pa_nil (star_no hs))
  refine PS.imp (ps_par C.cx.calm C.nn (C.nm hi) (C.nm hj) hij (C.lcl hx) (C.lcl hy) hpa (sw_some2 C.bk (C.lcl hx) (C.lcl hy) hl (C.ne hi hj hij) rfl hs rfl rfl) rfl) fun D σ H h => ?_
  obtain ⟨pa, me, F0, H0, F, S, R, q⟩ := h
  unfold evS at q
  refine ⟨Nat.zero_le _, fun p hp => ?_⟩
  -- the new list is in no slot while e is read
  have gN := Gr.newM (o := .lst []) R.rel.fh R.rel.po hp
  have hp0 := R.h0 hp
  have hF : F p = none := R.rel.fh.free hp
  have hn : NM pa p := ne_pool R.rel.po hp
  have RN : RelS X.K pa me F0 H0 F σ (upd H p (.lst [])) S := ⟨R.rel.grow gN.1 gN.2, R.gr.tail hF hp0, R.nw, R.sf⟩
  have fr := R.fresh hp
  refine ⟨pa, F, S, RN.rel, (step RN q).mono ?_⟩
  rintro v H1 ⟨d, P1, F1, _, g, R1, t, q1⟩
  by_cases c : d.fz = true
  · rw [if_pos c] at q1
    have hH1 : H1 p = some (.lst []) := g.hh p _ upd_same hn
    have hF1 : F1 p = none := g.stays hF upd_same
    have R2 := (R1.set (i := j) (t.dt c)).own' (i := i) (a := p) (xs := []) (ds := []) hF1 hn (nx_of hH1) hp0 .nil fun l es h => by
      intro e
      by_cases cl : j = l
      · subst cl
        rcases h with h | ⟨C2, fs, h⟩
        · rcases setSl_get _ j j _ _ h with ⟨_, e1⟩ | ⟨e1, _⟩
          · cases e1
          · exact e1 rfl
        · rcases setSl_get _ j j _ _ h with ⟨_, e1⟩ | ⟨e1, _⟩
          · cases e1
          · exact e1 rfl
      · rw [set_get cl] at e
        refine fr l es ?_ e
        rcases h with h | ⟨C2, fs, h⟩
        · rcases setSl_get _ j l _ _ h with ⟨e1, _⟩ | ⟨_, e1⟩
          · exact absurd e1 cl
          · exact .inl e1
        · rcases setSl_get _ j l _ _ h with ⟨e1, _⟩ | ⟨_, e1⟩
          · exact absurd e1 cl
          · exact .inr ⟨C2, fs, e1⟩
    have eH : upd H1 p (.lst []) = H1 := by
      funext b
      by_cases cb : b = p
      · subst cb; rw [upd_same, hH1]
      · rw [upd_ne cb]
    rw [eH] at R2
    refine ⟨.ref p, v, rfl, ?_⟩
    have es : (σ.set i (some (.ref p))).set j (some v) = (σ.set j (some v)).set i (some (.ref p)) := List.set_comm _ _ hij
    show D.nx ((σ.set i (some (.ref p))).set j (some v)) H1
    rw [es]
    exact q1 _ F1 _ R2 (Same.refl _)
  · rw [if_neg c] at q1
    exact q1.elim
theorem s_app0 {i : Nat} {x : Str} {m : Str} {px apos cpos : Pos} {v : Expr} {e : CE} (hnm : X.N[i]? = some x) (hvi : Vis X.env.scope x) (hx : okNm x = true) (hm : m = "append") (hl : (apos.endLine == cpos.line) = true) (hs : nostar v = true) (ha : PE X v (up X.K E (evE e))) :
    PS X (.Expr (.Call (.Attribute (.Name x px) m apos) [v] [] cpos) pos) (upS X.K E (evS (.app i e))) := by
  subst hm
  have hx' := hx
  simp only [okNm, Bool.and_eq_true, Bool.not_eq_true'] at hx
  have hpa : PA X [v] (tCons (up X.K E (evE e)) tNil) := pa_cons ha pa_nil (star_no hs)
  have hst : starEach [v] X.env = [(false, eval v X.env)] := star_no hs
  refine PS.imp (ps_expr (pe_bm PySem.F.plainAttrs_list PySem.F.slot_list_append PySem.F.type_list_append mt_append (pe_var hnm hvi hx.1.1 hx.1.2) hpa rfl (by rw [hst]; rfl) hl (by rw [hst]; rfl) rfl) rfl) fun D σ H h => ?_
  obtain ⟨pa, me, F0, H0, F, S, R, q⟩ := h
  unfold evS at q
  cases hsl : S.sl[i]? with
  | none => rw [hsl] at q; exact q.elim
  | some sv =>
    rw [hsl] at q
    cases sv with
    | own ds =>
      obtain ⟨a, xs, h1, h2, h3, h4, h5⟩ := R.rel.ow i ds hsl
      refine ⟨.ref a, h1, .inl ⟨rfl, _, SqL.of h4⟩, pa, F, S, R.rel, (step R q).mono ?_⟩
      rintro v H1 ⟨d, P1, F1, _, g, R1, t, q1⟩
      by_cases c : (d.fz && decide (ds.length < lim)) = true
      · rw [if_pos c] at q1
        rw [Bool.and_eq_true] at c
        refine ⟨a, xs, v, rfl, rfl, g.hh _ _ h4 h3, ?_, q1 σ F1 _ (R1.ownW hsl h1 ((h5.mono g.ff).snoc (t.dt c.1))) (Same.refl _)⟩
        rw [h5.length]
        exact Nat.lt_of_lt_of_le (of_decide_eq_true c.2) lim_le
      · rw [if_neg c] at q1
        exact q1.elim
    | _ => exact q.elim
theorem s_app {i : Nat} {x : Str} {m : Str} {px apos cpos : Pos} {v : Expr} {e : CE} (C : SxOk X E sc N k) (hi : decide (N[i]? = some x) = true) (hv : visB sc x = true) (hx : okNm x = true) (hm : m = "append") (hl : (apos.endLine == cpos.line) = true) (hs : nostar v = true) (ha : PE X v (up X.K E (evE e))) :
    PS X (.Expr (.Call (.Attribute (.Name x px) m apos) [v] [] cpos) pos) (upS X.K E (evS (.app i e))) := s_app0 (C.nm hi) (C.cx.vis x hv) hx hm hl hs ha
theorem s_ext {i : Nat} {x : Str} {m : Str} {px apos cpos : Pos} {v : Expr} {e : CE} (C : SxOk X E sc N k) (hi : decide (N[i]? = some x) = true) (hv : visB sc x = true) (hx : okNm x = true) (hm : m = "extend") (hl : (apos.endLine == cpos.line) = true) (hs : nostar v = true) (ha : PE X v (up X.K E (evE e))) :
    PS X (.Expr (.Call (.Attribute (.Name x px) m apos) [v] [] cpos) pos) (upS X.K E (evS (.ext i e))) := by
  subst hm
  have hx' := hx
  simp only [okNm, Bool.and_eq_true, Bool.not_eq_true'] at hx
  have hpa : PA X [v] (tCons (up X.K E (evE e)) tNil) := pa_cons ha pa_nil (star_no hs)
  have hst : starEach [v] X.env = [(false, eval v X.env)] := star_no hs
  refine PS.imp (ps_expr (pe_bm PySem.F.plainAttrs_list PySem.F.slot_list_extend PySem.F.type_list_extend mt_extend (pe_var (C.nm hi) (C.cx.vis x hv) hx.1.1 hx.1.2) hpa rfl (by rw [hst]; rfl) hl (by rw [hst]; rfl) rfl) rfl) fun D σ H h => ?_
  obtain ⟨pa, me, F0, H0, F, S, R, q⟩ := h
  unfold evS at q
  cases hsl : S.sl[i]? with
  | none => rw [hsl] at q; exact q.elim
  | some sv =>
    rw [hsl] at q
    cases sv with
    | own ds =>
      obtain ⟨a, xs, h1, h2, h3, h4, h5⟩ := R.rel.ow i ds hsl
      refine ⟨.ref a, h1, .inl ⟨rfl, _, SqL.of h4⟩, pa, F, S, R.rel, (step R q).mono ?_⟩
      rintro v H1 ⟨d, P1, F1, _, g, R1, t, q1⟩
      cases d with
      | lst es =>
        dsimp only at q1
        by_cases c : ds.length + es.length ≤ lim
        · rw [if_pos c] at q1
          obtain ⟨b, ys, e1, e2, e3⟩ := Dt.lst_inv (t.dt rfl)
          subst e1
          refine ⟨a, b, xs, ys, rfl, rfl, g.hh _ _ h4 h3, g.fh _ _ e2, ?_, q1 σ F1 _ (R1.ownW hsl h1 ((h5.mono g.ff).append e3)) (Same.refl _)⟩
          rw [h5.length, e3.length]
          exact le_line c
        · rw [if_neg c] at q1
          exact q1.elim
      | _ => exact q1.elim
    | _ => exact q.elim
theorem s_ife {c : Expr} {p r : List Stmt} {t : CE} {a b : CSs} (hc : PT X c (upT X.K E fun S => trus (evE t S))) (ha : PSs X p (upS X.K E (evSs a))) (hb : PSs X r (upS X.K E (evSs b))) : PS X (.If c p r pos) (upS X.K E (evS (.ife t a b))) := by
  refine PS.imp (ps_if hc ha hb) fun D σ H h => ?_
  obtain ⟨pa, me, F0, H0, F, S, R, q⟩ := h
  unfold evS at q
  refine ⟨pa, F, S, R.rel, (stepT R q).mono ?_⟩
  rintro v H1 ⟨P1, F1, _, g, R1, q1⟩
  cases v with
  | true => exact ⟨pa, me, F0, H0, F1, _, R1, q1⟩
  | false => exact ⟨pa, me, F0, H0, F1, _, R1, q1⟩
theorem s_forr {tgx iter : Expr} {body : List Stmt} {tg : List Nat} {it : CI} {b : CSs} (C : SxOk X E sc N k) (hn : noset iter = true) (hi : PI X tgx iter (upI X.K E (evI it))) (hg : PG X tgx (gTg X.K tg)) (hb : PSs X body (upS X.K E (evSs b))) :
    PS X (.For tgx iter body [] pos) (upS X.K E (evS (.forr tg it b))) := by
  have hs : ∀ x, foldedSetIterable iter X.env x = pure x := fun x => by
    cases iter <;> first | rfl | cases hn
  refine PS.imp (ps_for C.ps C.cx.calm hi hg hb hs) fun D σ H h => ?_
  obtain ⟨pa, me, F0, H0, F, S, R, q⟩ := h
  unfold evS at q
  refine ⟨pa, F, S, R.rel, ?_⟩
  cases hq : evI it S with
  | ex C fs ds P' => rw [hq] at q; exact PostX.rebase R.gr R.rel.po q
  | no => rw [hq] at q; exact q
  | ok fd P1 =>
    obtain ⟨fl, ds⟩ := fd
    rw [hq, obind_ok] at q
    dsimp only at q
    by_cases c : fl = true
    · rw [if_pos c] at q
      subst c
      intro J F1 H1 g1 p1 _ wk
      have wk := wk rfl
      obtain ⟨G, Y, w1, w2, w3⟩ := wk.ex
      have R1 := R.grow g1 p1
      have q1 := PostS.rebase g1.ff q
      refine for_it w1 (fun i σ' H' => ∃ F' S', RelS X.K pa me F0 H0 F' σ' H' S' ∧ Same F1 F' ∧ PostS X.K E pa me F0 H0 F' D (forL (fun d S => bindTg tg d S) (evSs b) (ds.drop i) S')) ⟨F1, _, R1, Same.refl _, q1⟩ ?_ ?_ ?_
      · rintro i σ' H' _ ⟨F', S', R', sm, _⟩
        exact w2 F' H' sm R'.rel.fh
      · rintro i x σ' H' H'' hlt ⟨F', S', R', sm, hp⟩ hy
        obtain ⟨d, F'', hdi, gr2, po2, td⟩ := w3 i F' H' x H'' sm R'.rel.fh hlt hy
        have hdrop : ds.drop i = d :: ds.drop (i + 1) := by
          obtain ⟨hlt, he⟩ := List.getElem?_eq_some_iff.mp hdi
          rw [List.drop_eq_getElem_cons hlt, he]
        rw [hdrop] at hp
        unfold forL at hp
        have po3 := po2 S'.po R'.rel.po
        have R2 : RelS X.K pa me F0 H0 F'' σ' H'' S' := R'.grow gr2 po3
        have hp2 := PostS.rebase gr2.ff hp
        cases hbd : bindTg tg d S' with
        | none => rw [hbd] at hp2; exact hp2.elim
        | some S2 =>
          rw [hbd] at hp2
          dsimp only at hp2
          obtain ⟨xs, R3, hstep⟩ := tg_stepS R2 td hbd
          refine hstep _ ⟨pa, me, F0, H0, F'', S2, R3, ?_⟩
          have sm2 : Same F1 F'' := sm.trans gr2.ff
          cases ho : evSs b S2 with
          | nx S3 => rw [ho] at hp2; exact fun σ3 F3 H3 R4 sm3 => ⟨F3, S3, R4, sm2.trans sm3, PostS.rebase sm3 hp2⟩
          | ct S3 => rw [ho] at hp2; exact fun σ3 F3 H3 R4 sm3 => ⟨F3, S3, R4, sm2.trans sm3, PostS.rebase sm3 hp2⟩
          | bk S3 => rw [ho] at hp2; exact hp2
          | ret e P => rw [ho] at hp2; exact hp2
          | ex C fs es P => rw [ho] at hp2; exact hp2
          | no => rw [ho] at hp2; exact hp2
      · rintro σ' H' ⟨F', S', R', sm, hp⟩
        rw [List.drop_length] at hp
        exact hp σ' F' H' R' (Same.refl _)
    · rw [if_neg c] at q
      exact q.elim
theorem s_setF {x : Str} {Cn f g : Str} {px gpos : Pos} {v : Expr} {e : CE} (C : SxOk X E sc N k) (hi : decide (N[(0:Nat)]? = some x) = true) (hv : visB sc x = true) (hx : okNm x = true) (hfg : f = g) (hn : nocomp v = true ∨ True) (hc : Cls X.K (He.ga X.K Cn)) (hna : NoAttr X.K (He.ga X.K Cn) f) (ha : PE X v (up X.K E (evE e))) :
    PS X (.Assign [.Attribute (.Name x px) g gpos] v pos) (upS X.K E (evS (.setF Cn f e))) := by
  subst hfg
  simp only [okNm, Bool.and_eq_true, Bool.not_eq_true'] at hx
  have hsw : swapsWith v (some (.Attribute (.Name x px) f gpos)) pos.line X.env = pure false := by
    cases v <;> rfl
  refine PS.imp (ps_fld (pe_var (C.nm hi) (C.cx.vis x hv) hx.1.1 hx.1.2) ha hsw) fun D σ H h => ?_
  obtain ⟨pa, me, F0, H0, F, S, R, q⟩ := h
  unfold evS at q
  refine ⟨pa, F, S, R.rel, (step R q).mono ?_⟩
  rintro v H1 ⟨d, P1, F1, _, gr, R1, t, q1⟩
  cases hsl : S.sl[(0:Nat)]? with
  | none => rw [hsl] at q1; exact q1.elim
  | some sv =>
    rw [hsl] at q1
    cases sv with
    | slf C' fs ds =>
      dsimp only at q1
      by_cases c : (d.fz && decide (fs.length < 900) && decide (C' = Cn) && S.sl.tail.all Sv.nos) = true
      · rw [if_pos c] at q1
        simp only [Bool.and_eq_true] at c
        obtain ⟨⟨⟨c1, c2⟩, c3⟩, c4⟩ := c
        have c3 : C' = Cn := of_decide_eq_true c3
        subst c3
        obtain ⟨a, dx, xs, h1, h2, h3, h4, h5, h6⟩ := R1.rel.se 0 C' fs ds hsl
        obtain ⟨ys, e1, e2, e3⟩ := putD_ok (f := f) (t.dt c1) fs xs ds h5 h6
        refine ⟨.ref a, h1, a, _, dx, _, rfl, h4, hc, hna, ?_, ?_⟩
        · rw [List.length_zip, ← h5, Nat.min_self]
          exact Nat.lt_of_lt_of_le (of_decide_eq_true c2) (by decide)
        · rw [e1]
          refine q1 σ F1 _ (R1.fld hsl h1 h2 h3 ⟨_, h4⟩ (fun j hj ⟨C2, gs, es, e4⟩ => ?_) e2 e3) (Same.refl _)
          cases j with
          | zero => exact hj rfl
          | succ j =>
            have m : Sv.slf C2 gs es ∈ S.sl.tail := by
              have e5 : S.sl.tail[j]? = some (.slf C2 gs es) := by rw [List.getElem?_tail]; exact e4
              exact List.mem_of_getElem? e5
            have := List.all_eq_true.mp c4 _ m
            cases this
      · rw [if_neg c] at q1
        exact q1.elim
    | _ => exact q1.elim
theorem s_nil : PSs X [] (upS X.K E (evSs .nil)) := PSs.imp pss_nil fun D σ H ⟨pa, me, F0, H0, F, S, R, q⟩ => by
  unfold evSs at q
  exact q σ F H R (Same.refl _)
theorem s_cons {st : Stmt} {sts : List Stmt} {s : CS} {r : CSs} (h1 : PS X st (upS X.K E (evS s))) (h2 : PSs X sts (upS X.K E (evSs r))) : PSs X (st :: sts) (upS X.K E (evSs (.cons s r))) := by
  refine PSs.imp (pss_cons h1 h2) fun D σ H h => ?_
  obtain ⟨pa, me, F0, H0, F, S, R, q⟩ := h
  unfold evSs at q
  refine ⟨pa, me, F0, H0, F, S, R, ?_⟩
  cases ho : evS s S with
  | nx S1 => rw [ho] at q; exact fun σ' F' H' R' sm => ⟨pa, me, F0, H0, F', S1, R', PostS.rebase sm q⟩
  | bk S1 => rw [ho] at q; exact q
  | ct S1 => rw [ho] at q; exact q
  | ret d P => rw [ho] at q; exact q
  | ex C fs ds P => rw [ho] at q; exact q
  | no => rw [ho] at q; exact q
theorem s_frz {sts : List Stmt} {j : Nat} {r : CSs} (h2 : PSs X sts (upS X.K E (evSs r))) : PSs X sts (upS X.K E (evSs (.frz j r))) := by
  refine PSs.imp h2 fun D σ H h => ?_
  obtain ⟨pa, me, F0, H0, F, S, R, q⟩ := h
  unfold evSs at q
  cases hsl : S.sl[j]? with
  | none => rw [hsl] at q; exact q.elim
  | some sv =>
    rw [hsl] at q
    cases sv with
    | own ds =>
      obtain ⟨F', sm, R'⟩ := R.frz hsl
      exact ⟨pa, me, F0, H0, F', _, R', PostS.rebase sm q⟩
    | _ => exact q.elim
end
def SndS (c : CS) : Prop := ∀ ⦃X : Cx⦄ ⦃E : XK⦄ ⦃sc : Scope⦄ ⦃N : List Str⦄ ⦃k : Nat⦄ (_ : SxOk X E sc N k) (st : Stmt), chkS sc N c st = true → okS X.prog X.w X.K X.mg X.base k c → PS X st (upS X.K E (evS c))
def SndSs (c : CSs) : Prop := ∀ ⦃X : Cx⦄ ⦃E : XK⦄ ⦃sc : Scope⦄ ⦃N : List Str⦄ ⦃k : Nat⦄ (_ : SxOk X E sc N k) (sts : List Stmt), chkSs sc N c sts = true → okSs X.prog X.w X.K X.mg X.base k c → PSs X sts (upS X.K E (evSs c))
section
variable {X : Cx} {E : XK} {sc : Scope} {N : List Str} {k : Nat} {pos : Pos}
theorem s_rai {Cn f : Str} {v : Expr} {e : CE} {p cp : Pos} (C : SxOk X E sc N k) (hg : gloB sc Cn = true) (hn : okNm Cn = true) (hs : nostar v = true) (ho : RaiseOk X.prog X.w X.K X.mg X.base k Cn f) (ha : PE X v (up X.K E (evE e))) :
    PS X (.Raise (some (.Call (.Name Cn p) [v] [] cp)) none pos) (upS X.K E (evS (.rai Cn f e))) := by
  obtain ⟨fI, fd, ps, T, iC, tI, F1, hb, hm⟩ := ho
  have hpa : PA X [v] (tCons (up X.K E (evE e)) tNil) := pa_cons ha pa_nil (star_no hs)
  have mk := pmk_oex (p := p) (pos := cp) (dvs := []) (ds := []) T iC tI F1 C.cx.rm hb .nil C8.pass0 (C.cx.glo _ hg) hm hpa (ok_dbg hn) (star_no hs) rfl
  refine PS.imp (ps_raise C.cx.calm C.cx.tk mk) fun D σ H h => ?_
  obtain ⟨pa, me, F0, H0, F, S, R, q⟩ := h
  unfold evS at q
  refine ⟨pa, F, S, R.rel, (step R q).mono ?_⟩
  rintro v H1 ⟨d, P1, F1', _, g, R1, t, q1⟩
  by_cases c : d.fz = true
  · rw [if_pos c] at q1
    refine ⟨by simp, fun a na => ⟨a, v, rfl, upd_same, fun dx nd ne => ?_⟩⟩
    have n1 : H1 dx = none := by rw [upd_ne ne] at nd; exact nd
    refine ⟨rfl, dx, [(f, v)], upd_same, by rw [upd_ne ne, upd_same], n1, ?_⟩
    have eH : upd (del (upd (upd (upd H1 a (exo a (He.ga X.K Cn) none)) dx (exd dx [(f, v)])) a (exo a (He.ga X.K Cn) (some dx))) a) dx (.xd [(f, v)]) = upd H1 dx (.xd [(f, v)]) := by
      funext b
      by_cases hb : b = dx
      · subst hb; rw [upd_same, upd_same]
      · rw [upd_ne hb, upd_ne hb]
        by_cases hc : b = a
        · subst hc; rw [del_same, na]
        · rw [del_ne hc, upd_ne hc, upd_ne hb, upd_ne hc]
    rw [eH]
    obtain ⟨g2, p2⟩ := Gr.new (o := .xd [(f, v)]) R1.rel.fh R1.rel.po n1
    exact q1 _ _ dx [v] (R1.gr.trans R1.rel.po g2) p2 upd_same rfl (.cons ((t.dt c).mono g2.ff) .nil)
  · rw [if_neg c] at q1
    exact q1.elim
end

mutual
theorem sndS : ∀ c : CS, SndS c
  | .asg i e => by
    intro X E sc N k C st h o
    simp only [okS] at o
    simp only [chkS, Bool.and_eq_true] at h
    unfold cAsg at h
    split at h
    · simp only [Bool.and_eq_true] at h
      exact s_asg C h.1.1 h.1.2 h.2 o
    · cases h
  | .asgT is e => by
    intro X E sc N k C st h o
    simp only [okS] at o
    simp only [chkS] at h
    unfold cAsgT at h
    split at h
    · simp only [Bool.and_eq_true] at h
      exact s_asgT C h.1.1.1 (snd e C.cx _ h.1.1.2 o).pe h.1.2 h.2
    · cases h
  | .asgL is e => by
    intro X E sc N k C st h o
    simp only [okS] at o
    simp only [chkS] at h
    unfold cAsgT at h
    split at h
    · simp only [Bool.and_eq_true] at h
      exact s_asgL C h.1.1.1 (snd e C.cx _ h.1.1.2 o).pe h.1.2 h.2
    · cases h
  | .par is es => by
    intro X E sc N k C st h o
    simp only [okS] at o
    simp only [chkS] at h
    unfold cPar at h
    split at h
    · unfold cPar2 at h
      split at h
      · simp only [Bool.and_eq_true, Bool.not_eq_true'] at h
        obtain ⟨⟨⟨⟨⟨⟨⟨⟨⟨⟨h1, h2⟩, h3⟩, h4⟩, h5⟩, h6⟩, h7⟩, h8⟩, h9⟩, h10⟩, h11⟩ := h
        exact s_par2 C h1 h2 (of_decide_eq_true h3) h4 h5 h6 h7 h8 h9 h10 ((sndA es C.cx _ o).1 h11)
      · cases h
    · unfold cPar3 at h
      split at h
      · simp only [Bool.and_eq_true, Bool.not_eq_true'] at h
        obtain ⟨⟨⟨⟨⟨⟨⟨⟨⟨⟨⟨⟨⟨⟨⟨⟨h1, h2⟩, h3⟩, h4⟩, h5⟩, h6⟩, h7⟩, h8⟩, h9⟩, h10⟩, h11⟩, h12⟩, h13⟩, h14⟩, h15⟩, h16⟩, h17⟩ := h
        exact s_par3 C h1 h2 h3 (of_decide_eq_true h4) (of_decide_eq_true h5) (of_decide_eq_true h6) h7 h8 h9 h10 h11 h12 h13 h14 h15 h16 ((sndA es C.cx _ o).1 h17)
      · cases h
    · cases h
  | .own i es => by
    intro X E sc N k C st h o
    simp only [okS] at o
    simp only [chkS] at h
    unfold cOwn at h
    split at h
    · simp only [Bool.and_eq_true] at h
      exact s_own C h.1.1 h.1.2 ((sndA es C.cx _ o).1 h.2)
    · cases h
  | .ownC i a b => by
    intro X E sc N k C st h o
    simp only [okS] at o
    simp only [chkS] at h
    unfold cOwnC at h
    split at h
    · simp only [Bool.and_eq_true] at h
      exact s_ownC C h.1.1.1 h.1.1.2 (snd a C.cx _ h.1.2 o.1).pe (snd b C.cx _ h.2 o.2).pe
    · cases h
  | .ownL i e => by
    intro X E sc N k C st h o
    simp only [okS] at o
    simp only [chkS, Bool.and_eq_true] at h
    obtain ⟨h0, h⟩ := h
    unfold cAsg at h
    split at h
    · simp only [Bool.and_eq_true] at h
      exact s_ownL C h0 h.1.1 h.1.2 h.2 o
    · cases h
  | .parN i j e => by
    intro X E sc N k C st h o
    simp only [okS] at o
    simp only [chkS] at h
    unfold cParN at h
    split at h
    · simp only [Bool.and_eq_true] at h
      obtain ⟨⟨⟨⟨⟨⟨⟨h1, h2⟩, h3⟩, h4⟩, h5⟩, h6⟩, h7⟩, h8⟩ := h
      exact s_parN C h1 h2 (of_decide_eq_true h3) h4 h5 h6 h7 (snd e C.cx _ h8 o).pe
    · cases h
  | .parM i j e => by
    intro X E sc N k C st h o
    simp only [okS] at o
    simp only [chkS] at h
    unfold cParM at h
    split at h
    · simp only [Bool.and_eq_true] at h
      obtain ⟨⟨⟨⟨⟨⟨⟨h1, h2⟩, h3⟩, h4⟩, h5⟩, h6⟩, h7⟩, h8⟩ := h
      exact s_parM C h1 h2 (of_decide_eq_true h3) h4 h5 h6 h7 (snd e C.cx _ h8 o).pe
    · cases h
  | .app i e => by
    intro X E sc N k C st h o
    simp only [okS] at o
    simp only [chkS] at h
    unfold cApp at h
    split at h
    · simp only [Bool.and_eq_true] at h
      obtain ⟨⟨⟨⟨⟨⟨h1, h2⟩, h3⟩, h4⟩, h5⟩, h6⟩, h7⟩ := h
      exact s_app C h1 h2 h3 (nm_eq h4) h5 h6 (snd e C.cx _ h7 o).pe
    · cases h
  | .ext i e => by
    intro X E sc N k C st h o
    simp only [okS] at o
    simp only [chkS] at h
    unfold cApp at h
    split at h
    · simp only [Bool.and_eq_true] at h
      obtain ⟨⟨⟨⟨⟨⟨h1, h2⟩, h3⟩, h4⟩, h5⟩, h6⟩, h7⟩ := h
      exact s_ext C h1 h2 h3 (nm_eq h4) h5 h6 (snd e C.cx _ h7 o).pe
    · cases h
  | .ife t a b => by
    have ha := sndSs a
    have hb := sndSs b
    intro X E sc N k C st h o
    simp only [okS] at o
    simp only [chkS] at h
    unfold cIf at h
    split at h
    · simp only [Bool.and_eq_true] at h
      exact s_ife ((snd t C.cx _ h.1.1.2 o.1).pt h.1.1.1) (ha C _ h.1.2 o.2.1) (hb C _ h.2 o.2.2)
    · cases h
  | .forr tg it b => by
    have hb := sndSs b
    intro X E sc N k C st h o
    simp only [okS] at o
    simp only [chkS] at h
    unfold cFor at h
    split at h
    · rename_i tgx iter body p
      simp only [Bool.and_eq_true] at h
      obtain ⟨⟨⟨⟨h1, h2⟩, h3⟩, h4⟩, h5⟩ := h
      have htup : it.tup = true → isTup tgx = true := fun e => by
        rw [e] at h2
        simpa using h2
      exact s_forr C h1 (sndI it C.cx _ _ htup h3 o.1) (g_tg C.cx h4) (hb C _ h5 o.2)
    · cases h
  | .ret e => by
    intro X E sc N k C st h o
    simp only [okS] at o
    simp only [chkS] at h
    unfold cRet at h
    split at h
    · exact s_ret (snd e C.cx _ h o).pe
    · cases h
  | .retN => by
    intro X E sc N k C st h o
    simp only [chkS] at h
    unfold cRetN at h
    split at h
    · exact s_retN
    · cases h
  | .expr e => by
    intro X E sc N k C st h o
    simp only [okS] at o
    simp only [chkS] at h
    unfold cExpr at h
    split at h
    · simp only [Bool.and_eq_true] at h
      exact s_expr h.1 (snd e C.cx _ h.2 o).pe
    · cases h
  | .brk => by
    intro X E sc N k C st h o
    simp only [chkS] at h
    unfold cBrk at h
    split at h
    · exact s_brk
    · cases h
  | .cnt => by
    intro X E sc N k C st h o
    simp only [chkS] at h
    unfold cCnt at h
    split at h
    · exact s_cnt
    · cases h
  | .pas => by
    intro X E sc N k C st h o
    simp only [chkS] at h
    unfold cPas at h
    split at h
    · exact s_pas
    · cases h
  | .setF D f e => by
    intro X E sc N k C st h o
    simp only [okS] at o
    simp only [chkS] at h
    unfold cSetF at h
    split at h
    · simp only [Bool.and_eq_true] at h
      obtain ⟨⟨⟨⟨h1, h2⟩, h3⟩, h4⟩, h5⟩ := h
      exact s_setF C h1 h2 h3 (nm_eq h4) (.inr trivial) o.1 o.2.1 (snd e C.cx _ h5 o.2.2).pe
    · cases h
  | .dead => by
    intro X E sc N k C st h o
    exact s_dead
  | .rai D f e => by
    intro X E sc N k C st h o
    simp only [okS] at o
    simp only [chkS] at h
    unfold cRai at h
    split at h
    · simp only [Bool.and_eq_true] at h
      obtain ⟨⟨⟨⟨h1, h2⟩, h3⟩, h4⟩, h5⟩ := h
      have e1 := nm_eq h1
      subst e1
      exact s_rai C h2 h3 h4 o.1 (snd e C.cx _ h5 o.2).pe
    · cases h
theorem sndSs : ∀ c : CSs, SndSs c
  | .nil => by
    intro X E sc N k C sts h o
    simp only [chkSs] at h
    cases sts with
    | nil => exact s_nil
    | cons _ _ => cases h
  | .cons s r => by
    have hs := sndS s
    have hr := sndSs r
    intro X E sc N k C sts h o
    simp only [okSs] at o
    simp only [chkSs] at h
    cases sts with
    | nil => cases h
    | cons st sts =>
      simp only [cCons, Bool.and_eq_true] at h
      exact s_cons (hs C st h.1 o.1) (hr C sts h.2 o.2)
  | .frz j r => by
    have hr := sndSs r
    intro X E sc N k C sts h o
    simp only [okSs] at o
    simp only [chkSs] at h
    exact s_frz (hr C sts h o)
  | .grp n chk f r => by
    have hr := sndSs r
    intro X E sc N k C sts h o
    simp only [okSs] at o
    simp only [chkSs, Bool.and_eq_true] at h
    have g := o.1 rfl rfl rfl rfl rfl C (sts.take n) h.1 (sts.drop n) (evSs r) (hr C _ h.2 o.2)
    rw [List.take_append_drop] at g
    have e : evSs (.grp n chk f r) = fun S => (f S).then (evSs r) := funext fun S => by rw [evSs]
    rw [e]
    exact g
end

def endF : OutS → Out Da
  | .nx S => .ok .non S.po
  | .ret d P => .ok d P
  | .ex C fs ds P => .ex C fs ds P
  | _ => .no
def entry (sz : Nat) (ds : List Da) (P : Po) : Ev := ⟨ds.map .dat ++ List.replicate (sz - ds.length) .un, P⟩
def runF (n sz : Nat) (b : CSs) : Fs := fun ds P => if ds.length = n then endF (evSs b (entry sz ds P)) else .no
theorem runF_len {n sz : Nat} {b : CSs} {ds : List Da} {P : Po} (h : runF n sz b ds P ≠ .no) : ds.length = n := by
  by_cases c : ds.length = n
  · exact c
  · exact absurd (if_neg c) h
section
variable {P : Program} {w : World} {K : PySem.W.Frag} {mg : Str → Option Value} {base : Heap}
theorem vis_of {sc : Scope} {x : Str} (h : visB sc x = true) : Vis sc x := by
  unfold visB at h
  split at h
  · exact .inl (by assumption)
  · exact .inr (.inl (by assumption))
  · exact .inr (.inr (by assumption))
  · cases h
theorem loc_of {sc : Scope} {x : Str} (h : locB sc x = true) : Loc sc x := by
  unfold locB at h
  split at h
  · exact .inl (by assumption)
  · exact .inr (by assumption)
  · cases h
theorem glo_of {sc : Scope} {x : Str} (h : gloB sc x = true) : sc.names.lookup x = some .globalImplicit := by
  unfold gloB at h
  split at h
  · assumption
  · cases h
theorem lcl_iff {sc : Scope} {x : Str} : sc.names.lookup x = some .local ↔ lclB sc x = true := ⟨fun h => by unfold lclB; rw [h], lcl_of⟩
theorem unm_mark {sc : Scope} (hu : unm sc = true) {q : Str} : mark1 q sc = false := by
  cases h : mark1 q sc with
  | false => rfl
  | true =>
    have h1 := of_decide_eq_true h
    have h2 := List.all_eq_true.mp hu _ (PySem.mem_of_lookup h1)
    simp at h2
theorem sx_of {N ps : List Str} {k : Nat} {qual : Str} {scope : Scope} {f : Addr} {cdv : Value} {A : Around} {outer : List Env} {s : Shared} {H : Hp} {E : XK} (S : FnScope N ps scope) (hu : unm scope = true) (hr : Room (k + 1) (A.deeper (envOfC qual scope s.heap.objs.size f cdv))) (hg : A.guards = some []) :
    SxOk (cxOf (L2.CX P w) P w K mg base N qual scope f cdv A outer s H E) E scope N k where
  cx := {
    hN := rfl
    nd := S.nd
    vis := fun x h => vis_of h
    glo := fun x h => glo_of h
    loc := fun x h => ⟨loc_of h, .inl rfl⟩
    sub := fun x h => h
    calm := rfl
    gd := hg
    rm := hr
    tk := takes_of rfl rfl rfl rfl
    qc := fun q h => absurd h (by rw [unm_mark hu]; decide) }
  sq := fun x => lcl_iff
  kd := S.kind
  ps := passes_of rfl
theorem start_get {N : List Str} {vs : List V} {i : Nat} {v : V} (h : vs[i]? = some v) : (L2.start N vs)[i]? = some (some v) := by
  unfold L2.start
  have hl : i < vs.length := (List.getElem?_eq_some_iff.mp h).1
  rw [List.getElem?_append_left (by simpa using hl), List.getElem?_map, h]
  rfl
theorem entry_get {sz : Nat} {ds : List Da} {P : Po} {i : Nat} {sv : Sv} (h : (entry sz ds P).sl[i]? = some sv) : (∃ d, ds[i]? = some d ∧ sv = .dat d) ∨ sv = .un := by
  unfold entry at h
  dsimp only at h
  by_cases c : i < ds.length
  · rw [List.getElem?_append_left (by simpa using c), List.getElem?_map] at h
    cases hd : ds[i]? with
    | none => rw [hd] at h; cases h
    | some d => rw [hd] at h; cases h; exact .inl ⟨d, rfl, rfl⟩
  · rw [List.getElem?_append_right (by simpa using c)] at h
    exact .inr (List.eq_of_mem_replicate (List.mem_of_getElem? h))
theorem rel_entry {N : List Str} {pa : Pa} {me : Option Addr} {F H : Hp} {vs : List V} {ds : List Da} {Pq : Po} (hl : vs.length ≤ N.length) (fh : Same F H) (po : PoolOk F H pa Pq) (tl : pa.T = lamT K) (t : Dts K F pa vs ds) : RelS K pa me F H F (L2.start N vs) H (entry N.length ds Pq) where
  rel := {
    fh := fh
    po := po
    sl := fun i d h => by
      rcases entry_get h with ⟨e, h1, h2⟩ | h2
      · cases h2
        obtain ⟨v, e1, e2⟩ := t.get h1
        exact ⟨v, start_get e1, e2⟩
      · cases h2
    ow := fun i d h => by
      rcases entry_get h with ⟨e, h1, h2⟩ | h2 <;> cases h2
    dj := fun i j d e a h => by
      rcases entry_get h with ⟨e, h1, h2⟩ | h2 <;> cases h2
    se := fun i C fs d h => by
      rcases entry_get h with ⟨e, h1, h2⟩ | h2 <;> cases h2
    tl := tl
    len := by
      unfold L2.start entry
      simp only [List.length_append, List.length_map, List.length_replicate]
      rw [t.length] }
  gr := Gr.refl fh
  nw := fun i a h => by
    rcases h with ⟨es, h⟩ | ⟨C, fs, es, h⟩ <;> rcases entry_get h with ⟨e, h1, h2⟩ | h2 <;> cases h2
  sf := fun i C fs d h => by
    rcases entry_get h with ⟨e, h1, h2⟩ | h2 <;> cases h2
theorem end_post {E : XK} {pa : Pa} {me : Option Addr} {F H : Hp} {o : OutS} {Q : VK} (h : Post K E pa F H (endF o) Q) : PostS K E pa me F H F { nx := fun _ H' => Q .non H', rt := Q } o := by
  cases o with
  | nx S => exact fun σ' F' H' R _ => h .non F' H' R.gr R.rel.po .non
  | ret d P => exact fun v F' H' g p t => h v F' H' g p (Dx.of t)
  | ex C fs ds P => exact h
  | bk S => exact h.elim
  | ct S => exact h.elim
  | no => exact h.elim
theorem pre_le {N ps : List Str} {sc : Scope} (S : FnScope N ps sc) : ps.length ≤ N.length := by
  have := S.pre
  have h2 : (N.take ps.length).length = ps.length := by rw [this]
  rw [List.length_take] at h2
  omega
theorem gn_data {k : Nat} {f : Addr} {x qual : Str} {params : Arguments} {body : List Stmt} {scope : Scope} {dvs : List V} {kws : List (Str × V)} {fd : FuncData} {N ps : List Str} {b : CSs}
    (D : FunD K x qual params body scope dvs kws f fd) (S : FnScope N ps scope) (hu : unm scope = true) (hc : chkSs scope N b body = true) (ho : okSs P w K mg base k b) : Gn P w K mg base (k + 2) f fd ps (spD K ps.length (runF ps.length N.length b)) := by
  refine gn_of D S (fun vs H Q E h => h.1) fun cdv A outer s H vs Q E hr hg hsp => ?_
  refine ⟨_, sndSs b (sx_of (E := E) S hu hr hg) body hc ho, ?_⟩
  obtain ⟨hl, pa, F, Pq, ds, fh, po, tl, t, post⟩ := hsp
  refine ⟨pa, none, F, H, F, _, rel_entry (N := N) (by rw [hl]; exact pre_le S) fh po tl t, end_post ?_⟩
  unfold runF at post
  rw [if_pos (by rw [← t.length]; exact hl)] at post
  exact post
end

def endI : OutS → Out Da
  | .nx S => (match (S.sl[(0:Nat)]? : Option Sv) with
    | some (.slf C fs ds) => .ok (.obj C fs ds) S.po
    | _ => .no)
  | .ex C fs ds P => .ex C fs ds P
  | _ => .no
section
variable {P : Program} {w : World} {K : PySem.W.Frag} {mg : Str → Option Value} {base : Heap}
end

section
variable {K : PySem.W.Frag}
theorem flatB_ok {v : V} {d : Da} (h : flatB v d = true) (F : Hp) (pa : Pa) : Dt K F pa v d := by
  unfold flatB at h
  split at h
  · exact .non
  · cases eq_of_beq h; exact .bl _
  · cases of_decide_eq_true h; exact .int _
  · rw [of_decide_eq_true h]; exact .str _
  · cases h
theorem tupI_ok {a : Addr} {its : List Value} (h : tupI K a = some its) : ∃ (o : Obj) (xs : Array Value) (n : Nat), K.lookup a = some o ∧ o.cls = .type "tuple" ∧ o.data = .seq xs n ∧ xs.size ≤ sizeLine ∧ xs.toList = its := by
  unfold tupI at h
  split at h
  · rename_i c od xs n osl hk
    split at h
    · rename_i hc
      rw [Bool.and_eq_true] at hc
      cases h
      exact ⟨_, xs, n, hk, congrArg Value.type (of_decide_eq_true hc.1), rfl, of_decide_eq_true hc.2, rfl⟩
    · cases h
  · cases h
theorem datB_ok : ∀ (n : Nat) {v : V} {d : Da}, datB K n v d = true → ∀ F pa, Dt K F pa v d
  | 0, v, d, h, F, pa => flatB_ok h F pa
  | n + 1, v, d, h, F, pa => by
    unfold datB at h
    rw [Bool.or_eq_true] at h
    rcases h with h | h
    · exact flatB_ok h F pa
    · split at h
      · rename_i a ds
        cases e : tupI K a with
        | none => rw [e] at h; cases h
        | some its =>
          rw [e] at h
          have h : allB (fun u d => He.relB (vOf u) u && datB K n (vOf u) d) its ds = true := h
          obtain ⟨o, xs, m, h1, h2, h3, h4, h5⟩ := tupI_ok e
          have key : ∀ (us : List Value) (ds : List Da), allB (fun u d => He.relB (vOf u) u && datB K n (vOf u) d) us ds = true → Vals (us.map vOf) us ∧ Dts K F pa (us.map vOf) ds := fun us => by
            induction us with
            | nil =>
              intro ds h
              cases ds with
              | nil => exact ⟨.nil, .nil⟩
              | cons _ _ => cases h
            | cons u us ih =>
              intro ds h
              cases ds with
              | nil => cases h
              | cons d ds =>
                have h : ((He.relB (vOf u) u && datB K n (vOf u) d) && allB (fun u d => He.relB (vOf u) u && datB K n (vOf u) d) us ds) = true := h
                simp only [Bool.and_eq_true] at h
                obtain ⟨g1, g2⟩ := ih ds h.2
                exact ⟨.cons (He.relB_ok h.1.1) g1, .cons (datB_ok n h.1.2 F pa) g2⟩
          obtain ⟨g1, g2⟩ := key its ds h
          exact .tup (.inr ⟨o, xs, m, h1, h2, h3, h4, by rw [h5]; exact g1⟩) g2
      · cases h
theorem glbB_ok {h : Heap} {mg : Str → Option Value} (X : K.In h) (G : h.Ns mainGlobals mg) {x : Str} {d : Da} (c : glbB K x d = true) : GlbOk K mg x d := by
  unfold glbB at c
  split at c
  · rename_i u e
    rw [Bool.and_eq_true] at c
    exact ⟨vOf u, u, PySem.W.mg_of X G e, He.relB_ok c.1, datB_ok 6 c.2⟩
  · cases c
theorem datsV_ok : ∀ {vs : List V} {ds : List Da}, datsV K vs ds = true → ∀ F pa, Dts K F pa vs ds
  | [], [], _, _, _ => .nil
  | v :: vs, d :: ds, h, F, pa => by
    have h : (datB K 3 v d && datsV K vs ds) = true := h
    rw [Bool.and_eq_true] at h
    exact .cons (datB_ok 3 h.1 F pa) (datsV_ok h.2 F pa)
  | [], _ :: _, h, _, _ => by cases h
  | _ :: _, [], h, _, _ => by cases h
structure IsDef (K : PySem.W.Frag) (d : DefP) (fd : FuncData) : Prop where
  fn : FunD K d.name d.qual d.params d.body d.scope (dvsAt K (d.at_ K)) [] (d.at_ K) fd
  df : ∀ F pa, Dts K F pa (dvsAt K (d.at_ K)) d.dfl
theorem DefP.is {d : DefP} (e : fnAt K (d.at_ K) = d.val) (c : d.ok K = true) : ∃ fd, IsDef K d fd := by
  unfold DefP.ok at c
  rw [Bool.and_eq_true, Bool.and_eq_true] at c
  obtain ⟨kp, cd, c2⟩ := c
  unfold fnAt at e
  cases q : K.lookup (d.at_ K) with
  | none => rw [q] at c2; cases c2
  | some o =>
    obtain ⟨oc, od, dt, osl⟩ := o
    rw [q] at c2 e
    cases dt with
    | func fd =>
      obtain ⟨n1, n2, n3, n4, n5, n6, n7, n8, n9, n10, n11, n12, n13, n14, n15⟩ := fd
      have e2 : (some (n1, n2, n3, n4, n5, n6, n7, n15) : He.FnW) = some (d.name, d.qual, d.params, .stmts d.body, d.scope, mainGlobals, [], builtinsNs) := e
      simp only [Option.some.injEq, Prod.mk.injEq] at e2
      obtain ⟨h1, h2, h3, h4, h5, h6, h7, h8⟩ := e2
      subst h1 h2 h3 h4 h5 h6 h7 h8
      have c3 : (PySem.W.codeIn K n13 d.qual && He.dflB K n8 (dvsAt K (d.at_ K))) = true := c2
      rw [Bool.and_eq_true] at c3
      exact ⟨_, ⟨⟨oc, od, n8, n9, n10, n11, n12, n13, n14, osl, rfl, q, c3.1, He.dflB_ok c3.2, .inl rfl⟩, kp⟩, datsV_ok cd⟩
    | _ => cases c2
def SaysP (fa : List He.Fa) (fn : List DefP) (ex : PySem.W.Frag → Bool) (K : PySem.W.Frag) : Prop := obsP fa fn ex K = valP fn
variable {fa : List He.Fa} {fn : List DefP} {ex : PySem.W.Frag → Bool}
theorem SaysP.all (c : SaysP fa fn ex K) : (∀ f ∈ fa, f.ok K = true) ∧ (∀ d ∈ fn, d.ok K = true) ∧ ex K = true := by
  have c1 : ((fa.all fun f => f.ok K) && ((fn.all fun d => d.ok K) && ex K)) = true := congrArg (fun z : AlP => z.1) c
  rw [Bool.and_eq_true, Bool.and_eq_true] at c1
  exact ⟨List.all_eq_true.mp c1.1, List.all_eq_true.mp c1.2.1, c1.2.2⟩
theorem SaysP.fact (c : SaysP fa fn ex K) {f : He.Fa} (h : f ∈ fa) : f.ok K = true := c.all.1 f h
theorem SaysP.defs (c : SaysP fa fn ex K) {d : DefP} (h : d ∈ fn) : ∃ fd, IsDef K d fd := by
  obtain ⟨i, hi, e⟩ := List.mem_iff_getElem.mp h
  have e1 : fn.map (fun d => fnAt K (d.at_ K)) = fn.map DefP.val := congrArg (fun z : AlP => z.2) c
  have e2 : (fn.map fun d => fnAt K (d.at_ K))[i]? = (fn.map DefP.val)[i]? := by rw [e1]
  rw [List.getElem?_map, List.getElem?_map, List.getElem?_eq_getElem hi, e] at e2
  exact DefP.is (Option.some.inj e2) (c.all.2.1 d h)
end

section
variable {P : Program} {w : World} {K : PySem.W.Frag} {mg : Str → Option Value} {base : Heap}
theorem DefOk.mono {j k : Nat} {x : Str} {f : Fs} (h : DefOk P w K mg base j x f) (hk : j ≤ k) : DefOk P w K mg base k x f := by
  obtain ⟨fd, ps, G, r⟩ := h
  exact ⟨fd, ps, G.mono hk, r⟩
theorem MthOk.mono {j k : Nat} {C m : Str} {f : Fs} (h : MthOk P w K mg base j C m f) (hk : j ≤ k) : MthOk P w K mg base k C m f := by
  obtain ⟨g, fd, ps, G, r⟩ := h
  exact ⟨g, fd, ps, G.mono hk, r⟩
theorem PrpOk.mono {j k : Nat} {C m : Str} {f : Fs} (h : PrpOk P w K mg base j C m f) (hk : j ≤ k) : PrpOk P w K mg base k C m f := by
  obtain ⟨c, p, g, fd, ps, G, r⟩ := h
  exact ⟨c, p, g, fd, ps, G.mono hk, r⟩
theorem MakeOk.mono {j k : Nat} {C : Str} {f : Fs} {bd : FuncData → List Str → Prop} (h : MakeOk P w K mg base j C f bd) (hk : j ≤ k) : MakeOk P w K mg base k C f bd := by
  obtain ⟨g, fd, ps, M, G, r⟩ := h
  exact ⟨g, fd, ps, M, G.mono hk, r⟩
theorem IsDef.bare {d : DefP} {fd : FuncData} (D : IsDef K d fd) (h : d.dfl = []) : FunD K d.name d.qual d.params d.body d.scope [] [] (d.at_ K) fd := by
  have t := D.df (fun _ => none) ⟨none, []⟩
  rw [h] at t
  have e : dvsAt K (d.at_ K) = [] := by
    cases hd : dvsAt K (d.at_ K) with
    | nil => rfl
    | cons v vs => rw [hd] at t; cases t
  have F := D.fn
  rw [e] at F
  exact F
end
end DL
namespace DL
open PySem PySem.Spec PyProof.Rows L2 SS
def dcr : List Str → Nat
  | [] => 0
  | x :: r => if x ∈ r then dcr r else dcr r + 1
def dct (xs : List Str) : Nat := dcr xs.reverse
section
variable {prog : Program} {w : World} {A : Around} {R : Result → Shared → Prop} {I : Addr} {fp wr : List Addr} {G : Array GenState → Array GenState → Prop} {n : Nat} {P : Nat → Value → Prop} {St : Nat → Shared → Prop}
end
section
variable {prog : Program} {w : World} {A : Around} {E : Value → Shared → Prop} {s : Shared}
end
end DL
namespace DL
open PySem PySem.Spec PyProof.Rows L2
section
variable {fa : List He.Fa} {fn : List DefP} {ex : PySem.W.Frag → Bool} {ts : List He.Tab} {w : World} {K : PySem.W.Frag}
theorem SaysQ.p (c : SaysQ fa fn ex ts w K) : SaysP fa fn ex K := congrArg (fun z : AlQ => z.1) c
end

theorem ev1' (c : CE) (S : Ev) (f : Fs) : ((evA (.cons c .nil) S).bind fun ds P => f ds P) = (evE c S).bind fun d P => f [d] P := by
  unfold evA
  cases evE c S with
  | ok d P => unfold evA; rfl
  | ex C fs ds P => rfl
  | no => rfl
section
variable {P : Program} {w : World} {K : PySem.W.Frag} {mg : Str → Option Value} {base : Heap} {k : Nat}
end
section
variable {X : Cx} {E : XK} {d : Addr} {es : Array DictEntry} {n : Nat}
end
section
variable {P : Program} {w : World} {K : PySem.W.Frag} {mg : Str → Option Value} {base : Heap} {k : Nat} {x : Str} {tb : List (Str × Int)}
end
def CmOk (P : Program) (w : World) (K : PySem.W.Frag) (mg : Str → Option Value) (base : Heap) (k : Nat) (C m : Str) (f : Fs) (bd : FuncData → List Str → Prop) : Prop :=
  mg C = some (.ref (He.ga K C)) ∧ ∃ mc p g fd ps, ClX.CRead K (He.ga K C) mc ∧ ClX.CMet K (He.ga K C) mc m p g ∧ Gn P w K mg base k g fd ps (spD K ps.length f) ∧ (∀ ds P', f ds P' ≠ .no → ds.length = ps.length) ∧ bd fd ps
theorem CmOk.mono {P : Program} {w : World} {K : PySem.W.Frag} {mg : Str → Option Value} {base : Heap} {j k : Nat} {C m : Str} {f : Fs} {bd : FuncData → List Str → Prop} (h : CmOk P w K mg base j C m f bd) (hk : j ≤ k) : CmOk P w K mg base k C m f bd := by
  obtain ⟨h1, mc, p, g, fd, ps, h2, h3, G, r⟩ := h
  exact ⟨h1, mc, p, g, fd, ps, h2, h3, G.mono hk, r⟩
section
variable {X : Cx} {E : XK} {k : Nat}
end
section
variable {P : Program} {w : World} {K : PySem.W.Frag} {mg : Str → Option Value} {base : Heap} {k : Nat} {C m : Str} {f : Fs}
end
section
variable {P : Program} {w : World} {K : PySem.W.Frag} {mg : Str → Option Value} {base : Heap} {k : Nat} {C : Str} {f : Fs}
end
theorem MmOk.mono {P : Program} {w : World} {K : PySem.W.Frag} {mg : Str → Option Value} {base : Heap} {j k : Nat} {C m : Str} {f : Fs} {bd : FuncData → List Str → Prop} (h : MmOk P w K mg base j C m f bd) (hk : j ≤ k) : MmOk P w K mg base k C m f bd := by
  obtain ⟨h1, g, fd, ps, G, r⟩ := h
  exact ⟨h1, g, fd, ps, G.mono hk, r⟩
section
variable {X : Cx} {E : XK} {k : Nat}
end
section
variable {P : Program} {w : World} {K : PySem.W.Frag} {mg : Str → Option Value} {base : Heap} {k : Nat} {C m : Str} {f : Fs}
end

structure XsC (K : PySem.W.Frag) (C : Addr) : Prop where
  cl : (PySem.W.clsIn K C).isSome = true
  ga : PySem.W.findIn K (.ref C) "__getattribute__" = some (some (.builtin "BaseException.__getattribute__"))
  gg : PySem.W.findIn K (.ref C) "__getattr__" = some none
  exC : PySem.W.subIn K (.ref C) (.type "BaseException") = some true
  ha : PySem.W.findIn K (.ref C) "__class__" = some (some (.builtin "object.__class__"))
  hn : PySem.W.specialIn K (.builtin "object.__class__") "__get__" = some (some (.builtin "getset_descriptor.__get__"))
  htk : PySem.W.takesIn K (.builtin "object.__class__") = some true
  hm : PySem.W.mroIn K C (.type "object") = some true
  hdC : PySem.W.hasDictIn K C = true
theorem xsB_ok {K : PySem.W.Frag} {C : Addr} (h : xsB K C = true) : XsC K C := by
  unfold xsB at h
  simp only [Bool.and_eq_true] at h
  obtain ⟨h1, h2, h3, h4, h5, h6, h7, h8, h9⟩ := h
  exact ⟨h1, He.eqO_ok h2, He.eqO_ok h3, of_decide_eq_true h4, He.eqO_ok h5, He.eqO_ok h6, of_decide_eq_true h7, of_decide_eq_true h8, h9⟩
def initB (fld arg : Str) : List Stmt → Bool
  | [.Assign [.Attribute (.Name s _) f _] (.Name y _) _] => nmEq "self" s && (nmEq fld f && nmEq arg y)
  | _ => false
section
variable {P : Program} {w : World} {K : PySem.W.Frag} {mg : Str → Option Value} {base : Heap}
end
section
variable {X : Cx} {E : XK} {p : Addr × Obj} {dd : Addr}
def hE (f : Fs) (c : CE) : CE := .xa (.hand fun _ _ => none) f (.cons c .nil)
theorem hE_ev (f : Fs) (c : CE) (S : Ev) : evE (hE f c) S = (evE c S).bind fun d P => f [d] P := by
  show (evA (.cons c .nil) S).bind (fun ds P => f ds P) = _
  exact ev1' c S f
def rCntF (K : PySem.W.Frag) : V → List V → Hp → VK → Prop := fun x xs H Q => ∃ (a : Addr) (ys : List V) (y : V), x = V.ref a ∧ xs = [y] ∧ SqL K H a ys ∧ flatV y = true ∧ ys.all flatV = true ∧ Q (.int ((ys.countP fun z => eqV z y : Nat) : Int)) H
theorem cnt_vals {y : V} : ∀ {ys : List V} {us : List Value}, Vals ys us → ys.all flatV = true → us.countP (eqU y) = ys.countP fun z => eqV z y
  | _, _, .nil, _ => rfl
  | _, _, .cons r t, f => by
    rw [List.all_cons, Bool.and_eq_true] at f
    rw [List.countP_cons, List.countP_cons, cnt_vals t f.2, eqU_of r f.1]
theorem mt_countF : MtR X "list.count" (rCntF X.K) := by
  intro pins s σ H x xs v us Q I rx rxs h
  obtain ⟨a, ys, y, rfl, rfl, hs, fy, fys, q⟩ := h
  cases rx
  obtain ⟨u, rfl, ru⟩ := rxs.one
  obtain ⟨its, rv, ⟨⟨cls, dd, data, sl⟩, n, ho, hc, hdn, hd⟩, hlen⟩ := I.list hs
  simp only at hc hd
  subst hc hd
  refine call_meets PySem.F.slot_list_count ⟨_, ho, rfl⟩ PySem.F.entry_list_count (PySem.F.args_list_count_2 _ _)
    (SeqAt.list_countAt a its.toArray n dd sl u (eqU y)) ⟨ho, fun u' hu' => mem_eqAt ru fy rv fys u' (by simpa using hu'), ?_⟩
  refine ⟨.int ((ys.countP fun z => eqV z y : Nat) : Int), H, I.tok _, ⟨s.toks, ?_⟩, q⟩
  show Value.int ((its.toArray.toList.countP (eqU y) : Nat) : Int) s.toks = _
  rw [show its.toArray.toList = its from rfl, cnt_vals rv fys]
def fCnt (y : Da) : Fs := fun ds P => match ds with
  | [.lst xs] => if (y.flat && xs.all Da.flat) = true then .ok (.int ((xs.countP fun z => eqd z y : Nat) : Int)) P else .no
  | _ => .no
def ixOf (y : Da) : List Da → Option Nat
  | [] => none
  | x :: xs => if eqd x y = true then some 0 else (ixOf y xs).map (· + 1)
def fIdx (y : Da) : Fs := fun ds P => match ds with
  | [.lst xs] => if (y.flat && xs.all Da.flat) = true then (match ixOf y xs with
    | some j => .ok (.int (j : Int)) P
    | none => .no) else .no
  | _ => .no
theorem ixOf_some {y : Da} : ∀ {xs : List Da} {j : Nat}, ixOf y xs = some j → (∃ z, xs[j]? = some z ∧ eqd z y = true) ∧ ∀ m z', m < j → xs[m]? = some z' → eqd z' y = false
  | [], _, h => by cases h
  | x :: xs, j, h => by
    unfold ixOf at h
    split at h
    · rename_i c
      cases h
      exact ⟨⟨x, rfl, c⟩, fun m z' hm => absurd hm (Nat.not_lt_zero _)⟩
    · rename_i c
      cases q : ixOf y xs with
      | none => rw [q] at h; cases h
      | some i =>
        rw [q] at h
        cases h
        obtain ⟨⟨z, h1, h2⟩, h3⟩ := ixOf_some q
        refine ⟨⟨z, by simpa using h1, h2⟩, fun m z' hm he => ?_⟩
        cases m with
        | zero =>
          simp at he
          subst he
          exact Bool.eq_false_iff.mpr c
        | succ m => exact h3 m z' (by have h4 : m + 1 < i + 1 := hm; omega) (by simpa using he)
theorem cnt_dts {K : PySem.W.Frag} {F : Hp} {pa : Pa} {w : V} {y : Da} (k : Dt K F pa w y) (g : y.flat = true) : ∀ {vs : List V} {ds : List Da}, Dts K F pa vs ds → ds.all Da.flat = true → (vs.countP fun z => eqV z w) = ds.countP fun z => eqd z y
  | _, _, .nil, _ => rfl
  | _, _, .cons h t, f => by
    rw [List.all_cons, Bool.and_eq_true] at f
    rw [List.countP_cons, List.countP_cons, cnt_dts k g t f.2, h.eqV k f.1 g]
theorem con_of {y : Da} {c : Const} (h : conB y c = true) (hf : y.flat = true) {k : Nat} {cp : Pos} : ∃ v : V, PE X (.Constant c k cp) (tC v) ∧ ∀ F pa, Dt X.K F pa v y := by
  unfold conB at h
  split at h
  · exact ⟨.non, pe_non, fun _ _ => .non⟩
  · cases eq_of_beq h
    exact ⟨.bl _, pe_bl, fun _ _ => .bl _⟩
  · cases of_decide_eq_true h
    exact ⟨.int _, pe_int, fun _ _ => .int _⟩
  · rename_i l s
    have e := of_decide_eq_true h
    subst e
    refine ⟨.str s, pe_str, fun F pa => ?_⟩
    have := Dt.str (K := X.K) (F := F) (pa := pa) s.cps.toList
    rw [sg_tl] at this
    exact this
  · cases h
theorem h_cnt {m : Str} {e : Expr} {c : CE} {y : Da} {cst : Const} {k : Nat} {cp apos pos : Pos} (hm : m = "count") (hy : conB y cst = true) (hf : y.flat = true) (hb0 : nobase e = true) (hl : (apos.endLine == pos.line) = true) (ha : PE X e (up X.K E (evE c))) :
    PE X (.Call (.Attribute e m apos) [.Constant cst k cp] [] pos) (up X.K E (evE (hE (fCnt y) c))) := by
  subst hm
  obtain ⟨w, hw, tw⟩ := con_of (X := X) (k := k) (cp := cp) hy hf
  have hpa : PA X [.Constant cst k cp] (tCons (tC w) tNil) := pa_cons hw pa_nil rfl
  refine PE.imp (pe_bm PySem.F.plainAttrs_list PySem.F.slot_list_count PySem.F.type_list_count mt_countF ha hpa (base_of hb0) rfl hl rfl rfl) fun σ H Q h => ?_
  obtain ⟨pa, F, S, R, h⟩ := h
  rw [hE_ev] at h
  refine ⟨pa, F, S, R, (Post.bind h).mono ?_⟩
  rintro v H1 ⟨d, P1, F1, _, st, h1⟩
  unfold fCnt at h1
  split at h1
  · rename_i xs heq
    cases heq
    split at h1
    · rename_i hc
      rw [Bool.and_eq_true] at hc
      obtain ⟨a, vs, e1, e2, e3⟩ := Dx.ls st.g.fh st.t (xs := xs) rfl
      subst e1
      refine ⟨.inl ⟨rfl, _, SqL.of e2⟩, a, vs, w, rfl, rfl, SqL.of e2, (tw F1 pa).flatV hc.1, e3.flat hc.2, ?_⟩
      rw [cnt_dts (tw F1 pa) hc.1 e3 hc.2]
      exact Post.now st.g.fh st.p h1 (Dx.of (.int _))
    · exact h1.elim
  · exact h1.elim
theorem h_idx {m : Str} {e : Expr} {c : CE} {y : Da} {cst : Const} {k : Nat} {cp apos pos : Pos} (hm : m = "index") (hy : conB y cst = true) (hf : y.flat = true) (hb0 : nobase e = true) (hl : (apos.endLine == pos.line) = true) (ha : PE X e (up X.K E (evE c))) :
    PE X (.Call (.Attribute e m apos) [.Constant cst k cp] [] pos) (up X.K E (evE (hE (fIdx y) c))) := by
  subst hm
  obtain ⟨w, hw, tw⟩ := con_of (X := X) (k := k) (cp := cp) hy hf
  have hpa : PA X [.Constant cst k cp] (tCons (tC w) tNil) := pa_cons hw pa_nil rfl
  refine PE.imp (pe_bm PySem.F.plainAttrs_list PySem.F.slot_list_index PySem.F.type_list_index mt_index ha hpa (base_of hb0) rfl hl rfl rfl) fun σ H Q h => ?_
  obtain ⟨pa, F, S, R, h⟩ := h
  rw [hE_ev] at h
  refine ⟨pa, F, S, R, (Post.bind h).mono ?_⟩
  rintro v H1 ⟨d, P1, F1, _, st, h1⟩
  unfold fIdx at h1
  split at h1
  · rename_i xs heq
    cases heq
    split at h1
    · rename_i hc
      rw [Bool.and_eq_true] at hc
      split at h1
      · rename_i j hj
        obtain ⟨⟨z, z1, z2⟩, z3⟩ := ixOf_some hj
        obtain ⟨a, vs, e1, e2, e3⟩ := Dx.ls st.g.fh st.t (xs := xs) rfl
        have fl : ∀ (i : Nat) (v' : V) (d' : Da), vs[i]? = some v' → xs[i]? = some d' → Dt X.K F1 pa v' d' → eqV v' w = eqd d' y := fun i v' d' _ hd' ht => ht.eqV (tw F1 pa) (List.all_eq_true.mp hc.2 _ (List.mem_of_getElem? hd')) hc.1
        obtain ⟨v0, k1, k2⟩ := e3.get z1
        subst e1
        refine ⟨.inl ⟨rfl, _, SqL.of e2⟩, a, vs, w, j, v0, rfl, rfl, SqL.of e2, (tw F1 pa).flatV hc.1, e3.flat hc.2, k1, by rw [fl j v0 z k1 z1 k2]; exact z2, fun m z' hm hz' => ?_, Post.now st.g.fh st.p h1 (Dx.of (.int _))⟩
        obtain ⟨d', g1, g2⟩ := e3.getV hz'
        rw [fl m z' d' hz' g1 g2]
        exact z3 m d' hm g1
      · exact h1.elim
    · exact h1.elim
  · exact h1.elim
end

section
variable {P : Program} {w : World} {K : PySem.W.Frag} {mg : Str → Option Value} {base : Heap}
end
section
variable {X : Cx} {E : XK} {p : Addr × Obj} {k : Nat}
end
section
variable {X : Cx} {x1 x2 x3 n : Str} {c1 c2 c3 : Value} {i kk : Nat} {body suite : List Stmt} {b0 : Stmt} {p1 p2 p3 tp pos pos' : Pos} {tb : WX → TS} {ts : Addr → Value → Option Addr → TS}
end

structure CxH (X : Cx) (sc : Scope) (N : List Str) (k : Nat) (p : Addr × Obj) : Prop where
  hN : X.N = N
  nd : N.Nodup
  vis : ∀ x, visB sc x = true → Vis X.env.scope x
  glo : ∀ x, gloB sc x = true → Gl X x
  loc : ∀ x, locB sc x = true → Loc X.env.scope x ∧ (X.fn x = true ∨ X.env.scope.names.lookup x = some .local)
  gd : X.A.guards = some []
  rm : L2H.RoomH k X.A
  hp : p ∈ X.pn
theorem CxH.units {X : Cx} {sc : Scope} {N : List Str} {k : Nat} {p : Addr × Obj} (h : CxH X sc N k p) : X.A.units + 66 < cLine := by
  have := h.rm.un
  omega
section
variable {X : Cx} {E : XK}
end
theorem CxH.nm {X : Cx} {sc : Scope} {N : List Str} {k : Nat} {p : Addr × Obj} (C : CxH X sc N k p) {i : Nat} {x : Str} (h : decide (N[i]? = some x) = true) : X.N[i]? = some x := by rw [C.hN]; exact of_decide_eq_true h
theorem CxH.nn {X : Cx} {sc : Scope} {N : List Str} {k : Nat} {p : Addr × Obj} (C : CxH X sc N k p) : X.N.Nodup := by rw [C.hN]; exact C.nd

def isxSub (T : Str) (sc : Scope) : Expr → Option (List Expr)
  | .Call (.Name y _) [e, .Name t _] [] _ => if (nmEq "isinstance" y && gloB sc y && nmEq T t && gloB sc t && okNm t) = true then some [e] else none
  | _ => none
def flxSub (f : Str) (sc : Scope) : Expr → Option (List Expr)
  | .Attribute e g _ => if (nmEq f g && nobase e) = true then some [e] else none
  | _ => none
def mtcSub (m : Str) (sc : Scope) : Expr → Option (List Expr)
  | .Call (.Attribute e g apos) [.Constant (.bool true) _ _] [] pos => if (nmEq m g && nobase e && (apos.endLine == pos.line)) = true then some [e] else none
  | _ => none
def isi (f : Str → Fs) (T : Str) : CE := .xa (.hand (isxSub T)) (f T) (.cons (.var 0) .nil)
def Gd (x : Da) (S : Ev) : Prop := S.sl[0]? = some (.dat x)
theorem Gd.wp {x : Da} {S : Ev} (h : Gd x S) (P : Po) : Gd x (S.wp P) := h
theorem Gd.set {x : Da} {S : Ev} {i : Nat} {v : Sv} (h : Gd x S) (hi : i ≠ 0) : Gd x (setSl S i v) := by
  show (S.sl.set i v)[0]? = _
  rw [List.getElem?_set_ne hi]
  exact h
section
variable {f : Str → Fs} {C : Str} {x : Da} (hf : ∀ T P, f T [x] P = .ok (.bl (ansQ C T)) P)
include hf
end

section
variable {P : Program} {w : World} {K : PySem.W.Frag} {mg : Str → Option Value} {base : Heap} {k : Nat} {p : Addr × Obj} {dd : Addr} {C : Str}
end

section
variable {X : Cx} {pins : List (Addr × Obj)} {σ : L2.St} {H : Hp} {s : Shared}
end

theorem Gr.lam {pa : Pa} {F H H1 : Hp} {Pq : Po} (fh : Same F H) (po : PoolOk F H pa Pq) (eN : LamX.ExtN H H1) (T1 : LamX.Tabs pa.T H1) (tn : ∀ b qs, H1 b = some (.tbl qs) → ∃ rs, H b = some (.tbl rs)) : Gr pa F H F H1 ∧ PoolOk F H1 pa Pq := by
  have nt : ∀ a o, F a = some o → ∀ ps, o ≠ .tbl ps := fun a o e ps z => by
    subst z
    obtain ⟨q, hq, e2⟩ := po.tb.only a ps (fh _ _ e)
    have := po.tb.out q hq
    rw [e2, e] at this
    cases this
  have f1 : Same F H1 := fun a o e => eN a o (fh _ _ e) (nt a o e)
  refine ⟨⟨Same.refl _, f1, fun a o e n => eN a o e fun ps z => ?_, fun a o e => .inl e⟩, ⟨po.pp.ext (fun p e => ?_) (fun p o e h => ?_), ⟨T1, po.tb.out, fun a ps e => ?_⟩⟩⟩
  · subst z
    obtain ⟨q, hq, e2⟩ := po.tb.only a ps e
    exact n.2 q hq e2
  · have hp := po.pp
    rw [e] at hp
    obtain ⟨_, _, _, _, h1, _⟩ := hp.at
    exact h1
  · have hp := po.pp
    rw [e] at hp
    obtain ⟨_, _, _, _, _, h2⟩ := hp.at
    rw [h2] at h
    cases h
    exact eN _ _ h2 fun ps z => by cases z
  · obtain ⟨rs, hr⟩ := tn a ps e
    exact po.tb.only a rs hr
section
variable {P : Program} {w : World} {K : PySem.W.Frag} {mg : Str → Option Value} {base : Heap} {x told : Str}
end

section
variable {X : Cx} {n : Str} {i : Nat} {body : List Stmt} {h0 : ExceptHandler} {hds : List ExceptHandler} {l : List (Value × (Addr → Value → Option Addr → TS))} {pos : Pos} {tb : WX → TS}
end
section
variable {P : Program} {w : World} {K : PySem.W.Frag} {mg : Str → Option Value} {base : Heap} {x told : Str}
end
section
variable {P : Program} {w : World} {K : PySem.W.Frag} {mg : Str → Option Value} {base : Heap}
end
def callDF (x : Str) (sc : Scope) : Expr → Option (List Expr) := callN sc x
def DefDf (P : Program) (w : World) (K : PySem.W.Frag) (mg : Str → Option Value) (base : Heap) (k : Nat) (x : Str) (f : Fs) (dfs : List Da) : Prop :=
  ∃ fd ps, Gn P w K mg base k (He.ga K x) fd ps (spD K ps.length f) ∧ (∀ ds P', f ds P' ≠ .no → ds.length = ps.length) ∧ BindDf K dfs fd ps ∧ PySem.W.keepIn K (.ref (He.ga K x)) = true ∧ mg x = some (.ref (He.ga K x))
theorem DefDf.mono {P : Program} {w : World} {K : PySem.W.Frag} {mg : Str → Option Value} {base : Heap} {j k : Nat} {x : Str} {f : Fs} {dfs : List Da} (h : DefDf P w K mg base j x f dfs) (hk : j ≤ k) : DefDf P w K mg base k x f dfs := by
  obtain ⟨fd, ps, G, r⟩ := h
  exact ⟨fd, ps, G.mono hk, r⟩
def callKF (x : Str) (ks : List Str) (sc : Scope) : Expr → Option (List Expr) := callK sc x ks
def BindKF (K : PySem.W.Frag) (ks : List Str) (pr : List Nat) (fd : FuncData) (ps : List Str) : Prop := pr.length = ps.length ∧ (∀ i ∈ pr, i < ks.length) ∧
  ∀ (s : Shared) (ws : List Value), K.In s.heap → ws.length = ks.length → BindsTo s fd ⟨[], ks.zip ws⟩ (ps.zip (pr.map fun i => ws.getD i .none))
def DefKw (P : Program) (w : World) (K : PySem.W.Frag) (mg : Str → Option Value) (base : Heap) (k : Nat) (x : Str) (f : Fs) (ks : List Str) (pr : List Nat) : Prop :=
  ∃ fd ps, Gn P w K mg base k (He.ga K x) fd ps (spD K ps.length f) ∧ (∀ ds P', f ds P' ≠ .no → ds.length = ps.length) ∧ BindKF K ks pr fd ps ∧ PySem.W.keepIn K (.ref (He.ga K x)) = true ∧ mg x = some (.ref (He.ga K x))
theorem DefKw.mono {P : Program} {w : World} {K : PySem.W.Frag} {mg : Str → Option Value} {base : Heap} {j k : Nat} {x : Str} {f : Fs} {ks : List Str} {pr : List Nat} (h : DefKw P w K mg base j x f ks pr) (hk : j ≤ k) : DefKw P w K mg base k x f ks pr := by
  obtain ⟨fd, ps, G, r⟩ := h
  exact ⟨fd, ps, G.mono hk, r⟩
section
variable {X : Cx} {E : XK} {k : Nat}
end
section
variable {P : Program} {w : World} {K : PySem.W.Frag} {mg : Str → Option Value} {base : Heap} {k : Nat} {x : Str} {f : Fs}
end
end DL
namespace GQ2
open PySem PySem.SeqAt
open AutoSeq1 (wpAny_loadPart')
open MeetsSeq MeetsSeq2 MeetsSeq3 SeqRoads2 GQ
section
variable {prog : Program} {w : World} {A : Around} {R : Result → Shared → Prop}
end
section
variable {prog : Program} {w : World} {A : Around} {E : Value → Shared → Prop} {s : Shared}
end
end GQ2
namespace DL
open PySem PySem.Spec PyProof.Rows L2
section
variable {P : Program} {w : World} {K : PySem.W.Frag} {mg : Str → Option Value} {base : Heap} {k : Nat} {f : Fs}
end
open PySem.W (sortingHeap copyHeap sorting_copy_old alike alikeAll keyToks keyToksAll dataLt EachIs dataKind dataLe sortVals SortsAt KatTups)

section
variable {prog : Program} {w : World} {A : Around} {E : Value → Shared → Prop} {s : Shared}
end

section
variable {X : Cx} {E : XK}
end
section
variable {P : Program} {w : World} {K : PySem.W.Frag} {mg : Str → Option Value} {base : Heap} {k : Nat}
end

section
variable {P : Program} {w : World} {K : PySem.W.Frag} {mg : Str → Option Value} {base : Heap} {k : Nat}
end
def lrg (sc : Scope) : Expr → Option (List Expr)
  | .Call (.Name y _) [.Call (.Name z _) [a] [] _] [] _ => if (nmEq "list" y && gloB sc y && nmEq "range" z && gloB sc z && nostar a) = true then some [a] else none
  | _ => none
def fLrg : Fs := fun ds P => match ds with
  | [.int j] => if -(lim : Int) ≤ j ∧ j ≤ lim then .ok (.lst (rngL 0 j.toNat)) P else .no
  | _ => .no
theorem rg_dts {K : PySem.W.Frag} {F : Hp} {pa : Pa} : ∀ (ks : List Nat), Dts K F pa (ks.map fun i => V.int (0 + (i : Nat))) (ks.map fun (k : Nat) => Da.int (0 + (k : Int)))
  | [] => .nil
  | k :: ks => .cons (.int _) (rg_dts ks)
section
variable {P : Program} {w : World} {K : PySem.W.Frag} {mg : Str → Option Value} {base : Heap} {k : Nat}
theorem lrg_ok (hm : mg "list" = none) (hm2 : mg "range" = none) : HandOk P w K mg base k lrg fLrg := by
  intro X E sc N e es as hP hw hK hmg hb0 D hs hp hA hpa hE
  subst hP hw hK hmg hb0
  unfold lrg at hs
  split at hs
  · rename_i y p z p2 a pos2 pos
    split at hs
    · rename_i hc
      simp only [Bool.and_eq_true] at hc
      obtain ⟨⟨⟨⟨h1, h2⟩, h3⟩, h4⟩, h5⟩ := hc
      cases hs
      have e1 := nm_eq h1
      subst e1
      have e3 := nm_eq h3
      subst e3
      rcases as with _ | ⟨ca, r⟩ | ⟨ca, r⟩
      · simp [chkA] at hA
      · rcases r with _ | ⟨cb, r⟩ | ⟨cb, r⟩
        · refine .plain (PE.imp (pe_listRg D.calm (D.glo _ h2) hm (prg_1 (D.glo _ h4) hm2 hE.1 (star_no h5))) fun σ H Q h => ?_) rfl
          obtain ⟨pa, F, S, R, h⟩ := h
          dsimp only at h
          rw [ev1'] at h
          refine ⟨pa, F, S, R, (Post.bind h).mono ?_⟩
          rintro v H1 ⟨d, P1, F1, _, st, h1⟩
          unfold fLrg at h1
          split at h1
          · rename_i j heq
            injection heq with z1 _
            subst z1
            by_cases c : -(lim : Int) ≤ j ∧ j ≤ lim
            · rw [if_pos c] at h1
              have hl : (lim : Int) ≤ 16777216 := by show ((lim : Nat) : Int) ≤ 16777216; unfold lim; decide
              refine ⟨j, Dt.int_inv st.t, ⟨by decide, by decide, by omega, by omega, by omega⟩, fun q hq => ?_⟩
              refine Post.newO st.g.fh st.p h1 hq (.lst upd_same ?_)
              have e : rgV 0 j = (List.range j.toNat).map fun i => V.int (0 + (i : Nat)) := by unfold rgV; rw [Int.sub_zero]
              rw [e]
              exact rg_dts _
            · rw [if_neg c] at h1
              exact h1.elim
          · exact h1.elim
        · simp [chkA] at hA
        · simp [CEs.plain] at hp
      · simp [CEs.plain] at hp
    · cases hs
  · cases hs
end
end DL
namespace PySem
namespace XB
open PySem.W PySem.Calls PyProof.Rows PySem.HandSPX
theorem refsB_cases {B : String} : ∀ l : List Value, refsB B l = true → (∃ c r, l = .ref c :: r ∧ refsB B r = true) ∨ l = tlB B
  | [], e => .inr (beq_iff_eq.mp e)
  | .ref c :: r, e => .inl ⟨c, r, rfl, e⟩
  | .none :: _, e => .inr (beq_iff_eq.mp e)
  | .ellipsis :: _, e => .inr (beq_iff_eq.mp e)
  | .notImplemented :: _, e => .inr (beq_iff_eq.mp e)
  | .bool _ :: _, e => .inr (beq_iff_eq.mp e)
  | .int _ _ :: _, e => .inr (beq_iff_eq.mp e)
  | .float _ _ :: _, e => .inr (beq_iff_eq.mp e)
  | .str _ _ :: _, e => .inr (beq_iff_eq.mp e)
  | .bytes _ _ :: _, e => .inr (beq_iff_eq.mp e)
  | .type _ :: _, e => .inr (beq_iff_eq.mp e)
  | .builtin _ :: _, e => .inr (beq_iff_eq.mp e)
theorem nil_ne {B : String} : refsB B [] = true → False := fun e => by
  have h : ([] : List Value) = tlB B := beq_iff_eq.mp e
  cases h
theorem refsB_pass {B : String} (hs : ∀ self, refuseLoop self "__setattr__" (tlB B) = pure ()) (self : Value) : ∀ l : List Value, refsB B l = true → refuseLoop self "__setattr__" l = pure () := by
  intro l
  induction l with
  | nil => intro e; exact (nil_ne e).elim
  | cons a r ih =>
    intro e
    rcases refsB_cases (a :: r) e with ⟨c, r', q, h⟩ | q
    · obtain ⟨rfl, rfl⟩ := List.cons.inj q
      rw [refuseLoop_ref]; exact ih h
    · rw [q]; exact hs self
theorem refsB_contains {B : String} (X : String) : ∀ l : List Value, refsB B l = true → l.contains (.type X) = (tlB B).contains (.type X) := by
  intro l
  induction l with
  | nil => intro e; exact (nil_ne e).elim
  | cons a r ih =>
    intro e
    rcases refsB_cases (a :: r) e with ⟨c, r', q, h⟩ | q
    · obtain ⟨rfl, rfl⟩ := List.cons.inj q
      rw [List.contains_cons, ih h]; rfl
    · rw [q]
theorem refsB_ne {B : String} {l : List Value} (e : refsB B l = true) : l.isEmpty = false := by
  cases l with
  | nil => exact (nil_ne e).elim
  | cons _ _ => rfl
theorem tlB_ob (B : String) : (tlB B).contains (.type "object") = true := by
  have h : Value.type "object" ∈ tlB B := by unfold tlB; simp
  exact List.contains_iff_mem.mpr h
structure BaseB (B newId initId : String) : Prop where
  f : ExcBaseFacts B newId initId (tlB B)
  s : ∀ self, refuseLoop self "__setattr__" (tlB B) = pure ()
theorem baseVE : BaseB "ValueError" "ValueError.__new__" "ValueError.__init__" := ⟨F.excBase_ValueError, fun self => F.store_ValueError.passes self⟩
theorem baseLE : BaseB "LookupError" "LookupError.__new__" "LookupError.__init__" := ⟨F.excBase_LookupError, fun self => F.store_LookupError.passes self⟩
theorem baseAE : BaseB "ArithmeticError" "ArithmeticError.__new__" "ArithmeticError.__init__" := ⟨F.excBase_ArithmeticError, fun self => F.store_ArithmeticError.passes self⟩

section
open Builtin Builtin.ObjectAttr
variable {M : Model} {A : Around} {E : Value → Shared → Prop} {h : Heap} {g : Array GenState} {d : Drawn} {t : Nat} {os : OsState}
variable {nm q : Str} {C N : Addr} {bs bm bmB : List Value} {hdct : Bool} {sn : List Str} {sub : List Value} {ab : Bool} {col : Option Bool} {dd : Option Addr} {k0 k1 k2 k3 k5 : Option Value} {B newId initId : String}
theorem check_new_kw (F : ExcBaseFacts B newId initId bmB) (hT : ∀ X : String, bm.contains (.type X) = bmB.contains (.type X)) {rest : List Value} {kw : List (Str × Value)} {Q : Unit → Shared → Prop}
    (hC : h.get? C = some (excClassObj nm q C N bs bm hdct sn sub ab col dd k0 k1 k2 k3 k5 newId)) (hq : Q () ⟨h, g, d, t, os⟩) : wpAny M A (checkBuiltinCall newId ⟨.ref C :: rest, kw⟩) Q E ⟨h, g, d, t, os⟩ := by
  have hcont : (Value.ref C :: bm).contains (.type B) = true := by rw [List.contains_cons, hT, F.hasB, Bool.or_true]
  have hstar := F.noStar
  simp only [checkBuiltinCall, F.newKind, F.newSplit, F.newRow]
  repeat (first | refine wpAny_loadPart_at hC ?_ | (refine wpAny_isSubtype_exc hC ?_; rw [hcont]) | refine wpAny_staticBase_exc hC ?_ | refine wpAny_madeBy_exc hC ?_ | simp only [bne_self_eq_false, Bool.false_eq_true, if_false] | wp_step)
  exact hq
end
section
open Builtin Builtin.ObjectAttr
variable {prog : Program} {w : World} {A : Around} {E : Value → Shared → Prop} {R : Result → Shared → Prop} {h : Heap} {g : Array GenState} {d : Drawn} {t : Nat} {os : OsState}
variable {nm q : Str} {C N : Addr} {bs bm bmB : List Value} {hdct : Bool} {sn : List Str} {sub : List Value} {ab : Bool} {col : Option Bool} {dd : Option Addr} {k0 k1 k2 k3 k5 : Option Value} {B newId initId : String}
theorem new_kw (F : ExcBaseFacts B newId initId bmB) (hT : ∀ X : String, bm.contains (.type X) = bmB.contains (.type X)) {rest : List Value} {kw : List (Str × Value)}
    (hC : h.get? C = some (excClassObj nm q C N bs bm hdct sn sub ab col dd k0 k1 k2 k3 k5 newId))
    (hq : R (.ok (.ret (.ref (h.objs.size + 1)))) ⟨(h.push { cls := .type "tuple", data := .seq rest.toArray }).push
      { cls := .ref C, data := .fields #[.ref h.objs.size, .none, .none, .none, .bool false, .none] }, g, d, t, os⟩) (hrest : rest.length ≤ sizeLine) :
    codeAny (model prog w) A (.builtin newId ⟨.ref C :: rest, kw⟩) R ⟨h, g, d, t, os⟩ := by
  have hends := F.ends
  have hcB : (Value.ref C :: bm).contains (.type B) = true := by rw [List.contains_cons, hT, F.hasB, Bool.or_true]
  have hcA : (Value.ref C :: bm).contains (.type "AttributeError") = false := by rw [List.contains_cons, hT, F.noAttr]; rfl
  have hcN : (Value.ref C :: bm).contains (.type "NameError") = false := by rw [List.contains_cons, hT, F.noName]; rfl
  refine codeAny_builtinAt F.entry ?_
  unfold Builtin.«BaseException.__new__»
  refine wpAt_bind ?_
  show wpAt _ _ _ (stack >>= _) _ _ _
  refine wpAt_bind (wpAt_stack fun p below => wpAt_of_wpAny ?_)
  wp_walk
  refine wpAt_of_wpAny ?_
  rw [F.owner]
  repeat (first | with_reducible refine wpAny_madeHere_exc F.canon hC ?_ | with_reducible refine wpAny_loadPart_at hC ?_ | (with_reducible refine wpAny_isSubtype_exc hC ?_; first | rw [hcB] | rw [hcA] | rw [hcN]) | wp_step)
  show R _ _
  rw [Heap.size_push]
  exact hq
theorem type_call_kw (F : ExcBaseFacts B newId initId bmB) (hT : ∀ X : String, bm.contains (.type X) = bmB.contains (.type X)) {rest : List Value} {kw : List (Str × Value)} {fI : Addr} {Q : Fin → Shared → Prop}
    (hC : h.get? C = some (excClassObj nm q C N bs bm hdct sn sub ab col dd k0 k1 k2 k3 k5 newId))
    (hi : W.Looks (model prog w) h (typeLookup (.ref C) "__init__") (some (.ref fI))) (hb : ∀ self, W.Looks (model prog w) h (bindSpecial (.ref fI) self) (.ref fI, [self])) (hrest : rest.length ≤ sizeLine)
    (hq : codeAny (model prog w) A (.call (.ref fI) ⟨.ref (h.objs.size + 1) :: rest, kw⟩)
      (fun r s' => match r with | .ok (.ret v) => v = .none ∧ Q (.done (.ret (.ref (h.objs.size + 1)))) s' | .ok _ => False | .error e => E e s')
      ⟨(h.push (W.kdv_tup rest)).push (excO C h.objs.size), g, d, t, os⟩) :
    wpAny (model prog w) A (Builtin.«type.__call__» ⟨.ref C :: rest, kw⟩) Q E ⟨h, g, d, t, os⟩ := by
  repeat (first | with_reducible refine wpAny_loadPart_at hC ?_ | with_reducible refine wpAny_madeBy_exc hC ?_ | wp_step)
  refine codeAny_call_builtin_code (Code.quiet_builtin _ F.quiet) (check_new_kw F hT hC ?_)
  refine new_kw F hT hC ?_ hrest
  show wpAny _ _ _ _ _ _
  have k : ∀ b o, h.get? b = some o → ((h.push (W.kdv_tup rest)).push (excO C h.objs.size)).get? b = some o := fun b o e => Heap.get?_push_of_some _ (Heap.get?_push_of_some _ e)
  have hC₁ := k _ _ hC
  have hget : ((h.push (W.kdv_tup rest)).push (excO C h.objs.size)).get? (h.objs.size + 1) = some (excO C h.objs.size) := by heap_get
  have hcC : (Value.ref C :: bm).contains (.ref C) = true := by simp
  have i1 := hi.keeps k
  have b1 := (hb (.ref (h.objs.size + 1))).keeps k
  unfold isInstance
  repeat (first | with_reducible refine wpAny_loadPart_at hget ?_ | (with_reducible refine wpAny_isSubtype_exc hC₁ ?_; rw [hcC]) | wp_step)
  show wpAny _ _ (typeLookup (.ref C) _) _ _ _
  refine i1.at ?_
  refine wpAny_holding (wpAny_bind (b1.at ?_))
  refine wpAny_bind (wpAny_call (codeAny_mono hq fun r s' z => ?_))
  rcases r with e | (v | _ | _ | _) <;> first | exact z | exact z.elim | skip
  obtain ⟨rfl, z⟩ := z
  first
    | exact wpAny_pure (wpAny_pure z)
    | (wp_walk; exact z)
theorem call_kw (F : ExcBaseFacts B newId initId bmB) (hT : ∀ X : String, bm.contains (.type X) = bmB.contains (.type X)) {rest : List Value} {kw : List (Str × Value)} {fI : Addr}
    (hC : h.get? C = some (excClassObj nm q C N bs bm hdct sn sub ab col dd k0 k1 k2 k3 k5 newId))
    (hi : W.Looks (model prog w) h (typeLookup (.ref C) "__init__") (some (.ref fI))) (hb : ∀ self, W.Looks (model prog w) h (bindSpecial (.ref fI) self) (.ref fI, [self])) (hrest : rest.length ≤ sizeLine)
    (hq : codeAny (model prog w) (A.under (.builtin "type.__call__" ⟨.ref C :: rest, kw⟩)) (.call (.ref fI) ⟨.ref (h.objs.size + 1) :: rest, kw⟩) (W.InitBack (h.objs.size + 1) R)
      ⟨(h.push (W.kdv_tup rest)).push (excO C h.objs.size), g, d, t, os⟩) :
    codeAny (model prog w) A (.call (.ref C) ⟨rest, kw⟩) R ⟨h, g, d, t, os⟩ := by
  have f1 := tc_lookup
  have f2 := tc_bind (.ref C)
  have hTy : (⟨h, g, d, t, os⟩ : Shared).TypeIs (.ref C) "type" := ⟨_, hC, rfl⟩
  have typ : W.Looks (model prog w) h (isInstance (.ref C) (.type "type")) true := by
    have L0 : W.Looks (model prog w) h (typeOf (.ref C)) (.type "type") := (W.Looks.ld hC).andThen .now
    exact L0.andThen (by first | exact W.Looks.now | (intro A' Q' E' s' k' q'; wp_walk; exact q'))
  refine codeAny_of_tree ?_
  show wpAny _ _ (callAny (.ref C) _) _ _ _
  repeat (any_goals (first | assumption | with_reducible refine wpAny_loadPart_at hC ?_ | wp_step))
  refine ⟨rfl, ?_⟩
  refine codeAny_call_builtin_at (Code.quiet_builtin _ (by decide +kernel)) entry_typeCall (W.check_slot tc_kind tc_split typ (W.tc_args _ _ _) (type_call_kw F hT hC hi hb hrest ?_))
  refine codeAny_mono hq fun r s' z => ?_
  rcases r with e | (v | _ | _ | _) <;> exact z
end
end XB
end PySem

namespace PySem
namespace XB
open PySem.W PySem.Calls PyProof.Rows PySem.HandSPX
open Builtin Builtin.ObjectAttr
section
variable {prog : Program} {w : World} {A : Around} {E : Value → Shared → Prop} {R : Result → Shared → Prop} {hp : Heap} {g : Array GenState} {d : Drawn} {t : Nat} {os : OsState} {B : String}
theorem exc_osaB (hs0 : ∀ self, refuseLoop self "__setattr__" (tlB B) = pure ()) {K : W.Frag} {name : Str} {tk : Tok} {v : Value} {x C : Addr} {fv : Array Value} {cd : ClassData}
    (X : K.In hp) (hx : hp.get? x = some { cls := .ref C, data := .fields fv }) (hcd : W.clsIn K C = some cd) (hm : refsB B cd.mro = true) (hh : cd.hasDict = true) (ha : W.findIn K (.ref C) name = some none)
    (hq : ∀ h' tk' dx, (∀ b o, b ≠ x → hp.get? b = some o → h'.get? b = some o) → hp.objs.size ≤ dx → dx ≠ x → h'.get? x = some { cls := .ref C, dict := some dx, data := .fields fv } →
      h'.Ns1 dx (fun y => if y = name then some v else none) → R (.ok (.ret .none)) ⟨h', g, d, tk', os⟩) :
    codeAny (model prog w) A (.call (.builtin "object.__setattr__") ⟨[.ref x, .str name tk, v], []⟩) R ⟨hp, g, d, t, os⟩ := by
  have I : W.InstAt hp x { cls := .ref C, data := .fields fv } C none := ⟨hx, rfl, rfl, trivial⟩
  have SF := F.store_object
  have ne := refsB_ne hm
  have hob : cd.mro.contains (.type "object") = true := (refsB_contains "object" _ hm).trans (tlB_ob B)
  have hxs : x ≠ hp.objs.size := Nat.ne_of_lt (Heap.lt_size hx)
  have sub : W.Looks (model prog w) hp (isInstance (.ref x) (.type "object")) true := I.type.andThen (W.looks_mroIn X (by unfold W.mroIn; rw [hcd, Option.bind_some, if_neg (by rw [ne]; decide), hob]))
  refine codeAny_call_builtin SF.slot.plain SF.entry (@W.check_slot (model prog w) _ _ ⟨hp, g, d, t, os⟩ "object.__setattr__" "object" "__setattr__" (.ref x) [.str name tk, v] [] _ SF.kind SF.split sub (SF.args (.ref x) (.str name tk) v) ?_)
  have hmr : W.Looks (model prog w) hp (mroOf (.ref C)) cd.mro := (W.looks_clsIn X hcd).andThen .now
  have L3 : W.Looks (model prog w) hp (storeTaker? none) none := .now
  have hcls : W.Looks (model prog w) hp (classData C) cd := W.looks_clsIn X hcd
  rw [W.osa_eq, refuse_eq]
  refine wpAny_bind (wpAny_bind (I.type.at (wpAny_bind (hmr.at ?_))))
  rw [refsB_pass hs0 _ _ hm]
  refine wpAny_pure (wpAny_bind (I.type.at (wpAny_bind ((W.looks_findIn X ha).at (wpAny_bind (L3.at ?_))))))
  show wpAny _ _ (storeInOwnDict (.ref x) (.ref C) (.str name tk) name v false) _ _ _
  obtain ⟨nm, bs, mro, ns, qn, hd, sn, sb, ab, col, del⟩ := cd
  dsimp only at hh
  subst hh
  unfold storeInOwnDict ownDictForStores
  repeat (first | with_reducible refine store_in_new ?_ ?_ | with_reducible refine wpAny_loadPart_at hx ?_ | with_reducible refine hcls.at ?_ | wp_step)
  · exact ⟨_, #[], _, (Heap.get?_update_ne _ _ _ _ hxs.symm).trans (Heap.get?_push_at rfl rfl), rfl, fun e he => absurd he (by simp), fun _ => rfl⟩
  · intro h' tk' hn' hs
    have hx₁ : (hp.push { cls := .type "dict", data := .dict #[] }).get? x = some { cls := .ref C, data := .fields fv } := Heap.get?_push_of_some _ hx
    refine hq h' tk' hp.objs.size (fun b o hb ho => ?_) (Nat.le_refl _) hxs.symm ?_ hn'
    · exact (hs.2 b (Nat.ne_of_lt (Heap.lt_size ho))).trans ((Heap.get?_update_ne _ _ _ _ hb).trans (Heap.get?_push_of_some _ ho))
    · exact (hs.2 x hxs).trans (Heap.get?_update_self _ hx₁ rfl)
theorem osa_oldB (hs0 : ∀ self, refuseLoop self "__setattr__" (tlB B) = pure ()) {K : W.Frag} {name : Str} {tk : Tok} {v : Value} {x C dx : Addr} {fv : Array Value} {cd : ClassData} {m0 : Str → Option Value} {nl : List Str}
    (X : K.In hp) (hx : hp.get? x = some { cls := .ref C, dict := some dx, data := .fields fv }) (hns : hp.Ns1 dx m0) (hw : Within m0 nl) (hz : nl.length ≤ 1000) (hcd : W.clsIn K C = some cd) (hm : refsB B cd.mro = true) (hh : cd.hasDict = true)
    (ha : W.findIn K (.ref C) name = some none)
    (hq : ∀ h' tk', (∀ b o, b ≠ dx → hp.get? b = some o → h'.get? b = some o) → h'.Ns1 dx (fun y => if y = name then some v else m0 y) → R (.ok (.ret .none)) ⟨h', g, d, tk', os⟩) :
    codeAny (model prog w) A (.call (.builtin "object.__setattr__") ⟨[.ref x, .str name tk, v], []⟩) R ⟨hp, g, d, t, os⟩ := by
  obtain ⟨oD, esD, epD, hoD, hdD, _⟩ := hns.count hw
  have I : W.InstAt hp x { cls := .ref C, dict := some dx, data := .fields fv } C (some oD) := ⟨hx, rfl, rfl, hoD⟩
  have SF := F.store_object
  have ne := refsB_ne hm
  have hob : cd.mro.contains (.type "object") = true := (refsB_contains "object" _ hm).trans (tlB_ob B)
  have sub : W.Looks (model prog w) hp (isInstance (.ref x) (.type "object")) true := I.type.andThen (W.looks_mroIn X (by unfold W.mroIn; rw [hcd, Option.bind_some, if_neg (by rw [ne]; decide), hob]))
  refine codeAny_call_builtin SF.slot.plain SF.entry (@W.check_slot (model prog w) _ _ ⟨hp, g, d, t, os⟩ "object.__setattr__" "object" "__setattr__" (.ref x) [.str name tk, v] [] _ SF.kind SF.split sub (SF.args (.ref x) (.str name tk) v) ?_)
  have hmr : W.Looks (model prog w) hp (mroOf (.ref C)) cd.mro := (W.looks_clsIn X hcd).andThen .now
  have L3 : W.Looks (model prog w) hp (storeTaker? none) none := .now
  have hcls : W.Looks (model prog w) hp (classData C) cd := W.looks_clsIn X hcd
  rw [W.osa_eq, refuse_eq]
  refine wpAny_bind (wpAny_bind (I.type.at (wpAny_bind (hmr.at ?_))))
  rw [refsB_pass hs0 _ _ hm]
  refine wpAny_pure (wpAny_bind (I.type.at (wpAny_bind ((W.looks_findIn X ha).at (wpAny_bind (L3.at ?_))))))
  show wpAny _ _ (storeInOwnDict (.ref x) (.ref C) (.str name tk) name v false) _ _ _
  obtain ⟨nm, bs, mro, ns, qn, hd, sn, sb, ab, col, del⟩ := cd
  dsimp only at hh
  subst hh
  unfold storeInOwnDict ownDictForStores
  repeat (first | with_reducible refine OEX.store_in_old hns hw hz ?_ | with_reducible refine wpAny_loadPart_at hx ?_ | with_reducible refine hcls.at ?_ | wp_step)
  intro h' tk' hn' hs
  exact hq h' tk' (fun b o hb ho => (hs.2 b hb).trans ho) hn'
end
end XB
end PySem
namespace DL
open PySem PySem.Spec PyProof.Rows L2
structure OexB (K : PySem.W.Frag) (C : Addr) (B newId : String) : Prop where
  cls : ∃ nm q N bs bm sn sub ab col dd k0 k1 k2 k3 k5, K.lookup C = some (excClassObj nm q C N bs bm true sn sub ab col dd k0 k1 k2 k3 k5 newId) ∧ PySem.XB.refsB B bm = true
  sa : PySem.W.findIn K (.ref C) "__setattr__" = some (some (.builtin "object.__setattr__"))
  exC : PySem.W.subIn K (.ref C) (.type "BaseException") = some true
  tyC : PySem.W.typeIn K (.ref C) = some (.type "type")
  kC : PySem.W.keepIn K (.ref C) = true
theorem oexbB_ok {K : PySem.W.Frag} {C : Addr} {B newId : String} (h : oexbB K C B newId = true) : OexB K C B newId := by
  unfold oexbB at h
  simp only [Bool.and_eq_true] at h
  obtain ⟨h0, h1, h2, h3, h4⟩ := h
  refine ⟨?_, He.eqO_ok h1, of_decide_eq_true h2, of_decide_eq_true h3, h4⟩
  split at h0
  · rename_i t dd cd sl ho
    split at h0
    · rename_i C' bm k0 k1 k2 k3 n k5 hm hs
      simp only [Bool.and_eq_true, Bool.not_eq_true', decide_eq_true_eq] at h0
      obtain ⟨rfl, rfl, rfl, hdel, hdc, hbm⟩ := h0
      obtain ⟨nm, bs, mro, ns, qn, hd, sn, sub, ab, col, del⟩ := cd
      dsimp only at hm hdel hdc
      subst hm hdel hdc
      have hsl : sl = #[k0, k1, k2, k3, some (.builtin n), k5] := by
        obtain ⟨l⟩ := sl
        simp only at hs
        rw [hs]
      subst hsl
      exact ⟨nm, qn, ns, bs, bm, sn, sub, ab, col, dd, k0, k1, k2, k3, k5, ho, hbm⟩
    · cases h0
  · cases h0
section
variable {X : Cx} {pins : List (Addr × Obj)} {σ : L2.St} {H : Hp} {s : Shared} {a C dx : Addr} {f : Str} {y : V} {u : Value} {fs : List (Str × V)} {Q : Unit → Shared → Prop} {E : Value → Shared → Prop} {A : Around} {B nI iI : String}
theorem ost_newB (bB : PySem.XB.BaseB B nI iI) (T : OexB X.K C B nI) (I : Inv X pins σ H s) (e : H a = some (exo a C none)) (hno : PySem.W.findIn X.K (.ref C) f = some none) (ry : RelV y u)
    (h : ∀ dx s', H dx = none → dx ≠ a → Inv X pins σ (upd (upd H dx (exd dx [(f, y)])) a (exo a C (some dx))) s' → Q () s') : wpAny (model X.prog X.w) A (setAttr (.ref a) f u) Q E s := by
  obtain ⟨nm, q, N, bs, bm, sn, sub, ab, col, dd, k0, k1, k2, k3, k5, hC, hbm⟩ := T.cls
  have hcl : PySem.W.clsIn X.K C = some { name := nm, bases := bs, mro := .ref C :: bm, ns := N, qualname := q, hasDict := true, slotNames := sn, subclasses := sub, abstract := ab, collection := col, hasDel := false } := by unfold PySem.W.clsIn; rw [hC] <;> rfl
  obtain ⟨t1, ho⟩ := exo_at I.hok e
  obtain ⟨hp, g, d, t, os⟩ := s
  refine PySem.W.set_plain I.kIn (ox := { cls := .ref C, dict := none, data := .fields #[.ref t1, .none, .none, .none, .bool false, .none] }) (od := none) ⟨ho, rfl, rfl, trivial⟩ T.sa ?_
  refine PySem.XB.exc_osaB bB.s I.kIn ho hcl (show PySem.XB.refsB B (.ref C :: bm) = true from hbm) rfl hno (fun h' tk' dx k dn dne hx hn => ?_)
  have hnd : H dx = none := I.hok.fresh dn
  have nd : ∀ {b : Addr} {o : Obj}, hp.get? b = some o → b ≠ dx := fun {b o} q => Nat.ne_of_lt (Nat.lt_of_lt_of_le (Heap.lt_size q) dn)
  have na : ∀ {b : Addr}, H b = none → b ≠ a := fun {b} n z => by
    rw [z, e] at n
    cases n
  have Un1 : Un X.fs [] H (upd (upd H dx (exd dx [(f, y)])) a (exo a C (some dx))) hp h' := {
    keep := fun b o q n _ _ => k b o (na n) q
    slot := fun b o q n _ _ => ⟨o.slots, k b o (na n) q⟩
    free := fun b o q n _ => by rw [upd_ne (na n), upd_ne (nd q)]; exact n
    there := fun b o q _ => by
      by_cases hb : b = a
      · exact ⟨_, by rw [hb]; exact hx⟩
      · exact ⟨o, k b o hb q⟩
    tups := fun b xs q => by rw [upd_ne (at_ne e q exo_tup), upd_ne (ne_of_none q hnd)]; exact q
    frzs := fun b o v q => by rw [upd_ne (at_ne e q exo_frz), upd_ne (ne_of_none q hnd)]; exact q
    tbls := fun b ps q => ⟨#[], by rw [upd_ne (at_ne e q exo_tbl), upd_ne (ne_of_none q hnd), q]; simp⟩ }
  refine h dx _ hnd dne (I.un (t' := tk') Un1 fun b o q => ?_)
  by_cases hb : b = a
  · subst hb
    rw [upd_same] at q
    cases q
    exact exo_ok hx
  · rw [upd_ne hb] at q
    by_cases hd : b = dx
    · subst hd
      rw [upd_same] at q
      cases q
      exact exd_ok hn (relO_put (fs := []) ry fun g => True.intro)
    · rw [upd_ne hd] at q
      exact (I.hok b o q).stay (fun c v hc z => k c v (by
          rcases hc with hc | hc
          · rw [hc]
            exact hb
          · exact at_ne e hc exo_own) z)
        (fun c hc => by rw [upd_ne (at_ne e hc exo_own), upd_ne (ne_of_none hc hnd)]; exact hc) (fun c xs hc => by rw [upd_ne (at_ne e hc exo_tup), upd_ne (ne_of_none hc hnd)]; exact hc)
theorem ost_oldB (bB : PySem.XB.BaseB B nI iI) (T : OexB X.K C B nI) (I : Inv X pins σ H s) (e : H a = some (exo a C (some dx))) (ed : H dx = some (exd dx fs)) (hl : fs.length ≤ 900) (hno : PySem.W.findIn X.K (.ref C) f = some none) (ry : RelV y u)
    (h : ∀ s', Inv X pins σ (upd H dx (exd dx ((f, y) :: fs))) s' → Q () s') : wpAny (model X.prog X.w) A (setAttr (.ref a) f u) Q E s := by
  obtain ⟨nm, q, N, bs, bm, sn, sub, ab, col, dd, k0, k1, k2, k3, k5, hC, hbm⟩ := T.cls
  have hcl : PySem.W.clsIn X.K C = some { name := nm, bases := bs, mro := .ref C :: bm, ns := N, qualname := q, hasDict := true, slotNames := sn, subclasses := sub, abstract := ab, collection := col, hasDel := false } := by unfold PySem.W.clsIn; rw [hC] <;> rfl
  obtain ⟨t1, ho⟩ := exo_at I.hok e
  obtain ⟨mA, hns, rel⟩ := exd_at I.hok ed
  have hw := within_of rel
  obtain ⟨hp, g, d, t, os⟩ := s
  obtain ⟨oD, _, _, hoD, _, _⟩ := hns.count hw
  refine PySem.W.set_plain I.kIn (ox := { cls := .ref C, dict := some dx, data := .fields #[.ref t1, .none, .none, .none, .bool false, .none] }) (od := some oD) ⟨ho, rfl, rfl, hoD⟩ T.sa ?_
  refine PySem.XB.osa_oldB bB.s I.kIn ho hns hw (by rw [List.length_map]; omega) hcl (show PySem.XB.refsB B (.ref C :: bm) = true from hbm) rfl hno (fun h' tk' k hn => ?_)
  have hd : ∃ o, h'.get? dx = some o := by
    obtain ⟨o, _, _, e', _⟩ := hn
    exact ⟨o, e'⟩
  exact h _ (I.write (t' := tk') (x := dx) (e := dx) (o := exd dx ((f, y) :: fs)) (by rw [ed]; exact True.intro) (.inl rfl) k hd (exd_ok hn (relO_put ry rel)))
end
def tOstB (K : PySem.W.Frag) (B nI : String) (f : Str) (to te : TE) : TS := fun D σ H => te σ H fun y H1 => to σ H1 fun x H2 => ∃ a C, x = .ref a ∧ OexB K C B nI ∧ PySem.W.findIn K (.ref C) f = some none ∧
  ((H2 a = some (exo a C none) ∧ ∀ dx, H2 dx = none → dx ≠ a → D.nx σ (upd (upd H2 dx (exd dx [(f, y)])) a (exo a C (some dx)))) ∨ (∃ dx fs, H2 a = some (exo a C (some dx)) ∧ H2 dx = some (exd dx fs) ∧ fs.length ≤ 900 ∧ D.nx σ (upd H2 dx (exd dx ((f, y) :: fs)))))
section
variable {X : Cx} {o e : Expr} {es : List Expr} {f : Str} {to te : TE} {ta : TA} {p p' pos : Pos} {B nI iI : String}
theorem ps_ostB (bB : PySem.XB.BaseB B nI iI) (ho : PE X o to) (he : PE X e te) (hs : swapsWith e (some (.Attribute o f p')) pos.line X.env = pure false := by rfl) : PS X (.Assign [.Attribute o f p'] e pos) (tOstB X.K B nI f to te) := by
  refine ⟨fun pins s σ H D I h => ?_⟩
  refine plainObj_wpAny_Assign_Attribute (thn (he.run pins s σ H _ I h) fun v s1 ⟨y, H1, I1, r1, q1⟩ => thn (ho.run pins s1 σ H1 _ I1 q1) fun u s2 ⟨x, H2, I2, r2, a, C, ex, T, hno, q⟩ => ?_) hs
  subst ex
  obtain rfl : u = Value.ref a := r2
  rcases q with ⟨ea, q⟩ | ⟨dx, fs, ea, ed, hl, q⟩
  · exact ost_newB bB T I2 ea hno r1 fun dx s' n ne J => ⟨σ, _, J, q dx n ne⟩
  · exact ost_oldB bB T I2 ea ed hl hno r1 fun s' J => ⟨σ, _, J, q⟩
theorem run_oexB {pins : List (Addr × Obj)} {σ : L2.St} {H1 : Hp} {s1 : Shared} {Q : VK} {us : List Value} {kw : List (Str × Value)} {zs : List V} {ws : List Value} {CX : CXT} {C fI : Addr} {k : Nat} {fd : FuncData} {ps : List Str} {sp : Sp} (bB : PySem.XB.BaseB B nI iI) (T : OexB X.K C B nI)
    (iC : PySem.W.findIn X.K (.ref C) "__init__" = some (some (.ref fI))) (tI : PySem.W.typeIn X.K (.ref fI) = some (.type "function")) (F1 : FnOk X.prog X.w X.K X.mg X.base CX k fI fd ps sp) (hr : Room (k + 1) X.A) (hx : Passes CX X (fun _ _ _ => False)) (I1 : Inv X pins σ H1 s1)
    (hus : us.length ≤ sizeLine) (hb : ∀ (s' : Shared) (u : Value), X.K.In s'.heap → BindsTo s' fd ⟨u :: us, kw⟩ (ps.zip (u :: ws))) (r : Vals zs ws)
    (h : ∀ a, H1 a = none → sp (.ref a :: zs) (upd H1 a (exo a C none)) (fun v H2 => v = .non ∧ Q (.ref a) H2) (fun _ _ _ => False)) : wpAny (model X.prog X.w) X.A (call (.ref C) us kw) (EP X pins σ Q) X.xe s1 := by
  obtain ⟨nm, q, N, bs, bm, sn, sub, ab, col, dd, k0, k1, k2, k3, k5, hC, hbm⟩ := T.cls
  obtain ⟨hp, g, dr, tk, os⟩ := s1
  have sz : hp.objs.size ≤ hp.objs.size + 1 := Nat.le_succ _
  have nn : H1 (hp.objs.size + 1) = none := I1.hok.fresh sz
  have hq := h (hp.objs.size + 1) nn
  have kk : ∀ b o, hp.get? b = some o → ((hp.push (PySem.W.kdv_tup us)).push (PySem.HandSPX.excO C hp.objs.size)).get? b = some o := fun b o e => Heap.get?_push_of_some _ (Heap.get?_push_of_some _ e)
  have gg : ((hp.push (PySem.W.kdv_tup us)).push (PySem.HandSPX.excO C hp.objs.size)).get? (hp.objs.size + 1) = some (PySem.HandSPX.excO C hp.objs.size) := by heap_get
  have I2 : Inv X pins σ (upd H1 (hp.objs.size + 1) (exo (hp.objs.size + 1) C none)) ⟨(hp.push (PySem.W.kdv_tup us)).push (PySem.HandSPX.excO C hp.objs.size), g, dr, tk, os⟩ :=
    I1.laid (t' := tk) (a := hp.objs.size + 1) (h' := (hp.push (PySem.W.kdv_tup us)).push (PySem.HandSPX.excO C hp.objs.size)) kk sz (exo_ok gg)
  have r2 : Vals (V.ref (hp.objs.size + 1) :: zs) (Value.ref (hp.objs.size + 1) :: ws) := .cons rfl r
  refine wpAny_call (PySem.XB.call_kw bB.f (fun Y => PySem.XB.refsB_contains Y bm hbm) (I1.kIn _ _ hC) (PySem.W.looks_findIn I1.kIn iC) (fun self => PySem.W.bind_fn I1.kIn self tI) hus
    (codeAny_mono (F1.run _ X.stack _ _ ⟨Value.ref (hp.objs.size + 1) :: us, kw⟩ (Value.ref (hp.objs.size + 1) :: ws) _ _ (fun _ _ _ => False) (hr.make C us kw) (I2.env0.make C us kw) (hb _ _ I2.kIn) r2 hq) fun r s' hq' => ?_))
  cases r with
  | error er => exact hx pins σ _ _ er s' I2 hq'
  | ok fl =>
    cases fl with
    | ret u =>
      obtain ⟨v, H2, os2, bare2, un2, hok2, rv, ev, q2⟩ := hq'
      subst ev
      exact ⟨rv, ⟨.ref _, H2, I2.call' (ch := []) os2 un2 hok2 bare2 (fun b z => absurd z (by simp)), rfl, q2⟩⟩
    | next => exact False.elim hq'
    | brk => exact False.elim hq'
    | cont => exact False.elim hq'
theorem pe_exc0 {C : Addr} {bmB : List Value} {B newId initId : String} {x : Str} {p pos : Pos} (F : ExcBaseFacts B newId initId bmB) (q : PySem.W.excIn X.K C bmB newId = true) (gC : X.mg x = some (.ref C)) (kC : PySem.W.keepIn X.K (.ref C) = true) (hg : Gl X x)
    (hdb : (x == ("__debug__" : Str)) = false) : PE X (.Call (.Name x p) [] [] pos) (fun σ H Q => ∀ a, H a = none → Q (.ref a) (upd H a (exo a C none))) := by
  refine ⟨fun pins s σ H Q I h => ?_⟩
  refine wpAny_Call_Name_kw (ld_glob I hg gC ?_ hdb)
  refine PySem.W.callWith_K0 I.kIn kC ?_
  obtain ⟨bm, N, nm, qn, bs, hdct, sn, sub, ab, col, dd, k0, k1, k2, k3, k5, mN, hC, hN, hni, T⟩ := exc_obj I.kIn q
  refine wpAny_call_exc_subT F T hC hN hni (fun h' a hm => ?_) (Nat.zero_le _)
  have hn : H a = none := I.hok.gone hm.new
  obtain ⟨t, ht, _, _⟩ := hm.there
  exact ⟨.ref a, upd H a (exo a C none), I.laidN hm.keeps hm.new hn (exo_ok ht), rfl, h a hn⟩
end
structure XvOk (K : PySem.W.Frag) : Prop where
  xs : ∀ q ∈ xvTab, XsC K (He.ga K q.1)
  ans : ∀ q ∈ xvTab, ∀ T ∈ xvTys, PySem.W.kitOne K (.ref (He.ga K q.1)) (tyW K T) = some (xvAns q.1 (tyNm T))
  fl : ∀ q ∈ xvTab, ∀ f ∈ (["given", "index", "most", "shown"] : List Str), PySem.W.findIn K (.ref (He.ga K q.1)) f = some none
  ox : ∀ q ∈ xvTab, OexB K (He.ga K q.1) q.2.1 q.2.2.1
theorem xvB_ok {K : PySem.W.Frag} (h : xvB K = true) : XvOk K := by
  have h1 := fun q hq => List.all_eq_true.mp h q hq
  simp only [Bool.and_eq_true] at h1
  exact ⟨fun q hq => xsB_ok (h1 q hq).1, fun q hq T hT => of_decide_eq_true (List.all_eq_true.mp (h1 q hq).2.1 T hT), fun q hq f hf => He.eqO_ok (List.all_eq_true.mp (h1 q hq).2.2.1 f hf), fun q hq => oexbB_ok (h1 q hq).2.2.2⟩
def xvIn (C : Str) : Bool := xvTab.any fun q => decide (q.1 = C)
theorem xvIn_ok {C : Str} (h : xvIn C = true) : ∃ q ∈ xvTab, q.1 = C := by
  obtain ⟨q, hq, e⟩ := List.any_eq_true.mp h
  exact ⟨q, hq, of_decide_eq_true e⟩
def fIsV (T : Str) : Fs := fun ds P => match ds with
  | [.exv C _ _] => if xvIn C = true then .ok (.bl (xvAns C T)) P else .no
  | _ => .no
def fFlV (f : Str) : Fs := fun ds P => match ds with
  | [.exv C fs es] => if (xvIn C && decide (f ∈ (["given", "index", "most", "shown"] : List Str))) = true then Out.of ((fs.zip es).lookup f) P else .no
  | _ => .no
section
variable {X : Cx} {pins : List (Addr × Obj)} {σ : L2.St} {F H : Hp} {s : Shared} {pa : Pa}
theorem exv_instO (I : Inv X pins σ H s) (fh : Same F H) {v : V} {C : Str} {fs : List Str} {ds : List Da} (t : Dt X.K F pa v (.exv C fs ds)) : ∃ (a : Addr) (oe : Obj) (od : Option Obj), v = .ref a ∧ PySem.W.InstAt s.heap a oe (He.ga X.K C) od := by
  rcases Dt.exv_inv t with ⟨a, dd, xs, rfl, e1, e2, _, _⟩ | ⟨a, rfl, e1, _, _⟩
  · obtain ⟨t1, ha⟩ := exo_at I.hok (fh _ _ e1)
    obtain ⟨mA, hns, hr⟩ := exd_at I.hok (fh _ _ e2)
    obtain ⟨od, ho, hl⟩ := lookIn_ns hns
    exact ⟨a, _, some od, rfl, ha, rfl, by unfold PySem.W.notCls; rfl, ho⟩
  · obtain ⟨t1, ha⟩ := exo_at I.hok (fh _ _ e1)
    exact ⟨a, _, none, rfl, ha, rfl, by unfold PySem.W.notCls; rfl, trivial⟩
theorem exv_fld (I : Inv X pins σ H s) (fh : Same F H) {v : V} {C : Str} {fs : List Str} {ds : List Da} (t : Dt X.K F pa v (.exv C fs ds)) {f : Str} {y : Da} (hz : (fs.zip ds).lookup f = some y) :
    ∃ (a : Addr) (oe od : Obj) (w : V) (u : Value), v = .ref a ∧ PySem.W.InstAt s.heap a oe (He.ga X.K C) (some od) ∧ RelV w u ∧ PySem.W.lookIn f od = some (some u) ∧ Dt X.K F pa w y := by
  rcases Dt.exv_inv t with ⟨a, dd, xs, rfl, e1, e2, hl0, td⟩ | ⟨a, rfl, e1, rfl, rfl⟩
  · obtain ⟨t1, ha⟩ := exo_at I.hok (fh _ _ e1)
    obtain ⟨mA, hns, hr⟩ := exd_at I.hok (fh _ _ e2)
    obtain ⟨od, ho, hl⟩ := lookIn_ns hns
    obtain ⟨w', k1, k2⟩ := zip_lookup td hz
    obtain ⟨u2, hu, ru⟩ := RelO.some_of (v := w') (o := mA f) (by rw [← k1]; exact hr f)
    exact ⟨a, _, od, w', u2, rfl, ⟨ha, rfl, by unfold PySem.W.notCls; rfl, ho⟩, ru, by rw [hl, hu], k2⟩
  · cases hz
end
section
variable {X : Cx} {E : XK}
theorem call_isV (T : XvOk X.K) {Ty0 : Ty} (hT : Ty0 ∈ xvTys) :
    CallR X (.builtin "isinstance") (fun xs H Q => ∃ (v c : V) (pa : Pa) (F : Hp) (C : Str) (fs : List Str) (ds : List Da), xs = [v, c] ∧ ClsV c (tyW X.K Ty0) ∧ Same F H ∧ Dt X.K F pa v (.exv C fs ds) ∧ xvIn C = true ∧ Q (.bl (xvAns C (tyNm Ty0))) H) := by
  intro pins s σ H xs us Q I r h
  obtain ⟨v, c, pa, F, C, fs, ds, rfl, k, fh, t, hC, q⟩ := h
  obtain ⟨u1, u2, rfl, r1, r2⟩ := vals2 r
  have e2 := k.eq r2
  subst e2
  obtain ⟨a, oe, od, rfl, J⟩ := exv_instO I fh t
  obtain rfl : u1 = Value.ref a := r1
  obtain ⟨q0, hq0, e0⟩ := xvIn_ok hC
  have xs := T.xs q0 hq0
  have an := T.ans q0 hq0 Ty0 hT
  rw [e0] at xs an
  exact PySem.W.kia_one (PySem.W.kitx_exc xs.cl xs.ga xs.gg xs.exC xs.ha xs.hn xs.htk xs.hm) I.kIn J an (fun z => nomatch z) fun tk => ⟨.bl _, H, I.tok tk, rfl, q⟩
theorem g_isV (T : XvOk X.K) {Ty0 : Ty} (hT : Ty0 ∈ xvTys) {e : Expr} {c : CE} {q qt pos : Pos} (hg : Gl X "isinstance") (hm : X.mg "isinstance" = none) (hgt : Gl X (tyNm Ty0)) (ht : TyOk X.K X.mg Ty0) (hx : okNm (tyNm Ty0) = true) (hs : nostar e = true) (ha : PE X e (up X.K E (evE c))) :
    PE X (.Call (.Name "isinstance" q) [e, .Name (tyNm Ty0) qt] [] pos) (up X.K E (evE (hE (fIsV (tyNm Ty0)) c))) := by
  simp only [okNm, Bool.and_eq_true, Bool.not_eq_true'] at hx
  have hty : PE X (.Name (tyNm Ty0) qt) (tC (tyV1 X.K Ty0)) := by
    cases Ty0 with
    | b n => exact pe_bltn hgt ht.1 ht.2 rfl (by
        intro e1
        have h2 := hx.2
        rw [e1] at h2
        simp at h2) hx.1.1
    | c C => exact pe_glob hgt ht rfl hx.1.1
  have cv : ClsV (tyV1 X.K Ty0) (tyW X.K Ty0) := by
    cases Ty0 with
    | b n => exact .ty n
    | c C => exact .own _
  have hA : PA X [e, .Name (tyNm Ty0) qt] (tCons (up X.K E (evE c)) (tCons (tC (tyV1 X.K Ty0)) tNil)) := pa_cons ha (pa_cons hty pa_nil rfl) (star_no hs)
  refine PE.imp (pe_callB (call_isV T hT) hg hm (by decide +kernel) hA (by decide +kernel) (by decide +kernel) (star_no hs) rfl) fun σ H Q h => ?_
  obtain ⟨pa, F, S, R, h⟩ := h
  rw [hE_ev] at h
  refine ⟨pa, F, S, R, (Post.bind h).mono ?_⟩
  rintro v H1 ⟨d, P1, F1, _, st, h1⟩
  unfold fIsV at h1
  split at h1
  · rename_i C fs es heq
    cases heq
    split at h1
    · rename_i hc
      exact ⟨v, _, pa, F1, C, fs, es, rfl, cv, st.g.fh, st.t.dt rfl, hc, Post.now st.g.fh st.p h1 (Dx.of (.bl _))⟩
    · exact h1.elim
  · exact h1.elim
theorem g_flV (T : XvOk X.K) {f : Str} {e : Expr} {c : CE} {pos : Pos} (hb : nobase e = true) (ha : PE X e (up X.K E (evE c))) : PE X (.Attribute e f pos) (up X.K E (evE (hE (fFlV f) c))) := by
  refine ⟨fun pins s σ H Q I h => attr_of (base_of hb) ?_⟩
  obtain ⟨pa, F, S, R, h⟩ := h
  rw [hE_ev] at h
  refine thn (ha.run pins s σ H _ I ⟨pa, F, S, R, Post.bind h⟩) fun u s1 hh => ?_
  obtain ⟨v, H1, I1, rx, d, P1, F1, _, st, h1⟩ := hh
  unfold fFlV at h1
  split at h1
  · rename_i C fs es heq
    cases heq
    split at h1
    · rename_i hc
      rw [Bool.and_eq_true] at hc
      cases hz : (fs.zip es).lookup f with
      | none => rw [hz] at h1; exact h1.elim
      | some y =>
        rw [hz] at h1
        obtain ⟨a, oe, od, w', u2, rfl, J, ru, hl, k2⟩ := exv_fld I1 st.g.fh (st.t.dt rfl) hz
        obtain rfl : u = Value.ref a := rx
        obtain ⟨q0, hq0, e0⟩ := xvIn_ok hc.1
        have xs := T.xs q0 hq0
        have fl := T.fl q0 hq0 f (of_decide_eq_true hc.2)
        rw [e0] at xs fl
        exact PySem.HandSPX.exc_get I1.kIn J xs.ga xs.gg xs.exC (PySem.W.findObj_own xs.hdC fl rfl hl) (handed_of ru) ⟨w', H1, I1.tok _, ru, Post.now st.g.fh st.p h1 (Dx.of k2)⟩
    · exact h1.elim
  · exact h1.elim
end
section
variable {P : Program} {w : World} {K : PySem.W.Frag} {mg : Str → Option Value} {base : Heap} {k : Nat}
theorem hand_one {X : Cx} {E : XK} {sc : Scope} {N : List Str} {e1 : Expr} {as : CEs} (hp : as.plain = true) (hA : chkA sc N as [e1] = true) (hE0 : PEs X E as [e1]) : ∃ c, as = .cons c .nil ∧ PE X e1 (up X.K E (evE c)) ∧ nostar e1 = true := by
  rcases as with _ | ⟨ca, r⟩ | ⟨ca, r⟩
  · simp [chkA] at hA
  · rcases r with _ | ⟨cb, r⟩ | ⟨cb, r⟩
    · refine ⟨ca, rfl, hE0.1, ?_⟩
      simp only [chkA, Bool.and_eq_true] at hA
      exact hA.1.1
    · simp [chkA] at hA
    · simp [CEs.plain] at hp
  · simp [CEs.plain] at hp
theorem isV_ok (T : XvOk K) {Ty0 : Ty} (hT : Ty0 ∈ xvTys) (hm : mg "isinstance" = none) (ht : TyOk K mg Ty0) : HandOk P w K mg base k (isxSub (tyNm Ty0)) (fIsV (tyNm Ty0)) := by
  intro X E sc N e es as hP hw hK hmg hb0 D hs hp hA hpa hE0
  subst hP hw hK hmg hb0
  unfold isxSub at hs
  split at hs
  · rename_i y q e' t q2 pos
    split at hs
    · rename_i hc
      simp only [Bool.and_eq_true] at hc
      obtain ⟨⟨⟨⟨h1, h2⟩, h3⟩, h4⟩, h5⟩ := hc
      cases hs
      have e1 := nm_eq h1
      have e2 := nm_eq h3
      subst e1 e2
      obtain ⟨c, rfl, ha, hn⟩ := hand_one hp hA hE0
      refine .plain (PE.imp (g_isV T hT (D.glo _ h2) hm (D.glo _ h4) ht h5 hn ha) fun σ H Q h => ?_) rfl
      exact h
    · cases hs
  · cases hs
theorem flV_ok (T : XvOk K) {f : Str} : HandOk P w K mg base k (flxSub f) (fFlV f) := by
  intro X E sc N e es as hP hw hK hmg hb0 D hs hp hA hpa hE0
  subst hP hw hK hmg hb0
  unfold flxSub at hs
  split at hs
  · rename_i e' g pos
    split at hs
    · rename_i hc
      simp only [Bool.and_eq_true] at hc
      cases hs
      have e1 := nm_eq hc.1
      subst e1
      obtain ⟨c, rfl, ha, hn⟩ := hand_one hp hA hE0
      exact .plain (PE.imp (g_flV T hc.2 ha) fun σ H Q h => h) rfl
    · cases hs
  · cases hs
theorem cntV_ok : HandOk P w K mg base k (mtcSub "count") (fCnt (.bl true)) := by
  intro X E sc N e es as hP hw hK hmg hb0 D hs hp hA hpa hE0
  subst hP hw hK hmg hb0
  unfold mtcSub at hs
  split at hs
  · rename_i e' g apos j cp pos
    split at hs
    · rename_i hc
      simp only [Bool.and_eq_true] at hc
      cases hs
      obtain ⟨c, rfl, ha, hn⟩ := hand_one hp hA hE0
      exact .plain (PE.imp (h_cnt (nm_eq hc.1.1).symm rfl rfl hc.1.2 hc.2 ha) fun σ H Q h => h) rfl
    · cases hs
  · cases hs
theorem idxV_ok : HandOk P w K mg base k (mtcSub "index") (fIdx (.bl true)) := by
  intro X E sc N e es as hP hw hK hmg hb0 D hs hp hA hpa hE0
  subst hP hw hK hmg hb0
  unfold mtcSub at hs
  split at hs
  · rename_i e' g apos j cp pos
    split at hs
    · rename_i hc
      simp only [Bool.and_eq_true] at hc
      cases hs
      obtain ⟨c, rfl, ha, hn⟩ := hand_one hp hA hE0
      exact .plain (PE.imp (h_idx (nm_eq hc.1.1).symm rfl rfl hc.1.2 hc.2 ha) fun σ H Q h => h) rfl
    · cases hs
  · cases hs
end
def spV2 (K : PySem.W.Frag) (C f1 f2 : Str) : Sp := fun vs H Q _ => ∃ (a : Addr) (v1 v2 : V), vs = [.ref a, v1, v2] ∧ H a = some (exo a (He.ga K C) none) ∧
  ∀ dx, H dx = none → dx ≠ a → Q .non (upd (upd (upd H dx (exd dx [(f1, v1)])) a (exo a (He.ga K C) (some dx))) dx (exd dx [(f2, v2), (f1, v1)]))
def init2B (f1 a1 f2 a2 : Str) : List Stmt → Bool
  | [.Assign [.Attribute (.Name s _) f _] (.Name y _) _, .Assign [.Attribute (.Name s' _) f' _] (.Name y' _) _] => nmEq "self" s && (nmEq f1 f && (nmEq a1 y && (nmEq "self" s' && (nmEq f2 f' && nmEq a2 y'))))
  | _ => false
section
variable {P : Program} {w : World} {K : PySem.W.Frag} {mg : Str → Option Value} {base : Heap} {B nI iI : String}
theorem init_spV {k : Nat} {f : Addr} {x qual : Str} {params : Arguments} {body : List Stmt} {scope : Scope} {dvs : List V} {kws : List (Str × V)} {fd : FuncData} {C fld arg : Str} (bB : PySem.XB.BaseB B nI iI) (D : FunD K x qual params body scope dvs kws f fd)
    (S : FnScope ["self", arg] ["self", arg] scope) (hb : initB fld arg body = true) (ha : okNm arg = true) (T : OexB K (He.ga K C) B nI) (hn : PySem.W.findIn K (.ref (He.ga K C)) fld = some none) : FnOk P w K mg base C8.CX0 (k + 1) f fd ["self", arg] (spX K C fld) := by
  unfold initB at hb
  split at hb
  · rename_i s p1 f' p2 y p3 pos
    simp only [Bool.and_eq_true] at hb
    obtain ⟨h1, h2, h3⟩ := hb
    have e1 := nm_eq h1
    have e2 := nm_eq h2
    have e3 := nm_eq h3
    subst e1 e2 e3
    simp only [okNm, Bool.and_eq_true, Bool.not_eq_true'] at ha
    have v0 : Vis scope "self" := by
      rcases S.par "self" (by simp) with q | q
      · exact .inl q
      · exact .inr (.inl q)
    have v1 : Vis scope arg := by
      rcases S.par arg (by simp) with q | q
      · exact .inl q
      · exact .inr (.inl q)
    refine D.ok S (fun vs H Q E h => by obtain ⟨a, v, rfl, _⟩ := h; rfl) fun cdv A outer s H vs Q E hr hsp => ?_
    obtain ⟨a, v, rfl, hx, q⟩ := hsp
    refine ⟨_, pss_one (ps_ostB bB (pe_var (i := 0) rfl v0) (pe_var (i := 1) rfl v1 ha.1.1 ha.1.2)), ?_⟩
    exact ⟨v, rfl, .ref a, rfl, a, He.ga K C, rfl, T, hn, .inl ⟨hx, fun dx nd ne => q dx nd ne⟩⟩
  · cases hb
theorem init_spV2 {k : Nat} {f : Addr} {x qual : Str} {params : Arguments} {body : List Stmt} {scope : Scope} {dvs : List V} {kws : List (Str × V)} {fd : FuncData} {C f1 a1 f2 a2 : Str} (bB : PySem.XB.BaseB B nI iI) (D : FunD K x qual params body scope dvs kws f fd)
    (S : FnScope ["self", a1, a2] ["self", a1, a2] scope) (hb : init2B f1 a1 f2 a2 body = true) (ha1 : okNm a1 = true) (ha2 : okNm a2 = true) (T : OexB K (He.ga K C) B nI) (hn1 : PySem.W.findIn K (.ref (He.ga K C)) f1 = some none) (hn2 : PySem.W.findIn K (.ref (He.ga K C)) f2 = some none) :
    FnOk P w K mg base C8.CX0 (k + 1) f fd ["self", a1, a2] (spV2 K C f1 f2) := by
  unfold init2B at hb
  split at hb
  · rename_i s p1 f' p2 y p3 pos s' p1' f'' p2' y' p3' pos'
    simp only [Bool.and_eq_true] at hb
    obtain ⟨h1, h2, h3, h4, h5, h6⟩ := hb
    have e1 := nm_eq h1
    have e2 := nm_eq h2
    have e3 := nm_eq h3
    have e4 := nm_eq h4
    have e5 := nm_eq h5
    have e6 := nm_eq h6
    subst e1 e2 e3 e4 e5 e6
    simp only [okNm, Bool.and_eq_true, Bool.not_eq_true'] at ha1 ha2
    have vs0 : ∀ z ∈ (["self", a1, a2] : List Str), Vis scope z := fun z hz => by
      rcases S.par z hz with q | q
      · exact .inl q
      · exact .inr (.inl q)
    have v0 := vs0 "self" (by simp)
    have v1 := vs0 a1 (by simp)
    have v2 := vs0 a2 (by simp)
    refine D.ok S (fun vs H Q E h => by obtain ⟨a, v, v', rfl, _⟩ := h; rfl) fun cdv A outer s H vs Q E hr hsp => ?_
    obtain ⟨a, v, v', rfl, hx, q⟩ := hsp
    refine ⟨_, pss_cons (ps_ostB bB (pe_var (i := 0) rfl v0) (pe_var (i := 1) rfl v1 ha1.1.1 ha1.1.2)) (pss_one (ps_ostB bB (pe_var (i := 0) rfl v0) (pe_var (i := 2) rfl v2 ha2.1.1 ha2.1.2))), ?_⟩
    refine ⟨v, rfl, .ref a, rfl, a, He.ga K C, rfl, T, hn1, .inl ⟨hx, fun dx nd ne => ?_⟩⟩
    exact ⟨v', rfl, .ref a, rfl, a, He.ga K C, rfl, T, hn2, .inr ⟨dx, [(f1, v)], upd_same, by rw [upd_ne ne, upd_same], by show 1 ≤ 900; decide, q dx nd ne⟩⟩
  · cases hb
end
theorem exo_nt {a C : Addr} {d : Option Addr} : ∀ ps, exo a C d ≠ .tbl ps := fun ps => exo_tbl
theorem exd_nt {dx : Addr} {fs : List (Str × V)} : ∀ ps, exd dx fs ≠ .tbl ps := fun ps z => by
  have z' : HO.ext _ = HO.tbl ps := z
  cases z'
section
variable {K : PySem.W.Frag} {E : XK} {pa : Pa} {F H : Hp} {P : Po} {Q : VK}
theorem exv_new {C : Str} {fs : List Str} {xs : List V} {ds : List Da} {a dx : Addr} (fh : Same F H) (po : PoolOk F H pa P) (hna : H a = none) (hnd : H dx = none) (ne : dx ≠ a) (hl : fs.length = xs.length) (t : Dts K F pa xs ds) (h : Post K E pa F H (.ok (.exv C fs ds) P) Q) :
    Q (.ref a) (upd (upd H dx (exd dx (fs.zip xs))) a (exo a (He.ga K C) (some dx))) := by
  obtain ⟨g1, p1⟩ := Gr.new (o := exd dx (fs.zip xs)) fh po hnd exd_nt
  have hna1 : upd H dx (exd dx (fs.zip xs)) a = none := by rw [upd_ne (Ne.symm ne)]; exact hna
  obtain ⟨g2, p2⟩ := Gr.new (o := exo a (He.ga K C) (some dx)) g1.fh p1 hna1 exo_nt
  refine h _ _ _ (g1.trans p1 g2) p2 (Dx.of (.exv upd_same (by rw [upd_ne ne, upd_same]) hl (t.mono (g1.ff.trans g2.ff))))
theorem exv_new0 {C : Str} {a : Addr} (fh : Same F H) (po : PoolOk F H pa P) (hna : H a = none) (h : Post K E pa F H (.ok (.exv C [] []) P) Q) : Q (.ref a) (upd H a (exo a (He.ga K C) none)) :=
  Post.newO fh po h hna (.exv0 upd_same) exo_nt
end
def fMkV (C : Str) (fs : List Str) : Fs := fun ds P => if (ds.all Da.fz && decide (ds.length = fs.length)) = true then .ok (.exv C fs ds.reverse) P else .no
def fMkVK (C : Str) (ks : List Str) (pr : List Nat) (fs : List Str) : Fs := fun ds P => if (ds.all Da.fz && decide (ds.length = ks.length)) = true then .ok (.exv C fs (pr.map fun i => ds.getD i .non).reverse) P else .no
structure XvI (P : Program) (w : World) (K : PySem.W.Frag) (mg : Str → Option Value) (base : Heap) (k : Nat) (C : Str) (fs : List Str) (fd : FuncData) (ps : List Str) : Prop where
  run : ∃ (B nI iI : String) (fI : Addr) (sp : Sp), PySem.XB.BaseB B nI iI ∧ OexB K (He.ga K C) B nI ∧ PySem.W.findIn K (.ref (He.ga K C)) "__init__" = some (some (.ref fI)) ∧ PySem.W.typeIn K (.ref fI) = some (.type "function") ∧ FnOk P w K mg base C8.CX0 k fI fd ps sp ∧
    ∀ (pa : Pa) (F H : Hp) (Po0 : Po) (Q : VK) (E : XK) (zs : List V) (ds : List Da), Same F H → PoolOk F H pa Po0 → Dts K F pa zs ds → ds.length = fs.length → Post K E pa F H (.ok (.exv C fs ds.reverse) Po0) Q → ∀ a, H a = none → sp (.ref a :: zs) (upd H a (exo a (He.ga K C) none)) (fun v H2 => v = .non ∧ Q (.ref a) H2) (fun _ _ _ => False)
  len : ps.length = fs.length + 1
  small : fs.length ≤ 2
  bd : Binds K fd ps []
  mg : mg C = some (.ref (He.ga K C))
section
variable {P : Program} {w : World} {K : PySem.W.Frag} {mg : Str → Option Value} {base : Heap} {k : Nat}
theorem xvI_1 {qual : Str} {params : Arguments} {body : List Stmt} {scope : Scope} {fd : FuncData} {C fld arg : Str} {B nI iI : String} (bB : PySem.XB.BaseB B nI iI) (D : FunD K "__init__" qual params body scope [] [] (He.ma K (He.ga K C) "__init__") fd) (S : FnScope ["self", arg] ["self", arg] scope) (hb : initB fld arg body = true) (ha : okNm arg = true)
    (T : OexB K (He.ga K C) B nI) (hn : PySem.W.findIn K (.ref (He.ga K C)) fld = some none) (m : Meth K (He.ga K C) "__init__" (He.ma K (He.ga K C) "__init__")) (bd : Binds K fd ["self", arg] []) (hg : mg C = some (.ref (He.ga K C))) : XvI P w K mg base (k + 1) C [fld] fd ["self", arg] := by
  refine ⟨⟨B, nI, iI, _, spX K C fld, bB, T, m.at_, beq_iff_eq.mp m.fn, init_spV bB D S hb ha T hn, fun pa F H Po0 Q E zs ds fh po t hl h a na => ?_⟩, rfl, Nat.le_succ 1, bd, hg⟩
  match ds, hl, h, t with
  | [d], _, h, t =>
    cases t with
    | @cons v _ _ _ t1 t2 =>
      cases t2
      refine ⟨a, v, rfl, upd_same, fun dx nd ne => ⟨rfl, ?_⟩⟩
      have n1 : H dx = none := by rw [upd_ne ne] at nd; exact nd
      have q := exv_new (xs := [v]) (ds := [d]) fh po na n1 ne rfl (.cons t1 .nil) h
      have eH : upd (upd (upd H a (exo a (He.ga K C) none)) dx (exd dx [(fld, v)])) a (exo a (He.ga K C) (some dx)) = upd (upd H dx (exd dx ([fld].zip [v]))) a (exo a (He.ga K C) (some dx)) := by
        funext b
        by_cases hb : b = a
        · subst hb; rw [upd_same, upd_same]
        · rw [upd_ne hb, upd_ne hb]
          by_cases hc : b = dx
          · subst hc; rw [upd_same, upd_same]; rfl
          · rw [upd_ne hc, upd_ne hb, upd_ne hc]
      rw [eH]
      exact q
theorem xvI_2 {qual : Str} {params : Arguments} {body : List Stmt} {scope : Scope} {fd : FuncData} {C f1 a1 f2 a2 : Str} {B nI iI : String} (bB : PySem.XB.BaseB B nI iI) (D : FunD K "__init__" qual params body scope [] [] (He.ma K (He.ga K C) "__init__") fd) (S : FnScope ["self", a1, a2] ["self", a1, a2] scope) (hb : init2B f1 a1 f2 a2 body = true) (ha1 : okNm a1 = true) (ha2 : okNm a2 = true)
    (T : OexB K (He.ga K C) B nI) (hn1 : PySem.W.findIn K (.ref (He.ga K C)) f1 = some none) (hn2 : PySem.W.findIn K (.ref (He.ga K C)) f2 = some none) (m : Meth K (He.ga K C) "__init__" (He.ma K (He.ga K C) "__init__")) (bd : Binds K fd ["self", a1, a2] []) (hg : mg C = some (.ref (He.ga K C))) : XvI P w K mg base (k + 1) C [f2, f1] fd ["self", a1, a2] := by
  refine ⟨⟨B, nI, iI, _, spV2 K C f1 f2, bB, T, m.at_, beq_iff_eq.mp m.fn, init_spV2 bB D S hb ha1 ha2 T hn1 hn2, fun pa F H Po0 Q E zs ds fh po t hl h a na => ?_⟩, rfl, Nat.le_refl 2, bd, hg⟩
  match ds, hl, h, t with
  | [d, d'], _, h, t =>
    cases t with
    | @cons v _ _ _ t1 t2 =>
      cases t2 with
      | @cons v' _ _ _ t2 t3 =>
        cases t3
        refine ⟨a, v, v', rfl, upd_same, fun dx nd ne => ⟨rfl, ?_⟩⟩
        have n1 : H dx = none := by rw [upd_ne ne] at nd; exact nd
        have q := exv_new (fs := [f2, f1]) (xs := [v', v]) (ds := [d', d]) fh po na n1 ne rfl (.cons t2 (.cons t1 .nil)) h
        have eH : upd (upd (upd (upd H a (exo a (He.ga K C) none)) dx (exd dx [(f1, v)])) a (exo a (He.ga K C) (some dx))) dx (exd dx [(f2, v'), (f1, v)]) = upd (upd H dx (exd dx ([f2, f1].zip [v', v]))) a (exo a (He.ga K C) (some dx)) := by
          funext b
          by_cases hc : b = dx
          · subst hc; rw [upd_same, upd_ne ne, upd_same]; rfl
          · rw [upd_ne hc]
            by_cases hb : b = a
            · subst hb; rw [upd_same, upd_same]
            · rw [upd_ne hb, upd_ne hb, upd_ne hc, upd_ne hb, upd_ne hc]
        rw [eH]
        exact q
theorem mkV_ok {C : Str} {fs : List Str} {fd : FuncData} {ps : List Str} (M : XvI P w K mg base k C fs fd ps) (hf : fs ≠ []) : HandOk P w K mg base k (callDF C) (fMkV C fs) := by
  intro X E sc N e es as hP hw hK hmg hb0 D hs hp hA hpa hE
  subst hP hw hK hmg hb0
  unfold callDF callN at hs
  split at hs
  · rename_i y p e1 es1 pos
    split at hs
    · rename_i hc
      simp only [Bool.and_eq_true] at hc
      obtain ⟨⟨⟨h1, h2⟩, h3⟩, h4⟩ := hc
      cases hs
      have ex := nm_eq h1
      subst ex
      obtain ⟨⟨B, nI, iI, fI, sp, bB, T, iC, tI, F1, hsp⟩, hln, hsm, bd, hm⟩ := M
      simp only [nostars, Bool.and_eq_true] at h4
      refine .plain ⟨fun pins s σ H Q I h => ?_⟩ rfl
      obtain ⟨pa, F, S, R, h⟩ := h
      refine wpAny_Call_Name_kw (ld_glob I (D.glo _ h2) hm ?_ (ok_dbg h3))
      refine PySem.W.callWith_K (h₀ := X.base) I.ok.mod.kin T.kC (thn (hpa.run pos pins s σ H _ I ⟨pa, F, S, R, PostA.bind h⟩) ?_) (star_no h4.1) (stars_pl h4.2)
      rintro us s1 ⟨vs, H1, I1, r, ds, P1, F1', _, g1, p1, t1, h1⟩
      refine ⟨I1.kIn, ?_⟩
      unfold fMkV at h1
      by_cases c : (ds.all Da.fz && decide (ds.length = fs.length)) = true
      · rw [if_pos c] at h1
        rw [Bool.and_eq_true] at c
        have td := t1.dts c.1
        have hle : vs.length = fs.length := by rw [td.length]; exact of_decide_eq_true c.2
        have hus : us.length = fs.length := by rw [← r.length]; exact hle
        refine run_oexB (us := us) (kw := []) (zs := vs) (ws := us) bB T iC tI F1 (D.rm.mono (Nat.le_refl _)) C8.pass0 I1 (by rw [hus, sizeLine_eq]; omega) (fun s' u kin => ?_) r (hsp pa F1' H1 P1 Q E vs ds g1.fh p1 td (of_decide_eq_true c.2) h1)
        have b := bd s' (u :: us) kin (by rw [List.append_nil, List.length_cons, hus, hln])
        rw [List.append_nil] at b
        exact b
      · rw [if_neg c] at h1
        exact h1.elim
    · cases hs
  · cases hs
theorem mkVK_ok {C : Str} {ks : List Str} {pr : List Nat} {fs : List Str} {fd : FuncData} {ps : List Str} (M : XvI P w K mg base k C fs fd ps) (hb : BindKw K ks pr fd ps) : HandOk P w K mg base k (callKF C ks) (fMkVK C ks pr fs) := by
  intro X E sc N e es as hP hw hK hmg hb0 D hs hp hA hpa hE
  subst hP hw hK hmg hb0
  unfold callKF callK at hs
  split at hs
  · rename_i y p kws pos
    split at hs
    · rename_i hc
      simp only [Bool.and_eq_true] at hc
      obtain ⟨⟨⟨⟨h1, h2⟩, h3⟩, h4⟩, h5⟩ := hc
      cases hs
      have ex := nm_eq h1
      subst ex
      obtain ⟨⟨B, nI, iI, fI, sp, bB, T, iC, tI, F1, hsp⟩, hln, hsm, bd, hm⟩ := M
      obtain ⟨hpl, hpr, hbd⟩ := hb
      obtain ⟨k1, k2, k3⟩ := kw_names (env := X.env) (pos := pos) (of_decide_eq_true h4)
      have hlen : as.len = kws.length := by rw [chk_len hp hA, List.length_map]
      have pk := pk_data hp hlen hE
      refine .plain ⟨fun pins s σ H Q I h => ?_⟩ rfl
      obtain ⟨pa, F, S, R, h⟩ := h
      refine wpAny_Call_Name_kw (ld_glob I (D.glo _ h2) hm ?_ (ok_dbg h3))
      refine PySem.W.callWith_KW0 (h₀ := X.base) I.ok.mod.kin T.kC k1 ?_ (by rw [k3]; rfl)
      refine thn (pk.run pos pins s σ H _ I ⟨pa, F, S, R, PostA.bind h⟩) ?_
      rintro ws s2 ⟨zs, H2, I2, rz, ds, P1, F1', _, g1, p1, t1, h1⟩
      refine ⟨I2.kIn, ?_⟩
      rw [k2]
      unfold fMkVK at h1
      by_cases c : (ds.all Da.fz && decide (ds.length = ks.length)) = true
      · rw [if_pos c] at h1
        rw [Bool.and_eq_true] at c
        have td := t1.dts c.1
        have hlk : zs.length = ks.length := by rw [t1.length]; exact of_decide_eq_true c.2
        have rp := Vals.pick rz pr fun i hi => by rw [hlk]; exact hpr i hi
        have tp := Dts.pick td pr fun i hi => by rw [hlk]; exact hpr i hi
        have hl2 : (pr.map fun i => ds.getD i .non).length = fs.length := by rw [List.length_map]; omega
        exact run_oexB (us := []) (kw := ks.zip ws) (zs := pr.map fun i => zs.getD i .non) (ws := pr.map fun i => ws.getD i .none) bB T iC tI F1 D.rm C8.pass0 I2 (Nat.zero_le _) (fun s' u kin => hbd s' u ws kin (by rw [← rz.length]; exact hlk)) rp (hsp pa F1' H2 P1 Q E _ _ g1.fh p1 tp hl2 h1)
      · rw [if_neg c] at h1
        exact h1.elim
    · cases hs
  · cases hs
def call0 (x : Str) (sc : Scope) : Expr → Option (List Expr)
  | .Call (.Name y _) [] [] _ => if (nmEq x y && gloB sc y && okNm y) = true then some [] else none
  | _ => none
def fMk0 (C : Str) : Fs := fun ds P => match ds with
  | [] => .ok (.exv C [] []) P
  | _ => .no
theorem hand_nil {X : Cx} {E : XK} {as : CEs} {N : List Str} {sc : Scope} (hp : as.plain = true) (hA : chkA sc N as [] = true) : as = .nil := by
  rcases as with _ | ⟨ca, r⟩ | ⟨ca, r⟩
  · rfl
  · simp [chkA] at hA
  · simp [CEs.plain] at hp
theorem ev0' (S : Ev) (f : Fs) : ((evA .nil S).bind fun ds P => f ds P) = f [] S.po := by rw [evA]; rfl
theorem mk0_ok (q : nouB K = true) (kC : PySem.W.keepIn K (.ref (He.ga K "NothingToUndo")) = true) (hg : mg "NothingToUndo" = some (.ref (He.ga K "NothingToUndo"))) : HandOk P w K mg base k (call0 "NothingToUndo") (fMk0 "NothingToUndo") := by
  intro X E sc N e es as hP hw hK hmg hb0 D hs hp hA hpa hE
  subst hP hw hK hmg hb0
  unfold call0 at hs
  split at hs
  · rename_i y p pos
    split at hs
    · rename_i hc
      simp only [Bool.and_eq_true] at hc
      cases hs
      have ex := nm_eq hc.1.1
      subst ex
      have ea := hand_nil (X := X) (E := E) hp hA
      subst ea
      refine .plain (PE.imp (pe_exc0 PySem.F.excBase_LookupError q hg kC (D.glo _ hc.1.2) (ok_dbg hc.2)) fun σ H Q h => ?_) rfl
      obtain ⟨pa, F, S, R, h⟩ := h
      dsimp only at h
      rw [ev0'] at h
      exact fun a na => exv_new0 R.fh R.po na h
    · cases hs
  · cases hs
def dcaS (_ : Scope) : Expr → Option (List Expr)
  | .Dict [some (.Constant (.str x) _ _)] [.Constant (.int i) _ _] _ => if decide (x = "a" ∧ i = 1) = true then some [] else none
  | _ => none
def fDca : Fs := fun ds P => match ds with
  | [] => .ok .dca P
  | _ => .no
theorem dca_ok : HandOk P w K mg base k dcaS fDca := by
  intro X E sc N e es as hP hw hK hmg hb0 D hs hp hA hpa hE
  subst hP hw hK hmg hb0
  unfold dcaS at hs
  split at hs
  · rename_i x j1 p1 i j2 p2 pos
    split at hs
    · rename_i hc
      obtain ⟨rfl, rfl⟩ := of_decide_eq_true hc
      cases hs
      have ea := hand_nil (X := X) (E := E) hp hA
      subst ea
      have hd := pe_disp (X := X) (pos := pos) (keys := [some (.Constant (.str "a") j1 p1)]) (values := [.Constant (.int 1) j2 p2]) (trs := [(tC (.str "a"), tC (.int 1))]) (pps_cons pe_str pe_int pps_nil) rfl rfl (by simp) (by show 1 ≤ 15; decide)
      refine .plain (PE.imp hd fun σ H Q h => ?_) rfl
      obtain ⟨pa, F, S, R, h⟩ := h
      dsimp only at h
      rw [ev0'] at h
      intro p np
      refine ⟨upd_same, [(.inr "a", .int 1)], rfl, by show 1 ≤ 15; decide, ?_⟩
      rw [upd_upd]
      exact Post.newO R.fh R.po h np (.dca upd_same)
    · cases hs
  · cases hs
end
theorem law_callR {P : Program} {w : World} {K : PySem.W.Frag} {mg mb : Str → Option Value} {k : Nat} {fa a : Addr} {cs : List (Addr × Addr)} {fd : FuncData} {x : Str} {sp : Sp} {s1 : Shared} {vs : List Value} {ns : List Int}
    (KX : K.In s1.heap) (hns : s1.heap.Ns mainGlobals mg) (hb : s1.heap.Ns builtinsNs mb) (hbb : ∀ x : Str, x ≠ "__name__" → mb x = bootBuiltins x) (hlim : s1.heap.NoLimit) (hg : s1.gens = #[])
    (hT : ∀ p ∈ cs, s1.heap.get? p.2 = some { cls := .none, data := .fields #[] }) (nT : ∀ p ∈ cs, K.lookup p.2 = none) (hC : ∀ p ∈ cs, PySem.W.CodeHd s1.heap p.1 p.2)
    (hbm : ∃ (bm : Addr) (ob : Obj), mg "__builtins__" = some (.ref bm) ∧ bm ≠ builtinsNs ∧ s1.heap.get? bm = some ob ∧ ob.cls = .type "module" ∧ ob.dict = some builtinsNs ∧ ob.data = .plain)
    (ha : s1.heap.get? a = some { cls := .type "list", data := .seq vs.toArray }) (hi : IntsAre vs ns) (hl : ns.length ≤ sizeLine) (hr : Room k callerA)
    (F : ∀ base : Heap, K.In base → base.Ns mainGlobals mg → (∀ p ∈ cs, LamX.TabB base mg p.1 p.2) → Gn P w K mg base k fa fd [x] sp) (hbind : ∀ (s : Shared) (u : Value), BindsTo s fd ⟨[u], []⟩ [(x, u)])
    (hsp : ∀ H : Hp, (∀ p ∈ cs, H p.2 = some (.tbl #[])) → (∀ b qs, H b = some (.tbl qs) → ∃ p ∈ cs, p.2 = b) → SqL K H a (ns.map V.int) → sp [.ref a] H (fun v _ => v = .bl true) fun _ _ _ => False)
    (hCX : ∀ H e s', L2.CX P w [] H s1 (fun _ _ _ => False) e s' → False) :
    codeAny (model P w) callerA (.call (.ref fa) ⟨[.ref a], []⟩) (fun r s' => r = .ok (.ret (.bool true)) ∧ OldK s1.heap s'.heap ∧ s'.os = s1.os ∧ AllBare s'.gens) s1 := by
  have rv := vals_ints hi
  have lenV := hi.length
  have isT : ∀ b, b ∈ cs.map (·.2) → s1.heap.get? b = some { cls := .none, data := .fields #[] } := fun b hb => by
    obtain ⟨p, hp, rfl⟩ := List.mem_map.mp hb
    exact hT p hp
  have memT : ∀ p ∈ cs, p.2 ∈ cs.map (·.2) := fun p hp => List.mem_map.mpr ⟨p, hp, rfl⟩
  have aT : a ∉ cs.map (·.2) := fun z => by
    have q := isT a z
    rw [ha] at q
    have d : Data.seq vs.toArray _ = Data.fields #[] := congrArg Obj.data (Option.some.inj q)
    cases d
  -- the tracked part: the tables, and perhaps the script
  have go : ∀ H : Hp, (∀ p ∈ cs, H p.2 = some (.tbl #[])) → (∀ b, H b = none ∨ b ∈ cs.map (·.2) ∨ (b = a ∧ ∃ o xs, H b = some (.frz o (.lst xs)))) → SqL K H a (ns.map V.int) → HOk P w H s1.heap → (H a ≠ none → K.lookup a = none) →
      codeAny (model P w) callerA (.call (.ref fa) ⟨[.ref a], []⟩) (fun r s' => r = .ok (.ret (.bool true)) ∧ OldK s1.heap s'.heap ∧ s'.os = s1.os ∧ AllBare s'.gens) s1 := by
    intro H hH hO hS hok hK
    have off : ∀ {b : Addr} {o : Obj}, s1.heap.get? b = some o → (∀ ws n, o.data ≠ .seq ws n) → o.data ≠ .fields #[] → H b = none := fun {b o} e d1 d2 => by
      rcases hO b with z | z | ⟨rfl, _⟩
      · exact z
      · rw [isT b z] at e
        cases e
        exact absurd rfl d2
      · rw [ha] at e
        cases e
        exact absurd rfl (d1 _ _)
    have dictOff : ∀ {b : Addr} {o : Obj} {es : Array DictEntry} {ep : Nat}, s1.heap.get? b = some o → o.data = .dict es ep → H b = none := fun e d => off e (fun ws n z => by rw [d] at z; cases z) (fun z => by rw [d] at z; cases z)
    have nsK : ∀ {b : Addr} {m : Str → Option Value}, s1.heap.Ns b m → (hidT s1.heap H).Ns b m := fun ⟨o, es, ep, e, d, r⟩ => ⟨o, es, ep, hidT_get e (dictOff e d), d, r⟩
    have kb : K.In (hidT s1.heap H) := fun b o e => hidT_get (KX b o e) (by
      rcases hO b with z | z | ⟨rfl, o2, xs, z⟩
      · exact z
      · obtain ⟨p, hp, rfl⟩ := List.mem_map.mp z
        rw [nT p hp] at e
        cases e
      · rw [hK (by rw [z]; simp)] at e
        cases e)
    have hM : Mod K mg (hidT s1.heap H) := ⟨kb, nsK hns, ⟨mb, nsK hb, hbb⟩, let ⟨mc, h1, h2⟩ := hlim; ⟨mc, nsK h1, h2⟩⟩
    have tabs : ∀ p ∈ cs, LamX.TabB (hidT s1.heap H) mg p.1 p.2 := fun p hp => by
      have tp := hT p hp
      refine ⟨?_, ?_, fun z => ?_⟩
      · obtain ⟨o, us, file, t1, flags, t2, inF, text, t3, e1, r1, r2, r3, r4, r5, r6, r7, r8, hne⟩ := hC p hp
        refine ⟨o, us, file, t1, flags, t2, inF, text, t3, hidT_get e1 (off e1 (fun ws n z => ?_) fun z => ?_), r1, r2, r3, r4, r5, r6, r7, r8, hne⟩
        · rw [r2] at z; cases z
        · rw [r2] at z
          cases z
          simp at r3
      · obtain ⟨bm, ob, b1, b2, b3, b4, b5, b6⟩ := hbm
        refine ⟨bm, ob, b1, b2, fun q => ?_, fun q => ?_, hidT_get b3 (off b3 (fun ws n z => ?_) fun z => ?_), b4, b5, b6⟩
        · obtain ⟨o, es, ep, e, hd, _⟩ := hns
          rw [q, e] at b3
          cases b3
          rw [hd] at b6
          cases b6
        · rw [q, tp] at b3
          cases b3
          cases b6
        · rw [b6] at z; cases z
        · rw [b6] at z; cases z
      · obtain ⟨o, es, ep, e, hd, _⟩ := hns
        rw [z, tp] at e
        cases e
        cases hd
    have env : Env0 P w K mg (hidT s1.heap H) callerA [] s1 H := ⟨rfl, hM, fun b o e => of_hidT e, Nat.le_of_eq (hidT_size _ _), trivial, fun b hb => absurd (show b ∈ ([] : List Addr) from hb) (by simp), hok, .of_eq hg⟩
    have ot : ∀ b qs, H b = some (.tbl qs) → ∃ p ∈ cs, p.2 = b := fun b qs e => by
      rcases hO b with z | z | ⟨_, o2, xs, z⟩
      · rw [z] at e; cases e
      · obtain ⟨p, hp, q⟩ := List.mem_map.mp z
        exact ⟨p, hp, q⟩
      · rw [z] at e; cases e
    refine codeAny_mono ((F _ kb (nsK hns) tabs).run callerA [] s1 H ⟨[.ref a], []⟩ [.ref a] [.ref a] _ _ hr rfl env (hbind s1 (.ref a)) (.cons rfl .nil) (hsp H hH ot hS)) fun r s' h => ?_
    cases r with
    | error e => exact (hCX H e s' h).elim
    | ok fl =>
      cases fl with
      | ret u =>
        obtain ⟨v, H', os, bare, un, hok', r', q⟩ := h
        have q' : v = .bl true := q
        subst q'
        obtain rfl : u = Value.bool true := r'
        have key : ∀ b o, b ∉ cs.map (·.2) → s1.heap.get? b = some o → s'.heap.get? b = some o := fun b o nb e => by
          rcases hO b with z | z | ⟨_, o2, xs, z⟩
          · exact un.keep b o e z (by intro z; exact absurd (show b ∈ ([] : List Addr) from z) (by simp)) (by simp)
          · exact absurd z nb
          · obtain ⟨e1, _⟩ := hok b _ z
            obtain ⟨e2, _⟩ := hok' b _ (un.frzs b o2 _ z)
            rw [e] at e1
            cases e1
            exact e2
        have grown : ∀ p ∈ cs, ∃ more : Array Value, s'.heap.get? p.2 = some { cls := .none, data := .fields more } := fun p hp => by
          obtain ⟨more, z⟩ := un.tbls p.2 #[] (hH p hp)
          exact ⟨_, hok' p.2 _ z⟩
        refine ⟨rfl, ⟨fun b o e => ?_, fun b o e => ?_⟩, os, bare⟩
        · by_cases hb : b ∈ cs.map (·.2)
          · obtain ⟨p, hp, rfl⟩ := List.mem_map.mp hb
            obtain ⟨more, hm⟩ := grown p hp
            rw [hT p hp] at e
            cases e
            exact .inr (.inl ⟨((hC p hp).tab (hT p hp)).isCodeTable, rfl, #[], more, rfl, by rw [Array.empty_append]; exact hm⟩)
          · exact .inl (key b o hb e)
        · by_cases hb : b ∈ cs.map (·.2)
          · obtain ⟨p, hp, rfl⟩ := List.mem_map.mp hb
            obtain ⟨more, hm⟩ := grown p hp
            exact ⟨_, hm⟩
          · exact ⟨o, key b o hb e⟩
      | _ => exact False.elim h
  cases hk : K.lookup a with
  | some o =>
    have e := KX a o hk
    rw [ha] at e
    cases e
    refine go (fun b => if b ∈ cs.map (·.2) then some (.tbl #[]) else none) (fun p hp => if_pos (memT p hp)) (fun b => ?_) (.inr ⟨_, vs.toArray, _, hk, rfl, rfl, rfl, by rw [List.size_toArray, lenV]; exact hl, by simpa using rv⟩) (fun b u z => ?_) fun z => absurd (if_neg aT) z
    · by_cases hb : b ∈ cs.map (·.2)
      · exact .inr (.inl hb)
      · exact .inl (if_neg hb)
    · by_cases hb : b ∈ cs.map (·.2)
      · have z' := (if_pos hb).symm.trans z
        cases z'
        exact isT b hb
      · have z' := (if_neg hb).symm.trans z
        cases z'
  | none =>
    refine go (fun b => if b = a then some (.frz { cls := .type "list", data := .seq vs.toArray } (.lst (ns.map V.int))) else if b ∈ cs.map (·.2) then some (.tbl #[]) else none)
      (fun p hp => (if_neg (show ¬ p.2 = a from fun z => aT (by rw [← z]; exact memT p hp))).trans (if_pos (memT p hp))) (fun b => ?_) (.inl (.inr ⟨{ cls := .type "list", data := .seq vs.toArray }, if_pos rfl⟩)) (fun b u z => ?_) fun _ => hk
    · by_cases hb : b = a
      · exact .inr (.inr ⟨hb, _, _, if_pos hb⟩)
      · by_cases hb2 : b ∈ cs.map (·.2)
        · exact .inr (.inl hb2)
        · exact .inl ((if_neg hb).trans (if_neg hb2))
    · by_cases hb : b = a
      · have z' := (if_pos hb).symm.trans z
        cases z'
        rw [hb]
        exact ⟨ha, by rw [List.length_map]; exact hl, vs, _, rv, ha⟩
      · have z1 := (if_neg hb).symm.trans z
        by_cases hb2 : b ∈ cs.map (·.2)
        · have z' := (if_pos hb2).symm.trans z1
          cases z'
          exact isT b hb2
        · have z' := (if_neg hb2).symm.trans z1
          cases z'
def LawR (l : PySem.W.OpenLaw) (w : World) (K : PySem.W.Frag) (k n : Nat) (x : Str) (mg : Str → Option Value) (fa : Addr) (h : Heap) : Prop :=
  ∃ (fd : FuncData) (cs : List (Addr × Addr)) (sp : Sp), K.In h ∧ (∀ p ∈ cs, h.get? p.2 = some { cls := .none, data := .fields #[] }) ∧ (∀ p ∈ cs, K.lookup p.2 = none) ∧ (∀ p ∈ cs, PySem.W.CodeHd h p.1 p.2) ∧ (∀ (s : Shared) (u : Value), BindsTo s fd ⟨[u], []⟩ [(x, u)]) ∧
    (∀ (H : Hp) (a : Addr) (ns : List Int), ns.length ≤ n → (∀ p ∈ cs, H p.2 = some (.tbl #[])) → (∀ b qs, H b = some (.tbl qs) → ∃ p ∈ cs, p.2 = b) → SqL K H a (ns.map V.int) → sp [.ref a] H (fun v _ => v = .bl true) fun _ _ _ => False) ∧
    ∀ base : Heap, K.In base → base.Ns mainGlobals mg → (∀ p ∈ cs, LamX.TabB base mg p.1 p.2) → Gn l.prog w K mg base k fa fd [x] sp
theorem walk_ofR {l : PySem.W.OpenLaw} {n k : Nat} {q : Program} {loose : List Str} {XP : (Str → Option Value) → Heap → Prop} {YP : World → Heap → Prop} {d : DefRec} {x : Str} (hn : l.most = some n) (hn2 : n ≤ sizeLine) (hdf : d.params.defaults = []) (hr : Room k callerA)
    (F : ∀ (w : World) (mg : Str → Option Value) (fa : Addr) (h : Heap), YP w h → h.Ns mainGlobals mg → mg d.name = some (.ref fa) → ∃ K, LawR l w K k n x mg fa h)
    (hCX : ∀ (w : World) (H : Hp) (s : Shared) (e : Value) (s' : Shared), L2.CX l.prog w [] H s (fun _ _ _ => False) e s' → False) :
    PySem.W.WalkO q loose XP YP l.row.toRowW d [] (fun f vs => PySem.call f vs) := by
  refine Att.attach_call hn hdf fun w s0 s1 mg mb fa o pm cd doc a vs ns G Y ho hd hcd hmg hobj hints hlen hg => ?_
  obtain ⟨K, fd, cs, sp, KX, hT, nT, hC, hb, hsp, hF⟩ := F w mg fa _ Y G.T.g hmg
  exact law_callR KX G.T.g G.T.b G.T.builtins G.T.nolimit hg hT nT hC G.T.bmain hobj hints (Nat.le_trans hlen hn2) hr hF hb (fun H hH hO hS => hsp H a ns hlen hH hO hS) fun H e s' => hCX w H s1 e s'
end DL
namespace DL.Law
open PySem PySem.Spec PyProof.Rows L2 DL
def f_law_draw : Fs := fun ds P => match ds, P with
  | [.pool, .int m], some (a, b, c) => if 0 < m ∧ m ≤ 100000 ∧ 0 ≤ a ∧ a < 2147483563 ∧ 0 ≤ b ∧ 0 ≤ c ∧ c < 1000000 then (if 0 < b then .ok (.int (b % m)) (some (a, b / m, c + 1)) else
      .ok (.int (((a * 39373 + (c + 1) * (c + 1) * 7919 + 271) % 2147483563 / 97 + (a * 39373 + (c + 1) * (c + 1) * 7919 + 271) % 2147483563 / 65521) % m)) (some ((a * 39373 + (c + 1) * (c + 1) * 7919 + 271) % 2147483563, b, c + 1))) else .no
  | _, _ => .no
def ir_law_pick : CSs := (.cons (.ret (.ix (.var 1) (.call "_law_draw" f_law_draw (.cons (.var 0) (.cons (.b1 .len (.var 1)) .nil))))) .nil)
def f_law_pick : Fs := runF 2 2 ir_law_pick
def ir_law_odd : CSs := (.cons (.asg 1 (.lst (.cons (.con .non) (.cons (.con (.bl true)) (.cons (.con (.bl false)) (.cons (.con (.int 0)) (.cons (.con (.int 1)) (.cons (.neg (.con (.int 1))) (.cons (.b2 .pow (.con (.int 10)) (.con (.int 39))) (.cons (.neg (.b2 .pow (.con (.int 10)) (.con (.int 38)))) (.cons (.con (.str [])) (.cons (.con (.str [102, 114, 101, 101])) (.cons (.con (.str [97, 32, 97, 110, 100, 32, 98])) (.cons (.tup .nil) (.cons (.lst .nil) (.cons .dnew .nil)))))))))))))))) (.cons (.asg 1 (.b2 .add (.var 1) (.lst (.cons (.tup (.cons (.con (.int 1)) (.cons (.con .non) .nil))) (.cons (.lst (.cons (.lst .nil) (.cons (.tup .nil) .nil))) (.cons (.xa (.hand dcaS) fDca .nil) (.cons (.tup (.cons (.con (.str [99, 97, 108, 108])) (.cons (.con (.int 0)) (.cons (.tup (.cons (.con (.int 1)) .nil)) .nil)))) (.cons (.tup (.cons (.con (.bl true)) (.cons (.con (.int 1)) (.cons (.con (.str [49])) .nil)))) (.cons (.con (.str [108, 105, 110, 101, 115, 32, 49, 10, 115, 116, 97, 110, 100, 32, 102, 114, 101, 101, 32, 113, 117, 105, 101, 116])) .nil))))))))) (.cons (.ret (.call "_law_pick" f_law_pick (.cons (.var 0) (.cons (.b2 .add (.var 1) (.lst (.cons (.tup (.cons (.con (.str [105, 110])) (.cons (.tup (.cons (.con .non) (.cons (.tup (.cons (.con (.str [120])) (.cons (.lst (.cons (.con (.int 2)) .nil)) .nil))) .nil))) .nil))) .nil))) .nil)))) .nil)))
def f_law_odd : Fs := runF 1 2 ir_law_odd
def ir_law_error : CSs := (.cons (.own 1 (.cons (.xa (.hand (isxSub "InvalidNumber")) (fIsV "InvalidNumber") (.cons (.var 0) .nil)) (.cons (.xa (.hand (isxSub "InvalidText")) (fIsV "InvalidText") (.cons (.var 0) .nil)) (.cons (.xa (.hand (isxSub "InvalidName")) (fIsV "InvalidName") (.cons (.var 0) .nil)) .nil)))) (.cons (.ownC 1 (.var 1) (.lst (.cons (.xa (.hand (isxSub "InvalidWish")) (fIsV "InvalidWish") (.cons (.var 0) .nil)) (.cons (.xa (.hand (isxSub "InvalidIndex")) (fIsV "InvalidIndex") (.cons (.var 0) .nil)) (.cons (.xa (.hand (isxSub "InvalidPicture")) (fIsV "InvalidPicture") (.cons (.var 0) .nil)) .nil))))) (.cons (.ownC 1 (.var 1) (.lst (.cons (.xa (.hand (isxSub "InvalidEvent")) (fIsV "InvalidEvent") (.cons (.var 0) .nil)) (.cons (.xa (.hand (isxSub "InvalidHearing")) (fIsV "InvalidHearing") (.cons (.var 0) .nil)) (.cons (.xa (.hand (isxSub "NotAHouse")) (fIsV "NotAHouse") (.cons (.var 0) .nil)) .nil))))) (.cons (.ownC 1 (.var 1) (.lst (.cons (.xa (.hand (isxSub "InvalidStands")) (fIsV "InvalidStands") (.cons (.var 0) .nil)) (.cons (.xa (.hand (isxSub "InvalidKeys")) (fIsV "InvalidKeys") (.cons (.var 0) .nil)) (.cons (.xa (.hand (isxSub "InvalidRows")) (fIsV "InvalidRows") (.cons (.var 0) .nil)) .nil))))) (.cons (.ownC 1 (.var 1) (.lst (.cons (.xa (.hand (isxSub "WrongLine")) (fIsV "WrongLine") (.cons (.var 0) .nil)) (.cons (.xa (.hand (isxSub "InvalidWeaving")) (fIsV "InvalidWeaving") (.cons (.var 0) .nil)) (.cons (.xa (.hand (isxSub "UnknownName")) (fIsV "UnknownName") (.cons (.var 0) .nil)) .nil))))) (.cons (.ownC 1 (.var 1) (.lst (.cons (.xa (.hand (isxSub "InUse")) (fIsV "InUse") (.cons (.var 0) .nil)) (.cons (.xa (.hand (isxSub "NothingToUndo")) (fIsV "NothingToUndo") (.cons (.var 0) .nil)) (.cons (.xa (.hand (isxSub "TooMany")) (fIsV "TooMany") (.cons (.var 0) .nil)) .nil))))) (.cons (.app 1 (.xa (.hand (isxSub "Broken")) (fIsV "Broken") (.cons (.var 0) .nil))) (.frz 1 (.cons (.asg 2 (.lst (.cons (.xa (.hand (isxSub "WrongValue")) (fIsV "WrongValue") (.cons (.var 0) .nil)) (.cons (.xa (.hand (isxSub "WrongState")) (fIsV "WrongState") (.cons (.var 0) .nil)) (.cons (.xa (.hand (isxSub "NoAnswer")) (fIsV "NoAnswer") (.cons (.var 0) .nil)) .nil))))) (.cons (.ife (.b2 .ne (.lst (.cons (.xa (.hand (isxSub "ValueError")) (fIsV "ValueError") (.cons (.var 0) .nil)) (.cons (.xa (.hand (isxSub "LookupError")) (fIsV "LookupError") (.cons (.var 0) .nil)) (.cons (.xa (.hand (isxSub "ArithmeticError")) (fIsV "ArithmeticError") (.cons (.var 0) .nil)) .nil)))) (.var 2)) (.cons (.ret (.neg (.con (.int 1)))) .nil) .nil) (.cons (.ife (.b2 .ne (.xa (.hand (mtcSub "count")) (fCnt (.bl true)) (.cons (.var 1) .nil)) (.con (.int 1))) (.cons (.ret (.neg (.con (.int 1)))) .nil) .nil) (.cons (.asg 3 (.xa (.hand (mtcSub "index")) (fIdx (.bl true)) (.cons (.var 1) .nil))) (.cons (.ret (.ite (.b2 .eq (.var 2) (.lst (.cons (.b2 .lt (.var 3) (.con (.int 14))) (.cons (.chn .lt .lt (.con (.int 13)) (.var 3) (.con (.int 17))) (.cons (.b2 .gt (.var 3) (.con (.int 16))) .nil))))) (.var 3) (.neg (.con (.int 1))))) .nil)))))))))))))
def f_law_error : Fs := runF 1 4 ir_law_error
def ir_law_field : CSs := (.cons (.ife (.b2 .inn (.var 1) (.lst (.cons (.con (.int 9)) (.cons (.con (.int 10)) (.cons (.con (.int 11)) (.cons (.con (.int 12)) (.cons (.con (.int 13)) (.cons (.con (.int 15)) .nil)))))))) (.cons (.ret (.xa (.hand (flxSub "index")) (fFlV "index") (.cons (.var 0) .nil))) .nil) .nil) (.cons (.ife (.orv (.b2 .lt (.var 1) (.con (.int 9))) (.b2 .eq (.var 1) (.con (.int 14)))) (.cons (.ret (.xa (.hand (flxSub "given")) (fFlV "given") (.cons (.var 0) .nil))) .nil) .nil) (.cons (.ife (.b2 .eq (.var 1) (.con (.int 16))) (.cons (.ret (.con .non)) .nil) .nil) (.cons (.ret (.ite (.b2 .eq (.var 1) (.con (.int 17))) (.xa (.hand (flxSub "most")) (fFlV "most") (.cons (.var 0) .nil)) (.tup (.cons (.xa (.hand (flxSub "index")) (fFlV "index") (.cons (.var 0) .nil)) (.cons (.xa (.hand (flxSub "shown")) (fFlV "shown") (.cons (.var 0) .nil)) .nil))))) .nil))))
def f_law_field : Fs := runF 2 2 ir_law_field
def ir_law_right : CSs := (.cons (.par [6, 7] (.cons (.call "_law_odd" f_law_odd (.cons (.var 0) .nil)) (.cons (.call "_law_odd" f_law_odd (.cons (.var 0) .nil)) .nil))) (.cons (.own 1 (.cons (.xa (.hand (callDF "InvalidNumber")) (fMkV "InvalidNumber" ["given"]) (.cons (.var 6) .nil)) (.cons (.xa (.hand (callKF "InvalidText" ["given"])) (fMkVK "InvalidText" ["given"] [0] ["given"]) (.cons (.var 6) .nil)) (.cons (.xa (.hand (callDF "InvalidName")) (fMkV "InvalidName" ["given"]) (.cons (.var 6) .nil)) (.cons (.xa (.hand (callKF "InvalidWish" ["given"])) (fMkVK "InvalidWish" ["given"] [0] ["given"]) (.cons (.var 6) .nil)) (.cons (.xa (.hand (callDF "InvalidIndex")) (fMkV "InvalidIndex" ["given"]) (.cons (.var 6) .nil)) .nil)))))) (.cons (.ownC 1 (.var 1) (.lst (.cons (.xa (.hand (callKF "InvalidPicture" ["given"])) (fMkVK "InvalidPicture" ["given"] [0] ["given"]) (.cons (.var 6) .nil)) (.cons (.xa (.hand (callDF "InvalidEvent")) (fMkV "InvalidEvent" ["given"]) (.cons (.var 6) .nil)) (.cons (.xa (.hand (callKF "InvalidHearing" ["given"])) (fMkVK "InvalidHearing" ["given"] [0] ["given"]) (.cons (.var 6) .nil)) (.cons (.xa (.hand (callDF "NotAHouse")) (fMkV "NotAHouse" ["given"]) (.cons (.var 6) .nil)) .nil)))))) (.cons (.ownC 1 (.var 1) (.lst (.cons (.xa (.hand (callDF "InvalidStands")) (fMkV "InvalidStands" ["index"]) (.cons (.var 6) .nil)) (.cons (.xa (.hand (callKF "InvalidKeys" ["index"])) (fMkVK "InvalidKeys" ["index"] [0] ["index"]) (.cons (.var 6) .nil)) (.cons (.xa (.hand (callDF "InvalidRows")) (fMkV "InvalidRows" ["index"]) (.cons (.var 6) .nil)) (.cons (.xa (.hand (callKF "WrongLine" ["index"])) (fMkVK "WrongLine" ["index"] [0] ["index"]) (.cons (.var 6) .nil)) .nil)))))) (.cons (.ownC 1 (.var 1) (.lst (.cons (.xa (.hand (callDF "InvalidWeaving")) (fMkV "InvalidWeaving" ["index"]) (.cons (.var 6) .nil)) (.cons (.xa (.hand (callKF "UnknownName" ["given"])) (fMkVK "UnknownName" ["given"] [0] ["given"]) (.cons (.var 6) .nil)) (.cons (.xa (.hand (callDF "InUse")) (fMkV "InUse" ["index"]) (.cons (.var 6) .nil)) (.cons (.xa (.hand (call0 "NothingToUndo")) (fMk0 "NothingToUndo") .nil) (.cons (.xa (.hand (callKF "TooMany" ["most"])) (fMkVK "TooMany" ["most"] [0] ["most"]) (.cons (.var 6) .nil)) .nil))))))) (.cons (.app 1 (.xa (.hand (callDF "Broken")) (fMkV "Broken" ["shown", "index"]) (.cons (.var 6) (.cons (.var 7) .nil)))) (.frz 1 (.cons (.ife (.b2 .ne (.lc [8] [8] (.seq (.var 1)) .none (.call "_law_error" f_law_error (.cons (.var 8) .nil))) (.xa (.hand lrg) fLrg (.cons (.con (.int 19)) .nil))) (.cons (.ret (.con (.bl false))) .nil) .nil) (.cons (.asg 2 (.lc [8] [8] (.seq (.var 1)) .none (.orv (.xa (.hand (isxSub "KeyError")) (fIsV "KeyError") (.cons (.var 8) .nil)) (.orv (.xa (.hand (isxSub "IndexError")) (fIsV "IndexError") (.cons (.var 8) .nil)) (.xa (.hand (isxSub "ZeroDivisionError")) (fIsV "ZeroDivisionError") (.cons (.var 8) .nil)))))) (.cons (.ife (.b1 .any (.var 2)) (.cons (.ret (.con (.bl false))) .nil) .nil) (.cons (.asg 3 (.b2 .add (.b2 .mul (.lst (.cons (.var 6) .nil)) (.con (.int 16))) (.lst (.cons (.con .non) (.cons (.var 6) (.cons (.tup (.cons (.var 6) (.cons (.var 7) .nil))) .nil)))))) (.cons (.ife (.b2 .ne (.b1 .repr (.lc [9] [9] (.rng (.con (.int 19))) .none (.call "_law_field" f_law_field (.cons (.ix (.var 1) (.var 9)) (.cons (.var 9) .nil))))) (.b1 .repr (.var 3))) (.cons (.ret (.con (.bl false))) .nil) .nil) (.cons (.asg 4 (.lst (.cons (.xa (.hand (flxSub "given")) (fFlV "given") (.cons (.xa (.hand (callKF "InvalidNumber" ["given"])) (fMkVK "InvalidNumber" ["given"] [0] ["given"]) (.cons (.var 6) .nil)) .nil)) (.cons (.xa (.hand (flxSub "given")) (fFlV "given") (.cons (.xa (.hand (callDF "InvalidText")) (fMkV "InvalidText" ["given"]) (.cons (.var 6) .nil)) .nil)) (.cons (.xa (.hand (flxSub "given")) (fFlV "given") (.cons (.xa (.hand (callKF "InvalidName" ["given"])) (fMkVK "InvalidName" ["given"] [0] ["given"]) (.cons (.var 6) .nil)) .nil)) .nil))))) (.cons (.asg 4 (.b2 .add (.var 4) (.lst (.cons (.xa (.hand (flxSub "given")) (fFlV "given") (.cons (.xa (.hand (callDF "InvalidWish")) (fMkV "InvalidWish" ["given"]) (.cons (.var 6) .nil)) .nil)) (.cons (.xa (.hand (flxSub "given")) (fFlV "given") (.cons (.xa (.hand (callKF "InvalidIndex" ["given"])) (fMkVK "InvalidIndex" ["given"] [0] ["given"]) (.cons (.var 6) .nil)) .nil)) (.cons (.xa (.hand (flxSub "given")) (fFlV "given") (.cons (.xa (.hand (callDF "InvalidPicture")) (fMkV "InvalidPicture" ["given"]) (.cons (.var 6) .nil)) .nil)) .nil)))))) (.cons (.asg 4 (.b2 .add (.var 4) (.lst (.cons (.xa (.hand (flxSub "given")) (fFlV "given") (.cons (.xa (.hand (callKF "InvalidEvent" ["given"])) (fMkVK "InvalidEvent" ["given"] [0] ["given"]) (.cons (.var 6) .nil)) .nil)) (.cons (.xa (.hand (flxSub "given")) (fFlV "given") (.cons (.xa (.hand (callDF "InvalidHearing")) (fMkV "InvalidHearing" ["given"]) (.cons (.var 6) .nil)) .nil)) (.cons (.xa (.hand (flxSub "given")) (fFlV "given") (.cons (.xa (.hand (callKF "NotAHouse" ["given"])) (fMkVK "NotAHouse" ["given"] [0] ["given"]) (.cons (.var 6) .nil)) .nil)) .nil)))))) (.cons (.asg 4 (.b2 .add (.var 4) (.lst (.cons (.xa (.hand (flxSub "index")) (fFlV "index") (.cons (.xa (.hand (callKF "InvalidStands" ["index"])) (fMkVK "InvalidStands" ["index"] [0] ["index"]) (.cons (.var 6) .nil)) .nil)) (.cons (.xa (.hand (flxSub "index")) (fFlV "index") (.cons (.xa (.hand (callDF "InvalidKeys")) (fMkV "InvalidKeys" ["index"]) (.cons (.var 6) .nil)) .nil)) (.cons (.xa (.hand (flxSub "index")) (fFlV "index") (.cons (.xa (.hand (callKF "InvalidRows" ["index"])) (fMkVK "InvalidRows" ["index"] [0] ["index"]) (.cons (.var 6) .nil)) .nil)) .nil)))))) (.cons (.asg 4 (.b2 .add (.var 4) (.lst (.cons (.xa (.hand (flxSub "index")) (fFlV "index") (.cons (.xa (.hand (callDF "WrongLine")) (fMkV "WrongLine" ["index"]) (.cons (.var 6) .nil)) .nil)) (.cons (.xa (.hand (flxSub "index")) (fFlV "index") (.cons (.xa (.hand (callKF "InvalidWeaving" ["index"])) (fMkVK "InvalidWeaving" ["index"] [0] ["index"]) (.cons (.var 6) .nil)) .nil)) (.cons (.xa (.hand (flxSub "given")) (fFlV "given") (.cons (.xa (.hand (callDF "UnknownName")) (fMkV "UnknownName" ["given"]) (.cons (.var 6) .nil)) .nil)) .nil)))))) (.cons (.asg 4 (.b2 .add (.var 4) (.lst (.cons (.xa (.hand (flxSub "index")) (fFlV "index") (.cons (.xa (.hand (callKF "InUse" ["index"])) (fMkVK "InUse" ["index"] [0] ["index"]) (.cons (.var 6) .nil)) .nil)) (.cons (.xa (.hand (flxSub "most")) (fFlV "most") (.cons (.xa (.hand (callDF "TooMany")) (fMkV "TooMany" ["most"]) (.cons (.var 6) .nil)) .nil)) .nil))))) (.cons (.asg 5 (.xa (.hand (callKF "Broken" ["shown", "index"])) (fMkVK "Broken" ["shown", "index"] [1, 0] ["shown", "index"]) (.cons (.var 6) (.cons (.var 7) .nil)))) (.cons (.ret (.andv (.b2 .eq (.b1 .repr (.var 4)) (.b1 .repr (.b2 .mul (.lst (.cons (.var 6) .nil)) (.con (.int 17))))) (.b2 .eq (.b1 .repr (.lst (.cons (.xa (.hand (flxSub "index")) (fFlV "index") (.cons (.var 5) .nil)) (.cons (.xa (.hand (flxSub "shown")) (fFlV "shown") (.cons (.var 5) .nil)) .nil)))) (.b1 .repr (.lst (.cons (.var 7) (.cons (.var 6) .nil))))))) .nil))))))))))))))))))))
def f_law_right : Fs := runF 1 10 ir_law_right
def ir_law_limits : CSs := (.cons (.asg 0 (.lst (.cons (.glb "MOST_LINES" g_MOST_LINES) (.cons (.glb "MOST_STANDS" g_MOST_STANDS) (.cons (.glb "MOST_KEYS" g_MOST_KEYS) (.cons (.glb "MOST_ROWS" g_MOST_ROWS) (.cons (.glb "MOST_CONDITIONS" g_MOST_CONDITIONS) (.cons (.glb "MOST_DEEDS" g_MOST_DEEDS) (.cons (.glb "MOST_PHONES" g_MOST_PHONES) (.cons (.glb "MOST_SHAPES" g_MOST_SHAPES) .nil)))))))))) (.cons (.ret (.b2 .eq (.b1 .repr (.var 0)) (.con (.str [91, 51, 44, 32, 54, 44, 32, 51, 44, 32, 49, 54, 44, 32, 52, 44, 32, 52, 44, 32, 50, 48, 44, 32, 51, 48, 48, 48, 93])))) .nil))
def f_law_limits : Fs := runF 0 1 ir_law_limits

structure Ck3 (s : Stmt) (N ps : List Str) (ir : CSs) : Prop where
  ck : chkSs (defScope s) N ir (defBody s) = true
  un : unm (defScope s) = true
  sc : FnScope N ps (defScope s)
local macro_rules | `(tactic| walk_at "ck3") => `(tactic| exact ⟨by decide +kernel, by decide +kernel, ⟨rfl, rfl, rfl, by decide +kernel, rfl, by decide +kernel, by decide +kernel⟩⟩)
theorem kq_law_pick : Ck3 s_law_pick N_law_pick ps_law_pick ir_law_pick := by walk_at "ck3"
theorem kq_law_odd : Ck3 s_law_odd N_law_odd ps_law_odd ir_law_odd := by walk_at "ck3"
theorem kq_law_error : Ck3 s_law_error N_law_error ps_law_error ir_law_error := by walk_at "ck3"
theorem kq_law_field : Ck3 s_law_field N_law_field ps_law_field ir_law_field := by walk_at "ck3"
theorem kq_law_right : Ck3 s_law_right N_law_right ps_law_right ir_law_right := by walk_at "ck3"
theorem kq_law_limits : Ck3 s_law_limits N_law_limits ps_law_limits ir_law_limits := by walk_at "ck3"
theorem sc_InvalidNumber : FnScope ["self", "given"] ["self", "given"] (defScope s_InvalidNumber) := ⟨rfl, rfl, rfl, by decide +kernel, rfl, by decide +kernel, by decide +kernel⟩
theorem in_InvalidNumber : initB "given" "given" (defBody s_InvalidNumber) = true := by decide +kernel
theorem sc_InvalidText : FnScope ["self", "given"] ["self", "given"] (defScope s_InvalidText) := ⟨rfl, rfl, rfl, by decide +kernel, rfl, by decide +kernel, by decide +kernel⟩
theorem in_InvalidText : initB "given" "given" (defBody s_InvalidText) = true := by decide +kernel
theorem sc_InvalidName : FnScope ["self", "given"] ["self", "given"] (defScope s_InvalidName) := ⟨rfl, rfl, rfl, by decide +kernel, rfl, by decide +kernel, by decide +kernel⟩
theorem in_InvalidName : initB "given" "given" (defBody s_InvalidName) = true := by decide +kernel
theorem sc_InvalidWish : FnScope ["self", "given"] ["self", "given"] (defScope s_InvalidWish) := ⟨rfl, rfl, rfl, by decide +kernel, rfl, by decide +kernel, by decide +kernel⟩
theorem in_InvalidWish : initB "given" "given" (defBody s_InvalidWish) = true := by decide +kernel
theorem sc_InvalidIndex : FnScope ["self", "given"] ["self", "given"] (defScope s_InvalidIndex) := ⟨rfl, rfl, rfl, by decide +kernel, rfl, by decide +kernel, by decide +kernel⟩
theorem in_InvalidIndex : initB "given" "given" (defBody s_InvalidIndex) = true := by decide +kernel
theorem sc_InvalidPicture : FnScope ["self", "given"] ["self", "given"] (defScope s_InvalidPicture) := ⟨rfl, rfl, rfl, by decide +kernel, rfl, by decide +kernel, by decide +kernel⟩
theorem in_InvalidPicture : initB "given" "given" (defBody s_InvalidPicture) = true := by decide +kernel
theorem sc_InvalidEvent : FnScope ["self", "given"] ["self", "given"] (defScope s_InvalidEvent) := ⟨rfl, rfl, rfl, by decide +kernel, rfl, by decide +kernel, by decide +kernel⟩
theorem in_InvalidEvent : initB "given" "given" (defBody s_InvalidEvent) = true := by decide +kernel
theorem sc_InvalidHearing : FnScope ["self", "given"] ["self", "given"] (defScope s_InvalidHearing) := ⟨rfl, rfl, rfl, by decide +kernel, rfl, by decide +kernel, by decide +kernel⟩
theorem in_InvalidHearing : initB "given" "given" (defBody s_InvalidHearing) = true := by decide +kernel
theorem sc_NotAHouse : FnScope ["self", "given"] ["self", "given"] (defScope s_NotAHouse) := ⟨rfl, rfl, rfl, by decide +kernel, rfl, by decide +kernel, by decide +kernel⟩
theorem in_NotAHouse : initB "given" "given" (defBody s_NotAHouse) = true := by decide +kernel
theorem sc_InvalidStands : FnScope ["self", "index"] ["self", "index"] (defScope s_InvalidStands) := ⟨rfl, rfl, rfl, by decide +kernel, rfl, by decide +kernel, by decide +kernel⟩
theorem in_InvalidStands : initB "index" "index" (defBody s_InvalidStands) = true := by decide +kernel
theorem sc_InvalidKeys : FnScope ["self", "index"] ["self", "index"] (defScope s_InvalidKeys) := ⟨rfl, rfl, rfl, by decide +kernel, rfl, by decide +kernel, by decide +kernel⟩
theorem in_InvalidKeys : initB "index" "index" (defBody s_InvalidKeys) = true := by decide +kernel
theorem sc_InvalidRows : FnScope ["self", "index"] ["self", "index"] (defScope s_InvalidRows) := ⟨rfl, rfl, rfl, by decide +kernel, rfl, by decide +kernel, by decide +kernel⟩
theorem in_InvalidRows : initB "index" "index" (defBody s_InvalidRows) = true := by decide +kernel
theorem sc_WrongLine : FnScope ["self", "index"] ["self", "index"] (defScope s_WrongLine) := ⟨rfl, rfl, rfl, by decide +kernel, rfl, by decide +kernel, by decide +kernel⟩
theorem in_WrongLine : initB "index" "index" (defBody s_WrongLine) = true := by decide +kernel
theorem sc_InvalidWeaving : FnScope ["self", "index"] ["self", "index"] (defScope s_InvalidWeaving) := ⟨rfl, rfl, rfl, by decide +kernel, rfl, by decide +kernel, by decide +kernel⟩
theorem in_InvalidWeaving : initB "index" "index" (defBody s_InvalidWeaving) = true := by decide +kernel
theorem sc_UnknownName : FnScope ["self", "given"] ["self", "given"] (defScope s_UnknownName) := ⟨rfl, rfl, rfl, by decide +kernel, rfl, by decide +kernel, by decide +kernel⟩
theorem in_UnknownName : initB "given" "given" (defBody s_UnknownName) = true := by decide +kernel
theorem sc_InUse : FnScope ["self", "index"] ["self", "index"] (defScope s_InUse) := ⟨rfl, rfl, rfl, by decide +kernel, rfl, by decide +kernel, by decide +kernel⟩
theorem in_InUse : initB "index" "index" (defBody s_InUse) = true := by decide +kernel
theorem sc_TooMany : FnScope ["self", "most"] ["self", "most"] (defScope s_TooMany) := ⟨rfl, rfl, rfl, by decide +kernel, rfl, by decide +kernel, by decide +kernel⟩
theorem in_TooMany : initB "most" "most" (defBody s_TooMany) = true := by decide +kernel
theorem sc_Broken : FnScope ["self", "index", "shown"] ["self", "index", "shown"] (defScope s_Broken) := ⟨rfl, rfl, rfl, by decide +kernel, rfl, by decide +kernel, by decide +kernel⟩
theorem in_Broken : init2B "index" "index" "shown" "shown" (defBody s_Broken) = true := by decide +kernel
theorem FunD.bindsK0 {K : PySem.W.Frag} {x qual : Str} {params : Arguments} {body : List Stmt} {scope : Scope} {kws : List (Str × V)} {f : Addr} {fd : FuncData} {s : Shared} {args : Args} {binds : List (Str × Value)} (F : FunD K x qual params body scope [] kws f fd)
    (h : ∀ (kV doc pm : Value) (an : Option Addr) (cdv ct : Value), bindArgs (PySem.W.fnOf x qual params body scope .none kV doc pm an cdv ct) args = pure binds) : BindsTo s fd args binds := by
  obtain ⟨oc, od, dV, kV, doc, pm, an, cdv, ct, osl, rfl, lk, hcd, hD, hK⟩ := F.ex
  rcases hD with ⟨_, rfl⟩ | ⟨e, _⟩
  · exact .of_eq (h kV doc pm an cdv ct)
  · exact absurd rfl e
structure Fx (Z : Prop) (P : Program) (w : World) (K : PySem.W.Frag) (mg : Str → Option Value) (base h : Heap) : Prop where
  kin : K.In h
  ns : h.Ns mainGlobals mg
  c : SaysQ fa fn ex ts w K
  draw : DefOk P w K mg base 4 "_law_draw" f_law_draw
  tb : ∀ q ∈ lamNames, LamX.TabB base mg (He.cT K (q, none)).1 (He.cT K (q, none)).2
section
variable {Z : Prop} {P : Program} {w : World} {K : PySem.W.Frag} {mg : Str → Option Value} {base h : Heap}
theorem Fx.fact (X : Fx Z P w K mg base h) (i : Nat) {f : He.Fa} (hf : fa[i]? = some f) : f.ok K = true := X.c.p.fact (List.mem_of_getElem? hf)
theorem Fx.def_ (X : Fx Z P w K mg base h) (i : Nat) {d : DefP} (hd : fn[i]? = some d) : ∃ fd, IsDef K d fd := X.c.p.defs (List.mem_of_getElem? hd)
theorem exs (hx : ex K = true) : glbB K "MOST_LINES" g_MOST_LINES = true ∧ glbB K "MOST_STANDS" g_MOST_STANDS = true ∧ glbB K "MOST_KEYS" g_MOST_KEYS = true ∧ glbB K "MOST_ROWS" g_MOST_ROWS = true ∧ glbB K "MOST_CONDITIONS" g_MOST_CONDITIONS = true ∧ glbB K "MOST_DEEDS" g_MOST_DEEDS = true ∧ glbB K "MOST_PHONES" g_MOST_PHONES = true ∧ glbB K "MOST_SHAPES" g_MOST_SHAPES = true ∧ xvB K = true ∧ nouB K = true ∧ sysB K = true := by
  simpa only [ex, Bool.and_eq_true] using hx
variable (X : Fx Z P w K mg base h)
include X
theorem Fx.gl (i : Nat) {n : Str} (e : fa[i]? = some (.glo n)) : mg n = some (.ref (He.ga K n)) := He.glo_ok X.kin X.ns (X.fact i e)
local macro_rules | `(tactic| walk_at "oks") => `(tactic| (simp only [okSs, okS, okE, okA, okO, okI, XoOk]; repeat' (first | with_reducible assumption | exact True.intro | apply And.intro | assumption)); all_goals decide +kernel)
local macro_rules | `(tactic| walk_at "b0") => `(tactic| exact fun _ _ _ _ _ _ us hl => match us, hl with | [], _ => rfl)
local macro_rules | `(tactic| walk_at "b1") => `(tactic| exact fun _ _ _ _ _ _ us hl => match us, hl with | [_], _ => rfl)
local macro_rules | `(tactic| walk_at "b2") => `(tactic| exact fun _ _ _ _ _ _ us hl => match us, hl with | [_, _], _ => rfl)
local macro_rules | `(tactic| walk_at "b3") => `(tactic| exact fun _ _ _ _ _ _ us hl => match us, hl with | [_, _, _], _ => rfl)
theorem Fx.g_MOST_LINES : GlbOk K mg "MOST_LINES" g_MOST_LINES := glbB_ok X.kin X.ns (exs X.c.p.all.2.2).1
theorem Fx.g_MOST_STANDS : GlbOk K mg "MOST_STANDS" g_MOST_STANDS := glbB_ok X.kin X.ns (exs X.c.p.all.2.2).2.1
theorem Fx.g_MOST_KEYS : GlbOk K mg "MOST_KEYS" g_MOST_KEYS := glbB_ok X.kin X.ns (exs X.c.p.all.2.2).2.2.1
theorem Fx.g_MOST_ROWS : GlbOk K mg "MOST_ROWS" g_MOST_ROWS := glbB_ok X.kin X.ns (exs X.c.p.all.2.2).2.2.2.1
theorem Fx.g_MOST_CONDITIONS : GlbOk K mg "MOST_CONDITIONS" g_MOST_CONDITIONS := glbB_ok X.kin X.ns (exs X.c.p.all.2.2).2.2.2.2.1
theorem Fx.g_MOST_DEEDS : GlbOk K mg "MOST_DEEDS" g_MOST_DEEDS := glbB_ok X.kin X.ns (exs X.c.p.all.2.2).2.2.2.2.2.1
theorem Fx.g_MOST_PHONES : GlbOk K mg "MOST_PHONES" g_MOST_PHONES := glbB_ok X.kin X.ns (exs X.c.p.all.2.2).2.2.2.2.2.2.1
theorem Fx.g_MOST_SHAPES : GlbOk K mg "MOST_SHAPES" g_MOST_SHAPES := glbB_ok X.kin X.ns (exs X.c.p.all.2.2).2.2.2.2.2.2.2.1
theorem Fx.xv : XvOk K := xvB_ok (exs X.c.p.all.2.2).2.2.2.2.2.2.2.2.1
theorem Fx.nou : nouB K = true := (exs X.c.p.all.2.2).2.2.2.2.2.2.2.2.2.1
theorem Fx.sys : sysB K = true := (exs X.c.p.all.2.2).2.2.2.2.2.2.2.2.2.2
theorem Fx.free_any : mg "any" = none := He.free_ok X.kin X.ns (X.fact 9 rfl)
theorem Fx.free_isinstance : mg "isinstance" = none := He.free_ok X.kin X.ns (X.fact 14 rfl)
theorem Fx.free_len : mg "len" = none := He.free_ok X.kin X.ns (X.fact 15 rfl)
theorem Fx.free_list : mg "list" = none := He.free_ok X.kin X.ns (X.fact 16 rfl)
theorem Fx.free_range : mg "range" = none := He.free_ok X.kin X.ns (X.fact 17 rfl)
theorem Fx.free_repr : mg "repr" = none := He.free_ok X.kin X.ns (X.fact 18 rfl)
theorem Fx.free_max : mg "max" = none := He.free_ok X.kin X.ns (X.fact 22 rfl)
theorem Fx.free_min : mg "min" = none := He.free_ok X.kin X.ns (X.fact 23 rfl)
theorem Fx.free_abs : mg "abs" = none := He.free_ok X.kin X.ns (X.fact 24 rfl)
theorem Fx.free_ValueError : mg "ValueError" = none := He.free_ok X.kin X.ns (X.fact 26 rfl)
theorem Fx.free_LookupError : mg "LookupError" = none := He.free_ok X.kin X.ns (X.fact 27 rfl)
theorem Fx.free_ArithmeticError : mg "ArithmeticError" = none := He.free_ok X.kin X.ns (X.fact 28 rfl)
theorem Fx.free_KeyError : mg "KeyError" = none := He.free_ok X.kin X.ns (X.fact 29 rfl)
theorem Fx.free_IndexError : mg "IndexError" = none := He.free_ok X.kin X.ns (X.fact 30 rfl)
theorem Fx.free_ZeroDivisionError : mg "ZeroDivisionError" = none := He.free_ok X.kin X.ns (X.fact 31 rfl)
theorem Fx.meth_InvalidNumber___init__ : Meth K (He.ga K "InvalidNumber") "__init__" (He.ma K (He.ga K "InvalidNumber") "__init__") := He.meth_ok (X.fact 33 rfl)
theorem Fx.meth_InvalidText___init__ : Meth K (He.ga K "InvalidText") "__init__" (He.ma K (He.ga K "InvalidText") "__init__") := He.meth_ok (X.fact 35 rfl)
theorem Fx.meth_InvalidName___init__ : Meth K (He.ga K "InvalidName") "__init__" (He.ma K (He.ga K "InvalidName") "__init__") := He.meth_ok (X.fact 37 rfl)
theorem Fx.meth_InvalidWish___init__ : Meth K (He.ga K "InvalidWish") "__init__" (He.ma K (He.ga K "InvalidWish") "__init__") := He.meth_ok (X.fact 39 rfl)
theorem Fx.meth_InvalidIndex___init__ : Meth K (He.ga K "InvalidIndex") "__init__" (He.ma K (He.ga K "InvalidIndex") "__init__") := He.meth_ok (X.fact 41 rfl)
theorem Fx.meth_InvalidPicture___init__ : Meth K (He.ga K "InvalidPicture") "__init__" (He.ma K (He.ga K "InvalidPicture") "__init__") := He.meth_ok (X.fact 43 rfl)
theorem Fx.meth_InvalidEvent___init__ : Meth K (He.ga K "InvalidEvent") "__init__" (He.ma K (He.ga K "InvalidEvent") "__init__") := He.meth_ok (X.fact 45 rfl)
theorem Fx.meth_InvalidHearing___init__ : Meth K (He.ga K "InvalidHearing") "__init__" (He.ma K (He.ga K "InvalidHearing") "__init__") := He.meth_ok (X.fact 47 rfl)
theorem Fx.meth_NotAHouse___init__ : Meth K (He.ga K "NotAHouse") "__init__" (He.ma K (He.ga K "NotAHouse") "__init__") := He.meth_ok (X.fact 49 rfl)
theorem Fx.meth_InvalidStands___init__ : Meth K (He.ga K "InvalidStands") "__init__" (He.ma K (He.ga K "InvalidStands") "__init__") := He.meth_ok (X.fact 51 rfl)
theorem Fx.meth_InvalidKeys___init__ : Meth K (He.ga K "InvalidKeys") "__init__" (He.ma K (He.ga K "InvalidKeys") "__init__") := He.meth_ok (X.fact 53 rfl)
theorem Fx.meth_InvalidRows___init__ : Meth K (He.ga K "InvalidRows") "__init__" (He.ma K (He.ga K "InvalidRows") "__init__") := He.meth_ok (X.fact 55 rfl)
theorem Fx.meth_WrongLine___init__ : Meth K (He.ga K "WrongLine") "__init__" (He.ma K (He.ga K "WrongLine") "__init__") := He.meth_ok (X.fact 57 rfl)
theorem Fx.meth_InvalidWeaving___init__ : Meth K (He.ga K "InvalidWeaving") "__init__" (He.ma K (He.ga K "InvalidWeaving") "__init__") := He.meth_ok (X.fact 59 rfl)
theorem Fx.meth_UnknownName___init__ : Meth K (He.ga K "UnknownName") "__init__" (He.ma K (He.ga K "UnknownName") "__init__") := He.meth_ok (X.fact 61 rfl)
theorem Fx.meth_InUse___init__ : Meth K (He.ga K "InUse") "__init__" (He.ma K (He.ga K "InUse") "__init__") := He.meth_ok (X.fact 63 rfl)
theorem Fx.meth_TooMany___init__ : Meth K (He.ga K "TooMany") "__init__" (He.ma K (He.ga K "TooMany") "__init__") := He.meth_ok (X.fact 65 rfl)
theorem Fx.meth_Broken___init__ : Meth K (He.ga K "Broken") "__init__" (He.ma K (He.ga K "Broken") "__init__") := He.meth_ok (X.fact 67 rfl)
theorem Fx.xvi_InvalidNumber (k : Nat) : ∃ fd ps, XvI P w K mg base (k + 1) "InvalidNumber" ["given"] fd ps ∧ BindKw K ["given"] [0] fd ps := by
  obtain ⟨fd, D⟩ := X.def_ 9 (d := d_InvalidNumber) rfl
  have F := D.bare rfl
  exact ⟨fd, _, xvI_1 PySem.XB.baseVE F sc_InvalidNumber in_InvalidNumber (by decide +kernel) (X.xv.ox _ (List.mem_of_getElem? (i := 0) rfl)) (X.xv.fl _ (List.mem_of_getElem? (i := 0) rfl) "given" (by simp)) X.meth_InvalidNumber___init__ (F.bindsN (by walk_at "b2")) (X.gl 32 rfl), ⟨rfl, by decide, fun s u ws kin hw => FunD.bindsK0 F fun kV doc pm an cdv ct => match ws, hw with | [a0], _ => rfl⟩⟩
theorem Fx.xvi_InvalidText (k : Nat) : ∃ fd ps, XvI P w K mg base (k + 1) "InvalidText" ["given"] fd ps ∧ BindKw K ["given"] [0] fd ps := by
  obtain ⟨fd, D⟩ := X.def_ 10 (d := d_InvalidText) rfl
  have F := D.bare rfl
  exact ⟨fd, _, xvI_1 PySem.XB.baseVE F sc_InvalidText in_InvalidText (by decide +kernel) (X.xv.ox _ (List.mem_of_getElem? (i := 1) rfl)) (X.xv.fl _ (List.mem_of_getElem? (i := 1) rfl) "given" (by simp)) X.meth_InvalidText___init__ (F.bindsN (by walk_at "b2")) (X.gl 34 rfl), ⟨rfl, by decide, fun s u ws kin hw => FunD.bindsK0 F fun kV doc pm an cdv ct => match ws, hw with | [a0], _ => rfl⟩⟩
theorem Fx.xvi_InvalidName (k : Nat) : ∃ fd ps, XvI P w K mg base (k + 1) "InvalidName" ["given"] fd ps ∧ BindKw K ["given"] [0] fd ps := by
  obtain ⟨fd, D⟩ := X.def_ 11 (d := d_InvalidName) rfl
  have F := D.bare rfl
  exact ⟨fd, _, xvI_1 PySem.XB.baseVE F sc_InvalidName in_InvalidName (by decide +kernel) (X.xv.ox _ (List.mem_of_getElem? (i := 2) rfl)) (X.xv.fl _ (List.mem_of_getElem? (i := 2) rfl) "given" (by simp)) X.meth_InvalidName___init__ (F.bindsN (by walk_at "b2")) (X.gl 36 rfl), ⟨rfl, by decide, fun s u ws kin hw => FunD.bindsK0 F fun kV doc pm an cdv ct => match ws, hw with | [a0], _ => rfl⟩⟩
theorem Fx.xvi_InvalidWish (k : Nat) : ∃ fd ps, XvI P w K mg base (k + 1) "InvalidWish" ["given"] fd ps ∧ BindKw K ["given"] [0] fd ps := by
  obtain ⟨fd, D⟩ := X.def_ 12 (d := d_InvalidWish) rfl
  have F := D.bare rfl
  exact ⟨fd, _, xvI_1 PySem.XB.baseVE F sc_InvalidWish in_InvalidWish (by decide +kernel) (X.xv.ox _ (List.mem_of_getElem? (i := 3) rfl)) (X.xv.fl _ (List.mem_of_getElem? (i := 3) rfl) "given" (by simp)) X.meth_InvalidWish___init__ (F.bindsN (by walk_at "b2")) (X.gl 38 rfl), ⟨rfl, by decide, fun s u ws kin hw => FunD.bindsK0 F fun kV doc pm an cdv ct => match ws, hw with | [a0], _ => rfl⟩⟩
theorem Fx.xvi_InvalidIndex (k : Nat) : ∃ fd ps, XvI P w K mg base (k + 1) "InvalidIndex" ["given"] fd ps ∧ BindKw K ["given"] [0] fd ps := by
  obtain ⟨fd, D⟩ := X.def_ 13 (d := d_InvalidIndex) rfl
  have F := D.bare rfl
  exact ⟨fd, _, xvI_1 PySem.XB.baseVE F sc_InvalidIndex in_InvalidIndex (by decide +kernel) (X.xv.ox _ (List.mem_of_getElem? (i := 4) rfl)) (X.xv.fl _ (List.mem_of_getElem? (i := 4) rfl) "given" (by simp)) X.meth_InvalidIndex___init__ (F.bindsN (by walk_at "b2")) (X.gl 40 rfl), ⟨rfl, by decide, fun s u ws kin hw => FunD.bindsK0 F fun kV doc pm an cdv ct => match ws, hw with | [a0], _ => rfl⟩⟩
theorem Fx.xvi_InvalidPicture (k : Nat) : ∃ fd ps, XvI P w K mg base (k + 1) "InvalidPicture" ["given"] fd ps ∧ BindKw K ["given"] [0] fd ps := by
  obtain ⟨fd, D⟩ := X.def_ 14 (d := d_InvalidPicture) rfl
  have F := D.bare rfl
  exact ⟨fd, _, xvI_1 PySem.XB.baseVE F sc_InvalidPicture in_InvalidPicture (by decide +kernel) (X.xv.ox _ (List.mem_of_getElem? (i := 5) rfl)) (X.xv.fl _ (List.mem_of_getElem? (i := 5) rfl) "given" (by simp)) X.meth_InvalidPicture___init__ (F.bindsN (by walk_at "b2")) (X.gl 42 rfl), ⟨rfl, by decide, fun s u ws kin hw => FunD.bindsK0 F fun kV doc pm an cdv ct => match ws, hw with | [a0], _ => rfl⟩⟩
theorem Fx.xvi_InvalidEvent (k : Nat) : ∃ fd ps, XvI P w K mg base (k + 1) "InvalidEvent" ["given"] fd ps ∧ BindKw K ["given"] [0] fd ps := by
  obtain ⟨fd, D⟩ := X.def_ 15 (d := d_InvalidEvent) rfl
  have F := D.bare rfl
  exact ⟨fd, _, xvI_1 PySem.XB.baseVE F sc_InvalidEvent in_InvalidEvent (by decide +kernel) (X.xv.ox _ (List.mem_of_getElem? (i := 6) rfl)) (X.xv.fl _ (List.mem_of_getElem? (i := 6) rfl) "given" (by simp)) X.meth_InvalidEvent___init__ (F.bindsN (by walk_at "b2")) (X.gl 44 rfl), ⟨rfl, by decide, fun s u ws kin hw => FunD.bindsK0 F fun kV doc pm an cdv ct => match ws, hw with | [a0], _ => rfl⟩⟩
theorem Fx.xvi_InvalidHearing (k : Nat) : ∃ fd ps, XvI P w K mg base (k + 1) "InvalidHearing" ["given"] fd ps ∧ BindKw K ["given"] [0] fd ps := by
  obtain ⟨fd, D⟩ := X.def_ 16 (d := d_InvalidHearing) rfl
  have F := D.bare rfl
  exact ⟨fd, _, xvI_1 PySem.XB.baseVE F sc_InvalidHearing in_InvalidHearing (by decide +kernel) (X.xv.ox _ (List.mem_of_getElem? (i := 7) rfl)) (X.xv.fl _ (List.mem_of_getElem? (i := 7) rfl) "given" (by simp)) X.meth_InvalidHearing___init__ (F.bindsN (by walk_at "b2")) (X.gl 46 rfl), ⟨rfl, by decide, fun s u ws kin hw => FunD.bindsK0 F fun kV doc pm an cdv ct => match ws, hw with | [a0], _ => rfl⟩⟩
theorem Fx.xvi_NotAHouse (k : Nat) : ∃ fd ps, XvI P w K mg base (k + 1) "NotAHouse" ["given"] fd ps ∧ BindKw K ["given"] [0] fd ps := by
  obtain ⟨fd, D⟩ := X.def_ 17 (d := d_NotAHouse) rfl
  have F := D.bare rfl
  exact ⟨fd, _, xvI_1 PySem.XB.baseVE F sc_NotAHouse in_NotAHouse (by decide +kernel) (X.xv.ox _ (List.mem_of_getElem? (i := 8) rfl)) (X.xv.fl _ (List.mem_of_getElem? (i := 8) rfl) "given" (by simp)) X.meth_NotAHouse___init__ (F.bindsN (by walk_at "b2")) (X.gl 48 rfl), ⟨rfl, by decide, fun s u ws kin hw => FunD.bindsK0 F fun kV doc pm an cdv ct => match ws, hw with | [a0], _ => rfl⟩⟩
theorem Fx.xvi_InvalidStands (k : Nat) : ∃ fd ps, XvI P w K mg base (k + 1) "InvalidStands" ["index"] fd ps ∧ BindKw K ["index"] [0] fd ps := by
  obtain ⟨fd, D⟩ := X.def_ 18 (d := d_InvalidStands) rfl
  have F := D.bare rfl
  exact ⟨fd, _, xvI_1 PySem.XB.baseVE F sc_InvalidStands in_InvalidStands (by decide +kernel) (X.xv.ox _ (List.mem_of_getElem? (i := 9) rfl)) (X.xv.fl _ (List.mem_of_getElem? (i := 9) rfl) "index" (by simp)) X.meth_InvalidStands___init__ (F.bindsN (by walk_at "b2")) (X.gl 50 rfl), ⟨rfl, by decide, fun s u ws kin hw => FunD.bindsK0 F fun kV doc pm an cdv ct => match ws, hw with | [a0], _ => rfl⟩⟩
theorem Fx.xvi_InvalidKeys (k : Nat) : ∃ fd ps, XvI P w K mg base (k + 1) "InvalidKeys" ["index"] fd ps ∧ BindKw K ["index"] [0] fd ps := by
  obtain ⟨fd, D⟩ := X.def_ 19 (d := d_InvalidKeys) rfl
  have F := D.bare rfl
  exact ⟨fd, _, xvI_1 PySem.XB.baseVE F sc_InvalidKeys in_InvalidKeys (by decide +kernel) (X.xv.ox _ (List.mem_of_getElem? (i := 10) rfl)) (X.xv.fl _ (List.mem_of_getElem? (i := 10) rfl) "index" (by simp)) X.meth_InvalidKeys___init__ (F.bindsN (by walk_at "b2")) (X.gl 52 rfl), ⟨rfl, by decide, fun s u ws kin hw => FunD.bindsK0 F fun kV doc pm an cdv ct => match ws, hw with | [a0], _ => rfl⟩⟩
theorem Fx.xvi_InvalidRows (k : Nat) : ∃ fd ps, XvI P w K mg base (k + 1) "InvalidRows" ["index"] fd ps ∧ BindKw K ["index"] [0] fd ps := by
  obtain ⟨fd, D⟩ := X.def_ 20 (d := d_InvalidRows) rfl
  have F := D.bare rfl
  exact ⟨fd, _, xvI_1 PySem.XB.baseVE F sc_InvalidRows in_InvalidRows (by decide +kernel) (X.xv.ox _ (List.mem_of_getElem? (i := 11) rfl)) (X.xv.fl _ (List.mem_of_getElem? (i := 11) rfl) "index" (by simp)) X.meth_InvalidRows___init__ (F.bindsN (by walk_at "b2")) (X.gl 54 rfl), ⟨rfl, by decide, fun s u ws kin hw => FunD.bindsK0 F fun kV doc pm an cdv ct => match ws, hw with | [a0], _ => rfl⟩⟩
theorem Fx.xvi_WrongLine (k : Nat) : ∃ fd ps, XvI P w K mg base (k + 1) "WrongLine" ["index"] fd ps ∧ BindKw K ["index"] [0] fd ps := by
  obtain ⟨fd, D⟩ := X.def_ 21 (d := d_WrongLine) rfl
  have F := D.bare rfl
  exact ⟨fd, _, xvI_1 PySem.XB.baseVE F sc_WrongLine in_WrongLine (by decide +kernel) (X.xv.ox _ (List.mem_of_getElem? (i := 12) rfl)) (X.xv.fl _ (List.mem_of_getElem? (i := 12) rfl) "index" (by simp)) X.meth_WrongLine___init__ (F.bindsN (by walk_at "b2")) (X.gl 56 rfl), ⟨rfl, by decide, fun s u ws kin hw => FunD.bindsK0 F fun kV doc pm an cdv ct => match ws, hw with | [a0], _ => rfl⟩⟩
theorem Fx.xvi_InvalidWeaving (k : Nat) : ∃ fd ps, XvI P w K mg base (k + 1) "InvalidWeaving" ["index"] fd ps ∧ BindKw K ["index"] [0] fd ps := by
  obtain ⟨fd, D⟩ := X.def_ 22 (d := d_InvalidWeaving) rfl
  have F := D.bare rfl
  exact ⟨fd, _, xvI_1 PySem.XB.baseVE F sc_InvalidWeaving in_InvalidWeaving (by decide +kernel) (X.xv.ox _ (List.mem_of_getElem? (i := 13) rfl)) (X.xv.fl _ (List.mem_of_getElem? (i := 13) rfl) "index" (by simp)) X.meth_InvalidWeaving___init__ (F.bindsN (by walk_at "b2")) (X.gl 58 rfl), ⟨rfl, by decide, fun s u ws kin hw => FunD.bindsK0 F fun kV doc pm an cdv ct => match ws, hw with | [a0], _ => rfl⟩⟩
theorem Fx.xvi_UnknownName (k : Nat) : ∃ fd ps, XvI P w K mg base (k + 1) "UnknownName" ["given"] fd ps ∧ BindKw K ["given"] [0] fd ps := by
  obtain ⟨fd, D⟩ := X.def_ 23 (d := d_UnknownName) rfl
  have F := D.bare rfl
  exact ⟨fd, _, xvI_1 PySem.XB.baseLE F sc_UnknownName in_UnknownName (by decide +kernel) (X.xv.ox _ (List.mem_of_getElem? (i := 14) rfl)) (X.xv.fl _ (List.mem_of_getElem? (i := 14) rfl) "given" (by simp)) X.meth_UnknownName___init__ (F.bindsN (by walk_at "b2")) (X.gl 60 rfl), ⟨rfl, by decide, fun s u ws kin hw => FunD.bindsK0 F fun kV doc pm an cdv ct => match ws, hw with | [a0], _ => rfl⟩⟩
theorem Fx.xvi_InUse (k : Nat) : ∃ fd ps, XvI P w K mg base (k + 1) "InUse" ["index"] fd ps ∧ BindKw K ["index"] [0] fd ps := by
  obtain ⟨fd, D⟩ := X.def_ 24 (d := d_InUse) rfl
  have F := D.bare rfl
  exact ⟨fd, _, xvI_1 PySem.XB.baseLE F sc_InUse in_InUse (by decide +kernel) (X.xv.ox _ (List.mem_of_getElem? (i := 15) rfl)) (X.xv.fl _ (List.mem_of_getElem? (i := 15) rfl) "index" (by simp)) X.meth_InUse___init__ (F.bindsN (by walk_at "b2")) (X.gl 62 rfl), ⟨rfl, by decide, fun s u ws kin hw => FunD.bindsK0 F fun kV doc pm an cdv ct => match ws, hw with | [a0], _ => rfl⟩⟩
theorem Fx.xvi_TooMany (k : Nat) : ∃ fd ps, XvI P w K mg base (k + 1) "TooMany" ["most"] fd ps ∧ BindKw K ["most"] [0] fd ps := by
  obtain ⟨fd, D⟩ := X.def_ 25 (d := d_TooMany) rfl
  have F := D.bare rfl
  exact ⟨fd, _, xvI_1 PySem.XB.baseAE F sc_TooMany in_TooMany (by decide +kernel) (X.xv.ox _ (List.mem_of_getElem? (i := 17) rfl)) (X.xv.fl _ (List.mem_of_getElem? (i := 17) rfl) "most" (by simp)) X.meth_TooMany___init__ (F.bindsN (by walk_at "b2")) (X.gl 64 rfl), ⟨rfl, by decide, fun s u ws kin hw => FunD.bindsK0 F fun kV doc pm an cdv ct => match ws, hw with | [a0], _ => rfl⟩⟩
theorem Fx.xvi_Broken (k : Nat) : ∃ fd ps, XvI P w K mg base (k + 1) "Broken" ["shown", "index"] fd ps ∧ BindKw K ["shown", "index"] [1, 0] fd ps := by
  obtain ⟨fd, D⟩ := X.def_ 26 (d := d_Broken) rfl
  have F := D.bare rfl
  exact ⟨fd, _, xvI_2 PySem.XB.baseAE F sc_Broken in_Broken (by decide +kernel) (by decide +kernel) (X.xv.ox _ (List.mem_of_getElem? (i := 18) rfl)) (X.xv.fl _ (List.mem_of_getElem? (i := 18) rfl) "index" (by simp)) (X.xv.fl _ (List.mem_of_getElem? (i := 18) rfl) "shown" (by simp)) X.meth_Broken___init__ (F.bindsN (by walk_at "b3")) (X.gl 66 rfl), ⟨rfl, by decide, fun s u ws kin hw => FunD.bindsK0 F fun kV doc pm an cdv ct => match ws, hw with | [a0, a1], _ => rfl⟩⟩
theorem Fx.xvt : ∀ T ∈ xvTys, TyOk K mg T := by
  intro T hT
  simp only [xvTys, isxTys, List.cons_append, List.nil_append, List.mem_cons, List.not_mem_nil, or_false] at hT
  rcases hT with rfl | rfl | rfl | rfl | rfl | rfl | rfl | rfl | rfl | rfl | rfl | rfl | rfl | rfl | rfl | rfl | rfl | rfl | rfl | rfl | rfl | rfl | rfl | rfl | rfl | rfl | rfl | rfl
  · exact (X.gl 32 rfl)
  · exact (X.gl 34 rfl)
  · exact (X.gl 36 rfl)
  · exact (X.gl 38 rfl)
  · exact (X.gl 40 rfl)
  · exact (X.gl 42 rfl)
  · exact (X.gl 44 rfl)
  · exact (X.gl 46 rfl)
  · exact (X.gl 48 rfl)
  · exact (X.gl 50 rfl)
  · exact (X.gl 52 rfl)
  · exact (X.gl 54 rfl)
  · exact (X.gl 56 rfl)
  · exact (X.gl 58 rfl)
  · exact (X.gl 60 rfl)
  · exact (X.gl 62 rfl)
  · exact (X.gl 68 rfl)
  · exact (X.gl 64 rfl)
  · exact (X.gl 66 rfl)
  · exact (X.gl 69 rfl)
  · exact (X.gl 70 rfl)
  · exact (X.gl 71 rfl)
  · exact ⟨X.free_ValueError, by decide +kernel⟩
  · exact ⟨X.free_LookupError, by decide +kernel⟩
  · exact ⟨X.free_ArithmeticError, by decide +kernel⟩
  · exact ⟨X.free_KeyError, by decide +kernel⟩
  · exact ⟨X.free_IndexError, by decide +kernel⟩
  · exact ⟨X.free_ZeroDivisionError, by decide +kernel⟩
theorem oks_law_pick : okSs P w K mg base 4 ir_law_pick := by
  have h_law_draw : DefOk P w K mg base 4 "_law_draw" f_law_draw := X.draw.mono (by decide)
  have m_len : mg "len" = none := X.free_len
  unfold ir_law_pick
  walk_at "oks"
theorem ok_law_pick : DefOk P w K mg base 6 "_law_pick" f_law_pick := by
  obtain ⟨fd, D⟩ := X.def_ 3 (d := d_law_pick) rfl
  have F := D.bare rfl
  exact ⟨fd, ps_law_pick, gn_data F kq_law_pick.sc kq_law_pick.un kq_law_pick.ck (oks_law_pick X), fun _ _ h => runF_len h, F.bindsN (by walk_at "b2"), F.kp, (X.gl 3 rfl)⟩
theorem oks_law_odd : okSs P w K mg base 6 ir_law_odd := by
  have h_law_pick : DefOk P w K mg base 6 "_law_pick" f_law_pick := (ok_law_pick X).mono (by decide)
  have hd_dca : HandOk P w K mg base 6 dcaS fDca := dca_ok
  unfold ir_law_odd
  walk_at "oks"
theorem ok_law_odd : DefOk P w K mg base 8 "_law_odd" f_law_odd := by
  obtain ⟨fd, D⟩ := X.def_ 4 (d := d_law_odd) rfl
  have F := D.bare rfl
  exact ⟨fd, ps_law_odd, gn_data F kq_law_odd.sc kq_law_odd.un kq_law_odd.ck (oks_law_odd X), fun _ _ h => runF_len h, F.bindsN (by walk_at "b1"), F.kp, (X.gl 4 rfl)⟩
theorem oks_law_error : okSs P w K mg base 0 ir_law_error := by
  have hd_iv_InvalidNumber : HandOk P w K mg base 0 (isxSub "InvalidNumber") (fIsV "InvalidNumber") := isV_ok (Ty0 := xvTys.getD 0 (.b "")) X.xv (List.mem_of_getElem? (i := 0) rfl) X.free_isinstance (X.xvt _ (List.mem_of_getElem? (i := 0) rfl))
  have hd_iv_InvalidText : HandOk P w K mg base 0 (isxSub "InvalidText") (fIsV "InvalidText") := isV_ok (Ty0 := xvTys.getD 1 (.b "")) X.xv (List.mem_of_getElem? (i := 1) rfl) X.free_isinstance (X.xvt _ (List.mem_of_getElem? (i := 1) rfl))
  have hd_iv_InvalidName : HandOk P w K mg base 0 (isxSub "InvalidName") (fIsV "InvalidName") := isV_ok (Ty0 := xvTys.getD 2 (.b "")) X.xv (List.mem_of_getElem? (i := 2) rfl) X.free_isinstance (X.xvt _ (List.mem_of_getElem? (i := 2) rfl))
  have hd_iv_InvalidWish : HandOk P w K mg base 0 (isxSub "InvalidWish") (fIsV "InvalidWish") := isV_ok (Ty0 := xvTys.getD 3 (.b "")) X.xv (List.mem_of_getElem? (i := 3) rfl) X.free_isinstance (X.xvt _ (List.mem_of_getElem? (i := 3) rfl))
  have hd_iv_InvalidIndex : HandOk P w K mg base 0 (isxSub "InvalidIndex") (fIsV "InvalidIndex") := isV_ok (Ty0 := xvTys.getD 4 (.b "")) X.xv (List.mem_of_getElem? (i := 4) rfl) X.free_isinstance (X.xvt _ (List.mem_of_getElem? (i := 4) rfl))
  have hd_iv_InvalidPicture : HandOk P w K mg base 0 (isxSub "InvalidPicture") (fIsV "InvalidPicture") := isV_ok (Ty0 := xvTys.getD 5 (.b "")) X.xv (List.mem_of_getElem? (i := 5) rfl) X.free_isinstance (X.xvt _ (List.mem_of_getElem? (i := 5) rfl))
  have hd_iv_InvalidEvent : HandOk P w K mg base 0 (isxSub "InvalidEvent") (fIsV "InvalidEvent") := isV_ok (Ty0 := xvTys.getD 6 (.b "")) X.xv (List.mem_of_getElem? (i := 6) rfl) X.free_isinstance (X.xvt _ (List.mem_of_getElem? (i := 6) rfl))
  have hd_iv_InvalidHearing : HandOk P w K mg base 0 (isxSub "InvalidHearing") (fIsV "InvalidHearing") := isV_ok (Ty0 := xvTys.getD 7 (.b "")) X.xv (List.mem_of_getElem? (i := 7) rfl) X.free_isinstance (X.xvt _ (List.mem_of_getElem? (i := 7) rfl))
  have hd_iv_NotAHouse : HandOk P w K mg base 0 (isxSub "NotAHouse") (fIsV "NotAHouse") := isV_ok (Ty0 := xvTys.getD 8 (.b "")) X.xv (List.mem_of_getElem? (i := 8) rfl) X.free_isinstance (X.xvt _ (List.mem_of_getElem? (i := 8) rfl))
  have hd_iv_InvalidStands : HandOk P w K mg base 0 (isxSub "InvalidStands") (fIsV "InvalidStands") := isV_ok (Ty0 := xvTys.getD 9 (.b "")) X.xv (List.mem_of_getElem? (i := 9) rfl) X.free_isinstance (X.xvt _ (List.mem_of_getElem? (i := 9) rfl))
  have hd_iv_InvalidKeys : HandOk P w K mg base 0 (isxSub "InvalidKeys") (fIsV "InvalidKeys") := isV_ok (Ty0 := xvTys.getD 10 (.b "")) X.xv (List.mem_of_getElem? (i := 10) rfl) X.free_isinstance (X.xvt _ (List.mem_of_getElem? (i := 10) rfl))
  have hd_iv_InvalidRows : HandOk P w K mg base 0 (isxSub "InvalidRows") (fIsV "InvalidRows") := isV_ok (Ty0 := xvTys.getD 11 (.b "")) X.xv (List.mem_of_getElem? (i := 11) rfl) X.free_isinstance (X.xvt _ (List.mem_of_getElem? (i := 11) rfl))
  have hd_iv_WrongLine : HandOk P w K mg base 0 (isxSub "WrongLine") (fIsV "WrongLine") := isV_ok (Ty0 := xvTys.getD 12 (.b "")) X.xv (List.mem_of_getElem? (i := 12) rfl) X.free_isinstance (X.xvt _ (List.mem_of_getElem? (i := 12) rfl))
  have hd_iv_InvalidWeaving : HandOk P w K mg base 0 (isxSub "InvalidWeaving") (fIsV "InvalidWeaving") := isV_ok (Ty0 := xvTys.getD 13 (.b "")) X.xv (List.mem_of_getElem? (i := 13) rfl) X.free_isinstance (X.xvt _ (List.mem_of_getElem? (i := 13) rfl))
  have hd_iv_UnknownName : HandOk P w K mg base 0 (isxSub "UnknownName") (fIsV "UnknownName") := isV_ok (Ty0 := xvTys.getD 14 (.b "")) X.xv (List.mem_of_getElem? (i := 14) rfl) X.free_isinstance (X.xvt _ (List.mem_of_getElem? (i := 14) rfl))
  have hd_iv_InUse : HandOk P w K mg base 0 (isxSub "InUse") (fIsV "InUse") := isV_ok (Ty0 := xvTys.getD 15 (.b "")) X.xv (List.mem_of_getElem? (i := 15) rfl) X.free_isinstance (X.xvt _ (List.mem_of_getElem? (i := 15) rfl))
  have hd_iv_NothingToUndo : HandOk P w K mg base 0 (isxSub "NothingToUndo") (fIsV "NothingToUndo") := isV_ok (Ty0 := xvTys.getD 16 (.b "")) X.xv (List.mem_of_getElem? (i := 16) rfl) X.free_isinstance (X.xvt _ (List.mem_of_getElem? (i := 16) rfl))
  have hd_iv_TooMany : HandOk P w K mg base 0 (isxSub "TooMany") (fIsV "TooMany") := isV_ok (Ty0 := xvTys.getD 17 (.b "")) X.xv (List.mem_of_getElem? (i := 17) rfl) X.free_isinstance (X.xvt _ (List.mem_of_getElem? (i := 17) rfl))
  have hd_iv_Broken : HandOk P w K mg base 0 (isxSub "Broken") (fIsV "Broken") := isV_ok (Ty0 := xvTys.getD 18 (.b "")) X.xv (List.mem_of_getElem? (i := 18) rfl) X.free_isinstance (X.xvt _ (List.mem_of_getElem? (i := 18) rfl))
  have hd_iv_WrongValue : HandOk P w K mg base 0 (isxSub "WrongValue") (fIsV "WrongValue") := isV_ok (Ty0 := xvTys.getD 19 (.b "")) X.xv (List.mem_of_getElem? (i := 19) rfl) X.free_isinstance (X.xvt _ (List.mem_of_getElem? (i := 19) rfl))
  have hd_iv_WrongState : HandOk P w K mg base 0 (isxSub "WrongState") (fIsV "WrongState") := isV_ok (Ty0 := xvTys.getD 20 (.b "")) X.xv (List.mem_of_getElem? (i := 20) rfl) X.free_isinstance (X.xvt _ (List.mem_of_getElem? (i := 20) rfl))
  have hd_iv_NoAnswer : HandOk P w K mg base 0 (isxSub "NoAnswer") (fIsV "NoAnswer") := isV_ok (Ty0 := xvTys.getD 21 (.b "")) X.xv (List.mem_of_getElem? (i := 21) rfl) X.free_isinstance (X.xvt _ (List.mem_of_getElem? (i := 21) rfl))
  have hd_iv_ValueError : HandOk P w K mg base 0 (isxSub "ValueError") (fIsV "ValueError") := isV_ok (Ty0 := xvTys.getD 22 (.b "")) X.xv (List.mem_of_getElem? (i := 22) rfl) X.free_isinstance (X.xvt _ (List.mem_of_getElem? (i := 22) rfl))
  have hd_iv_LookupError : HandOk P w K mg base 0 (isxSub "LookupError") (fIsV "LookupError") := isV_ok (Ty0 := xvTys.getD 23 (.b "")) X.xv (List.mem_of_getElem? (i := 23) rfl) X.free_isinstance (X.xvt _ (List.mem_of_getElem? (i := 23) rfl))
  have hd_iv_ArithmeticError : HandOk P w K mg base 0 (isxSub "ArithmeticError") (fIsV "ArithmeticError") := isV_ok (Ty0 := xvTys.getD 24 (.b "")) X.xv (List.mem_of_getElem? (i := 24) rfl) X.free_isinstance (X.xvt _ (List.mem_of_getElem? (i := 24) rfl))
  have hd_cv : HandOk P w K mg base 0 (mtcSub "count") (fCnt (.bl true)) := cntV_ok
  have hd_xv : HandOk P w K mg base 0 (mtcSub "index") (fIdx (.bl true)) := idxV_ok
  unfold ir_law_error
  walk_at "oks"
theorem ok_law_error : DefOk P w K mg base 2 "_law_error" f_law_error := by
  obtain ⟨fd, D⟩ := X.def_ 5 (d := d_law_error) rfl
  have F := D.bare rfl
  exact ⟨fd, ps_law_error, gn_data F kq_law_error.sc kq_law_error.un kq_law_error.ck (oks_law_error X), fun _ _ h => runF_len h, F.bindsN (by walk_at "b1"), F.kp, (X.gl 5 rfl)⟩
theorem oks_law_field : okSs P w K mg base 0 ir_law_field := by
  have hd_fv_index : HandOk P w K mg base 0 (flxSub "index") (fFlV "index") := flV_ok X.xv
  have hd_fv_given : HandOk P w K mg base 0 (flxSub "given") (fFlV "given") := flV_ok X.xv
  have hd_fv_most : HandOk P w K mg base 0 (flxSub "most") (fFlV "most") := flV_ok X.xv
  have hd_fv_shown : HandOk P w K mg base 0 (flxSub "shown") (fFlV "shown") := flV_ok X.xv
  unfold ir_law_field
  walk_at "oks"
theorem ok_law_field : DefOk P w K mg base 2 "_law_field" f_law_field := by
  obtain ⟨fd, D⟩ := X.def_ 6 (d := d_law_field) rfl
  have F := D.bare rfl
  exact ⟨fd, ps_law_field, gn_data F kq_law_field.sc kq_law_field.un kq_law_field.ck (oks_law_field X), fun _ _ h => runF_len h, F.bindsN (by walk_at "b2"), F.kp, (X.gl 6 rfl)⟩
theorem oks_law_right : okSs P w K mg base 8 ir_law_right := by
  have h_law_odd : DefOk P w K mg base 8 "_law_odd" f_law_odd := (ok_law_odd X).mono (by decide)
  have h_law_error : DefOk P w K mg base 8 "_law_error" f_law_error := (ok_law_error X).mono (by decide)
  have h_law_field : DefOk P w K mg base 8 "_law_field" f_law_field := (ok_law_field X).mono (by decide)
  have hd_iv_KeyError : HandOk P w K mg base 8 (isxSub "KeyError") (fIsV "KeyError") := isV_ok (Ty0 := xvTys.getD 25 (.b "")) X.xv (List.mem_of_getElem? (i := 25) rfl) X.free_isinstance (X.xvt _ (List.mem_of_getElem? (i := 25) rfl))
  have hd_iv_IndexError : HandOk P w K mg base 8 (isxSub "IndexError") (fIsV "IndexError") := isV_ok (Ty0 := xvTys.getD 26 (.b "")) X.xv (List.mem_of_getElem? (i := 26) rfl) X.free_isinstance (X.xvt _ (List.mem_of_getElem? (i := 26) rfl))
  have hd_iv_ZeroDivisionError : HandOk P w K mg base 8 (isxSub "ZeroDivisionError") (fIsV "ZeroDivisionError") := isV_ok (Ty0 := xvTys.getD 27 (.b "")) X.xv (List.mem_of_getElem? (i := 27) rfl) X.free_isinstance (X.xvt _ (List.mem_of_getElem? (i := 27) rfl))
  have hd_fv_given : HandOk P w K mg base 8 (flxSub "given") (fFlV "given") := flV_ok X.xv
  have hd_fv_index : HandOk P w K mg base 8 (flxSub "index") (fFlV "index") := flV_ok X.xv
  have hd_fv_most : HandOk P w K mg base 8 (flxSub "most") (fFlV "most") := flV_ok X.xv
  have hd_fv_shown : HandOk P w K mg base 8 (flxSub "shown") (fFlV "shown") := flV_ok X.xv
  have hd_m0_NothingToUndo : HandOk P w K mg base 8 (call0 "NothingToUndo") (fMk0 "NothingToUndo") := mk0_ok X.nou (X.xv.ox _ (List.mem_of_getElem? (i := 16) rfl)).kC (X.gl 68 rfl)
  have hd_mv_InvalidNumber : HandOk P w K mg base 8 (callDF "InvalidNumber") (fMkV "InvalidNumber" ["given"]) := by
    obtain ⟨fd, ps, M, _⟩ := X.xvi_InvalidNumber 7
    exact mkV_ok M (by simp)
  have hd_mv_InvalidName : HandOk P w K mg base 8 (callDF "InvalidName") (fMkV "InvalidName" ["given"]) := by
    obtain ⟨fd, ps, M, _⟩ := X.xvi_InvalidName 7
    exact mkV_ok M (by simp)
  have hd_mv_InvalidIndex : HandOk P w K mg base 8 (callDF "InvalidIndex") (fMkV "InvalidIndex" ["given"]) := by
    obtain ⟨fd, ps, M, _⟩ := X.xvi_InvalidIndex 7
    exact mkV_ok M (by simp)
  have hd_mv_InvalidEvent : HandOk P w K mg base 8 (callDF "InvalidEvent") (fMkV "InvalidEvent" ["given"]) := by
    obtain ⟨fd, ps, M, _⟩ := X.xvi_InvalidEvent 7
    exact mkV_ok M (by simp)
  have hd_mv_NotAHouse : HandOk P w K mg base 8 (callDF "NotAHouse") (fMkV "NotAHouse" ["given"]) := by
    obtain ⟨fd, ps, M, _⟩ := X.xvi_NotAHouse 7
    exact mkV_ok M (by simp)
  have hd_mv_InvalidStands : HandOk P w K mg base 8 (callDF "InvalidStands") (fMkV "InvalidStands" ["index"]) := by
    obtain ⟨fd, ps, M, _⟩ := X.xvi_InvalidStands 7
    exact mkV_ok M (by simp)
  have hd_mv_InvalidRows : HandOk P w K mg base 8 (callDF "InvalidRows") (fMkV "InvalidRows" ["index"]) := by
    obtain ⟨fd, ps, M, _⟩ := X.xvi_InvalidRows 7
    exact mkV_ok M (by simp)
  have hd_mv_InvalidWeaving : HandOk P w K mg base 8 (callDF "InvalidWeaving") (fMkV "InvalidWeaving" ["index"]) := by
    obtain ⟨fd, ps, M, _⟩ := X.xvi_InvalidWeaving 7
    exact mkV_ok M (by simp)
  have hd_mv_InUse : HandOk P w K mg base 8 (callDF "InUse") (fMkV "InUse" ["index"]) := by
    obtain ⟨fd, ps, M, _⟩ := X.xvi_InUse 7
    exact mkV_ok M (by simp)
  have hd_mv_Broken : HandOk P w K mg base 8 (callDF "Broken") (fMkV "Broken" ["shown", "index"]) := by
    obtain ⟨fd, ps, M, _⟩ := X.xvi_Broken 7
    exact mkV_ok M (by simp)
  have hd_mv_InvalidText : HandOk P w K mg base 8 (callDF "InvalidText") (fMkV "InvalidText" ["given"]) := by
    obtain ⟨fd, ps, M, _⟩ := X.xvi_InvalidText 7
    exact mkV_ok M (by simp)
  have hd_mv_InvalidWish : HandOk P w K mg base 8 (callDF "InvalidWish") (fMkV "InvalidWish" ["given"]) := by
    obtain ⟨fd, ps, M, _⟩ := X.xvi_InvalidWish 7
    exact mkV_ok M (by simp)
  have hd_mv_InvalidPicture : HandOk P w K mg base 8 (callDF "InvalidPicture") (fMkV "InvalidPicture" ["given"]) := by
    obtain ⟨fd, ps, M, _⟩ := X.xvi_InvalidPicture 7
    exact mkV_ok M (by simp)
  have hd_mv_InvalidHearing : HandOk P w K mg base 8 (callDF "InvalidHearing") (fMkV "InvalidHearing" ["given"]) := by
    obtain ⟨fd, ps, M, _⟩ := X.xvi_InvalidHearing 7
    exact mkV_ok M (by simp)
  have hd_mv_InvalidKeys : HandOk P w K mg base 8 (callDF "InvalidKeys") (fMkV "InvalidKeys" ["index"]) := by
    obtain ⟨fd, ps, M, _⟩ := X.xvi_InvalidKeys 7
    exact mkV_ok M (by simp)
  have hd_mv_WrongLine : HandOk P w K mg base 8 (callDF "WrongLine") (fMkV "WrongLine" ["index"]) := by
    obtain ⟨fd, ps, M, _⟩ := X.xvi_WrongLine 7
    exact mkV_ok M (by simp)
  have hd_mv_UnknownName : HandOk P w K mg base 8 (callDF "UnknownName") (fMkV "UnknownName" ["given"]) := by
    obtain ⟨fd, ps, M, _⟩ := X.xvi_UnknownName 7
    exact mkV_ok M (by simp)
  have hd_mv_TooMany : HandOk P w K mg base 8 (callDF "TooMany") (fMkV "TooMany" ["most"]) := by
    obtain ⟨fd, ps, M, _⟩ := X.xvi_TooMany 7
    exact mkV_ok M (by simp)
  have hd_mk_InvalidText : HandOk P w K mg base 8 (callKF "InvalidText" ["given"]) (fMkVK "InvalidText" ["given"] [0] ["given"]) := by
    obtain ⟨fd, ps, M, M2⟩ := X.xvi_InvalidText 7
    exact mkVK_ok M M2
  have hd_mk_InvalidWish : HandOk P w K mg base 8 (callKF "InvalidWish" ["given"]) (fMkVK "InvalidWish" ["given"] [0] ["given"]) := by
    obtain ⟨fd, ps, M, M2⟩ := X.xvi_InvalidWish 7
    exact mkVK_ok M M2
  have hd_mk_InvalidPicture : HandOk P w K mg base 8 (callKF "InvalidPicture" ["given"]) (fMkVK "InvalidPicture" ["given"] [0] ["given"]) := by
    obtain ⟨fd, ps, M, M2⟩ := X.xvi_InvalidPicture 7
    exact mkVK_ok M M2
  have hd_mk_InvalidHearing : HandOk P w K mg base 8 (callKF "InvalidHearing" ["given"]) (fMkVK "InvalidHearing" ["given"] [0] ["given"]) := by
    obtain ⟨fd, ps, M, M2⟩ := X.xvi_InvalidHearing 7
    exact mkVK_ok M M2
  have hd_mk_InvalidKeys : HandOk P w K mg base 8 (callKF "InvalidKeys" ["index"]) (fMkVK "InvalidKeys" ["index"] [0] ["index"]) := by
    obtain ⟨fd, ps, M, M2⟩ := X.xvi_InvalidKeys 7
    exact mkVK_ok M M2
  have hd_mk_WrongLine : HandOk P w K mg base 8 (callKF "WrongLine" ["index"]) (fMkVK "WrongLine" ["index"] [0] ["index"]) := by
    obtain ⟨fd, ps, M, M2⟩ := X.xvi_WrongLine 7
    exact mkVK_ok M M2
  have hd_mk_UnknownName : HandOk P w K mg base 8 (callKF "UnknownName" ["given"]) (fMkVK "UnknownName" ["given"] [0] ["given"]) := by
    obtain ⟨fd, ps, M, M2⟩ := X.xvi_UnknownName 7
    exact mkVK_ok M M2
  have hd_mk_TooMany : HandOk P w K mg base 8 (callKF "TooMany" ["most"]) (fMkVK "TooMany" ["most"] [0] ["most"]) := by
    obtain ⟨fd, ps, M, M2⟩ := X.xvi_TooMany 7
    exact mkVK_ok M M2
  have hd_mk_InvalidNumber : HandOk P w K mg base 8 (callKF "InvalidNumber" ["given"]) (fMkVK "InvalidNumber" ["given"] [0] ["given"]) := by
    obtain ⟨fd, ps, M, M2⟩ := X.xvi_InvalidNumber 7
    exact mkVK_ok M M2
  have hd_mk_InvalidName : HandOk P w K mg base 8 (callKF "InvalidName" ["given"]) (fMkVK "InvalidName" ["given"] [0] ["given"]) := by
    obtain ⟨fd, ps, M, M2⟩ := X.xvi_InvalidName 7
    exact mkVK_ok M M2
  have hd_mk_InvalidIndex : HandOk P w K mg base 8 (callKF "InvalidIndex" ["given"]) (fMkVK "InvalidIndex" ["given"] [0] ["given"]) := by
    obtain ⟨fd, ps, M, M2⟩ := X.xvi_InvalidIndex 7
    exact mkVK_ok M M2
  have hd_mk_InvalidEvent : HandOk P w K mg base 8 (callKF "InvalidEvent" ["given"]) (fMkVK "InvalidEvent" ["given"] [0] ["given"]) := by
    obtain ⟨fd, ps, M, M2⟩ := X.xvi_InvalidEvent 7
    exact mkVK_ok M M2
  have hd_mk_NotAHouse : HandOk P w K mg base 8 (callKF "NotAHouse" ["given"]) (fMkVK "NotAHouse" ["given"] [0] ["given"]) := by
    obtain ⟨fd, ps, M, M2⟩ := X.xvi_NotAHouse 7
    exact mkVK_ok M M2
  have hd_mk_InvalidStands : HandOk P w K mg base 8 (callKF "InvalidStands" ["index"]) (fMkVK "InvalidStands" ["index"] [0] ["index"]) := by
    obtain ⟨fd, ps, M, M2⟩ := X.xvi_InvalidStands 7
    exact mkVK_ok M M2
  have hd_mk_InvalidRows : HandOk P w K mg base 8 (callKF "InvalidRows" ["index"]) (fMkVK "InvalidRows" ["index"] [0] ["index"]) := by
    obtain ⟨fd, ps, M, M2⟩ := X.xvi_InvalidRows 7
    exact mkVK_ok M M2
  have hd_mk_InvalidWeaving : HandOk P w K mg base 8 (callKF "InvalidWeaving" ["index"]) (fMkVK "InvalidWeaving" ["index"] [0] ["index"]) := by
    obtain ⟨fd, ps, M, M2⟩ := X.xvi_InvalidWeaving 7
    exact mkVK_ok M M2
  have hd_mk_InUse : HandOk P w K mg base 8 (callKF "InUse" ["index"]) (fMkVK "InUse" ["index"] [0] ["index"]) := by
    obtain ⟨fd, ps, M, M2⟩ := X.xvi_InUse 7
    exact mkVK_ok M M2
  have hd_mk_Broken : HandOk P w K mg base 8 (callKF "Broken" ["shown", "index"]) (fMkVK "Broken" ["shown", "index"] [1, 0] ["shown", "index"]) := by
    obtain ⟨fd, ps, M, M2⟩ := X.xvi_Broken 7
    exact mkVK_ok M M2
  have hd_lrg : HandOk P w K mg base 8 lrg fLrg := lrg_ok X.free_list X.free_range
  have m_any : mg "any" = none := X.free_any
  have m_range : mg "range" = none := X.free_range
  have m_repr : mg "repr" = none := X.free_repr
  have m_sys : sysB K = true := X.sys
  unfold ir_law_right
  walk_at "oks"
theorem ok_law_right : DefOk P w K mg base 10 "_law_right" f_law_right := by
  obtain ⟨fd, D⟩ := X.def_ 7 (d := d_law_right) rfl
  have F := D.bare rfl
  have e : f_law_right = DL.runF ps_law_right.length N_law_right.length ir_law_right := (by kernel_rfl)
  have g := gn_data F kq_law_right.sc kq_law_right.un kq_law_right.ck (oks_law_right X)
  rw [← e] at g
  have l : ∀ ds P', f_law_right ds P' ≠ .no → ds.length = ps_law_right.length := fun _ _ h => by
    rw [e] at h
    exact runF_len h
  exact ⟨fd, ps_law_right, g, l, F.bindsN (by walk_at "b1"), F.kp, (X.gl 7 rfl)⟩
theorem oks_law_limits : okSs P w K mg base 0 ir_law_limits := by
  have g_MOST_LINES : GlbOk K mg "MOST_LINES" g_MOST_LINES := X.g_MOST_LINES
  have g_MOST_STANDS : GlbOk K mg "MOST_STANDS" g_MOST_STANDS := X.g_MOST_STANDS
  have g_MOST_KEYS : GlbOk K mg "MOST_KEYS" g_MOST_KEYS := X.g_MOST_KEYS
  have g_MOST_ROWS : GlbOk K mg "MOST_ROWS" g_MOST_ROWS := X.g_MOST_ROWS
  have g_MOST_CONDITIONS : GlbOk K mg "MOST_CONDITIONS" g_MOST_CONDITIONS := X.g_MOST_CONDITIONS
  have g_MOST_DEEDS : GlbOk K mg "MOST_DEEDS" g_MOST_DEEDS := X.g_MOST_DEEDS
  have g_MOST_PHONES : GlbOk K mg "MOST_PHONES" g_MOST_PHONES := X.g_MOST_PHONES
  have g_MOST_SHAPES : GlbOk K mg "MOST_SHAPES" g_MOST_SHAPES := X.g_MOST_SHAPES
  have m_repr : mg "repr" = none := X.free_repr
  have m_sys : sysB K = true := X.sys
  unfold ir_law_limits
  walk_at "oks"
theorem ok_law_limits : DefOk P w K mg base 2 "_law_limits" f_law_limits := by
  obtain ⟨fd, D⟩ := X.def_ 8 (d := d_law_limits) rfl
  have F := D.bare rfl
  have e : f_law_limits = DL.runF ps_law_limits.length N_law_limits.length ir_law_limits := (by kernel_rfl)
  have g := gn_data F kq_law_limits.sc kq_law_limits.un kq_law_limits.ck (oks_law_limits X)
  rw [← e] at g
  have l : ∀ ds P', f_law_limits ds P' ≠ .no → ds.length = ps_law_limits.length := fun _ _ h => by
    rw [e] at h
    exact runF_len h
  exact ⟨fd, ps_law_limits, g, l, F.bindsN (by walk_at "b0"), F.kp, (X.gl 8 rfl)⟩
end
end DL.Law
namespace DL
open TL

end DL
namespace DL
open PySem PySem.Spec PyProof.Rows L2

abbrev XP := Str → List Str → List Da → Po → Prop
def nX : XP := fun _ _ _ _ => False
def Out.Wd {α : Type} (o : Out α) (Q : α → Po → Prop) (X : XP) : Prop := match o with
  | .ok a P => Q a P
  | .ex C fs ds P => X C fs ds P
  | .no => False
def OutS.Wd (o : OutS) (R : OutS → Prop) : Prop := match o with
  | .no => False
  | o => R o
structure Out.W {α : Type} (o : Out α) (Q : α → Po → Prop) (X : XP) : Prop where
  prf : o.Wd Q X
structure OutS.W (o : OutS) (R : OutS → Prop) : Prop where
  prf : o.Wd R
theorem W_prf {α : Type} {o : Out α} {Q : α → Po → Prop} {X : XP} : o.W Q X = o.Wd Q X := propext ⟨Out.W.prf, Out.W.mk⟩
theorem WS_prf {o : OutS} {R : OutS → Prop} : o.W R = o.Wd R := propext ⟨OutS.W.prf, OutS.W.mk⟩
section
variable {α β : Type} {Q : α → Po → Prop} {X : XP} {R : OutS → Prop} {S : Ev} {P : Po}
theorem W_ok (a : α) (P : Po) : (Out.ok a P).W Q X = Q a P := by (first | rfl | (simp only [W_prf, WS_prf]; first | done | rfl))
theorem W_bind {o : Out β} {k : β → Po → Out α} : (o.bind k).W Q X = o.W (fun a P => (k a P).W Q X) X := by cases o <;> (first | rfl | (simp only [W_prf, WS_prf]; first | done | rfl))
theorem W_some {a : α} : (Out.of (some a) P).W Q X = Q a P := by (first | rfl | (simp only [W_prf, WS_prf]; first | done | rfl))
theorem Out.W.mono {o : Out α} {Q Q' : α → Po → Prop} (h : o.W Q X) (q : ∀ a P, Q a P → Q' a P) : o.W Q' X := by
  cases o with
  | ok a P => exact ⟨q a P h.prf⟩
  | ex C fs ds P => exact ⟨h.prf⟩
  | no => exact h.prf.elim
theorem Out.W.monoX {o : Out α} {Q Q' : α → Po → Prop} {X X' : XP} (h : o.W Q X) (q : ∀ a P, Q a P → Q' a P) (x : ∀ C fs ds P, X C fs ds P → X' C fs ds P) : o.W Q' X' := by
  cases o with
  | ok a P => exact ⟨q a P h.prf⟩
  | ex C fs ds P => exact ⟨x _ _ _ _ h.prf⟩
  | no => exact h.prf.elim
theorem Out.W.nx {o : Out α} {Q Q' : α → Po → Prop} {X : XP} (h : o.W Q nX) (q : ∀ a P, Q a P → Q' a P) : o.W Q' X := h.monoX q fun _ _ _ _ h => h.elim
theorem W_eq {o : Out α} (h : o.W Q nX) : ∃ a P, o = .ok a P ∧ Q a P := by
  cases o with
  | ok a P => exact ⟨a, P, rfl, h.prf⟩
  | ex C fs ds P => exact h.prf.elim
  | no => exact h.prf.elim
theorem of_W {o : Out α} {a : α} {P : Po} (h : o.W (fun x P' => x = a ∧ P' = P) nX) : o = .ok a P := by
  obtain ⟨x, P', e, rfl, rfl⟩ := W_eq h
  exact e
theorem WS_obind {o : Out α} {k : α → Po → OutS} : (obind o k).W R = o.W (fun a P => (k a P).W R) (fun C fs ds P => R (.ex C fs ds P)) := by cases o <;> (first | rfl | (simp only [W_prf, WS_prf]; first | done | rfl))
def seqK (f : Ev → OutS) (R : OutS → Prop) : OutS → Prop
  | .nx S => (f S).W R
  | o => R o
theorem seqK_nx {f : Ev → OutS} : seqK f R (.nx S) = (f S).W R := by (first | rfl | (simp only [W_prf, WS_prf]; first | done | rfl))
theorem seqK_ret {f : Ev → OutS} {d : Da} : seqK f R (.ret d P) = R (.ret d P) := by (first | rfl | (simp only [W_prf, WS_prf]; first | done | rfl))
theorem seqK_bk {f : Ev → OutS} : seqK f R (.bk S) = R (.bk S) := by (first | rfl | (simp only [W_prf, WS_prf]; first | done | rfl))
theorem seqK_ct {f : Ev → OutS} : seqK f R (.ct S) = R (.ct S) := by (first | rfl | (simp only [W_prf, WS_prf]; first | done | rfl))
theorem seqK_ex {f : Ev → OutS} {C : Str} {fs : List Str} {ds : List Da} : seqK f R (.ex C fs ds P) = R (.ex C fs ds P) := by (first | rfl | (simp only [W_prf, WS_prf]; first | done | rfl))
theorem WS_then {o : OutS} {f : Ev → OutS} : (o.then f).W R = o.W (seqK f R) := by
  cases o with
  | nx S => exact (WS_prf (o := .nx S) (R := seqK f R)).symm
  | _ => simp only [WS_prf]; rfl
def endK (Q : Da → Po → Prop) (X : XP) : OutS → Prop
  | .nx S => Q .non S.po
  | .ret d P => Q d P
  | .ex C fs ds P => X C fs ds P
  | _ => False
theorem W_endF {o : OutS} {Q : Da → Po → Prop} : (endF o).W Q X = o.W (endK Q X) := by cases o <;> (first | rfl | (simp only [W_prf, WS_prf]; first | done | rfl))
theorem endK_nx {Q : Da → Po → Prop} {sl : List Sv} : endK Q X (.nx ⟨sl, P⟩) = Q .non P := by (first | rfl | (simp only [W_prf, WS_prf]; first | done | rfl))
theorem endK_ret {Q : Da → Po → Prop} {d : Da} : endK Q X (.ret d P) = Q d P := by (first | rfl | (simp only [W_prf, WS_prf]; first | done | rfl))
theorem endK_ex {Q : Da → Po → Prop} {C : Str} {fs : List Str} {ds : List Da} : endK Q X (.ex C fs ds P) = X C fs ds P := by (first | rfl | (simp only [W_prf, WS_prf]; first | done | rfl))
def loopK (I : Ev → Prop) (R : OutS → Prop) : OutS → Prop
  | .nx S => I S
  | .ct S => I S
  | .bk S => R (.nx S)
  | .ret e P => R (.ret e P)
  | .ex C fs es P => R (.ex C fs es P)
  | .no => False
theorem loopK_nx {I : Ev → Prop} : loopK I R (.nx S) = I S := by (first | rfl | (simp only [W_prf, WS_prf]; first | done | rfl))
theorem loopK_ct {I : Ev → Prop} : loopK I R (.ct S) = I S := by (first | rfl | (simp only [W_prf, WS_prf]; first | done | rfl))
theorem loopK_bk {I : Ev → Prop} : loopK I R (.bk S) = R (.nx S) := by (first | rfl | (simp only [W_prf, WS_prf]; first | done | rfl))
theorem loopK_ret {I : Ev → Prop} {d : Da} : loopK I R (.ret d P) = R (.ret d P) := by (first | rfl | (simp only [W_prf, WS_prf]; first | done | rfl))
theorem loopK_ex {I : Ev → Prop} {C : Str} {fs : List Str} {ds : List Da} : loopK I R (.ex C fs ds P) = R (.ex C fs ds P) := by (first | rfl | (simp only [W_prf, WS_prf]; first | done | rfl))
theorem lcL_map {bd : Da → Po → Option Ev} {t : Ev → Out Bool} {e : Ev → Out Da} (g : Da → Da) (P : Po) : ∀ (ds acc : List Da), acc.length + ds.length ≤ lim → (∀ d ∈ ds, (g d).fz = true ∧ ∃ S, bd d P = some S ∧ t S = .ok true P ∧ e (S.wp P) = .ok (g d) P) → lcL bd t e ds P acc = .ok (.lst (acc ++ ds.map g)) P
  | [], acc, _, _ => by simp [lcL]
  | d :: ds, acc, hl, h => by
    obtain ⟨hf, S, e1, e2, e3⟩ := h d (List.mem_cons_self ..)
    rw [List.length_cons] at hl
    have c : ((g d).fz && decide (acc.length < lim)) = true := by
      rw [Bool.and_eq_true]
      exact ⟨hf, decide_eq_true (by omega)⟩
    have ih := lcL_map (bd := bd) (t := t) (e := e) g P ds (acc ++ [g d]) (by simp; omega) fun x hx => h x (List.mem_cons_of_mem _ hx)
    unfold lcL
    rw [e1]
    dsimp only
    rw [e2]
    dsimp only
    rw [e3]
    dsimp only
    rw [if_pos c, ih, List.map_cons, List.append_assoc]
    rfl
end
section
variable {Q : Da → Po → Prop} {QA : List Da → Po → Prop} {QO : Option Int → Po → Prop} {QB : Bool → Po → Prop} {QI : Bool × List Da → Po → Prop} {X : XP} {R : OutS → Prop} {S : Ev} {P : Po} {sl : List Sv}
theorem wp_mk {P P' : Po} : Ev.wp ⟨sl, P⟩ P' = ⟨sl, P'⟩ := by (first | rfl | (simp only [W_prf, WS_prf]; first | done | rfl))
theorem po_mk {P : Po} : Ev.po ⟨sl, P⟩ = P := by (first | rfl | (simp only [W_prf, WS_prf]; first | done | rfl))
theorem setSl_mk {P : Po} {i : Nat} {v : Sv} : setSl ⟨sl, P⟩ i v = ⟨sl.set i v, P⟩ := by (first | rfl | (simp only [W_prf, WS_prf]; first | done | rfl))
def varW (o : Option Sv) (P : Po) : Out Da := match o with
  | some (.dat d) => .ok d P
  | some (.own ds) => .ok (.bor ds) P
  | _ => .no
theorem varW_dat {d : Da} : (varW (some (.dat d)) P).W Q X = Q d P := by (first | rfl | (simp only [W_prf, WS_prf]; first | done | rfl))
theorem varW_own {ds : List Da} : (varW (some (.own ds)) P).W Q X = Q (.bor ds) P := by (first | rfl | (simp only [W_prf, WS_prf]; first | done | rfl))
theorem We_var {i : Nat} : (evE (.var i) ⟨sl, P⟩).W Q X = (varW sl[i]? P).W Q X := by (first | rfl | (simp only [W_prf, WS_prf]; first | done | rfl))
theorem We_glb {x : Str} {d : Da} : (evE (.glb x d) ⟨sl, P⟩).W Q X = Q d P := by (first | rfl | (simp only [W_prf, WS_prf]; first | done | rfl))
theorem We_con {d : Da} : (evE (.con d) ⟨sl, P⟩).W Q X = Q d P := by (first | rfl | (simp only [W_prf, WS_prf]; first | done | rfl))
theorem We_b2 {o : B2} {a b : CE} : (evE (.b2 o a b) S).W Q X = (evE a S).W (fun x P => (evE b (S.wp P)).W (fun y P2 => (Out.of (f2 o x y) P2).W Q X) X) X := by
  rw [evE, W_bind]; simp only [W_bind]
def chnK (o' : B2) (y : Da) (c : CE) (S : Ev) (Q : Da → Po → Prop) (X : XP) (z : Da) (P : Po) : Prop := match z with
  | .bl true => (evE c (S.wp P)).W (fun u P4 => (Out.of (f2 o' y u) P4).W Q X) X
  | .bl false => Q (.bl false) P
  | _ => False
theorem chnK_b {o' : B2} {y : Da} {c : CE} {b : Bool} : chnK o' y c S Q X (.bl b) P = if b = true then (evE c (S.wp P)).W (fun u P4 => (Out.of (f2 o' y u) P4).W Q X) X else Q (.bl false) P := by cases b <;> (first | rfl | (simp only [W_prf, WS_prf]; first | done | rfl))
theorem We_chn {o o' : B2} {a b c : CE} : (evE (.chn o o' a b c) S).W Q X = (evE a S).W (fun x P => (evE b (S.wp P)).W (fun y P2 => (Out.of (f2 o x y) P2).W (chnK o' y c S Q X) X) X) X := by
  rw [evE, W_bind]; simp only [W_bind]
  congr; funext x P; congr; funext y P2; congr; funext z P3
  cases z with
  | bl b => cases b with
    | true => show (Out.bind _ _).W Q X = _; rw [W_bind]; (first | rfl | (simp only [W_prf, WS_prf]; first | done | rfl))
    | false => (first | rfl | (simp only [W_prf, WS_prf]; first | done | rfl))
  | _ => (first | rfl | (simp only [W_prf, WS_prf]; first | done | rfl))
def negK (Q : Da → Po → Prop) (x : Da) (P : Po) : Prop := match x with
  | .int i => Q (.int (-i)) P
  | _ => False
theorem negK_i {i : Int} : negK Q (.int i) P = Q (.int (-i)) P := by (first | rfl | (simp only [W_prf, WS_prf]; first | done | rfl))
theorem We_neg {a : CE} : (evE (.neg a) S).W Q X = (evE a S).W (negK Q) X := by
  rw [evE, W_bind]; congr; funext x P; cases x <;> (first | rfl | (simp only [W_prf, WS_prf]; first | done | rfl))
def truK (QB : Bool → Po → Prop) (x : Da) (P : Po) : Prop := match truQ x with
  | some b => QB b P
  | none => False
theorem truK_b {b : Bool} : truK QB (.bl b) P = QB b P := by (first | rfl | (simp only [W_prf, WS_prf]; first | done | rfl))
theorem truK_n : truK QB .non P = QB false P := by (first | rfl | (simp only [W_prf, WS_prf]; first | done | rfl))
theorem truK_l {xs : List Da} : truK QB (.lst xs) P = QB (!xs.isEmpty) P := by (first | rfl | (simp only [W_prf, WS_prf]; first | done | rfl))
theorem truK_t {xs : List Da} : truK QB (.tup xs) P = QB (!xs.isEmpty) P := by (first | rfl | (simp only [W_prf, WS_prf]; first | done | rfl))
theorem W_trus {o : Out Da} : (trus o).W QB X = o.W (truK QB) X := by
  unfold trus; rw [W_bind]; congr; funext d P; unfold truK; cases truQ d <;> (first | rfl | (simp only [W_prf, WS_prf]; first | done | rfl))
theorem We_not {a : CE} : (evE (.notv a) S).W Q X = (evE a S).W (truK fun b P => Q (.bl (!b)) P) X := by
  rw [evE, W_bind, W_trus]; (first | rfl | (simp only [W_prf, WS_prf]; first | done | rfl))
def andK (b : CE) (S : Ev) (Q : Da → Po → Prop) (X : XP) (x : Da) (P : Po) : Prop := truK (fun c P => if c = true then (evE b (S.wp P)).W Q X else Q x P) x P
theorem andK_b {b : CE} {c : Bool} : andK b S Q X (.bl c) P = if c = true then (evE b (S.wp P)).W Q X else Q (.bl c) P := by (first | rfl | (simp only [W_prf, WS_prf]; first | done | rfl))
theorem andK_n {b : CE} : andK b S Q X .non P = Q .non P := by simp [andK, truK, truQ]
theorem We_and {a b : CE} : (evE (.andv a b) S).W Q X = (evE a S).W (andK b S Q X) X := by
  rw [evE, W_bind]; congr; funext x P; unfold andK truK; cases truQ x with
  | none => (first | rfl | (simp only [W_prf, WS_prf]; first | done | rfl))
  | some c => cases c <;> (first | rfl | (simp only [W_prf, WS_prf]; first | done | rfl))
def orK (b : CE) (S : Ev) (Q : Da → Po → Prop) (X : XP) (x : Da) (P : Po) : Prop := truK (fun c P => if c = true then Q x P else (evE b (S.wp P)).W Q X) x P
theorem orK_b {b : CE} {c : Bool} : orK b S Q X (.bl c) P = if c = true then Q (.bl c) P else (evE b (S.wp P)).W Q X := by (first | rfl | (simp only [W_prf, WS_prf]; first | done | rfl))
theorem We_or {a b : CE} : (evE (.orv a b) S).W Q X = (evE a S).W (orK b S Q X) X := by
  rw [evE, W_bind]; congr; funext x P; unfold orK truK; cases truQ x with
  | none => (first | rfl | (simp only [W_prf, WS_prf]; first | done | rfl))
  | some c => cases c <;> (first | rfl | (simp only [W_prf, WS_prf]; first | done | rfl))
theorem We_ite {t a b : CE} : (evE (.ite t a b) S).W Q X = (evE t S).W (truK fun k P => if k = true then (evE a (S.wp P)).W Q X else (evE b (S.wp P)).W Q X) X := by
  rw [evE, W_bind, W_trus]; congr; funext k P; cases k <;> (first | rfl | (simp only [W_prf, WS_prf]; first | done | rfl))
def fzs : List Da → Bool
  | [] => true
  | d :: ds => d.fz && fzs ds
theorem fzs_eq : ∀ ds : List Da, fzs ds = ds.all Da.fz
  | [] => rfl
  | d :: ds => by rw [List.all_cons, ← fzs_eq ds]; rfl
theorem We_call {x : Str} {f : Fs} {as : CEs} : (evE (.call x f as) S).W Q X = (evA as S).W (fun ds P => fzs ds = true ∧ (f ds P).W Q X) X := by
  rw [evE, W_bind]; congr; funext ds P; rw [fzs_eq]
  by_cases c : ds.all Da.fz = true
  · rw [if_pos c]; simp only [c, true_and]
  · rw [if_neg c]; simp only [c, Bool.false_eq_true, false_and]; (first | rfl | (simp only [W_prf, WS_prf]; first | done | rfl))
theorem We_mth {C m : Str} {f : Fs} {o : CE} {as : CEs} : (evE (.mth C m f o as) S).W Q X = (evE o S).W (fun x P => x.isOb C m = true ∧ (evA as (S.wp P)).W (fun ds P2 => fzs ds = true ∧ (f (x :: ds) P2).W Q X) X) X := by
  rw [evE, W_bind]; congr; funext x P
  by_cases c : x.isOb C m = true
  · rw [if_pos c, W_bind]; simp only [c, true_and]
    congr; funext ds P2; rw [fzs_eq]
    by_cases c2 : ds.all Da.fz = true
    · rw [if_pos c2]; simp only [c2, true_and]
    · rw [if_neg c2]; simp only [c2, Bool.false_eq_true, false_and]; (first | rfl | (simp only [W_prf, WS_prf]; first | done | rfl))
  · rw [if_neg c]; simp only [c, Bool.false_eq_true, false_and]; (first | rfl | (simp only [W_prf, WS_prf]; first | done | rfl))
theorem We_b1 {o : B1} {a : CE} : (evE (.b1 o a) S).W Q X = (evE a S).W (fun x P => (Out.of (f1 o x) P).W Q X) X := by rw [evE, W_bind]
theorem We_bi {o : Bi} {a b : CE} : (evE (.bi o a b) S).W Q X = (evE a S).W (fun x P => (evE b (S.wp P)).W (fun y P2 => (Out.of (fi o x y) P2).W Q X) X) X := by rw [evE, W_bind]; simp only [W_bind]
theorem We_isi {a : CE} {T : Ty} : (evE (.isi a T) S).W Q X = (evE a S).W (fun x P => (Out.of ((isiQ x T).map .bl) P).W Q X) X := by rw [evE, W_bind]
theorem We_mt {o : Mo} {a b : CE} : (evE (.mt o a b) S).W Q X = (evE a S).W (fun x P => x.isStr = true ∧ (evE b (S.wp P)).W (fun y P2 => (Out.of (fm o x y) P2).W Q X) X) X := by
  rw [evE, W_bind]; congr; funext x P
  by_cases c : x.isStr = true
  · rw [if_pos c, W_bind]; simp only [c, true_and]
  · rw [if_neg c]; simp only [c, Bool.false_eq_true, false_and]; (first | rfl | (simp only [W_prf, WS_prf]; first | done | rfl))
theorem We_ix {a b : CE} : (evE (.ix a b) S).W Q X = (evE a S).W (fun x P => (evE b (S.wp P)).W (fun y P2 => (Out.of (ixQ x y) P2).W Q X) X) X := by rw [evE, W_bind]; simp only [W_bind]
theorem We_sl {a : CE} {lo hi : CEo} : (evE (.sl a lo hi) S).W Q X = (evE a S).W (fun x P => (evO lo (S.wp P)).W (fun l P2 => (evO hi (S.wp P2)).W (fun h P3 => (Out.of (slQ x l h) P3).W Q X) X) X) X := by rw [evE, W_bind]; simp only [W_bind]
theorem We_rev {a : CE} : (evE (.rev a) S).W Q X = (evE a S).W (fun x P => (Out.of (x.ls.map fun xs => .lst xs.reverse) P).W Q X) X := by rw [evE, W_bind]
theorem We_lst {as : CEs} : (evE (.lst as) S).W Q X = (evA as S).W (fun ds P => fzs ds = true ∧ ds.length ≤ lim ∧ Q (.lst ds) P) X := by
  rw [evE, W_bind]; congr; funext ds P; rw [fzs_eq]
  by_cases c : (ds.all Da.fz && decide (ds.length ≤ lim)) = true
  · rw [if_pos c]; rw [Bool.and_eq_true] at c; simp [c.1, of_decide_eq_true c.2]; (first | rfl | (simp only [W_prf, WS_prf]; first | done | rfl))
  · rw [if_neg c]; rw [Bool.and_eq_true] at c
    apply propext
    exact ⟨fun h => h.prf.elim, fun ⟨h1, h2, _⟩ => (c ⟨h1, decide_eq_true h2⟩).elim⟩
theorem We_tup {as : CEs} : (evE (.tup as) S).W Q X = (evA as S).W (fun ds P => fzs ds = true ∧ ds.length ≤ lim ∧ Q (.tup ds) P) X := by
  rw [evE, W_bind]; congr; funext ds P; rw [fzs_eq]
  by_cases c : (ds.all Da.fz && decide (ds.length ≤ lim)) = true
  · rw [if_pos c]; rw [Bool.and_eq_true] at c; simp [c.1, of_decide_eq_true c.2]; (first | rfl | (simp only [W_prf, WS_prf]; first | done | rfl))
  · rw [if_neg c]; rw [Bool.and_eq_true] at c
    apply propext
    exact ⟨fun h => h.prf.elim, fun ⟨h1, h2, _⟩ => (c ⟨h1, decide_eq_true h2⟩).elim⟩
theorem We_xa {o : XO} {f : Fs} {as : CEs} : (evE (.xa o f as) S).W Q X = (evA as S).W (fun ds P => (xoQ o f ds P).W Q X) X := by rw [evE, W_bind]
theorem We_lc {vs tg : List Nat} {it : CI} {t : CEo} {e : CE} : (evE (.lc vs tg it t e) S).W Q X = (evI it S).W (fun ds P => (lcL (fun d P1 => bindTg tg d (wipeS (S.wp P1) vs)) (evC t) (evE e) ds.2 P []).W Q X) X := by rw [evE, W_bind]
theorem We_fst {ps : CEs} : (evE (.fst ps) S).W Q X = (evP ps S []).W Q X := by rw [evE]
theorem Wa_nil : (evA .nil ⟨sl, P⟩).W QA X = QA [] P := by (first | rfl | (simp only [W_prf, WS_prf]; first | done | rfl))
theorem Wa_cons {a : CE} {r : CEs} : (evA (.cons a r) S).W QA X = (evE a S).W (fun x P => (evA r (S.wp P)).W (fun xs P2 => QA (x :: xs) P2) X) X := by
  rw [evA, W_bind]; simp only [W_bind]; (first | rfl | (simp only [W_prf, WS_prf]; first | done | rfl))
def starK (r : CEs) (S : Ev) (QA : List Da → Po → Prop) (X : XP) (x : Da) (P : Po) : Prop := match x.sq with
  | some ys => (evA r (S.wp P)).W (fun xs P2 => QA (ys ++ xs) P2) X
  | none => False
theorem starK_l {r : CEs} {ys : List Da} : starK r S QA X (.lst ys) P = (evA r (S.wp P)).W (fun xs P2 => QA (ys ++ xs) P2) X := by (first | rfl | (simp only [W_prf, WS_prf]; first | done | rfl))
theorem starK_t {r : CEs} {ys : List Da} : starK r S QA X (.tup ys) P = (evA r (S.wp P)).W (fun xs P2 => QA (ys ++ xs) P2) X := by (first | rfl | (simp only [W_prf, WS_prf]; first | done | rfl))
theorem Wa_star {a : CE} {r : CEs} : (evA (.star a r) S).W QA X = (evE a S).W (starK r S QA X) X := by
  rw [evA, W_bind]; congr; funext x P; unfold starK; cases x.sq with
  | none => (first | rfl | (simp only [W_prf, WS_prf]; first | done | rfl))
  | some ys => show (Out.bind _ _).W QA X = _; rw [W_bind]; (first | rfl | (simp only [W_prf, WS_prf]; first | done | rfl))
theorem Wp_nil {acc : List Nat} : (evP .nil ⟨sl, P⟩ acc).W Q X = Q (.str acc) P := by (first | rfl | (simp only [W_prf, WS_prf]; first | done | rfl))
def fmtK (r : CEs) (S : Ev) (acc : List Nat) (Q : Da → Po → Prop) (X : XP) (x : Da) (P : Po) : Prop := match fmtQ x with
  | some l => (acc ++ l).length ≤ lim ∧ (evP r (S.wp P) (acc ++ l)).W Q X
  | none => False
theorem fmtK_s {r : CEs} {acc l : List Nat} : fmtK r S acc Q X (.str l) P = (l.length ≤ lim ∧ (acc ++ l).length ≤ lim ∧ (evP r (S.wp P) (acc ++ l)).W Q X) := by
  unfold fmtK fmtQ
  by_cases c : l.length ≤ lim <;> simp [c]
theorem fmtK_i {r : CEs} {acc : List Nat} {i : Int} : fmtK r S acc Q X (.int i) P = (intQ i = true ∧ (acc ++ (toString i : Str).cps.toList).length ≤ lim ∧ (evP r (S.wp P) (acc ++ (toString i : Str).cps.toList)).W Q X) := by
  unfold fmtK fmtQ
  by_cases c : intQ i = true <;> simp [c]
theorem Wp_cons {a : CE} {r : CEs} {acc : List Nat} : (evP (.cons a r) S acc).W Q X = (evE a S).W (fmtK r S acc Q X) X := by
  rw [evP, W_bind]; congr; funext x P; unfold fmtK; cases fmtQ x with
  | none => (first | rfl | (simp only [W_prf, WS_prf]; first | done | rfl))
  | some l =>
    show (if _ then _ else _ : Out Da).W Q X = _
    by_cases c : (acc ++ l).length ≤ lim
    · rw [if_pos c]; simp only [c, true_and]
    · rw [if_neg c]; simp only [c, Bool.false_eq_true, false_and]; (first | rfl | (simp only [W_prf, WS_prf]; first | done | rfl))
theorem Wo_none : (evO .none ⟨sl, P⟩).W QO X = QO none P := by (first | rfl | (simp only [W_prf, WS_prf]; first | done | rfl))
def optK (QO : Option Int → Po → Prop) (x : Da) (P : Po) : Prop := match x with
  | .int i => QO (some i) P
  | _ => False
theorem optK_i {i : Int} : optK QO (.int i) P = QO (some i) P := by (first | rfl | (simp only [W_prf, WS_prf]; first | done | rfl))
theorem Wo_some {a : CE} : (evO (.some a) S).W QO X = (evE a S).W (optK QO) X := by
  rw [evO, W_bind]; congr; funext x P; cases x <;> (first | rfl | (simp only [W_prf, WS_prf]; first | done | rfl))
theorem Wc_none : (evC .none ⟨sl, P⟩).W QB X = QB true P := by (first | rfl | (simp only [W_prf, WS_prf]; first | done | rfl))
theorem Wc_some {a : CE} : (evC (.some a) S).W QB X = (evE a S).W (truK QB) X := by rw [evC, W_trus]
def itK (QI : Bool × List Da → Po → Prop) (x : Da) (P : Po) : Prop := match itQ x with
  | some xs => QI (x.fz, xs) P
  | none => False
theorem itK_l {xs : List Da} : itK QI (.lst xs) P = QI (true, xs) P := by (first | rfl | (simp only [W_prf, WS_prf]; first | done | rfl))
theorem itK_t {xs : List Da} : itK QI (.tup xs) P = QI (true, xs) P := by (first | rfl | (simp only [W_prf, WS_prf]; first | done | rfl))
theorem itK_b {xs : List Da} : itK QI (.bor xs) P = QI (false, xs) P := by (first | rfl | (simp only [W_prf, WS_prf]; first | done | rfl))
theorem itK_s {l : List Nat} : itK QI (.str l) P = QI (true, l.map fun c => .str [c]) P := by (first | rfl | (simp only [W_prf, WS_prf]; first | done | rfl))
theorem Wi_seq {a : CE} : (evI (.seq a) S).W QI X = (evE a S).W (itK QI) X := by
  rw [evI, W_bind]; congr; funext x P; unfold itK; cases itQ x <;> (first | rfl | (simp only [W_prf, WS_prf]; first | done | rfl))
def rngK (QI : Bool × List Da → Po → Prop) (x : Da) (P : Po) : Prop := match x with
  | .int j => -(lim : Int) ≤ j ∧ j ≤ lim ∧ QI (true, rngL 0 j.toNat) P
  | _ => False
theorem rngK_i {j : Int} : rngK QI (.int j) P = (-(lim : Int) ≤ j ∧ j ≤ lim ∧ QI (true, rngL 0 j.toNat) P) := by (first | rfl | (simp only [W_prf, WS_prf]; first | done | rfl))
theorem Wi_rng {a : CE} : (evI (.rng a) S).W QI X = (evE a S).W (rngK QI) X := by
  rw [evI, W_bind]; congr; funext x P
  cases x with
  | int j =>
    show (if _ then _ else _ : Out _).W QI X = _
    by_cases c : -(lim : Int) ≤ j ∧ j ≤ lim
    · rw [if_pos c]; simp only [rngK, c.1, c.2, true_and]; (first | rfl | (simp only [W_prf, WS_prf]; first | done | rfl))
    · rw [if_neg c]; apply propext; exact ⟨fun h => h.prf.elim, fun h => (c ⟨h.1, h.2.1⟩).elim⟩
  | _ => (first | rfl | (simp only [W_prf, WS_prf]; first | done | rfl))
def rng2K (QI : Bool × List Da → Po → Prop) (x y : Da) (P : Po) : Prop := match x, y with
  | .int i, .int j => -(lim : Int) ≤ i ∧ i ≤ lim ∧ -(lim : Int) ≤ j ∧ j ≤ lim ∧ QI (true, rngL i (j - i).toNat) P
  | _, _ => False
theorem rng2K_i {i j : Int} : rng2K QI (.int i) (.int j) P = (-(lim : Int) ≤ i ∧ i ≤ lim ∧ -(lim : Int) ≤ j ∧ j ≤ lim ∧ QI (true, rngL i (j - i).toNat) P) := by (first | rfl | (simp only [W_prf, WS_prf]; first | done | rfl))
theorem Wi_rng2 {a b : CE} : (evI (.rng2 a b) S).W QI X = (evE a S).W (fun x P => (evE b (S.wp P)).W (fun y P2 => rng2K QI x y P2) X) X := by
  rw [evI, W_bind]; simp only [W_bind]; congr; funext x P; congr; funext y P2
  cases x with
  | int i => cases y with
    | int j =>
      show (if _ then _ else _ : Out _).W QI X = _
      by_cases c : -(lim : Int) ≤ i ∧ i ≤ lim ∧ -(lim : Int) ≤ j ∧ j ≤ lim
      · rw [if_pos c]; simp only [rng2K, c.1, c.2.1, c.2.2.1, c.2.2.2, true_and]; (first | rfl | (simp only [W_prf, WS_prf]; first | done | rfl))
      · rw [if_neg c]; apply propext; exact ⟨fun h => h.prf.elim, fun h => (c ⟨h.1, h.2.1, h.2.2.1, h.2.2.2.1⟩).elim⟩
    | _ => (first | rfl | (simp only [W_prf, WS_prf]; first | done | rfl))
  | _ => (first | rfl | (simp only [W_prf, WS_prf]; first | done | rfl))
def enmK (QI : Bool × List Da → Po → Prop) (x : Da) (P : Po) : Prop := match x.sq with
  | some xs => QI (x.fz, enmL 0 xs) P
  | none => False
theorem enmK_l {xs : List Da} : enmK QI (.lst xs) P = QI (true, enmL 0 xs) P := by (first | rfl | (simp only [W_prf, WS_prf]; first | done | rfl))
theorem enmK_t {xs : List Da} : enmK QI (.tup xs) P = QI (true, enmL 0 xs) P := by (first | rfl | (simp only [W_prf, WS_prf]; first | done | rfl))
theorem Wi_enm {a : CE} : (evI (.enm a) S).W QI X = (evE a S).W (enmK QI) X := by
  rw [evI, W_bind]; congr; funext x P; unfold enmK; cases x.sq <;> (first | rfl | (simp only [W_prf, WS_prf]; first | done | rfl))
def zipK (QI : Bool × List Da → Po → Prop) (x y : Da) (P : Po) : Prop := match x.ls, y.ls with
  | some xs, some ys => QI (x.fz && y.fz, zipL xs ys) P
  | _, _ => (match x, y with
    | .tup xs, .lst ys => QI (true, zipL xs ys) P
    | _, _ => False)
theorem zipK_l {xs ys : List Da} : zipK QI (.lst xs) (.lst ys) P = QI (true, zipL xs ys) P := by (first | rfl | (simp only [W_prf, WS_prf]; first | done | rfl))
theorem zipQ_W {x y : Da} {X : XP} : (zipQ x y P).W QI X = zipK QI x y P := by
  cases x <;> cases y <;> (first | rfl | (simp only [W_prf, WS_prf]; first | done | rfl))
theorem Wi_zip {a b : CE} : (evI (.zip a b) S).W QI X = (evE a S).W (fun x P => (evE b (S.wp P)).W (fun y P2 => zipK QI x y P2) X) X := by
  rw [evI, W_bind]; simp only [W_bind]; congr; funext x P; congr; funext y P2; exact zipQ_W
def exK (R : OutS → Prop) : XP := fun C fs ds P => R (.ex C fs ds P)
theorem Ws_asg {i : Nat} {e : CE} : (evS (.asg i e) S).W R = (evE e S).W (fun d P => d.fz = true ∧ R (.nx (setSl (S.wp P) i (.dat d)))) (exK R) := by
  rw [evS, WS_obind]; congr; funext d P
  by_cases c : d.fz = true
  · rw [if_pos c]; simp only [c, true_and]; (first | rfl | (simp only [W_prf, WS_prf]; first | done | rfl))
  · rw [if_neg c]; simp only [c, Bool.false_eq_true, false_and]; (first | rfl | (simp only [W_prf, WS_prf]; first | done | rfl))
def tgK (is : List Nat) (S : Ev) (R : OutS → Prop) (d : Da) (P : Po) : Prop := match bindTg is d (S.wp P) with
  | some S2 => R (.nx S2)
  | none => False
theorem Ws_asgT {is : List Nat} {e : CE} : (evS (.asgT is e) S).W R = (evE e S).W (tgK is S R) (exK R) := by
  rw [evS, WS_obind]; congr; funext d P; unfold tgK; cases bindTg is d (S.wp P) <;> (first | rfl | (simp only [W_prf, WS_prf]; first | done | rfl))
def lstK (is : List Nat) (S : Ev) (R : OutS → Prop) (d : Da) (P : Po) : Prop := match d with
  | .lst ds => ds.length = is.length ∧ R (.nx (setManyS (S.wp P) is ds))
  | _ => False
theorem lstK_l {is : List Nat} {ds : List Da} : lstK is S R (.lst ds) P = (ds.length = is.length ∧ R (.nx (setManyS (S.wp P) is ds))) := rfl
theorem Ws_asgL {is : List Nat} {e : CE} : (evS (.asgL is e) S).W R = (evE e S).W (lstK is S R) (exK R) := by
  rw [evS, WS_obind]; congr; funext d P
  cases d with
  | lst ds =>
    show (if _ then _ else _ : OutS).W R = (_ ∧ _)
    by_cases c : ds.length = is.length
    · rw [if_pos c]; simp only [c, true_and]; exact WS_prf
    · rw [if_neg c]; simp only [c, false_and]; exact WS_prf
  | _ => exact WS_prf
theorem Ws_par {is : List Nat} {es : CEs} : (evS (.par is es) S).W R = (evA es S).W (fun ds P => fzs ds = true ∧ ds.length = is.length ∧ R (.nx (setManyS (S.wp P) is ds))) (exK R) := by
  rw [evS, WS_obind]; congr; funext ds P; rw [fzs_eq]
  by_cases c : (ds.all Da.fz && decide (ds.length = is.length)) = true
  · rw [if_pos c]; rw [Bool.and_eq_true] at c; simp only [c.1, of_decide_eq_true c.2, true_and]; (first | rfl | (simp only [W_prf, WS_prf]; first | done | rfl))
  · rw [if_neg c]; rw [Bool.and_eq_true] at c
    apply propext
    exact ⟨fun h => h.prf.elim, fun ⟨h1, h2, _⟩ => (c ⟨h1, decide_eq_true h2⟩).elim⟩
theorem Ws_own {i : Nat} {es : CEs} : (evS (.own i es) S).W R = (evA es S).W (fun ds P => fzs ds = true ∧ ds.length ≤ 1000 ∧ R (.nx (setSl (S.wp P) i (.own ds)))) (exK R) := by
  rw [evS, WS_obind]; congr; funext ds P; rw [fzs_eq]
  by_cases c : (ds.all Da.fz && decide (ds.length ≤ 1000)) = true
  · rw [if_pos c]; rw [Bool.and_eq_true] at c; simp only [c.1, of_decide_eq_true c.2, true_and]; (first | rfl | (simp only [W_prf, WS_prf]; first | done | rfl))
  · rw [if_neg c]; rw [Bool.and_eq_true] at c
    apply propext
    exact ⟨fun h => h.prf.elim, fun ⟨h1, h2, _⟩ => (c ⟨h1, decide_eq_true h2⟩).elim⟩
def ownCK (i : Nat) (S : Ev) (R : OutS → Prop) (x y : Da) (P : Po) : Prop := match x.ls, y.ls with
  | some xs, some ys => xs.length + ys.length ≤ lim ∧ R (.nx (setSl (S.wp P) i (.own (xs ++ ys))))
  | _, _ => False
theorem ownCK_bl {i : Nat} {xs ys : List Da} : ownCK i S R (.bor xs) (.lst ys) P = (xs.length + ys.length ≤ lim ∧ R (.nx (setSl (S.wp P) i (.own (xs ++ ys))))) := by (first | rfl | (simp only [W_prf, WS_prf]; first | done | rfl))
theorem ownCK_ll {i : Nat} {xs ys : List Da} : ownCK i S R (.lst xs) (.lst ys) P = (xs.length + ys.length ≤ lim ∧ R (.nx (setSl (S.wp P) i (.own (xs ++ ys))))) := by (first | rfl | (simp only [W_prf, WS_prf]; first | done | rfl))
theorem Ws_ownC {i : Nat} {a b : CE} : (evS (.ownC i a b) S).W R = (evE a S).W (fun x P => (evE b (S.wp P)).W (fun y P2 => ownCK i S R x y P2) (exK R)) (exK R) := by
  rw [evS, WS_obind]; congr; funext x P; rw [WS_obind]; congr; funext y P2; unfold ownCK
  cases x.ls <;> cases y.ls <;> first | (first | rfl | (simp only [W_prf, WS_prf]; first | done | rfl)) | skip
  rename_i xs ys
  by_cases c : xs.length + ys.length ≤ lim
  · simp only [if_pos c, c, true_and]; (first | rfl | (simp only [W_prf, WS_prf]; first | done | rfl))
  · simp only [if_neg c, c, false_and]; (first | rfl | (simp only [W_prf, WS_prf]; first | done | rfl))
def ownLK (i : Nat) (S : Ev) (R : OutS → Prop) (d : Da) (P : Po) : Prop := match d with
  | .lst ds => R (.nx (setSl (S.wp P) i (.own ds)))
  | _ => False
theorem ownLK_l {i : Nat} {S : Ev} {R : OutS → Prop} {ds : List Da} {P : Po} : ownLK i S R (.lst ds) P = R (.nx (setSl (S.wp P) i (.own ds))) := rfl
theorem Ws_ownL {i : Nat} {e : CE} : (evS (.ownL i e) S).W R = (evE e S).W (ownLK i S R) (exK R) := by
  rw [evS, WS_obind]; congr; funext d P
  cases d <;> (unfold ownLK; first | rfl | (simp only [WS_prf]; first | done | rfl))
theorem Ws_parN {i j : Nat} {e : CE} : (evS (.parN i j e) S).W R = (evE e S).W (fun d P => d.fz = true ∧ R (.nx (setSl (setSl (S.wp P) i (.dat d)) j (.own [])))) (exK R) := by
  rw [evS, WS_obind]; congr; funext d P
  by_cases c : d.fz = true
  · rw [if_pos c]; simp only [c, true_and]; (first | rfl | (simp only [W_prf, WS_prf]; first | done | rfl))
  · rw [if_neg c]; simp only [c, Bool.false_eq_true, false_and]; (first | rfl | (simp only [W_prf, WS_prf]; first | done | rfl))
theorem Ws_parM {i j : Nat} {e : CE} : (evS (.parM i j e) S).W R = (evE e S).W (fun d P => d.fz = true ∧ R (.nx (setSl (setSl (S.wp P) j (.dat d)) i (.own [])))) (exK R) := by
  rw [evS, WS_obind]; congr; funext d P
  by_cases c : d.fz = true
  · rw [if_pos c]; simp only [c, true_and]; (first | rfl | (simp only [W_prf, WS_prf]; first | done | rfl))
  · rw [if_neg c]; simp only [c, Bool.false_eq_true, false_and]; (first | rfl | (simp only [W_prf, WS_prf]; first | done | rfl))
def appK (i : Nat) (e : CE) (S : Ev) (R : OutS → Prop) (o : Option Sv) : Prop := match o with
  | some (.own ds) => (evE e S).W (fun d P => d.fz = true ∧ ds.length < lim ∧ R (.nx (setSl (S.wp P) i (.own (ds ++ [d]))))) (exK R)
  | _ => False
theorem appK_o {i : Nat} {e : CE} {ds : List Da} : appK i e S R (some (.own ds)) = (evE e S).W (fun d P => d.fz = true ∧ ds.length < lim ∧ R (.nx (setSl (S.wp P) i (.own (ds ++ [d]))))) (exK R) := by (first | rfl | (simp only [W_prf, WS_prf]; first | done | rfl))
theorem Ws_app {i : Nat} {e : CE} : (evS (.app i e) ⟨sl, P⟩).W R = appK i e ⟨sl, P⟩ R sl[i]? := by
  rw [evS]; unfold appK; split
  · rename_i ds hds
    have hds' : sl[i]? = some (.own ds) := hds
    rw [hds', WS_obind]; dsimp only; congr; funext d P2
    by_cases c : (d.fz && decide (ds.length < lim)) = true
    · rw [if_pos c]; rw [Bool.and_eq_true] at c; simp only [c.1, of_decide_eq_true c.2, true_and]; (first | rfl | (simp only [W_prf, WS_prf]; first | done | rfl))
    · rw [if_neg c]; rw [Bool.and_eq_true] at c
      apply propext
      exact ⟨fun h => h.prf.elim, fun ⟨h1, h2, _⟩ => (c ⟨h1, decide_eq_true h2⟩).elim⟩
  · rename_i hno
    first
    | (split
       · rename_i ds hds
         exact absurd hds (hno ds)
       · (first | rfl | (simp only [W_prf, WS_prf]; first | done | rfl)))
    | (first | rfl | (simp only [W_prf, WS_prf]; first | done | rfl))
def extK (i : Nat) (ds : List Da) (S : Ev) (R : OutS → Prop) (d : Da) (P : Po) : Prop := match d with
  | .lst es => ds.length + es.length ≤ lim ∧ R (.nx (setSl (S.wp P) i (.own (ds ++ es))))
  | _ => False
theorem extK_l {i : Nat} {ds es : List Da} : extK i ds S R (.lst es) P = (ds.length + es.length ≤ lim ∧ R (.nx (setSl (S.wp P) i (.own (ds ++ es))))) := by (first | rfl | (simp only [W_prf, WS_prf]; first | done | rfl))
def extO (i : Nat) (e : CE) (S : Ev) (R : OutS → Prop) (o : Option Sv) : Prop := match o with
  | some (.own ds) => (evE e S).W (extK i ds S R) (exK R)
  | _ => False
theorem extO_o {i : Nat} {e : CE} {ds : List Da} : extO i e S R (some (.own ds)) = (evE e S).W (extK i ds S R) (exK R) := by (first | rfl | (simp only [W_prf, WS_prf]; first | done | rfl))
theorem Ws_ext {i : Nat} {e : CE} : (evS (.ext i e) ⟨sl, P⟩).W R = extO i e ⟨sl, P⟩ R sl[i]? := by
  rw [evS]; unfold extO; split
  · rename_i ds hds
    have hds' : sl[i]? = some (.own ds) := hds
    rw [hds', WS_obind]; dsimp only; congr; funext d P2
    cases d with
    | lst es =>
      show (if _ then _ else _ : OutS).W R = (_ ∧ _)
      by_cases c : ds.length + es.length ≤ lim
      · rw [if_pos c]; simp only [c, true_and]; (first | rfl | (simp only [W_prf, WS_prf]; first | done | rfl))
      · rw [if_neg c]; simp only [c, Bool.false_eq_true, false_and]; (first | rfl | (simp only [W_prf, WS_prf]; first | done | rfl))
    | _ => (first | rfl | (simp only [W_prf, WS_prf]; first | done | rfl))
  · rename_i hno
    first
    | (split
       · rename_i ds hds
         exact absurd hds (hno ds)
       · (first | rfl | (simp only [W_prf, WS_prf]; first | done | rfl)))
    | (first | rfl | (simp only [W_prf, WS_prf]; first | done | rfl))
theorem Ws_ife {t : CE} {a b : CSs} : (evS (.ife t a b) S).W R = (evE t S).W (truK fun k P => if k = true then (evSs a (S.wp P)).W R else (evSs b (S.wp P)).W R) (exK R) := by
  rw [evS, WS_obind, W_trus]; congr; funext k P; cases k <;> (first | rfl | (simp only [W_prf, WS_prf]; first | done | rfl))
theorem Ws_forr {tg : List Nat} {it : CI} {b : CSs} : (evS (.forr tg it b) S).W R = (evI it S).W (fun ds P => ds.1 = true ∧ (forL (fun d S => bindTg tg d S) (evSs b) ds.2 (S.wp P)).W R) (exK R) := by
  rw [evS, WS_obind]; congr; funext ds P
  by_cases c : ds.1 = true
  · rw [if_pos c]; simp only [c, true_and]
  · rw [if_neg c]; simp only [c, Bool.false_eq_true, false_and]; (first | rfl | (simp only [W_prf, WS_prf]; first | done | rfl))
theorem Ws_ret {e : CE} : (evS (.ret e) S).W R = (evE e S).W (fun d P => d.fz = true ∧ R (.ret d P)) (exK R) := by
  rw [evS, WS_obind]; congr; funext d P
  by_cases c : d.fz = true
  · rw [if_pos c]; simp only [c, true_and]; (first | rfl | (simp only [W_prf, WS_prf]; first | done | rfl))
  · rw [if_neg c]; simp only [c, Bool.false_eq_true, false_and]; (first | rfl | (simp only [W_prf, WS_prf]; first | done | rfl))
theorem Ws_retN : (evS .retN ⟨sl, P⟩).W R = R (.ret .non P) := by (first | rfl | (simp only [W_prf, WS_prf]; first | done | rfl))
theorem Ws_expr {e : CE} : (evS (.expr e) S).W R = (evE e S).W (fun _ P => R (.nx (S.wp P))) (exK R) := by rw [evS, WS_obind]; (first | rfl | (simp only [W_prf, WS_prf]; first | done | rfl))
theorem Ws_brk : (evS .brk S).W R = R (.bk S) := by (first | rfl | (simp only [W_prf, WS_prf]; first | done | rfl))
theorem Ws_cnt : (evS .cnt S).W R = R (.ct S) := by (first | rfl | (simp only [W_prf, WS_prf]; first | done | rfl))
theorem Ws_pas : (evS .pas S).W R = R (.nx S) := by (first | rfl | (simp only [W_prf, WS_prf]; first | done | rfl))
def setFK (C f : Str) (S : Ev) (R : OutS → Prop) (d : Da) (P : Po) : Prop := match (S.sl[(0:Nat)]? : Option Sv) with
  | some (.slf C' fs ds) => d.fz = true ∧ fs.length < 900 ∧ C' = C ∧ S.sl.tail.all Sv.nos = true ∧ R (.nx (setSl (S.wp P) 0 (.slf C (putD f d fs ds).1 (putD f d fs ds).2)))
  | _ => False
theorem setFK_s {C f C' : Str} {d : Da} {fs : List Str} {ds : List Da} {P P' : Po} {r : List Sv} : setFK C f ⟨.slf C' fs ds :: r, P⟩ R d P' = (d.fz = true ∧ fs.length < 900 ∧ C' = C ∧ r.all Sv.nos = true ∧ R (.nx ⟨.slf C (putD f d fs ds).1 (putD f d fs ds).2 :: r, P'⟩)) := by (first | rfl | (simp only [W_prf, WS_prf]; first | done | rfl))
theorem Ws_setF {C f : Str} {e : CE} : (evS (.setF C f e) S).W R = (evE e S).W (setFK C f S R) (exK R) := by
  rw [evS, WS_obind]; congr; funext d P; unfold setFK
  cases (S.sl[(0:Nat)]? : Option Sv) with
  | none => (first | rfl | (simp only [W_prf, WS_prf]; first | done | rfl))
  | some o => cases o with
    | slf C' fs ds =>
      show (if _ then _ else _ : OutS).W R = (_ ∧ _)
      by_cases c : (d.fz && decide (fs.length < 900) && decide (C' = C) && S.sl.tail.all Sv.nos) = true
      · rw [if_pos c]; simp only [Bool.and_eq_true, decide_eq_true_eq] at c
        simp only [c.1.1.1, c.1.1.2, c.1.2, c.2, true_and]; (first | rfl | (simp only [W_prf, WS_prf]; first | done | rfl))
      · rw [if_neg c]; simp only [Bool.and_eq_true, decide_eq_true_eq] at c
        apply propext
        exact ⟨fun h => h.prf.elim, fun ⟨h1, h2, h3, h4, _⟩ => (c ⟨⟨⟨h1, h2⟩, h3⟩, h4⟩).elim⟩
    | _ => (first | rfl | (simp only [W_prf, WS_prf]; first | done | rfl))
theorem Wss_nil : (evSs .nil S).W R = R (.nx S) := by (first | rfl | (simp only [W_prf, WS_prf]; first | done | rfl))
theorem Wss_cons {s : CS} {r : CSs} : (evSs (.cons s r) S).W R = (evS s S).W (seqK (evSs r) R) := by rw [evSs, WS_then]
def frzK (j : Nat) (r : CSs) (S : Ev) (R : OutS → Prop) (o : Option Sv) : Prop := match o with
  | some (.own ds) => (evSs r (setSl S j (.dat (.lst ds)))).W R
  | _ => False
theorem frzK_o {j : Nat} {r : CSs} {ds : List Da} : frzK j r S R (some (.own ds)) = (evSs r (setSl S j (.dat (.lst ds)))).W R := by (first | rfl | (simp only [W_prf, WS_prf]; first | done | rfl))
theorem Wss_frz {j : Nat} {r : CSs} : (evSs (.frz j r) ⟨sl, P⟩).W R = frzK j r ⟨sl, P⟩ R sl[j]? := by
  rw [evSs]; unfold frzK; dsimp only
  cases sl[j]? with
  | none => (first | rfl | (simp only [W_prf, WS_prf]; first | done | rfl))
  | some o => cases o <;> (first | rfl | (simp only [W_prf, WS_prf]; first | done | rfl))
end

theorem fz_n : Da.fz .non = true := rfl
theorem fz_b {b : Bool} : Da.fz (.bl b) = true := rfl
theorem fz_i {i : Int} : Da.fz (.int i) = true := rfl
theorem fz_s {l : List Nat} : Da.fz (.str l) = true := rfl
theorem fz_l {l : List Da} : Da.fz (.lst l) = true := rfl
theorem fz_t {l : List Da} : Da.fz (.tup l) = true := rfl
theorem fz_o {C : Str} {fs : List Str} {l : List Da} : Da.fz (.obj C fs l) = true := rfl
theorem fz_p : Da.fz .pool = true := rfl
theorem is_s {l : List Nat} : Da.isStr (.str l) = true := rfl
theorem lim_n : lim = 1000000 := rfl
theorem le_limT {n : Nat} (h : n ≤ 1000) : (n ≤ lim) = True := by rw [lim_n]; simp; omega
theorem lt_limT {n : Nat} (h : n ≤ 1000) : (n < lim) = True := by rw [lim_n]; simp; omega
def CS.body : CS → CSs
  | .forr _ _ b => b
  | _ => .nil
def CS.thn : CS → CSs
  | .ife _ a _ => a
  | _ => .nil
def CSs.at : CSs → Nat → CS
  | .cons s _, 0 => s
  | .frz _ _, 0 => .pas
  | .grp _ _ _ _, 0 => .pas
  | .nil, _ => .pas
  | .cons _ r, n + 1 => r.at n
  | .frz _ r, n + 1 => r.at n
  | .grp _ _ _ r, n + 1 => r.at n
def CSs.dr : CSs → Nat → CSs
  | b, 0 => b
  | .nil, _ + 1 => .nil
  | .cons _ r, n + 1 => r.dr n
  | .frz _ r, n + 1 => r.dr n
  | .grp _ _ _ r, n + 1 => r.dr n
section
variable {Q : Da → Po → Prop} {QI : Bool × List Da → Po → Prop} {X : XP} {P : Po}
theorem V_addi {i j : Int} : (Out.of (f2 .add (.int i) (.int j)) P).W Q X = Q (.int (i + j)) P := by (first | rfl | (simp only [W_prf, WS_prf]; first | done | rfl))
theorem V_subi {i j : Int} : (Out.of (f2 .sub (.int i) (.int j)) P).W Q X = Q (.int (i - j)) P := by (first | rfl | (simp only [W_prf, WS_prf]; first | done | rfl))
theorem W_ofif {α : Type} {c : Prop} [Decidable c] {a : α} {Q : α → Po → Prop} : (Out.of (if c then some a else none) P).W Q X = (c ∧ Q a P) := by
  by_cases h : c
  · rw [if_pos h]; simp only [h, true_and]; (first | rfl | (simp only [W_prf, WS_prf]; first | done | rfl))
  · rw [if_neg h]; simp only [h, false_and]; (first | rfl | (simp only [W_prf, WS_prf]; first | done | rfl))
theorem V_adds {a b : List Nat} : (Out.of (f2 .add (.str a) (.str b)) P).W Q X = (a.length + b.length ≤ lim ∧ Q (.str (a ++ b)) P) := W_ofif
theorem V_addt {a b : List Da} : (Out.of (f2 .add (.tup a) (.tup b)) P).W Q X = (a.length + b.length ≤ lim ∧ Q (.tup (a ++ b)) P) := W_ofif
theorem V_addl {a b : List Da} : (Out.of (f2 .add (.lst a) (.lst b)) P).W Q X = (a.length + b.length ≤ lim ∧ Q (.lst (a ++ b)) P) := W_ofif
theorem V_addb {a b : List Da} : (Out.of (f2 .add (.bor a) (.lst b)) P).W Q X = (a.length + b.length ≤ lim ∧ Q (.lst (a ++ b)) P) := W_ofif
theorem V_mull {a : List Da} {k : Int} : (Out.of (f2 .mul (.lst a) (.int k)) P).W Q X = ((0 ≤ k ∧ k ≤ 1000 ∧ a.length ≤ 1000) ∧ Q (.lst (List.replicate k.toNat a).flatten) P) := W_ofif
theorem V_mod {i j : Int} : (Out.of (f2 .mod (.int i) (.int j)) P).W Q X = (0 < j ∧ Q (.int (i % j)) P) := W_ofif
theorem V_lt {i j : Int} : (Out.of (f2 .lt (.int i) (.int j)) P).W Q X = Q (.bl (decide (i < j))) P := by (first | rfl | (simp only [W_prf, WS_prf]; first | done | rfl))
theorem V_le {i j : Int} : (Out.of (f2 .le (.int i) (.int j)) P).W Q X = Q (.bl (decide (i ≤ j))) P := by (first | rfl | (simp only [W_prf, WS_prf]; first | done | rfl))
theorem V_gt {i j : Int} : (Out.of (f2 .gt (.int i) (.int j)) P).W Q X = Q (.bl (decide (j < i))) P := by (first | rfl | (simp only [W_prf, WS_prf]; first | done | rfl))
theorem V_ge {i j : Int} : (Out.of (f2 .ge (.int i) (.int j)) P).W Q X = Q (.bl (decide (j ≤ i))) P := by (first | rfl | (simp only [W_prf, WS_prf]; first | done | rfl))
theorem V_eqi {i j : Int} : (Out.of (f2 .eq (.int i) (.int j)) P).W Q X = Q (.bl (i == j)) P := by show (Out.of (some _) P).W Q X = _; simp [W_some, W_ok, eqd]
theorem V_eqs {i j : List Nat} : (Out.of (f2 .eq (.str i) (.str j)) P).W Q X = Q (.bl (i == j)) P := by show (Out.of (some _) P).W Q X = _; simp [W_some, W_ok, eqd]
theorem V_nes {i j : List Nat} : (Out.of (f2 .ne (.str i) (.str j)) P).W Q X = Q (.bl (!(i == j))) P := by show (Out.of (some _) P).W Q X = _; simp [W_some, W_ok, eqd]
theorem V_nei {i j : Int} : (Out.of (f2 .ne (.int i) (.int j)) P).W Q X = Q (.bl (!(i == j))) P := by show (Out.of (some _) P).W Q X = _; simp [W_some, W_ok, eqd]
theorem V_eqb {i j : Bool} : (Out.of (f2 .eq (.bl i) (.bl j)) P).W Q X = Q (.bl (i == j)) P := by show (Out.of (some _) P).W Q X = _; simp [W_some, W_ok, eqd]
theorem V_inc {c : Nat} {b : List Nat} : (Out.of (f2 .inn (.str [c]) (.str b)) P).W Q X = Q (.bl (decide (c ∈ b))) P := by (first | rfl | (simp only [W_prf, WS_prf]; first | done | rfl))
theorem V_isnn : (Out.of (f2 .is .non .non) P).W Q X = Q (.bl true) P := by (first | rfl | (simp only [W_prf, WS_prf]; first | done | rfl))
theorem V_istn {xs : List Da} : (Out.of (f2 .is (.tup xs) .non) P).W Q X = Q (.bl false) P := by (first | rfl | (simp only [W_prf, WS_prf]; first | done | rfl))
theorem V_ison {C : Str} {fs : List Str} {ds : List Da} : (Out.of (f2 .is (.obj C fs ds) .non) P).W Q X = Q (.bl false) P := by (first | rfl | (simp only [W_prf, WS_prf]; first | done | rfl))
theorem V_isnb {a b : Bool} : (Out.of (f2 .isn (.bl a) (.bl b)) P).W Q X = Q (.bl (!decide (a = b))) P := by (first | rfl | (simp only [W_prf, WS_prf]; first | done | rfl))
theorem V_lenl {xs : List Da} : (Out.of (f1 .len (.lst xs)) P).W Q X = Q (.int xs.length) P := by (first | rfl | (simp only [W_prf, WS_prf]; first | done | rfl))
theorem V_lent {xs : List Da} : (Out.of (f1 .len (.tup xs)) P).W Q X = Q (.int xs.length) P := by (first | rfl | (simp only [W_prf, WS_prf]; first | done | rfl))
theorem V_lens {l : List Nat} : (Out.of (f1 .len (.str l)) P).W Q X = (l.length ≤ lim ∧ Q (.int l.length) P) := W_ofif
theorem V_tupl {xs : List Da} : (Out.of (f1 .tuple (.lst xs)) P).W Q X = Q (.tup xs) P := by (first | rfl | (simp only [W_prf, WS_prf]; first | done | rfl))
theorem V_tupt {xs : List Da} : (Out.of (f1 .tuple (.tup xs)) P).W Q X = Q (.tup xs) P := by (first | rfl | (simp only [W_prf, WS_prf]; first | done | rfl))
theorem V_lstl {xs : List Da} : (Out.of (f1 .list (.lst xs)) P).W Q X = Q (.lst xs) P := by (first | rfl | (simp only [W_prf, WS_prf]; first | done | rfl))
theorem V_stri {i : Int} : (Out.of (f1 .str (.int i)) P).W Q X = (intQ i = true ∧ Q (.str (toString i : Str).cps.toList) P) := W_ofif
def rOk (d : Da) : Prop := (d.pr 20 && d.small && decide ((shown d).length ≤ lim)) = true
theorem V_repr_l {l : List Da} : (Out.of (f1 .repr (.lst l)) P).W Q X = (rOk (.lst l) ∧ Q (.str (shown (.lst l))) P) := W_ofif
theorem V_inti {i : Int} : (Out.of (f1 .int (.int i)) P).W Q X = Q (.int i) P := by (first | rfl | (simp only [W_prf, WS_prf]; first | done | rfl))
theorem V_ixl {xs : List Da} {i : Int} : (Out.of (ixQ (.lst xs) (.int i)) P).W Q X = (Out.of (atI xs i) P).W Q X := by (first | rfl | (simp only [W_prf, WS_prf]; first | done | rfl))
theorem V_ixb {xs : List Da} {i : Int} : (Out.of (ixQ (.bor xs) (.int i)) P).W Q X = (Out.of (atI xs i) P).W Q X := by (first | rfl | (simp only [W_prf, WS_prf]; first | done | rfl))
theorem V_ixt {xs : List Da} {i : Int} : (Out.of (ixQ (.tup xs) (.int i)) P).W Q X = (Out.of (atI xs i) P).W Q X := by (first | rfl | (simp only [W_prf, WS_prf]; first | done | rfl))
theorem ixN_lt {n k : Nat} (h : k < n) : ixN n (k : Int) = some k := by
  unfold ixN
  rw [if_pos (by omega), if_pos (by omega)]
  simp
theorem atI_nat {α : Type} {xs : List α} {k : Nat} (h : k < xs.length) : atI xs (k : Int) = some xs[k] := by
  unfold atI
  rw [ixN_lt h]
  simp [h]
theorem at0 {α : Type} {x : α} {xs : List α} : atI (x :: xs) 0 = some x := atI_nat (k := 0) (by simp)
theorem at1 {α : Type} {x y : α} {xs : List α} : atI (x :: y :: xs) 1 = some y := atI_nat (k := 1) (by simp)
theorem at2 {α : Type} {x y z : α} {xs : List α} : atI (x :: y :: z :: xs) 2 = some z := atI_nat (k := 2) (by simp)
theorem at3 {α : Type} {x y z u : α} {xs : List α} : atI (x :: y :: z :: u :: xs) 3 = some u := atI_nat (k := 3) (by simp)
theorem at4 {α : Type} {x y z u v : α} {xs : List α} : atI (x :: y :: z :: u :: v :: xs) 4 = some v := atI_nat (k := 4) (by simp)
theorem V_sll {xs : List Da} {lo hi : Option Int} : (Out.of (slQ (.lst xs) lo hi) P).W Q X = Q (.lst (cutL xs lo hi)) P := by (first | rfl | (simp only [W_prf, WS_prf]; first | done | rfl))
theorem V_slt {xs : List Da} {lo hi : Option Int} : (Out.of (slQ (.tup xs) lo hi) P).W Q X = Q (.tup (cutL xs lo hi)) P := by (first | rfl | (simp only [W_prf, WS_prf]; first | done | rfl))
theorem V_sls {l : List Nat} {lo hi : Option Int} : (Out.of (slQ (.str l) lo hi) P).W Q X = (l.length ≤ lim ∧ Q (.str (cutL l lo hi)) P) := W_ofif
theorem V_rev {xs : List Da} : (Out.of ((Da.ls (.lst xs)).map fun ys => .lst ys.reverse) P).W Q X = Q (.lst xs.reverse) P := by (first | rfl | (simp only [W_prf, WS_prf]; first | done | rfl))
theorem strs_map : ∀ ls : List (List Nat), strsQ (ls.map Da.str) = some ls
  | [] => rfl
  | l :: ls => by show (strsQ (ls.map Da.str)).map (l :: ·) = _; rw [strs_map ls]; rfl
theorem V_split {a b : List Nat} : (Out.of (fm .split (.str a) (.str b)) P).W Q X = ((b ≠ [] ∧ b.all (· < 256) ∧ a.length + 2 ≤ lim) ∧ Q (.lst ((TL.spl b 0 [] a).map .str)) P) := W_ofif
theorem V_joinl {a : List Nat} {ls : List (List Nat)} : (Out.of (fm .join (.str a) (.lst (ls.map Da.str))) P).W Q X = (((TL.joinL a ls).length ≤ lim ∧ a.length ≤ lim) ∧ Q (.str (TL.joinL a ls)) P) := by
  show (Out.of ((strsQ (ls.map Da.str)).bind _) P).W Q X = _
  rw [strs_map]; exact W_ofif
theorem V_joint {a : List Nat} {ls : List (List Nat)} : (Out.of (fm .join (.str a) (.tup (ls.map Da.str))) P).W Q X = (((TL.joinL a ls).length ≤ lim ∧ a.length ≤ lim) ∧ Q (.str (TL.joinL a ls)) P) := by
  show (Out.of ((strsQ (ls.map Da.str)).bind _) P).W Q X = _
  rw [strs_map]; exact W_ofif
def parD (b a : List Nat) : Da := match TL.par b [] a with
  | some (u, v) => .tup [.str u, .str b, .str v]
  | none => .tup [.str a, .str [], .str []]
theorem V_part {a b : List Nat} : (Out.of (fm .partition (.str a) (.str b)) P).W Q X = ((b ≠ [] ∧ a.length ≤ lim) ∧ Q (parD b a) P) := W_ofif
theorem V_starts {a b : List Nat} : (Out.of (fm .startswith (.str a) (.str b)) P).W Q X = Q (.bl (TL.pre b a)) P := by (first | rfl | (simp only [W_prf, WS_prf]; first | done | rfl))
theorem V_rmpre {a b : List Nat} : (Out.of (fm .removeprefix (.str a) (.str b)) P).W Q X = (a.length ≤ lim ∧ Q (.str (if TL.pre b a then a.drop b.length else a)) P) := W_ofif
end
section
theorem bindT_2 {i j : Nat} {x y : Da} {S : Ev} (h : fzs [x, y] = true) : bindTg [i, j] (.tup [x, y]) S = some (setSl (setSl S i (.dat x)) j (.dat y)) := by
  simp only [fzs, Bool.and_true, Bool.and_eq_true] at h
  show (if _ then _ else _) = _
  rw [if_pos (by simp [h])]
theorem tgK_2 {i j : Nat} {x y : Da} {S : Ev} {R : OutS → Prop} {P : Po} : tgK [i, j] S R (.tup [x, y]) P = (fzs [x, y] = true ∧ R (.nx (setSl (setSl (S.wp P) i (.dat x)) j (.dat y)))) := by
  unfold tgK
  by_cases h : fzs [x, y] = true
  · rw [bindT_2 h]; simp only [h, true_and]
  · have : bindTg [i, j] (.tup [x, y]) (S.wp P) = none := by
      show (if _ then _ else _) = _
      rw [if_neg]
      intro c
      apply h
      simpa [fzs, Bool.and_assoc] using c
    rw [this]; simp only [h, Bool.false_eq_true, false_and]
theorem bindT_3 {i j k : Nat} {x y z : Da} {S : Ev} (h : fzs [x, y, z] = true) : bindTg [i, j, k] (.tup [x, y, z]) S = some (setSl (setSl (setSl S i (.dat x)) j (.dat y)) k (.dat z)) := by
  simp only [fzs, Bool.and_true, Bool.and_eq_true] at h
  show (if _ then _ else _) = _
  rw [if_pos (by simp [h])]
theorem tgK_3 {i j k : Nat} {x y z : Da} {S : Ev} {R : OutS → Prop} {P : Po} : tgK [i, j, k] S R (.tup [x, y, z]) P = (fzs [x, y, z] = true ∧ R (.nx (setSl (setSl (setSl (S.wp P) i (.dat x)) j (.dat y)) k (.dat z)))) := by
  unfold tgK
  by_cases h : fzs [x, y, z] = true
  · rw [bindT_3 h]; simp only [h, true_and]
  · have : bindTg [i, j, k] (.tup [x, y, z]) (S.wp P) = none := by
      show (if _ then _ else _) = _
      rw [if_neg]
      intro c
      apply h
      simpa [fzs, Bool.and_assoc] using c
    rw [this]; simp only [h, Bool.false_eq_true, false_and]
theorem bindT_4 {i j k l : Nat} {x y z u : Da} {S : Ev} (h : fzs [x, y, z, u] = true) : bindTg [i, j, k, l] (.tup [x, y, z, u]) S = some (setSl (setSl (setSl (setSl S i (.dat x)) j (.dat y)) k (.dat z)) l (.dat u)) := by
  simp only [fzs, Bool.and_true, Bool.and_eq_true] at h
  show (if _ then _ else _) = _
  rw [if_pos (by simp [h])]
theorem tgK_4 {i j k l : Nat} {x y z u : Da} {S : Ev} {R : OutS → Prop} {P : Po} : tgK [i, j, k, l] S R (.tup [x, y, z, u]) P = (fzs [x, y, z, u] = true ∧ R (.nx (setSl (setSl (setSl (setSl (S.wp P) i (.dat x)) j (.dat y)) k (.dat z)) l (.dat u)))) := by
  unfold tgK
  by_cases h : fzs [x, y, z, u] = true
  · rw [bindT_4 h]; simp only [h, true_and]
  · have : bindTg [i, j, k, l] (.tup [x, y, z, u]) (S.wp P) = none := by
      show (if _ then _ else _) = _
      rw [if_neg]
      intro c
      apply h
      simpa [fzs, Bool.and_assoc] using c
    rw [this]; simp only [h, Bool.false_eq_true, false_and]
theorem bindT_5 {i j k l m : Nat} {x y z u v : Da} {S : Ev} (h : fzs [x, y, z, u, v] = true) : bindTg [i, j, k, l, m] (.tup [x, y, z, u, v]) S = some (setSl (setSl (setSl (setSl (setSl S i (.dat x)) j (.dat y)) k (.dat z)) l (.dat u)) m (.dat v)) := by
  simp only [fzs, Bool.and_true, Bool.and_eq_true] at h
  show (if _ then _ else _) = _
  rw [if_pos (by simp [h])]
theorem tgK_5 {i j k l m : Nat} {x y z u v : Da} {S : Ev} {R : OutS → Prop} {P : Po} : tgK [i, j, k, l, m] S R (.tup [x, y, z, u, v]) P = (fzs [x, y, z, u, v] = true ∧ R (.nx (setSl (setSl (setSl (setSl (setSl (S.wp P) i (.dat x)) j (.dat y)) k (.dat z)) l (.dat u)) m (.dat v)))) := by
  unfold tgK
  by_cases h : fzs [x, y, z, u, v] = true
  · rw [bindT_5 h]; simp only [h, true_and]
  · have : bindTg [i, j, k, l, m] (.tup [x, y, z, u, v]) (S.wp P) = none := by
      show (if _ then _ else _) = _
      rw [if_neg]
      intro c
      apply h
      simpa [fzs, Bool.and_assoc] using c
    rw [this]; simp only [h, Bool.false_eq_true, false_and]
end
section
variable {Q : Da → Po → Prop} {X : XP} {P : Po} {R : OutS → Prop}
def endKI (Q : Da → Po → Prop) (X : XP) : OutS → Prop := fun o => (endI o).W Q X
theorem endKI_nx {C : Str} {fs : List Str} {ds : List Da} {r : List Sv} : endKI Q X (.nx ⟨.slf C fs ds :: r, P⟩) = Q (.obj C fs ds) P := W_prf
theorem isi_of {d : Da} {T : Ty} {b : Bool} (h : isiQ d T = some b) : (Out.of ((isiQ d T).map .bl) P).W Q X = Q (.bl b) P := by rw [h]; exact W_prf
theorem V_isi_ss {l : List Nat} : (Out.of ((isiQ (.str l) (.b "str")).map .bl) P).W Q X = Q (.bl true) P := isi_of rfl
theorem V_isi_tt {l : List Da} : (Out.of ((isiQ (.tup l) (.b "tuple")).map .bl) P).W Q X = Q (.bl true) P := isi_of rfl
theorem V_isi_ii {i : Int} : (Out.of ((isiQ (.int i) (.b "int")).map .bl) P).W Q X = Q (.bl true) P := isi_of rfl
theorem V_isi_ib {i : Int} : (Out.of ((isiQ (.int i) (.b "bool")).map .bl) P).W Q X = Q (.bl false) P := isi_of rfl
def Da.pl : Da → Bool
  | .non => true | .bl _ => true | .int _ => true | .str _ => true | .lst _ => true | .tup _ => true | .dic0 => true
  | _ => false
def Da.isTup : Da → Bool
  | .tup _ => true
  | _ => false
theorem V_isi_oo {C : Str} {fs : List Str} {ds : List Da} : (Out.of ((isiQ (.obj C fs ds) (.c C)).map .bl) P).W Q X = Q (.bl true) P := isi_of (by simp [isiQ, tyQ])
theorem V_isi_so {C : Str} {l : List Nat} : (Out.of ((isiQ (.str l) (.c C)).map .bl) P).W Q X = Q (.bl false) P := isi_of rfl
theorem V_isi_to {C : Str} {l : List Da} : (Out.of ((isiQ (.tup l) (.c C)).map .bl) P).W Q X = Q (.bl false) P := isi_of rfl
end
end DL
namespace DL.Law
open PySem PySem.Spec PyProof.Rows L2 DL
local macro_rules | `(tactic| simp_arith only [$ls,*]) => `(tactic| simp only [We_var, varW_dat, varW_own, We_glb, We_con, We_b2, We_chn, chnK_b, We_neg, negK_i, truK_b, truK_n, truK_l, truK_t, W_trus, We_not, We_and, andK_b, andK_n, We_or, orK_b, We_ite, We_call, We_b1, We_bi, We_isi, We_mt, We_ix, We_sl, We_rev, We_lst, We_tup, We_xa, We_mth, We_lc, We_fst, Wa_nil, Wa_cons, Wa_star, starK_l, starK_t, Wp_nil, Wp_cons, fmtK_s, fmtK_i, Wo_none, Wo_some, optK_i, Wc_none, Wc_some, Wi_seq, Wi_rng, rngK_i, Wi_rng2, rng2K_i, Wi_enm, enmK_l, enmK_t, Wi_zip, zipK_l, Ws_asg, Ws_asgT, Ws_asgL, lstK_l, tgK_2, tgK_3, tgK_4, tgK_5, Ws_par, Ws_own, Ws_ownC, ownCK_bl, ownCK_ll, Ws_ownL, ownLK_l, V_sls, Ws_parN, Ws_parM, Ws_app, appK_o, Ws_ext, extO_o, extK_l, Ws_ife, Ws_forr, Ws_ret, Ws_retN, Ws_expr, Ws_brk, Ws_cnt, Ws_pas, Ws_setF, setFK_s, frzK_o, Wss_nil, seqK_nx, seqK_ret, seqK_bk, seqK_ct, seqK_ex, endK_nx, endK_ret, endK_ex, loopK_nx, loopK_ct, loopK_bk, loopK_ret, loopK_ex, wp_mk, po_mk, setSl_mk, setManyS, W_ok, W_some, V_addi, V_subi, V_adds, V_addt, V_addl, V_addb, V_mull, V_mod, V_lt, V_le, V_gt, V_ge, V_eqi, V_eqs, V_nes, V_nei, V_eqb, V_inc, V_isnn, V_istn, V_ison, V_isnb, V_lenl, V_lent, V_lens, V_tupl, V_tupt, V_lstl, V_stri, V_inti, V_ixl, V_ixb, V_ixt, itK_l, itK_t, itK_b, itK_s, V_sll, V_slt, V_rev, V_split, V_joinl, V_joint, V_part, V_starts, V_rmpre, V_isi_ss, V_isi_tt, V_isi_ii, V_isi_ib, V_isi_oo, V_isi_so, V_isi_to, endKI_nx, at0, at1, at2, at3, at4, List.getElem?_cons_zero, List.getElem?_cons_succ, List.set_cons_zero, List.set_cons_succ, fzs, fz_n, fz_b, fz_i, fz_s, fz_l, fz_t, fz_o, fz_p, is_s, Bool.and_true, Bool.true_and, Bool.and_self, true_and, and_true, List.length_cons, List.length_nil, Nat.zero_add, Nat.reduceAdd, Nat.reduceLeDiff, Nat.reduceLT, le_limT, lt_limT, List.cons_append, List.nil_append, $ls,*])
set_option hygiene false in
local macro_rules | `(tactic| simp_arith! only [$ls,*]) => `(tactic| simp_arith only [eW, List.map_cons, List.map_nil, V_st0, V_st1, List.cons_beq_cons, nbc, cbn, Nat.reduceBEq, Bool.false_and, Bool.and_false, Bool.true_and, BEq.rfl, Bool.false_eq_true, if_false, if_true, oD_fz, staD_fz, Bool.false_or, Bool.or_false, Bool.true_or, $ls,*])
def PI (n : Nat) : Po → Prop
  | some (a, b, c) => 0 ≤ a ∧ a < 2147483563 ∧ 0 ≤ b ∧ 0 ≤ c ∧ c + n ≤ 1000000
  | none => False
theorem PI.le {n m : Nat} {P : Po} (h : PI n P) (hm : m ≤ n) : PI m P := by
  cases P with
  | none => exact h
  | some t =>
    obtain ⟨a, b, c⟩ := t
    obtain ⟨h1, h2, h3, h4, h5⟩ := h
    exact ⟨h1, h2, h3, h4, by omega⟩
theorem draw_W {m : Int} {n : Nat} {P : Po} {X : XP} (h0 : 0 < m) (h1 : m ≤ 100000) (h : PI (n + 1) P) : (f_law_draw [.pool, .int m] P).W (fun d P' => ∃ k : Nat, d = .int k ∧ (k : Int) < m ∧ PI n P') X := by
  cases P with
  | none => exact (show False from h).elim
  | some t =>
    obtain ⟨a, b, c⟩ := t
    obtain ⟨g1, g2, g3, g4, g5⟩ := h
    have hc : 0 < m ∧ m ≤ 100000 ∧ 0 ≤ a ∧ a < 2147483563 ∧ 0 ≤ b ∧ 0 ≤ c ∧ c < 1000000 := ⟨h0, h1, g1, g2, g3, g4, by omega⟩
    show (if 0 < m ∧ m ≤ 100000 ∧ 0 ≤ a ∧ a < 2147483563 ∧ 0 ≤ b ∧ 0 ≤ c ∧ c < 1000000 then _ else Out.no : Out Da).W _ _
    rw [if_pos hc]
    have md : ∀ x : Int, ∃ k : Nat, x % m = (k : Int) ∧ (k : Int) < m := fun x => ⟨(x % m).toNat, by rw [Int.toNat_of_nonneg (Int.emod_nonneg _ (by omega))], by rw [Int.toNat_of_nonneg (Int.emod_nonneg _ (by omega))]; exact Int.emod_lt_of_pos _ h0⟩
    by_cases hb : 0 < b
    · rw [if_pos hb]
      obtain ⟨k, e1, e2⟩ := md b
      exact ⟨k, by rw [e1], e2, g1, g2, Int.ediv_nonneg g3 (by omega), by omega, by omega⟩
    · rw [if_neg hb]
      obtain ⟨k, e1, e2⟩ := md ((a * 39373 + (c + 1) * (c + 1) * 7919 + 271) % 2147483563 / 97 + (a * 39373 + (c + 1) * (c + 1) * 7919 + 271) % 2147483563 / 65521)
      exact ⟨k, by rw [e1], e2, Int.emod_nonneg _ (by decide), Int.emod_lt_of_pos _ (by decide), g3, by omega, by omega⟩
theorem pick_W {xs : List Da} {n : Nat} {P : Po} {X : XP} (h0 : xs ≠ []) (h1 : xs.length ≤ 1000) (hf : ∀ x ∈ xs, x.fz = true) (h : PI (n + 1) P) : (f_law_pick [.pool, .lst xs] P).W (fun d P' => d ∈ xs ∧ PI n P') X := by
  have hp : 0 < xs.length := List.length_pos_iff.mpr h0
  show (endF (evSs ir_law_pick ⟨[.dat .pool, .dat (.lst xs)], P⟩)).W _ _
  rw [W_endF, ir_law_pick]
  (rw [Wss_cons]; simp_arith only [])
  refine (draw_W (by omega) (by omega) h).mono ?_
  rintro _ P' ⟨k, rfl, hk, hP⟩
  have hk' : k < xs.length := by omega
  simp_arith only [atI_nat hk']
  exact ⟨hf _ (List.getElem_mem ..), List.getElem_mem .., hP⟩

def oddL : List Da := [.non, .bl true, .bl false, .int 0, .int 1, .int (-1), .int (10 ^ 39), .int (-(10 ^ 38)), .str [], .str [102, 114, 101, 101], .str [97, 32, 97, 110, 100, 32, 98], .tup [], .lst [], .dic0, .tup [.int 1, .non], .lst [.lst [], .tup []], .dca,
  .tup [.str [99, 97, 108, 108], .int 0, .tup [.int 1]], .tup [.bl true, .int 1, .str [49]], .str [108, 105, 110, 101, 115, 32, 49, 10, 115, 116, 97, 110, 100, 32, 102, 114, 101, 101, 32, 113, 117, 105, 101, 116], .tup [.str [105, 110], .tup [.non, .tup [.str [120], .lst [.int 2]]]]]
theorem odd_eq (P : Po) : f_law_odd [.pool] P = endF (evSs (.cons (.ret (.call "" (fun _ P => f_law_pick [.pool, .lst oddL] P) .nil)) .nil) ⟨[], P⟩) := by kernel_rfl
theorem odd_W {n : Nat} {P : Po} {X : XP} (h : PI (n + 1) P) : (f_law_odd [.pool] P).W (fun d P' => d ∈ oddL ∧ PI n P') X := by
  rw [odd_eq, W_endF]
  (rw [Wss_cons]; simp_arith only [])
  refine (pick_W (xs := oddL) (by decide) (by decide) (by decide) h).mono ?_
  rintro d P' ⟨hd, hP⟩
  have hf : d.fz = true := (by decide : ∀ x ∈ oddL, x.fz = true) d hd
  simp_arith only [hf]
  exact ⟨hd, hP⟩
def eL (x y : Da) : List Da := [.exv "InvalidNumber" ["given"] [x], .exv "InvalidText" ["given"] [x], .exv "InvalidName" ["given"] [x], .exv "InvalidWish" ["given"] [x], .exv "InvalidIndex" ["given"] [x], .exv "InvalidPicture" ["given"] [x], .exv "InvalidEvent" ["given"] [x], .exv "InvalidHearing" ["given"] [x], .exv "NotAHouse" ["given"] [x], .exv "InvalidStands" ["index"] [x], .exv "InvalidKeys" ["index"] [x], .exv "InvalidRows" ["index"] [x], .exv "WrongLine" ["index"] [x], .exv "InvalidWeaving" ["index"] [x], .exv "UnknownName" ["given"] [x], .exv "InUse" ["index"] [x], .exv "NothingToUndo" [] [], .exv "TooMany" ["most"] [x], .exv "Broken" ["shown", "index"] [y, x]]
def dueL (x y : Da) : List Da := (List.replicate 16 [x]).flatten ++ [.non, x, .tup [x, y]]
theorem jump (x y : Da) (P : Po) : evSs (ir_law_right.dr 7) ⟨[.dat .pool, .dat (.lst (eL x y)), .un, .un, .un, .un, .dat x, .dat y, .un, .un], P⟩ = evSs (ir_law_right.dr 10) ⟨[.dat .pool, .dat (.lst (eL x y)), .dat (.lst ((List.range 19).map fun _ => .bl false)), .un, .un, .un, .dat x, .dat y, .un, .un], P⟩ := by kernel_rfl
def rokB (d : Da) : Bool := d.pr 20 && d.small && ((d.py 20).leavesShort 60 && decide ((d.py 20).bulk ≤ 10000))
theorem rok_of {d : Da} (h : rokB d = true) : rOk d := by
  unfold rokB at h
  simp only [Bool.and_eq_true, decide_eq_true_eq] at h
  have h1 := PyData.shown_le_bulk 60 (by decide) _ h.2.1
  have h2 : (shown d).length ≤ lim := by
    have e : (shown d).length = (PyData.shown (d.py 20)).length := by
      have z := sg_len (shown d)
      unfold shown at z ⊢
      rw [sg_tl] at z
      exact z.symm
    rw [e]
    have : (60 + 2) * (d.py 20).bulk ≤ 62 * 10000 := Nat.mul_le_mul_left _ h.2.2
    rw [lim_n]
    omega
  show (d.pr 20 && d.small && decide ((shown d).length ≤ lim)) = true
  simp only [Bool.and_eq_true, decide_eq_true_eq]
  exact ⟨h.1, h2⟩
def okB (x : Da) : Bool := x.fz && ((x.pr 19 && x.pr 18) && (x.small && (((x.py 19).leavesShort 60 && (x.py 18).leavesShort 60) && (decide ((x.py 19).bulk ≤ 100) && decide ((x.py 18).bulk ≤ 100)))))
theorem oddB : oddL.all okB = true := by kernel_rfl
theorem rok17 {x : Da} (h : okB x = true) : rokB (.lst (List.replicate 17 [x]).flatten) = true := by
  unfold okB at h
  simp only [Bool.and_eq_true, decide_eq_true_eq] at h
  obtain ⟨_, ⟨h1, _⟩, h2, ⟨h3, _⟩, h4, _⟩ := h
  have e : (List.replicate 17 [x]).flatten = [x, x, x, x, x, x, x, x, x, x, x, x, x, x, x, x, x] := rfl
  rw [e]
  unfold rokB
  simp only [Da.pr, Da.small, smalls, Da.py, PyData.leavesShort, PyData.leavesShortAll, PyData.bulk, PyData.bulkAll, List.all_cons, List.all_nil, List.map_cons, List.map_nil, h1, h2, h3, Bool.and_true, Bool.true_and, decide_eq_true_eq]
  omega
theorem rok2 {x y : Da} (h : okB x = true) (g : okB y = true) : rokB (.lst [y, x]) = true := by
  unfold okB at h g
  simp only [Bool.and_eq_true, decide_eq_true_eq] at h g
  obtain ⟨_, ⟨h1, _⟩, h2, ⟨h3, _⟩, h4, _⟩ := h
  obtain ⟨_, ⟨g1, _⟩, g2, ⟨g3, _⟩, g4, _⟩ := g
  unfold rokB
  simp only [Da.pr, Da.small, smalls, Da.py, PyData.leavesShort, PyData.leavesShortAll, PyData.bulk, PyData.bulkAll, List.all_cons, List.all_nil, List.map_cons, List.map_nil, h1, h2, h3, g1, g2, g3, Bool.and_true, Bool.true_and, decide_eq_true_eq]
  omega
theorem rokD {x y : Da} (h : okB x = true) (g : okB y = true) : rokB (.lst (dueL x y)) = true := by
  unfold okB at h g
  simp only [Bool.and_eq_true, decide_eq_true_eq] at h g
  obtain ⟨_, ⟨h1, h1'⟩, h2, ⟨h3, h3'⟩, h4, h4'⟩ := h
  obtain ⟨_, ⟨g1, g1'⟩, g2, ⟨g3, g3'⟩, g4, g4'⟩ := g
  have e : dueL x y = [x, x, x, x, x, x, x, x, x, x, x, x, x, x, x, x, .non, x, .tup [x, y]] := rfl
  rw [e]
  unfold rokB
  simp only [Da.pr, Da.small, smalls, Da.py, PyData.leavesShort, PyData.leavesShortAll, PyData.bulk, PyData.bulkAll, List.all_cons, List.all_nil, List.map_cons, List.map_nil, h1, h2, h3, h1', h3', g1, g2, g3, g1', g3', Bool.and_true, Bool.true_and, decide_eq_true_eq]
  omega
theorem X_fl1 {Q : Da → Po → Prop} {X : XP} {s : Scope → Expr → Option (List Expr)} {C f : Str} {x : Da} {P : Po} (h1 : xvIn C = true) (h2 : f ∈ (["given", "index", "most", "shown"] : List Str)) : (xoQ (.hand s) (fFlV f) [.exv C [f] [x]] P).W Q X = Q x P := by
  have e : xoQ (.hand s) (fFlV f) [.exv C [f] [x]] P = .ok x P := by
    show (if (xvIn C && decide (f ∈ (["given", "index", "most", "shown"] : List Str))) = true then Out.of (([f].zip [x]).lookup f) P else .no) = _
    rw [if_pos (by simp [h1, h2])]
    have e2 : ([f].zip [x]).lookup f = some x := by simp [List.lookup]
    rw [e2]
    rfl
  rw [e, W_ok]
theorem X_flB {Q : Da → Po → Prop} {X : XP} {s : Scope → Expr → Option (List Expr)} {a b : Da} {P : Po} : (xoQ (.hand s) (fFlV "shown") [.exv "Broken" ["shown", "index"] [a, b]] P).W Q X = Q a P := by
  have e : xoQ (.hand s) (fFlV "shown") [.exv "Broken" ["shown", "index"] [a, b]] P = .ok a P := by kernel_rfl
  rw [e, W_ok]
theorem X_flB2 {Q : Da → Po → Prop} {X : XP} {s : Scope → Expr → Option (List Expr)} {a b : Da} {P : Po} : (xoQ (.hand s) (fFlV "index") [.exv "Broken" ["shown", "index"] [a, b]] P).W Q X = Q b P := by
  have e : xoQ (.hand s) (fFlV "index") [.exv "Broken" ["shown", "index"] [a, b]] P = .ok b P := by kernel_rfl
  rw [e, W_ok]
theorem X_fg {Q : Da → Po → Prop} {X : XP} {s : Scope → Expr → Option (List Expr)} {C : Str} {x : Da} {P : Po} (h1 : xvIn C = true) : (xoQ (.hand s) (fFlV "given") [.exv C ["given"] [x]] P).W Q X = Q x P := X_fl1 h1 (by decide +kernel)
theorem X_fi {Q : Da → Po → Prop} {X : XP} {s : Scope → Expr → Option (List Expr)} {C : Str} {x : Da} {P : Po} (h1 : xvIn C = true) : (xoQ (.hand s) (fFlV "index") [.exv C ["index"] [x]] P).W Q X = Q x P := X_fl1 h1 (by decide +kernel)
theorem X_fm {Q : Da → Po → Prop} {X : XP} {s : Scope → Expr → Option (List Expr)} {C : Str} {x : Da} {P : Po} (h1 : xvIn C = true) : (xoQ (.hand s) (fFlV "most") [.exv C ["most"] [x]] P).W Q X = Q x P := X_fl1 h1 (by decide +kernel)
theorem xvU : xvIn "UnknownName" = true := by decide +kernel
theorem xvT : xvIn "TooMany" = true := by decide +kernel
theorem inn14 : f2 .inn (.int 14) (.lst [.int 9, .int 10, .int 11, .int 12, .int 13, .int 15]) = some (.bl false) := by kernel_rfl
theorem inn17 : f2 .inn (.int 17) (.lst [.int 9, .int 10, .int 11, .int 12, .int 13, .int 15]) = some (.bl false) := by kernel_rfl
theorem inn18 : f2 .inn (.int 18) (.lst [.int 9, .int 10, .int 11, .int 12, .int 13, .int 15]) = some (.bl false) := by kernel_rfl
theorem fz_x {C : Str} {fs : List Str} {ds : List Da} : Da.fz (.exv C fs ds) = true := rfl
theorem Of_s {Q : Da → Po → Prop} {X : XP} {d : Da} {P : Po} : (Out.of (some d) P).W Q X = Q d P := by rw [Out.of_some, W_ok]
theorem fldI {x : Da} {C : Str} {i : Int} (P : Po) (hx : x.fz = true) (h1 : xvIn C = true) (hi : f2 .inn (.int i) (.lst [.int 9, .int 10, .int 11, .int 12, .int 13, .int 15]) = some (.bl true)) : f_law_field [.exv C ["index"] [x], .int i] P = .ok x P := by
  apply of_W
  show (endF (evSs ir_law_field ⟨[.dat (.exv C ["index"] [x]), .dat (.int i)], P⟩)).W _ _
  rw [W_endF, ir_law_field]
  (rw [Wss_cons]; simp_arith only [hx, Of_s, Int.reduceLT, Int.reduceEq, Int.reduceBEq, decide_true, decide_false, if_true, if_false, Bool.false_eq_true, hi, X_fi h1])
  (rw [Wss_cons]; simp_arith only [hx, Of_s, Int.reduceLT, Int.reduceEq, Int.reduceBEq, decide_true, decide_false, if_true, if_false, Bool.false_eq_true, hi, X_fi h1])
theorem fldG {x : Da} {C : Str} {i : Int} (P : Po) (hx : x.fz = true) (h1 : xvIn C = true) (hi : f2 .inn (.int i) (.lst [.int 9, .int 10, .int 11, .int 12, .int 13, .int 15]) = some (.bl false)) (h9 : decide (i < 9) = true) : f_law_field [.exv C ["given"] [x], .int i] P = .ok x P := by
  apply of_W
  show (endF (evSs ir_law_field ⟨[.dat (.exv C ["given"] [x]), .dat (.int i)], P⟩)).W _ _
  rw [W_endF, ir_law_field]
  (rw [Wss_cons]; simp_arith only [hx, Of_s, Int.reduceLT, Int.reduceEq, Int.reduceBEq, decide_true, decide_false, if_true, if_false, Bool.false_eq_true, hi, X_fg h1, h9])
  (rw [Wss_cons]; simp_arith only [hx, Of_s, Int.reduceLT, Int.reduceEq, Int.reduceBEq, decide_true, decide_false, if_true, if_false, Bool.false_eq_true, hi, X_fg h1, h9])
  (rw [Wss_cons]; simp_arith only [hx, Of_s, Int.reduceLT, Int.reduceEq, Int.reduceBEq, decide_true, decide_false, if_true, if_false, Bool.false_eq_true, hi, X_fg h1, h9])
theorem fldU {x : Da} (P : Po) (hx : x.fz = true) : f_law_field [.exv "UnknownName" ["given"] [x], .int 14] P = .ok x P := by
  apply of_W
  show (endF (evSs ir_law_field ⟨[.dat (.exv "UnknownName" ["given"] [x]), .dat (.int 14)], P⟩)).W _ _
  rw [W_endF, ir_law_field]
  (rw [Wss_cons]; simp_arith only [hx, Of_s, Int.reduceLT, Int.reduceEq, Int.reduceBEq, decide_true, decide_false, if_true, if_false, Bool.false_eq_true, inn14, X_fg xvU])
  (rw [Wss_cons]; simp_arith only [hx, Of_s, Int.reduceLT, Int.reduceEq, Int.reduceBEq, decide_true, decide_false, if_true, if_false, Bool.false_eq_true, inn14, X_fg xvU])
  (rw [Wss_cons]; simp_arith only [hx, Of_s, Int.reduceLT, Int.reduceEq, Int.reduceBEq, decide_true, decide_false, if_true, if_false, Bool.false_eq_true, inn14, X_fg xvU])
theorem fldT {x : Da} (P : Po) (hx : x.fz = true) : f_law_field [.exv "TooMany" ["most"] [x], .int 17] P = .ok x P := by
  apply of_W
  show (endF (evSs ir_law_field ⟨[.dat (.exv "TooMany" ["most"] [x]), .dat (.int 17)], P⟩)).W _ _
  rw [W_endF, ir_law_field]
  (rw [Wss_cons]; simp_arith only [hx, Of_s, Int.reduceLT, Int.reduceEq, Int.reduceBEq, decide_true, decide_false, if_true, if_false, Bool.false_eq_true, inn17, X_fm xvT])
  (rw [Wss_cons]; simp_arith only [hx, Of_s, Int.reduceLT, Int.reduceEq, Int.reduceBEq, decide_true, decide_false, if_true, if_false, Bool.false_eq_true, inn17, X_fm xvT])
  (rw [Wss_cons]; simp_arith only [hx, Of_s, Int.reduceLT, Int.reduceEq, Int.reduceBEq, decide_true, decide_false, if_true, if_false, Bool.false_eq_true, inn17, X_fm xvT])
  (rw [Wss_cons]; simp_arith only [hx, Of_s, Int.reduceLT, Int.reduceEq, Int.reduceBEq, decide_true, decide_false, if_true, if_false, Bool.false_eq_true, inn17, X_fm xvT])
theorem fldB {x y : Da} (P : Po) (hx : x.fz = true) (hy : y.fz = true) : f_law_field [.exv "Broken" ["shown", "index"] [y, x], .int 18] P = .ok (.tup [x, y]) P := by
  apply of_W
  show (endF (evSs ir_law_field ⟨[.dat (.exv "Broken" ["shown", "index"] [y, x]), .dat (.int 18)], P⟩)).W _ _
  rw [W_endF, ir_law_field]
  (rw [Wss_cons]; simp_arith only [hx, Of_s, Int.reduceLT, Int.reduceEq, Int.reduceBEq, decide_true, decide_false, if_true, if_false, Bool.false_eq_true, hy, inn18, X_flB, X_flB2])
  (rw [Wss_cons]; simp_arith only [hx, Of_s, Int.reduceLT, Int.reduceEq, Int.reduceBEq, decide_true, decide_false, if_true, if_false, Bool.false_eq_true, hy, inn18, X_flB, X_flB2])
  (rw [Wss_cons]; simp_arith only [hx, Of_s, Int.reduceLT, Int.reduceEq, Int.reduceBEq, decide_true, decide_false, if_true, if_false, Bool.false_eq_true, hy, inn18, X_flB, X_flB2])
  (rw [Wss_cons]; simp_arith only [hx, Of_s, Int.reduceLT, Int.reduceEq, Int.reduceBEq, decide_true, decide_false, if_true, if_false, Bool.false_eq_true, hy, inn18, X_flB, X_flB2])
theorem fld0 {x y : Da} (hx : x.fz = true) (P : Po) : f_law_field [.exv "InvalidNumber" ["given"] [x], .int 0] P = .ok x P := fldG P hx (by decide +kernel) (by kernel_rfl) (by decide)
theorem fld1 {x y : Da} (hx : x.fz = true) (P : Po) : f_law_field [.exv "InvalidText" ["given"] [x], .int 1] P = .ok x P := fldG P hx (by decide +kernel) (by kernel_rfl) (by decide)
theorem fld2 {x y : Da} (hx : x.fz = true) (P : Po) : f_law_field [.exv "InvalidName" ["given"] [x], .int 2] P = .ok x P := fldG P hx (by decide +kernel) (by kernel_rfl) (by decide)
theorem fld3 {x y : Da} (hx : x.fz = true) (P : Po) : f_law_field [.exv "InvalidWish" ["given"] [x], .int 3] P = .ok x P := fldG P hx (by decide +kernel) (by kernel_rfl) (by decide)
theorem fld4 {x y : Da} (hx : x.fz = true) (P : Po) : f_law_field [.exv "InvalidIndex" ["given"] [x], .int 4] P = .ok x P := fldG P hx (by decide +kernel) (by kernel_rfl) (by decide)
theorem fld5 {x y : Da} (hx : x.fz = true) (P : Po) : f_law_field [.exv "InvalidPicture" ["given"] [x], .int 5] P = .ok x P := fldG P hx (by decide +kernel) (by kernel_rfl) (by decide)
theorem fld6 {x y : Da} (hx : x.fz = true) (P : Po) : f_law_field [.exv "InvalidEvent" ["given"] [x], .int 6] P = .ok x P := fldG P hx (by decide +kernel) (by kernel_rfl) (by decide)
theorem fld7 {x y : Da} (hx : x.fz = true) (P : Po) : f_law_field [.exv "InvalidHearing" ["given"] [x], .int 7] P = .ok x P := fldG P hx (by decide +kernel) (by kernel_rfl) (by decide)
theorem fld8 {x y : Da} (hx : x.fz = true) (P : Po) : f_law_field [.exv "NotAHouse" ["given"] [x], .int 8] P = .ok x P := fldG P hx (by decide +kernel) (by kernel_rfl) (by decide)
theorem fld9 {x y : Da} (hx : x.fz = true) (P : Po) : f_law_field [.exv "InvalidStands" ["index"] [x], .int 9] P = .ok x P := fldI P hx (by decide +kernel) (by kernel_rfl)
theorem fld10 {x y : Da} (hx : x.fz = true) (P : Po) : f_law_field [.exv "InvalidKeys" ["index"] [x], .int 10] P = .ok x P := fldI P hx (by decide +kernel) (by kernel_rfl)
theorem fld11 {x y : Da} (hx : x.fz = true) (P : Po) : f_law_field [.exv "InvalidRows" ["index"] [x], .int 11] P = .ok x P := fldI P hx (by decide +kernel) (by kernel_rfl)
theorem fld12 {x y : Da} (hx : x.fz = true) (P : Po) : f_law_field [.exv "WrongLine" ["index"] [x], .int 12] P = .ok x P := fldI P hx (by decide +kernel) (by kernel_rfl)
theorem fld13 {x y : Da} (hx : x.fz = true) (P : Po) : f_law_field [.exv "InvalidWeaving" ["index"] [x], .int 13] P = .ok x P := fldI P hx (by decide +kernel) (by kernel_rfl)
theorem fld14 {x y : Da} (hx : x.fz = true) (P : Po) : f_law_field [.exv "UnknownName" ["given"] [x], .int 14] P = .ok x P := fldU P hx
theorem fld15 {x y : Da} (hx : x.fz = true) (P : Po) : f_law_field [.exv "InUse" ["index"] [x], .int 15] P = .ok x P := fldI P hx (by decide +kernel) (by kernel_rfl)
theorem fld16 {x y : Da} (P : Po) : f_law_field [.exv "NothingToUndo" [] [], .int 16] P = .ok .non P := by kernel_rfl
theorem fld17 {x y : Da} (hx : x.fz = true) (P : Po) : f_law_field [.exv "TooMany" ["most"] [x], .int 17] P = .ok x P := fldT P hx
theorem fld18 {x y : Da} (hx : x.fz = true) (hy : y.fz = true) (P : Po) : f_law_field [.exv "Broken" ["shown", "index"] [y, x], .int 18] P = .ok (.tup [x, y]) P := fldB P hx hy
section
variable {Q : Da → Po → Prop} {X : XP} {s : Scope → Expr → Option (List Expr)} {C f k : Str} {x y : Da} {P : Po}
theorem X_m1 (hx : x.fz = true) : (xoQ (.hand s) (fMkV C [f]) [x] P).W Q X = Q (.exv C [f] [x]) P := by
  have e : xoQ (.hand s) (fMkV C [f]) [x] P = .ok (.exv C [f] [x]) P := if_pos (by simp [hx])
  rw [e, W_ok]
theorem X_k1 (hx : x.fz = true) : (xoQ (.hand s) (fMkVK C [k] [0] [f]) [x] P).W Q X = Q (.exv C [f] [x]) P := by
  have e : xoQ (.hand s) (fMkVK C [k] [0] [f]) [x] P = .ok (.exv C [f] [x]) P := if_pos (by simp [hx])
  rw [e, W_ok]
theorem X_m2 {g : Str} (hx : x.fz = true) (hy : y.fz = true) : (xoQ (.hand s) (fMkV C [f, g]) [x, y] P).W Q X = Q (.exv C [f, g] [y, x]) P := by
  have e : xoQ (.hand s) (fMkV C [f, g]) [x, y] P = .ok (.exv C [f, g] [y, x]) P := if_pos (by simp [hx, hy])
  rw [e, W_ok]
theorem X_k2 {g k' : Str} (hx : x.fz = true) (hy : y.fz = true) : (xoQ (.hand s) (fMkVK C [k, k'] [1, 0] [f, g]) [x, y] P).W Q X = Q (.exv C [f, g] [x, y]) P := by
  have e : xoQ (.hand s) (fMkVK C [k, k'] [1, 0] [f, g]) [x, y] P = .ok (.exv C [f, g] [x, y]) P := if_pos (by simp [hx, hy])
  rw [e, W_ok]
theorem X_m0 : (xoQ (.hand s) (fMk0 C) [] P).W Q X = Q (.exv C [] []) P := by
  have e : xoQ (.hand s) (fMk0 C) [] P = .ok (.exv C [] []) P := rfl
  rw [e, W_ok]
end
theorem okB_fz {x : Da} (h : okB x = true) : x.fz = true := by
  unfold okB at h
  simp only [Bool.and_eq_true] at h
  exact h.1
theorem cmp0 {x y : Da} {s2 s3 s4 s5 s8 : Sv} (hx : x.fz = true) (hy : y.fz = true) (P : Po) : evE (.call "_law_field" f_law_field (.cons (.ix (.var 1) (.var 9)) (.cons (.var 9) .nil))) ⟨[.dat .pool, .dat (.lst (eL x y)), s2, s3, s4, s5, .dat x, .dat y, s8, .dat (.int 0)], P⟩ = .ok ((dueL x y).getD 0 .non) P :=
  (show _ = f_law_field [.exv "InvalidNumber" ["given"] [x], .int 0] P by kernel_rfl).trans (fld0 (x := x) (y := y) hx P)
theorem cmp1 {x y : Da} {s2 s3 s4 s5 s8 : Sv} (hx : x.fz = true) (hy : y.fz = true) (P : Po) : evE (.call "_law_field" f_law_field (.cons (.ix (.var 1) (.var 9)) (.cons (.var 9) .nil))) ⟨[.dat .pool, .dat (.lst (eL x y)), s2, s3, s4, s5, .dat x, .dat y, s8, .dat (.int 1)], P⟩ = .ok ((dueL x y).getD 1 .non) P :=
  (show _ = f_law_field [.exv "InvalidText" ["given"] [x], .int 1] P by kernel_rfl).trans (fld1 (x := x) (y := y) hx P)
theorem cmp2 {x y : Da} {s2 s3 s4 s5 s8 : Sv} (hx : x.fz = true) (hy : y.fz = true) (P : Po) : evE (.call "_law_field" f_law_field (.cons (.ix (.var 1) (.var 9)) (.cons (.var 9) .nil))) ⟨[.dat .pool, .dat (.lst (eL x y)), s2, s3, s4, s5, .dat x, .dat y, s8, .dat (.int 2)], P⟩ = .ok ((dueL x y).getD 2 .non) P :=
  (show _ = f_law_field [.exv "InvalidName" ["given"] [x], .int 2] P by kernel_rfl).trans (fld2 (x := x) (y := y) hx P)
theorem cmp3 {x y : Da} {s2 s3 s4 s5 s8 : Sv} (hx : x.fz = true) (hy : y.fz = true) (P : Po) : evE (.call "_law_field" f_law_field (.cons (.ix (.var 1) (.var 9)) (.cons (.var 9) .nil))) ⟨[.dat .pool, .dat (.lst (eL x y)), s2, s3, s4, s5, .dat x, .dat y, s8, .dat (.int 3)], P⟩ = .ok ((dueL x y).getD 3 .non) P :=
  (show _ = f_law_field [.exv "InvalidWish" ["given"] [x], .int 3] P by kernel_rfl).trans (fld3 (x := x) (y := y) hx P)
theorem cmp4 {x y : Da} {s2 s3 s4 s5 s8 : Sv} (hx : x.fz = true) (hy : y.fz = true) (P : Po) : evE (.call "_law_field" f_law_field (.cons (.ix (.var 1) (.var 9)) (.cons (.var 9) .nil))) ⟨[.dat .pool, .dat (.lst (eL x y)), s2, s3, s4, s5, .dat x, .dat y, s8, .dat (.int 4)], P⟩ = .ok ((dueL x y).getD 4 .non) P :=
  (show _ = f_law_field [.exv "InvalidIndex" ["given"] [x], .int 4] P by kernel_rfl).trans (fld4 (x := x) (y := y) hx P)
theorem cmp5 {x y : Da} {s2 s3 s4 s5 s8 : Sv} (hx : x.fz = true) (hy : y.fz = true) (P : Po) : evE (.call "_law_field" f_law_field (.cons (.ix (.var 1) (.var 9)) (.cons (.var 9) .nil))) ⟨[.dat .pool, .dat (.lst (eL x y)), s2, s3, s4, s5, .dat x, .dat y, s8, .dat (.int 5)], P⟩ = .ok ((dueL x y).getD 5 .non) P :=
  (show _ = f_law_field [.exv "InvalidPicture" ["given"] [x], .int 5] P by kernel_rfl).trans (fld5 (x := x) (y := y) hx P)
theorem cmp6 {x y : Da} {s2 s3 s4 s5 s8 : Sv} (hx : x.fz = true) (hy : y.fz = true) (P : Po) : evE (.call "_law_field" f_law_field (.cons (.ix (.var 1) (.var 9)) (.cons (.var 9) .nil))) ⟨[.dat .pool, .dat (.lst (eL x y)), s2, s3, s4, s5, .dat x, .dat y, s8, .dat (.int 6)], P⟩ = .ok ((dueL x y).getD 6 .non) P :=
  (show _ = f_law_field [.exv "InvalidEvent" ["given"] [x], .int 6] P by kernel_rfl).trans (fld6 (x := x) (y := y) hx P)
theorem cmp7 {x y : Da} {s2 s3 s4 s5 s8 : Sv} (hx : x.fz = true) (hy : y.fz = true) (P : Po) : evE (.call "_law_field" f_law_field (.cons (.ix (.var 1) (.var 9)) (.cons (.var 9) .nil))) ⟨[.dat .pool, .dat (.lst (eL x y)), s2, s3, s4, s5, .dat x, .dat y, s8, .dat (.int 7)], P⟩ = .ok ((dueL x y).getD 7 .non) P :=
  (show _ = f_law_field [.exv "InvalidHearing" ["given"] [x], .int 7] P by kernel_rfl).trans (fld7 (x := x) (y := y) hx P)
theorem cmp8 {x y : Da} {s2 s3 s4 s5 s8 : Sv} (hx : x.fz = true) (hy : y.fz = true) (P : Po) : evE (.call "_law_field" f_law_field (.cons (.ix (.var 1) (.var 9)) (.cons (.var 9) .nil))) ⟨[.dat .pool, .dat (.lst (eL x y)), s2, s3, s4, s5, .dat x, .dat y, s8, .dat (.int 8)], P⟩ = .ok ((dueL x y).getD 8 .non) P :=
  (show _ = f_law_field [.exv "NotAHouse" ["given"] [x], .int 8] P by kernel_rfl).trans (fld8 (x := x) (y := y) hx P)
theorem cmp9 {x y : Da} {s2 s3 s4 s5 s8 : Sv} (hx : x.fz = true) (hy : y.fz = true) (P : Po) : evE (.call "_law_field" f_law_field (.cons (.ix (.var 1) (.var 9)) (.cons (.var 9) .nil))) ⟨[.dat .pool, .dat (.lst (eL x y)), s2, s3, s4, s5, .dat x, .dat y, s8, .dat (.int 9)], P⟩ = .ok ((dueL x y).getD 9 .non) P :=
  (show _ = f_law_field [.exv "InvalidStands" ["index"] [x], .int 9] P by kernel_rfl).trans (fld9 (x := x) (y := y) hx P)
theorem cmp10 {x y : Da} {s2 s3 s4 s5 s8 : Sv} (hx : x.fz = true) (hy : y.fz = true) (P : Po) : evE (.call "_law_field" f_law_field (.cons (.ix (.var 1) (.var 9)) (.cons (.var 9) .nil))) ⟨[.dat .pool, .dat (.lst (eL x y)), s2, s3, s4, s5, .dat x, .dat y, s8, .dat (.int 10)], P⟩ = .ok ((dueL x y).getD 10 .non) P :=
  (show _ = f_law_field [.exv "InvalidKeys" ["index"] [x], .int 10] P by kernel_rfl).trans (fld10 (x := x) (y := y) hx P)
theorem cmp11 {x y : Da} {s2 s3 s4 s5 s8 : Sv} (hx : x.fz = true) (hy : y.fz = true) (P : Po) : evE (.call "_law_field" f_law_field (.cons (.ix (.var 1) (.var 9)) (.cons (.var 9) .nil))) ⟨[.dat .pool, .dat (.lst (eL x y)), s2, s3, s4, s5, .dat x, .dat y, s8, .dat (.int 11)], P⟩ = .ok ((dueL x y).getD 11 .non) P :=
  (show _ = f_law_field [.exv "InvalidRows" ["index"] [x], .int 11] P by kernel_rfl).trans (fld11 (x := x) (y := y) hx P)
theorem cmp12 {x y : Da} {s2 s3 s4 s5 s8 : Sv} (hx : x.fz = true) (hy : y.fz = true) (P : Po) : evE (.call "_law_field" f_law_field (.cons (.ix (.var 1) (.var 9)) (.cons (.var 9) .nil))) ⟨[.dat .pool, .dat (.lst (eL x y)), s2, s3, s4, s5, .dat x, .dat y, s8, .dat (.int 12)], P⟩ = .ok ((dueL x y).getD 12 .non) P :=
  (show _ = f_law_field [.exv "WrongLine" ["index"] [x], .int 12] P by kernel_rfl).trans (fld12 (x := x) (y := y) hx P)
theorem cmp13 {x y : Da} {s2 s3 s4 s5 s8 : Sv} (hx : x.fz = true) (hy : y.fz = true) (P : Po) : evE (.call "_law_field" f_law_field (.cons (.ix (.var 1) (.var 9)) (.cons (.var 9) .nil))) ⟨[.dat .pool, .dat (.lst (eL x y)), s2, s3, s4, s5, .dat x, .dat y, s8, .dat (.int 13)], P⟩ = .ok ((dueL x y).getD 13 .non) P :=
  (show _ = f_law_field [.exv "InvalidWeaving" ["index"] [x], .int 13] P by kernel_rfl).trans (fld13 (x := x) (y := y) hx P)
theorem cmp14 {x y : Da} {s2 s3 s4 s5 s8 : Sv} (hx : x.fz = true) (hy : y.fz = true) (P : Po) : evE (.call "_law_field" f_law_field (.cons (.ix (.var 1) (.var 9)) (.cons (.var 9) .nil))) ⟨[.dat .pool, .dat (.lst (eL x y)), s2, s3, s4, s5, .dat x, .dat y, s8, .dat (.int 14)], P⟩ = .ok ((dueL x y).getD 14 .non) P :=
  (show _ = f_law_field [.exv "UnknownName" ["given"] [x], .int 14] P by kernel_rfl).trans (fld14 (x := x) (y := y) hx P)
theorem cmp15 {x y : Da} {s2 s3 s4 s5 s8 : Sv} (hx : x.fz = true) (hy : y.fz = true) (P : Po) : evE (.call "_law_field" f_law_field (.cons (.ix (.var 1) (.var 9)) (.cons (.var 9) .nil))) ⟨[.dat .pool, .dat (.lst (eL x y)), s2, s3, s4, s5, .dat x, .dat y, s8, .dat (.int 15)], P⟩ = .ok ((dueL x y).getD 15 .non) P :=
  (show _ = f_law_field [.exv "InUse" ["index"] [x], .int 15] P by kernel_rfl).trans (fld15 (x := x) (y := y) hx P)
theorem cmp16 {x y : Da} {s2 s3 s4 s5 s8 : Sv} (hx : x.fz = true) (hy : y.fz = true) (P : Po) : evE (.call "_law_field" f_law_field (.cons (.ix (.var 1) (.var 9)) (.cons (.var 9) .nil))) ⟨[.dat .pool, .dat (.lst (eL x y)), s2, s3, s4, s5, .dat x, .dat y, s8, .dat (.int 16)], P⟩ = .ok ((dueL x y).getD 16 .non) P :=
  (show _ = f_law_field [.exv "NothingToUndo" [] [], .int 16] P by kernel_rfl).trans (fld16 (x := x) (y := y) P)
theorem cmp17 {x y : Da} {s2 s3 s4 s5 s8 : Sv} (hx : x.fz = true) (hy : y.fz = true) (P : Po) : evE (.call "_law_field" f_law_field (.cons (.ix (.var 1) (.var 9)) (.cons (.var 9) .nil))) ⟨[.dat .pool, .dat (.lst (eL x y)), s2, s3, s4, s5, .dat x, .dat y, s8, .dat (.int 17)], P⟩ = .ok ((dueL x y).getD 17 .non) P :=
  (show _ = f_law_field [.exv "TooMany" ["most"] [x], .int 17] P by kernel_rfl).trans (fld17 (x := x) (y := y) hx P)
theorem cmp18 {x y : Da} {s2 s3 s4 s5 s8 : Sv} (hx : x.fz = true) (hy : y.fz = true) (P : Po) : evE (.call "_law_field" f_law_field (.cons (.ix (.var 1) (.var 9)) (.cons (.var 9) .nil))) ⟨[.dat .pool, .dat (.lst (eL x y)), s2, s3, s4, s5, .dat x, .dat y, s8, .dat (.int 18)], P⟩ = .ok ((dueL x y).getD 18 .non) P :=
  (show _ = f_law_field [.exv "Broken" ["shown", "index"] [y, x], .int 18] P by kernel_rfl).trans (fld18 (x := x) (y := y) hx hy P)
theorem rng19 : rngL 0 19 = [.int 0, .int 1, .int 2, .int 3, .int 4, .int 5, .int 6, .int 7, .int 8, .int 9, .int 10, .int 11, .int 12, .int 13, .int 14, .int 15, .int 16, .int 17, .int 18] := by kernel_rfl
theorem due_fz {x y : Da} (hx : x.fz = true) : ∀ d ∈ dueL x y, d.fz = true := by
  intro d hd
  have e : dueL x y = [x, x, x, x, x, x, x, x, x, x, x, x, x, x, x, x, .non, x, .tup [x, y]] := rfl
  rw [e] at hd
  simp only [List.mem_cons, List.not_mem_nil, or_false] at hd
  rcases hd with rfl | rfl | rfl | rfl | rfl | rfl | rfl | rfl | rfl | rfl | rfl | rfl | rfl | rfl | rfl | rfl | rfl | rfl | rfl <;> first | exact hx | rfl
def dueG (x y : Da) : Da → Da
  | .int i => (dueL x y).getD i.toNat .non
  | _ => .non
theorem cmpr {x y : Da} {s2 s3 s4 s5 s8 : Sv} (hx : x.fz = true) (hy : y.fz = true) (P : Po) :
    lcL (fun d P1 => bindTg [9] d (wipeS ((⟨[.dat .pool, .dat (.lst (eL x y)), s2, s3, s4, s5, .dat x, .dat y, s8, .un], P⟩ : Ev).wp P1) [9])) (evC .none) (evE (.call "_law_field" f_law_field (.cons (.ix (.var 1) (.var 9)) (.cons (.var 9) .nil)))) (rngL 0 19) P [] = .ok (.lst (dueL x y)) P := by
  have e := lcL_map (bd := fun d P1 => bindTg [9] d (wipeS ((⟨[.dat .pool, .dat (.lst (eL x y)), s2, s3, s4, s5, .dat x, .dat y, s8, .un], P⟩ : Ev).wp P1) [9])) (t := evC .none) (e := evE (.call "_law_field" f_law_field (.cons (.ix (.var 1) (.var 9)) (.cons (.var 9) .nil)))) (dueG x y) P (rngL 0 19) [] (by rw [rng19, lim_n]; simp) fun d hd => ?_
  · rw [e, rng19]
    rfl
  · rw [rng19] at hd
    simp only [List.mem_cons, List.not_mem_nil, or_false] at hd
    rcases hd with rfl | rfl | rfl | rfl | rfl | rfl | rfl | rfl | rfl | rfl | rfl | rfl | rfl | rfl | rfl | rfl | rfl | rfl | rfl
    · exact ⟨due_fz (y := y) hx _ (List.mem_of_getElem? (i := 0) rfl), ⟨[.dat .pool, .dat (.lst (eL x y)), s2, s3, s4, s5, .dat x, .dat y, s8, .dat (.int 0)], P⟩, rfl, by rw [evC], cmp0 hx hy P⟩
    · exact ⟨due_fz (y := y) hx _ (List.mem_of_getElem? (i := 1) rfl), ⟨[.dat .pool, .dat (.lst (eL x y)), s2, s3, s4, s5, .dat x, .dat y, s8, .dat (.int 1)], P⟩, rfl, by rw [evC], cmp1 hx hy P⟩
    · exact ⟨due_fz (y := y) hx _ (List.mem_of_getElem? (i := 2) rfl), ⟨[.dat .pool, .dat (.lst (eL x y)), s2, s3, s4, s5, .dat x, .dat y, s8, .dat (.int 2)], P⟩, rfl, by rw [evC], cmp2 hx hy P⟩
    · exact ⟨due_fz (y := y) hx _ (List.mem_of_getElem? (i := 3) rfl), ⟨[.dat .pool, .dat (.lst (eL x y)), s2, s3, s4, s5, .dat x, .dat y, s8, .dat (.int 3)], P⟩, rfl, by rw [evC], cmp3 hx hy P⟩
    · exact ⟨due_fz (y := y) hx _ (List.mem_of_getElem? (i := 4) rfl), ⟨[.dat .pool, .dat (.lst (eL x y)), s2, s3, s4, s5, .dat x, .dat y, s8, .dat (.int 4)], P⟩, rfl, by rw [evC], cmp4 hx hy P⟩
    · exact ⟨due_fz (y := y) hx _ (List.mem_of_getElem? (i := 5) rfl), ⟨[.dat .pool, .dat (.lst (eL x y)), s2, s3, s4, s5, .dat x, .dat y, s8, .dat (.int 5)], P⟩, rfl, by rw [evC], cmp5 hx hy P⟩
    · exact ⟨due_fz (y := y) hx _ (List.mem_of_getElem? (i := 6) rfl), ⟨[.dat .pool, .dat (.lst (eL x y)), s2, s3, s4, s5, .dat x, .dat y, s8, .dat (.int 6)], P⟩, rfl, by rw [evC], cmp6 hx hy P⟩
    · exact ⟨due_fz (y := y) hx _ (List.mem_of_getElem? (i := 7) rfl), ⟨[.dat .pool, .dat (.lst (eL x y)), s2, s3, s4, s5, .dat x, .dat y, s8, .dat (.int 7)], P⟩, rfl, by rw [evC], cmp7 hx hy P⟩
    · exact ⟨due_fz (y := y) hx _ (List.mem_of_getElem? (i := 8) rfl), ⟨[.dat .pool, .dat (.lst (eL x y)), s2, s3, s4, s5, .dat x, .dat y, s8, .dat (.int 8)], P⟩, rfl, by rw [evC], cmp8 hx hy P⟩
    · exact ⟨due_fz (y := y) hx _ (List.mem_of_getElem? (i := 9) rfl), ⟨[.dat .pool, .dat (.lst (eL x y)), s2, s3, s4, s5, .dat x, .dat y, s8, .dat (.int 9)], P⟩, rfl, by rw [evC], cmp9 hx hy P⟩
    · exact ⟨due_fz (y := y) hx _ (List.mem_of_getElem? (i := 10) rfl), ⟨[.dat .pool, .dat (.lst (eL x y)), s2, s3, s4, s5, .dat x, .dat y, s8, .dat (.int 10)], P⟩, rfl, by rw [evC], cmp10 hx hy P⟩
    · exact ⟨due_fz (y := y) hx _ (List.mem_of_getElem? (i := 11) rfl), ⟨[.dat .pool, .dat (.lst (eL x y)), s2, s3, s4, s5, .dat x, .dat y, s8, .dat (.int 11)], P⟩, rfl, by rw [evC], cmp11 hx hy P⟩
    · exact ⟨due_fz (y := y) hx _ (List.mem_of_getElem? (i := 12) rfl), ⟨[.dat .pool, .dat (.lst (eL x y)), s2, s3, s4, s5, .dat x, .dat y, s8, .dat (.int 12)], P⟩, rfl, by rw [evC], cmp12 hx hy P⟩
    · exact ⟨due_fz (y := y) hx _ (List.mem_of_getElem? (i := 13) rfl), ⟨[.dat .pool, .dat (.lst (eL x y)), s2, s3, s4, s5, .dat x, .dat y, s8, .dat (.int 13)], P⟩, rfl, by rw [evC], cmp13 hx hy P⟩
    · exact ⟨due_fz (y := y) hx _ (List.mem_of_getElem? (i := 14) rfl), ⟨[.dat .pool, .dat (.lst (eL x y)), s2, s3, s4, s5, .dat x, .dat y, s8, .dat (.int 14)], P⟩, rfl, by rw [evC], cmp14 hx hy P⟩
    · exact ⟨due_fz (y := y) hx _ (List.mem_of_getElem? (i := 15) rfl), ⟨[.dat .pool, .dat (.lst (eL x y)), s2, s3, s4, s5, .dat x, .dat y, s8, .dat (.int 15)], P⟩, rfl, by rw [evC], cmp15 hx hy P⟩
    · exact ⟨due_fz (y := y) hx _ (List.mem_of_getElem? (i := 16) rfl), ⟨[.dat .pool, .dat (.lst (eL x y)), s2, s3, s4, s5, .dat x, .dat y, s8, .dat (.int 16)], P⟩, rfl, by rw [evC], cmp16 hx hy P⟩
    · exact ⟨due_fz (y := y) hx _ (List.mem_of_getElem? (i := 17) rfl), ⟨[.dat .pool, .dat (.lst (eL x y)), s2, s3, s4, s5, .dat x, .dat y, s8, .dat (.int 17)], P⟩, rfl, by rw [evC], cmp17 hx hy P⟩
    · exact ⟨due_fz (y := y) hx _ (List.mem_of_getElem? (i := 18) rfl), ⟨[.dat .pool, .dat (.lst (eL x y)), s2, s3, s4, s5, .dat x, .dat y, s8, .dat (.int 18)], P⟩, rfl, by rw [evC], cmp18 hx hy P⟩
theorem xi0 : xvIn "InvalidNumber" = true := by decide +kernel
theorem xi1 : xvIn "InvalidText" = true := by decide +kernel
theorem xi2 : xvIn "InvalidName" = true := by decide +kernel
theorem xi3 : xvIn "InvalidWish" = true := by decide +kernel
theorem xi4 : xvIn "InvalidIndex" = true := by decide +kernel
theorem xi5 : xvIn "InvalidPicture" = true := by decide +kernel
theorem xi6 : xvIn "InvalidEvent" = true := by decide +kernel
theorem xi7 : xvIn "InvalidHearing" = true := by decide +kernel
theorem xi8 : xvIn "NotAHouse" = true := by decide +kernel
theorem xi9 : xvIn "InvalidStands" = true := by decide +kernel
theorem xi10 : xvIn "InvalidKeys" = true := by decide +kernel
theorem xi11 : xvIn "InvalidRows" = true := by decide +kernel
theorem xi12 : xvIn "WrongLine" = true := by decide +kernel
theorem xi13 : xvIn "InvalidWeaving" = true := by decide +kernel
theorem xi14 : xvIn "UnknownName" = true := by decide +kernel
theorem xi15 : xvIn "InUse" = true := by decide +kernel
theorem xi16 : xvIn "NothingToUndo" = true := by decide +kernel
theorem xi17 : xvIn "TooMany" = true := by decide +kernel
theorem xi18 : xvIn "Broken" = true := by decide +kernel
section
variable {x y : Da} {P : Po} {R : OutS → Prop} {s1 s2 s3 : Sv}
theorem if_same {l m : List Nat} {A B : Prop} (e : l = m) (h : A) : if (l == m) = true then A else B := by rw [e, if_pos (beq_self_eq_true m)]; exact h
theorem if_diff {l m : List Nat} {A B : Prop} (e : l = m) (h : B) : if (!(l == m)) = true then A else B := by rw [e, beq_self_eq_true]; exact h
theorem R_same {l m : List Nat} (e : l = m) (h : R (.ret (.bl true) P)) : R (.ret (.bl (l == m)) P) := by rw [e, beq_self_eq_true]; exact h
theorem tl12 (ox : okB x = true) (oy : okB y = true) (h : R (.ret (.bl true) P)) (B : CSs) (eb : B = ir_law_right.dr 12) : (evSs B ⟨[.dat .pool, s1, s2, s3, .un, .un, .dat x, .dat y, .un, .un], P⟩).W R := by
  have hx := okB_fz ox
  have hy := okB_fz oy
  have r1 := rok_of (rok17 ox)
  have r2 := rok_of (rok2 ox oy)
  rw [eb, ir_law_right]
  simp only [CSs.dr]
  (rw [Wss_cons]; simp_arith only [X_m1, X_k1, X_m2, X_k2, X_m0, X_fg, X_fi, X_fm, X_flB, X_flB2, fz_x, hx, hy, xi0, xi1, xi2, xi3, xi4, xi5, xi6, xi7, xi8, xi9, xi10, xi11, xi12, xi13, xi14, xi15, xi16, xi17, xi18])
  (rw [Wss_cons]; simp_arith only [X_m1, X_k1, X_m2, X_k2, X_m0, X_fg, X_fi, X_fm, X_flB, X_flB2, fz_x, hx, hy, xi0, xi1, xi2, xi3, xi4, xi5, xi6, xi7, xi8, xi9, xi10, xi11, xi12, xi13, xi14, xi15, xi16, xi17, xi18])
  (rw [Wss_cons]; simp_arith only [X_m1, X_k1, X_m2, X_k2, X_m0, X_fg, X_fi, X_fm, X_flB, X_flB2, fz_x, hx, hy, xi0, xi1, xi2, xi3, xi4, xi5, xi6, xi7, xi8, xi9, xi10, xi11, xi12, xi13, xi14, xi15, xi16, xi17, xi18])
  (rw [Wss_cons]; simp_arith only [X_m1, X_k1, X_m2, X_k2, X_m0, X_fg, X_fi, X_fm, X_flB, X_flB2, fz_x, hx, hy, xi0, xi1, xi2, xi3, xi4, xi5, xi6, xi7, xi8, xi9, xi10, xi11, xi12, xi13, xi14, xi15, xi16, xi17, xi18])
  (rw [Wss_cons]; simp_arith only [X_m1, X_k1, X_m2, X_k2, X_m0, X_fg, X_fi, X_fm, X_flB, X_flB2, fz_x, hx, hy, xi0, xi1, xi2, xi3, xi4, xi5, xi6, xi7, xi8, xi9, xi10, xi11, xi12, xi13, xi14, xi15, xi16, xi17, xi18])
  (rw [Wss_cons]; simp_arith only [X_m1, X_k1, X_m2, X_k2, X_m0, X_fg, X_fi, X_fm, X_flB, X_flB2, fz_x, hx, hy, xi0, xi1, xi2, xi3, xi4, xi5, xi6, xi7, xi8, xi9, xi10, xi11, xi12, xi13, xi14, xi15, xi16, xi17, xi18])
  (rw [Wss_cons]; simp_arith only [X_m1, X_k1, X_m2, X_k2, X_m0, X_fg, X_fi, X_fm, X_flB, X_flB2, fz_x, hx, hy, xi0, xi1, xi2, xi3, xi4, xi5, xi6, xi7, xi8, xi9, xi10, xi11, xi12, xi13, xi14, xi15, xi16, xi17, xi18])
  (rw [Wss_cons]; simp_arith only [X_m1, X_k1, X_m2, X_k2, X_m0, X_fg, X_fi, X_fm, X_flB, X_flB2, fz_x, hx, hy, V_repr_l])
  exact ⟨r1, ⟨by decide, by decide⟩, r1, if_same rfl ⟨r2, r2, R_same rfl h⟩⟩
theorem W_rw {α : Type} {o : Out α} {a : α} {P : Po} {Q : α → Po → Prop} {X : XP} (e : o = .ok a P) (h : Q a P) : o.W Q X := by rw [e, W_ok]; exact h
theorem tl10 (ox : okB x = true) (oy : okB y = true) (h : R (.ret (.bl true) P)) (B : CSs) (eb : B = ir_law_right.dr 10) : (evSs B ⟨[.dat .pool, .dat (.lst (eL x y)), s2, .un, .un, .un, .dat x, .dat y, .un, .un], P⟩).W R := by
  have hx := okB_fz ox
  have hy := okB_fz oy
  have rd := rok_of (rokD ox oy)
  rw [eb, ir_law_right]
  simp only [CSs.dr]
  (rw [Wss_cons]; simp_arith only [X_m1, X_k1, X_m2, X_k2, X_m0, X_fg, X_fi, X_fm, X_flB, X_flB2, fz_x, hx, hy])
  refine ⟨⟨by decide, by decide⟩, by rw [lim_n]; simp, ?_⟩
  (rw [Wss_cons]; simp_arith only [X_m1, X_k1, X_m2, X_k2, X_m0, X_fg, X_fi, X_fm, X_flB, X_flB2, fz_x, hx, hy, V_repr_l])
  refine ⟨by rw [lim_n]; decide, by rw [lim_n]; decide, W_rw (cmpr hx hy P) ?_⟩
  simp_arith only [V_repr_l]
  refine ⟨rd, rd, ?_⟩
  exact if_diff rfl (tl12 ox oy h _ rfl)
theorem tl7 (ox : okB x = true) (oy : okB y = true) (h : R (.ret (.bl true) P)) (B : CSs) (eb : B = ir_law_right.dr 7) : (evSs B ⟨[.dat .pool, .dat (.lst (eL x y)), .un, .un, .un, .un, .dat x, .dat y, .un, .un], P⟩).W R := by
  rw [eb, jump]
  exact tl10 ox oy h _ rfl
theorem limits_W {P : Po} {X : XP} : (f_law_limits [] P).W (fun d P' => d = .bl true ∧ P' = P) X := by
  have e : f_law_limits [] P = .ok (.bl true) P := by kernel_rfl
  rw [e, W_ok]
  exact ⟨rfl, rfl⟩
theorem right_W {n : Nat} {P : Po} {X : XP} (hP : PI (n + 2) P) : (f_law_right [.pool] P).W (fun d P' => d = .bl true ∧ PI n P') X := by
  show (endF (evSs ir_law_right ⟨[.dat .pool, .un, .un, .un, .un, .un, .un, .un, .un, .un], P⟩)).W _ _
  rw [W_endF, ir_law_right]
  (rw [Wss_cons]; simp_arith only [])
  refine (odd_W hP).mono ?_
  rintro x P1 ⟨mx, h1⟩
  have ox : okB x = true := List.all_eq_true.mp oddB x mx
  have hx := okB_fz ox
  simp_arith only [hx]
  refine (odd_W h1).mono ?_
  rintro y P2 ⟨my, h2⟩
  have oy : okB y = true := List.all_eq_true.mp oddB y my
  have hy := okB_fz oy
  simp_arith only [hx, hy]
  (rw [Wss_cons]; simp_arith only [X_m1, X_k1, X_m2, X_k2, X_m0, X_fg, X_fi, X_fm, X_flB, X_flB2, fz_x, hx, hy])
  (rw [Wss_cons]; simp_arith only [X_m1, X_k1, X_m2, X_k2, X_m0, X_fg, X_fi, X_fm, X_flB, X_flB2, fz_x, hx, hy])
  (rw [Wss_cons]; simp_arith only [X_m1, X_k1, X_m2, X_k2, X_m0, X_fg, X_fi, X_fm, X_flB, X_flB2, fz_x, hx, hy])
  (rw [Wss_cons]; simp_arith only [X_m1, X_k1, X_m2, X_k2, X_m0, X_fg, X_fi, X_fm, X_flB, X_flB2, fz_x, hx, hy])
  (rw [Wss_cons]; simp_arith only [X_m1, X_k1, X_m2, X_k2, X_m0, X_fg, X_fi, X_fm, X_flB, X_flB2, fz_x, hx, hy])
  (rw [Wss_frz]; simp_arith only [X_m1, X_k1, X_m2, X_k2, X_m0, X_fg, X_fi, X_fm, X_flB, X_flB2, fz_x, hx, hy])
  refine tl7 ox oy ⟨rfl, h2⟩ _ rfl
end
theorem c64 (x : Int) (h1 : 0 ≤ x) (h2 : x ≤ 1000000) : -(2 ^ 64) < x ∧ x < 2 ^ 64 := by
  have a1 : (-(2 ^ 64) : Int) < 0 := by decide
  have a2 : (1000000 : Int) < 2 ^ 64 := by decide
  exact ⟨Int.lt_of_lt_of_le a1 h1, Int.lt_of_le_of_lt h2 a2⟩
theorem sc_draw : FnScope ["_law_pool_here", "_law_many", "_law_digit"] ["_law_pool_here", "_law_many"] (defScope s_law_draw) := ⟨rfl, rfl, rfl, by decide +kernel, rfl, by decide +kernel, by decide +kernel⟩
theorem post_no {K : PySem.W.Frag} {E : XK} {pa : Pa} {F H : Hp} {o : Out Da} {Q : VK} (h : Post K E pa F H o Q) : o ≠ .no := fun e => by rw [e] at h; exact h
theorem draw_inv {ds : List Da} {P : Po} (h : f_law_draw ds P ≠ .no) : ∃ m a b c, ds = [.pool, .int m] ∧ P = some (a, b, c) ∧ (0 < m ∧ m ≤ 100000 ∧ 0 ≤ a ∧ a < 2147483563 ∧ 0 ≤ b ∧ 0 ≤ c ∧ c < 1000000) := by
  unfold f_law_draw at h
  split at h
  · rename_i m a b c
    by_cases k : 0 < m ∧ m ≤ 100000 ∧ 0 ≤ a ∧ a < 2147483563 ∧ 0 ≤ b ∧ 0 ≤ c ∧ c < 1000000
    · exact ⟨m, a, b, c, rfl, rfl, k⟩
    · rw [if_neg k] at h; exact absurd rfl h
  · exact absurd rfl h
theorem tb_upl {F H H' : Hp} {T : List (Addr × Str)} {p : Addr} {xs : List V} (t : TbOk F H T) (hp : H p = some (.lst xs)) (hh : ∀ b o, H b = some o → b ≠ p → H' b = some o) (ho : ∀ b ps, H' b = some (.tbl ps) → H b = some (.tbl ps)) : TbOk F H' T where
  tabs := fun q hq => by
    obtain ⟨ps, h1, h2, h3⟩ := t.tabs q hq
    refine ⟨ps, hh _ _ h1 (fun z => by rw [z, hp] at h1; cases h1), h2, fun pos cv hc => ?_⟩
    obtain ⟨c, e1, e2⟩ := h3 pos cv hc
    exact ⟨c, e1, hh _ _ e2 (fun z => by rw [z, hp] at e2; unfold LamX.CodeO at e2; cases e2)⟩
  out := t.out
  only := fun a ps e => t.only a ps (ho a ps e)
theorem tb_upd {H : Hp} {p : Addr} {o : HO} {b : Addr} {ps : Array Value} (n : ∀ ps, o ≠ .tbl ps) (h : upd H p o b = some (.tbl ps)) : H b = some (.tbl ps) := by
  by_cases e : b = p
  · rw [e, upd_same] at h
    exact absurd (Option.some.inj h) (n ps)
  · rwa [upd_ne e] at h
theorem tb_updL {H : Hp} {p : Addr} {xs : List V} {b : Addr} {ps : Array Value} (h : upd H p (.lst xs) b = some (.tbl ps)) : H b = some (.tbl ps) := tb_upd (fun _ z => by cases z) h
theorem tb_updT {H : Hp} {p : Addr} {xs : List V} {b : Addr} {ps : Array Value} (h : upd H p (.tup xs) b = some (.tbl ps)) : H b = some (.tbl ps) := tb_upd (fun _ z => by cases z) h
section
variable {P : Program} {w : World} {K : PySem.W.Frag} {mg : Str → Option Value} {base : Heap}
theorem gn_draw {f : Addr} {fd : FuncData} (F : FunD K "_law_draw" "_law_draw" (defArgs s_law_draw) (defBody s_law_draw) (defScope s_law_draw) [] [] f fd) (mi : mg "int" = none) (md : mg "divmod" = none) :
    Gn P w K mg base 2 f fd ["_law_pool_here", "_law_many"] (spD K 2 f_law_draw) := by
  refine gn_of F sc_draw (fun vs H Q E h => h.1) fun cdv A outer s H vs Q E hr hg hsp => ?_
  obtain ⟨hl, pa, Fz, Pq, ds, fh, po, tl, t, post⟩ := hsp
  obtain ⟨m, a, b, c, rfl, rfl, hc⟩ := draw_inv (post_no post)
  cases t with
  | cons t1 t2 => cases t2 with
    | cons t2 t3 =>
      cases t3
      obtain ⟨p, rfl, hpa⟩ := Dt.pool_inv t1
      obtain rfl := Dt.int_inv t2
      obtain ⟨pp, tb⟩ := po
      obtain ⟨pap, paT⟩ := pa
      obtain rfl : pap = some p := hpa
      obtain ⟨hF, hp⟩ := pp
      refine ⟨_, pss_cons (ps_asg (pe_op op_add (pe_ix ix_list (pv 0) pe_int (fun _ _ => rfl)) pe_int) (pg_sub (pv 0) pe_int set_list))
        (pss_cons (ps_if (pt_cmpR op_gt (pe_ix ix_list (pv 0) pe_int (fun _ _ => rfl)) pe_int (nomark _))
            (pss_cons (ps_asg (pe_callB call_divmod (by rfl) md (by decide +kernel) (pa_cons (pe_ix ix_list (pv 0) pe_int (fun _ _ => rfl)) (pa_cons (pv 1) pa_nil))) (pg_tup rfl (pgs_cons (pg_sub (pv 0) pe_int set_list) (pgs_cons (pg_name (i := 2) sc_draw.nd rfl (.inl rfl)) pgs_nil)))) (pss_one (ps_ret (pv 2)))) pss_nil)
        (pss_cons (ps_asg (pe_op op_mod (pe_callTy call_int1 (by rfl) mi (by decide +kernel) (pa_cons (pe_op op_add (pe_op op_add (pe_op op_mul (pe_ix ix_list (pv 0) pe_int (fun _ _ => rfl)) pe_int) (pe_op op_mul (pe_op op_mul (pe_ix ix_list (pv 0) pe_int (fun _ _ => rfl)) (pe_ix ix_list (pv 0) pe_int (fun _ _ => rfl))) pe_int)) pe_int) pa_nil)) pe_int) (pg_sub (pv 0) pe_int set_list))
        (pss_one (ps_ret (pe_op op_mod (pe_callTy call_int1 (by rfl) mi (by decide +kernel) (pa_cons (pe_op op_add (pe_op op_fdiv (pe_ix ix_list (pv 0) pe_int (fun _ _ => rfl)) pe_int) (pe_op op_fdiv (pe_ix ix_list (pv 0) pe_int (fun _ _ => rfl)) pe_int)) pa_nil)) (pv 1)))))), ?_⟩
      refine ⟨_, rfl, p, _, _, _, rfl, rfl, SqL.of hp, rfl, _, _, rfl, rfl, _, rfl, p, _, _, 2, rfl, rfl, hp, rfl, ?_⟩
      refine ⟨_, rfl, p, _, _, _, rfl, rfl, SqL.of upd_same, rfl, _, _, rfl, rfl, ?_⟩
      refine ⟨_, rfl, ?_⟩
      by_cases hb : 0 < b
      · have e : decide (b > 0) = true := decide_eq_true hb
        show (if decide (b > 0) = true then _ else _)
        rw [if_pos e]
        refine ⟨_, rfl, p, _, _, _, rfl, rfl, SqL.of upd_same, rfl, _, rfl, _, _, rfl, ⟨hc.1, by omega⟩, fun q hq => ?_⟩
        have nqp : p ≠ q := fun e => by
          rw [← e, upd_same] at hq
          cases hq
        have hq0 : H q = none := by
          rw [upd_ne nqp.symm] at hq
          exact hq
        refine ⟨q, _, rfl, SqT.of upd_same, rfl, _, _, rfl, _, rfl, p, _, _, 1, rfl, rfl, Eq.trans (upd_ne nqp) upd_same, rfl, _, _, rfl, rfl, ?_⟩
        refine ⟨_, rfl, ?_⟩
        have fd2 : f_law_draw [.pool, .int m] (some (a, b, c)) = .ok (.int (b % m)) (some (a, b / m, c + 1)) := by
          show (if _ then (if _ then _ else _) else _ : Out Da) = _
          rw [if_pos hc, if_pos hb]
        rw [fd2] at post
        refine post _ Fz _ ⟨Same.refl _, fun x o ex => ?_, fun x o ex nx => ?_, fun x o ex => .inl ex⟩ ⟨⟨hF, upd_same⟩, tb_upl tb hp (fun x o ex n1 => ?_) (fun x ps ex => ?_)⟩ (.int _)
        · have n1 : x ≠ p := fun e => by rw [e, hF] at ex; cases ex
          have n2 : x ≠ q := fun e => by rw [e] at ex; rw [fh _ _ ex] at hq0; cases hq0
          rw [upd_ne n1, upd_ne n2, upd_ne n1]
          exact fh _ _ ex
        · have n1 : x ≠ p := fun e => nx.1 (by rw [e])
          have n2 : x ≠ q := fun e => by rw [e, hq0] at ex; cases ex
          rw [upd_ne n1, upd_ne n2, upd_ne n1]
          exact ex
        · have n2 : x ≠ q := fun e => by rw [e, hq0] at ex; cases ex
          rw [upd_ne n1, upd_ne n2, upd_ne n1]
          exact ex
        · exact tb_updL (tb_updT (tb_updL ex))
      · have e : ¬ decide (b > 0) = true := by simpa using hb
        show (if decide (b > 0) = true then _ else _)
        rw [if_neg e]
        refine ⟨_, rfl, p, _, _, _, rfl, rfl, SqL.of upd_same, rfl, _, _, rfl, rfl, .inr ⟨by decide, by decide⟩, ?_⟩
        refine ⟨_, rfl, p, _, _, _, rfl, rfl, SqL.of upd_same, rfl, _, rfl, p, _, _, _, rfl, rfl, SqL.of upd_same, rfl, _, _, rfl, rfl, .inl (c64 _ (by omega) (by omega)), _, _, rfl, rfl, .inr ⟨by decide, by decide⟩, _, _, rfl, rfl, _, _, rfl, rfl, .inl ⟨_, rfl, ?_⟩⟩
        refine ⟨_, _, rfl, rfl, (show (0:Int) < 2147483563 by decide), _, rfl, p, _, _, 0, rfl, rfl, upd_same, rfl, ?_⟩
        refine ⟨_, rfl, p, _, _, _, rfl, rfl, SqL.of upd_same, rfl, _, _, rfl, rfl, ⟨by decide, by decide⟩, _, rfl, p, _, _, _, rfl, rfl, SqL.of upd_same, rfl, _, _, rfl, rfl, ⟨by decide, by decide⟩, _, _, rfl, rfl, .inl ⟨_, rfl, ?_⟩⟩
        refine ⟨_, rfl, _, _, rfl, rfl, hc.1, ?_⟩
        have fd2 : f_law_draw [.pool, .int m] (some (a, b, c)) = .ok (.int (((a * 39373 + (c + 1) * (c + 1) * 7919 + 271) % 2147483563 / 97 + (a * 39373 + (c + 1) * (c + 1) * 7919 + 271) % 2147483563 / 65521) % m)) (some ((a * 39373 + (c + 1) * (c + 1) * 7919 + 271) % 2147483563, b, c + 1)) := by
          show (if _ then (if _ then _ else _) else _ : Out Da) = _
          rw [if_pos hc, if_neg hb]
        rw [fd2] at post
        refine post _ Fz _ ⟨Same.refl _, fun x o ex => ?_, fun x o ex nx => ?_, fun x o ex => .inl ex⟩ ⟨⟨hF, upd_same⟩, tb_upl tb hp (fun x o ex n1 => ?_) (fun x ps ex => ?_)⟩ (.int _)
        · have n1 : x ≠ p := fun e => by rw [e, hF] at ex; cases ex
          rw [upd_ne n1, upd_ne n1]
          exact fh _ _ ex
        · have n1 : x ≠ p := fun e => nx.1 (by rw [e])
          rw [upd_ne n1, upd_ne n1]
          exact ex
        · rw [upd_ne n1, upd_ne n1]
          exact ex
        · exact tb_updL (tb_updL ex)
end
abbrev N_law_pool : List Str := ["_law_cells", "_law_turn", "_law_cell", "_law_seed", "_law_each"]
theorem sc_pool : FnScope N_law_pool ["_law_cells", "_law_turn"] (defScope s_law_pool) := ⟨rfl, rfl, rfl, by decide +kernel, rfl, by decide +kernel, by decide +kernel⟩
def spPool (K : PySem.W.Frag) : Sp := fun vs H Q _ => ∃ (a : Addr) (ns : List Int) (k : Nat), vs = [.ref a, .int k] ∧ k ≤ 100 ∧ SqL K H a (ns.map V.int) ∧
  ∀ (p : Addr) (H' : Hp) (x y : Int), H p = none → Same H H' → (∀ b ps, H' b = some (.tbl ps) → H b = some (.tbl ps)) → H' p = some (.lst [.int x, .int y, .int 0]) → 0 ≤ x → x < 2147483563 → 0 ≤ y → Q (.ref p) H'
theorem un_pool : unm (defScope s_law_pool) = true := by decide +kernel
section
variable {P : Program} {w : World} {K : PySem.W.Frag} {mg : Str → Option Value} {base : Heap}
theorem sames {H : Hp} {p : Addr} {o : HO} (h : H p = none) : Same H (upd H p o) := fun b u e => by
  have n : b ≠ p := fun z => by rw [z, h] at e; cases e
  rw [upd_ne n]; exact e
theorem c64b (x : Int) (h1 : 0 ≤ x) (h2 : x ≤ 2147483563) : -(2 ^ 64) < x ∧ x < 2 ^ 64 := by
  have a1 : (-(2 ^ 64) : Int) < 0 := by decide
  have a2 : (2147483563 : Int) < 2 ^ 64 := by decide
  exact ⟨Int.lt_of_lt_of_le a1 h1, Int.lt_of_le_of_lt h2 a2⟩
theorem use_te {t : TE} {σ : L2.St} {H : Hp} {Q : VK} (h1 : ∀ Q' : VK, (∀ c : Int, 0 ≤ c → Q' (.int c) H) → t σ H Q') (h2 : ∀ c, 0 ≤ c → Q (.int c) H) : t σ H Q := h1 Q h2
theorem use_tc {t : TE} {σ : L2.St} {H : Hp} {Q : VK} (h1 : ∀ Q' : VK, (∀ c : Int, Q' (.int c) H) → t σ H Q') (h2 : ∀ c, Q (.int c) H) : t σ H Q := h1 Q h2
theorem gn_pool {f : Addr} {fd : FuncData} (F : FunD K "_law_pool" "_law_pool" (defArgs s_law_pool) (defBody s_law_pool) (defScope s_law_pool) [] [] f fd) (mi : mg "int" = none) (ma : mg "abs" = none) (ml : mg "len" = none) :
    Gn P w K mg base 4 f fd ["_law_cells", "_law_turn"] (spPool K) := by
  refine gn_of F sc_pool (fun vs H Q E h => by obtain ⟨_, _, _, rfl, _⟩ := h; rfl) fun cdv A outer s H vs Q E hr hg hsp => ?_
  obtain ⟨a, ns, k, rfl, hk, hs, post⟩ := hsp
  have C := sx_of (P := P) (w := w) (K := K) (mg := mg) (base := base) (s := s) (H := H) (E := E) (outer := outer) (k := 2) sc_pool un_pool hr hg
  refine ⟨_, pss_cons (ps_set (i := 2) sc_pool.nd rfl (.inl rfl) (pe_ifExp (pt_cmpR op_lt (pv 1) (pe_callB call_len (by rfl) ml boot_len (pa_cons (pv 0) pa_nil)) (nomark _)) (pe_callTy call_int1 (by rfl) mi (by decide +kernel) (pa_cons (pe_ix ix_list (pv 0) (pv 1) (fun _ _ => rfl)) pa_nil)) pe_int))
    (pss_cons (ps_set (i := 3) sc_pool.nd rfl (.inl rfl) (pe_op op_mul pe_int (pe_op op_add (pv 1) pe_int)))
    (pss_cons (ps_for C.ps C.cx.calm (pi_list (pe_slice sl_list (pv 0) po_none (po_some pe_int))) (pg_name (i := 4) sc_pool.nd rfl (.inl rfl))
        (pss_one (ps_set (i := 3) sc_pool.nd rfl (.inl rfl) (pe_op op_mod (pe_callTy call_int1 (by rfl) mi (by decide +kernel) (pa_cons (pe_op op_add (pe_op op_mul (pv 3) pe_int) (pv 4)) pa_nil)) pe_int))))
    (pss_one (ps_ret (pe_lst (pa_cons (pe_op op_mod (pe_callTy call_int1 (by rfl) mi (by decide +kernel) (pa_cons (pe_op op_add (pe_op op_mul (pv 3) pe_int) (pv 2)) pa_nil)) pe_int)
      (pa_cons (pe_ifExp (PW.pt (pw_or (pt_cmpR op_lt (pv 2) pe_int (nomark _)) (pw_or1 (pt_cmpR op_ge (pv 2) (pe_op op_pow pe_int pe_int) (nomark _))))) (pe_callB call_abs (by rfl) ma (by decide +kernel) (pa_cons (pv 2) pa_nil)) pe_int)
      (pa_cons pe_int pa_nil)))))))), ?_⟩
  refine use_tc (t := tIf _ _ _) (fun Q' h => ?_) (fun c => ?_)
  · refine ⟨_, rfl, _, rfl, _, _, rfl, .inl ⟨_, hs, rfl⟩, _, _, rfl, rfl, _, rfl, ?_⟩
    show if decide (((k : Nat) : Int) < (((ns.map V.int).length : Nat) : Int)) = true then _ else _
    by_cases hj : k < ns.length
    · have hd : decide (((k : Nat) : Int) < (((ns.map V.int).length : Nat) : Int)) = true := decide_eq_true (by rw [List.length_map]; omega)
      rw [if_pos hd]
      exact ⟨_, rfl, _, rfl, _, _, _, _, rfl, rfl, hs, atI_cell hj, .inl ⟨_, rfl, h _⟩⟩
    · have hd : ¬ decide (((k : Nat) : Int) < (((ns.map V.int).length : Nat) : Int)) = true := fun z => by
        have z := of_decide_eq_true z
        rw [List.length_map] at z
        omega
      rw [if_neg hd]
      exact h _
  refine ⟨_, rfl, _, _, rfl, rfl, _, _, rfl, rfl, .inl ⟨by decide, by decide⟩, ?_⟩
  refine ⟨_, rfl, ⟨3, rfl, a, _, rfl, hs, fun q hq => ⟨q, rfl, ⟨_, SqL.of upd_same⟩, ?_⟩⟩⟩
  refine for_list (xs := cutV (ns.map V.int) none (some 3)) (fun _ σ' H' => H' = upd H q (.lst (cutV (ns.map V.int) none (some 3))) ∧ ∃ (sd : Int) (e : Option V), 0 ≤ sd ∧ sd ≤ 2147483563 ∧ σ' = [some (.ref a), some (.int k), some (.int c), some (.int sd), e]) ⟨rfl, 15485863 * ((k : Int) + 1), none, by omega, by omega, rfl⟩ ?_ ?_ ?_
  · rintro _ _ _ _ ⟨rfl, _⟩
    exact SqL.of upd_same
  · rintro i x _ _ hx ⟨rfl, sd, e, h0, h1, rfl⟩
    have hm : x ∈ ns.map V.int := List.mem_of_mem_drop (List.mem_of_mem_take (List.mem_of_getElem? hx))
    obtain ⟨z, _, rfl⟩ := List.mem_map.mp hm
    refine ⟨_, rfl, _, _, rfl, rfl, .inl (c64b _ h0 h1), _, rfl, _, _, rfl, rfl, .inl ⟨_, rfl, ?_⟩⟩
    refine ⟨_, _, rfl, rfl, (show (0:Int) < 2147483563 by decide), ?_⟩
    exact ⟨rfl, _, _, Int.emod_nonneg _ (by decide), Int.le_of_lt (Int.emod_lt_of_pos _ (by decide)), rfl⟩
  · rintro _ _ ⟨rfl, sd, e, h0, h1, rfl⟩
    refine ⟨_, rfl, _, _, rfl, rfl, .inl (c64b _ h0 h1), _, rfl, _, _, rfl, rfl, .inl ⟨_, rfl, ?_⟩⟩
    refine ⟨_, _, rfl, rfl, (show (0:Int) < 2147483563 by decide), ?_⟩
    have fin : ∀ y : Int, 0 ≤ y → ∀ p : Addr, upd H q (.lst (cutV (ns.map V.int) none (some 3))) p = none → Q (.ref p) (upd (upd H q (.lst (cutV (ns.map V.int) none (some 3)))) p (.lst [.int ((sd * 69997 + c) % 2147483563), .int y, .int 0])) := fun y hy p hp => by
      have hpq : p ≠ q := fun e => by rw [e, upd_same] at hp; cases hp
      have hp0 : H p = none := by rw [upd_ne hpq] at hp; exact hp
      exact post p _ _ y hp0 ((sames hq).trans (sames hp)) (fun b ps e => tb_updL (tb_updL e)) upd_same (Int.emod_nonneg _ (by decide)) (Int.emod_lt_of_pos _ (by decide)) hy
    refine use_te (t := tIf _ _ _) (fun Q' h => ?_) (fun y hy => ?_)
    · refine ⟨_, rfl, _, _, rfl, rfl, _, rfl, ?_⟩
      show if decide (c < 0) = true then _ else _
      by_cases c0 : c < 0
      · rw [if_pos (decide_eq_true c0)]
        refine ⟨_, rfl, _, rfl, ?_⟩
        rw [if_pos c0]
        exact h _ (by omega)
      · rw [if_neg (fun z => c0 (of_decide_eq_true z))]
        refine ⟨_, rfl, _, _, rfl, rfl, ⟨by decide, by decide, by decide⟩, _, _, rfl, rfl, _, rfl, ?_⟩
        show if decide ((10 : Int) ^ 18 ≤ c) = true then _ else _
        by_cases c1 : (10 : Int) ^ 18 ≤ c
        · rw [if_pos (decide_eq_true c1)]
          refine ⟨_, rfl, _, rfl, ?_⟩
          rw [if_neg c0]
          exact h _ (by omega)
        · rw [if_neg (fun z => c1 (of_decide_eq_true z))]
          exact h _ (by decide)
    · exact ⟨(show (3 : Nat) ≤ sizeLine by decide +kernel), fun p hp => fin y hy p hp⟩
end
theorem sc_law : FnScope ["_law_cells", "_law_k", "_law_pool_here", "_law_turn"] ["_law_cells"] (defScope s_law) := ⟨rfl, rfl, rfl, by decide +kernel, rfl, by decide +kernel, by decide +kernel⟩
def spLaw (K : PySem.W.Frag) : L2.Sp := fun vs H Q _ => ∃ (a : Addr) (ns : List Int), vs = [.ref a] ∧ ns.length ≤ 63 ∧ SqL K H a (ns.map V.int) ∧ TbOk (fun _ => none) H (lamT K) ∧ ∀ H', Q (.bl true) H'
theorem same_n {K : PySem.W.Frag} {F F' : Hp} {a : Addr} {xs : List V} (e : LamX.ExtN F F') (h : SqL K F a xs) : SqL K F' a xs := by
  rcases h with (h | ⟨o, h⟩) | h
  · exact .inl (.inl (e _ _ h fun _ => nofun))
  · exact .inl (.inr ⟨o, e _ _ h fun _ => nofun⟩)
  · exact .inr h
theorem un_law : unm (defScope s_law) = true := by decide +kernel
section
variable {P : Program} {w : World} {K : PySem.W.Frag} {mg : Str → Option Value} {base : Heap}
theorem rng_v (n : Nat) : (if (if (5 : Int) < n then (5 : Int) else n) > 2 then (if (5 : Int) < n then (5 : Int) else n) else 2) ≤ 5 ∧ 2 ≤ (if (if (5 : Int) < n then (5 : Int) else n) > 2 then (if (5 : Int) < n then (5 : Int) else n) else 2) := by
  by_cases h : (5 : Int) < n
  · simp [h]
  · simp only [h, if_false]
    split <;> omega
theorem rng_lo (n : Nat) : -(2 ^ 62) ≤ (if (if (5 : Int) < n then (5 : Int) else n) > 2 then (if (5 : Int) < n then (5 : Int) else n) else 2) := by
  have := (rng_v n).2
  omega
theorem rng_hi (n : Nat) : (if (if (5 : Int) < n then (5 : Int) else n) > 2 then (if (5 : Int) < n then (5 : Int) else n) else 2) < 2 ^ 62 := by
  have := (rng_v n).1
  omega
theorem rng_le (n : Nat) {i : Nat} (h : i < (if (if (5 : Int) < n then (5 : Int) else n) > 2 then (if (5 : Int) < n then (5 : Int) else n) else 2).toNat) : i < 5 := by
  have := (rng_v n).1
  omega
structure Keep (K : PySem.W.Frag) (H H' : Hp) : Prop where
  ext : LamX.ExtN H H'
  tb : TbOk (fun _ => none) H' (lamT K)
theorem keep_call {H H' F' : Hp} {pa : Pa} {P' : Po} (hT : pa.T = lamT K) (hp : ∀ p, pa.p = some p → ∃ xs, H p = some (.lst xs)) (g : Gr pa (fun _ => none) H F' H') (po : PoolOk F' H' pa P') : TbOk (fun _ => none) H' (lamT K) ∧ ∀ b o, H b = some o → (∀ ps, o ≠ .tbl ps) → some b ≠ pa.p → (∀ q ∈ lamT K, q.1 ≠ b) → H' b = some o :=
  ⟨⟨hT ▸ po.tb.tabs, fun _ _ => rfl, hT ▸ po.tb.only⟩, fun b o e n n1 n2 => g.hh b o e ⟨n1, hT ▸ n2⟩⟩
theorem tb_ne {H : Hp} (t : TbOk (fun _ => none) H (lamT K)) {b : Addr} {o : HO} (e : H b = some o) (n : ∀ ps, o ≠ .tbl ps) : ∀ q ∈ lamT K, q.1 ≠ b := fun q hq z => by
  obtain ⟨ps, h⟩ := t.at hq
  rw [z, e] at h
  exact n ps (Option.some.inj h)
theorem gn_law {f fp : Addr} {fd fpd : FuncData} (F : FunD K "law" "law" (defArgs s_law) (defBody s_law) (defScope s_law) [] [] f fd) (R0 : DefOk P w K mg base 22 "_law_right" f_law_right) (R9 : DefOk P w K mg base 22 "_law_limits" f_law_limits)
    (GP : Gn P w K mg base 4 fp fpd ["_law_cells", "_law_turn"] (spPool K)) (bp : Binds K fpd ["_law_cells", "_law_turn"] []) (kp : PySem.W.keepIn K (.ref fp) = true) (gp : mg "_law_pool" = some (.ref fp))
    (ml : mg "len" = none) (mr : mg "range" = none) (mx : mg "max" = none) (mn : mg "min" = none) : Gn P w K mg base 23 f fd ["_law_cells"] (spLaw K) := by
  refine gn_of F sc_law (fun vs H Q E h => by obtain ⟨_, _, rfl, _⟩ := h; rfl) fun cdv A outer s H vs Q E hr hg hsp => ?_
  obtain ⟨a, ns, rfl, hl, hs, htb, post⟩ := hsp
  have C := sx_of (P := P) (w := w) (K := K) (mg := mg) (base := base) (s := s) (H := H) (E := E) (outer := outer) (k := 21) sc_law un_law hr hg
  obtain ⟨rfd0, rps0, RG0, rlen0, rb0, rk0, rm0⟩ := R0
  obtain ⟨bfd, bps, BG, blen, bb, bk, bm⟩ := R9
  have px : Passes (L2.CX P w) (cxOf (L2.CX P w) P w K mg base ["_law_cells", "_law_k", "_law_pool_here", "_law_turn"] "law" (defScope s_law) f cdv A outer s H E) E := passes_call C.cx.tk fun _ _ _ _ h => h
  have px0 : Passes (L2.CX P w) (cxOf (L2.CX P w) P w K mg base ["_law_cells", "_law_k", "_law_pool_here", "_law_turn"] "law" (defScope s_law) f cdv A outer s H E) E0 := passes_call C.cx.tk fun _ _ _ _ h => h.elim
  refine ⟨_, pss_cons (ps_if (pt_not (pt_val (pe_callG0 (E := E0) (dvs := []) BG C.cx.rm C.cx.gd (C.cx.glo _ (by decide +kernel)) bm bk bb .nil px0 (by decide)))) (pss_one (ps_ret pe_bl)) pss_nil)
    (pss_cons (ps_for C.ps C.cx.calm
      (pi_range1 (by rfl) mr (pa_cons (pe_callB (call_max2 C.cx.calm) (by rfl) mx (by decide +kernel) (pa_cons pe_int (pa_cons (pe_callB (call_min2 C.cx.calm) (by rfl) mn (by decide +kernel) (pa_cons (pe_callB call_len (by rfl) ml boot_len (pa_cons (pv 0) pa_nil)) (pa_cons pe_int pa_nil))) pa_nil))) pa_nil))
      (g_nm (i := 1) C.cx (by decide +kernel))
      (pss_cons (ps_asg (pe_callG (E := E0) (dvs := []) GP (C.cx.rm.mono (by decide)) C.cx.gd (C.cx.glo _ (by decide +kernel)) gp kp bp .nil px0 (pa_cons (pv 0) (pa_cons (pv 1) pa_nil)) (by decide) (by rfl) (by rfl)) (g_nm (i := 2) C.cx (by decide +kernel)))
        (pss_one (ps_for C.ps C.cx.calm (pi_range1 (by rfl) mr (pa_cons pe_int pa_nil)) (g_nm (i := 3) C.cx (by decide +kernel))
          (pss_one (ps_if (pt_not (pt_val (pe_callG (E := E0) (dvs := []) RG0 C.cx.rm C.cx.gd (C.cx.glo _ (by decide +kernel)) rm0 rk0 rb0 .nil px0 (pa_cons (pv 2) pa_nil) (by decide) (by rfl) (by rfl)))) (pss_one (ps_ret pe_bl)) pss_nil))))))
    (pss_one (ps_ret pe_bl))), ?_⟩
  obtain ⟨d0, P0, e0, ⟨rfl, rfl⟩⟩ := W_eq (limits_W (P := none))
  refine ⟨blen [] none (by rw [e0]; simp), ⟨none, lamT K⟩, fun _ => none, none, [], (fun _ _ z => nomatch z), ⟨trivial, htb⟩, rfl, .nil, ?_⟩
  rw [e0]
  refine fun v F0 H0 g0 po0 t0 => ?_
  obtain rfl := Dt.bl_inv (t0.dt rfl)
  obtain ⟨tb0, kp0⟩ := keep_call (K := K) rfl (fun p h => by cases h) g0 po0
  have ex0 : LamX.ExtN H H0 := fun b o e n => kp0 b o e n (by simp) (tb_ne htb e n)
  have hs0 := same_n ex0 hs
  refine ⟨_, rfl, ?_⟩
  refine ⟨_, rfl, _, _, rfl, .inl ⟨_, hs0, rfl⟩, _, _, rfl, _, _, rfl, _, rfl, ?_, ?_, ?_⟩
  · exact rng_lo _
  · exact rng_hi _
  refine for_range (fun _ σ H' => Keep K H0 H' ∧ ∃ u v x, σ = [some (.ref a), u, v, x]) ⟨⟨LamX.ExtN.refl _, tb0⟩, _, _, _, rfl⟩ (fun i σ H1 hi hP => ?_) (fun σ H' hP => ?_)
  · obtain ⟨hK, u, v, x, rfl⟩ := hP
    have hi2 := rng_le _ hi
    refine ⟨_, rfl, _, rfl, a, ns, i, by simp, by omega, same_n hK.ext hs0, fun p H2 x y hp0 hS2 hT2 hp2 h1 h2 h3 => ?_⟩
    have tb2 : TbOk (fun _ => none) H2 (lamT K) := ⟨hK.tb.tabs.ext hS2, fun _ _ => rfl, fun b ps e => hK.tb.only b ps (hT2 b ps e)⟩
    have ex2 : LamX.ExtN H0 H2 := fun b o e n => hS2 _ _ (hK.ext b o e n)
    refine ⟨_, rfl, by decide, by decide, ?_⟩
    refine for_range (fun j σ H' => (∃ P', PoolP (fun _ => none) H' (some p) P' ∧ PI (2 * (3 - j)) P') ∧ TbOk (fun _ => none) H' (lamT K) ∧ (∀ b o, H2 b = some o → (∀ ps, o ≠ .tbl ps) → b ≠ p → H' b = some o) ∧ ∃ u0 u, σ = [some (.ref a), u0, some (.ref p), u]) ⟨⟨some (x, y, 0), ⟨rfl, hp2⟩, h1, h2, h3, by decide, by decide⟩, tb2, (fun b o e _ _ => e), _, _, rfl⟩ (fun j σ H3 hj hP => ?_) (fun σ H3 hP => ?_)
    · obtain ⟨⟨P', pp, hpi⟩, tb3, kp3, u0, u, rfl⟩ := hP
      have hj4 : j < 3 := hj
      obtain ⟨d0, P4, e0, rfl, hP4⟩ := W_eq (right_W (n := 2 * (3 - (j + 1)) + 0) (P := P') (hpi.le (by omega)))
      refine ⟨_, rfl, rlen0 [.pool] P' (by rw [e0]; simp), ⟨some p, lamT K⟩, fun _ => none, P', [.pool], (fun _ _ z => nomatch z), ⟨pp, tb3⟩, rfl, .cons (.pool rfl) .nil, ?_⟩
      rw [e0]
      refine fun v F4 H4 g4 po4 t4 => ?_
      obtain rfl := Dt.bl_inv (t4.dt rfl)
      obtain ⟨tb4, kq4⟩ := keep_call (K := K) rfl (fun q h => by
        obtain rfl : p = q := Option.some.inj h
        obtain ⟨_, _, _, _, _, h2⟩ := pp.at
        exact ⟨_, h2⟩) g4 po4
      have kp4 : ∀ b o, H2 b = some o → (∀ ps, o ≠ .tbl ps) → b ≠ p → H4 b = some o := fun b o e n n1 => kq4 b o (kp3 b o e n n1) n (fun z => n1 (Option.some.inj z)) (tb_ne tb3 (kp3 b o e n n1) n)
      have pp4 : PoolP (fun _ => none) H4 (some p) P4 := by
        obtain ⟨z1, z2, z3, rfl, h1, h2⟩ := po4.pp.at
        exact ⟨rfl, h2⟩
      refine ⟨_, rfl, ?_⟩
      exact ⟨⟨P4, pp4, hP4.le (by omega)⟩, tb4, kp4, _, _, rfl⟩
    · obtain ⟨_, tb3, kp3, u0, u, rfl⟩ := hP
      refine ⟨⟨fun b o e n => kp3 b o (ex2 b o e n) n (fun z => ?_), tb3⟩, _, _, _, rfl⟩
      rw [z] at e
      rw [hK.ext p o e n] at hp0
      cases hp0
  · exact post _
end
end DL.Law
set_option maxHeartbeats 0
namespace DL.Law
open PySem PySem.Spec PyProof.Rows L2 DL
section
variable {P : Program} {w : World} {K : PySem.W.Frag} {mg : Str → Option Value}
theorem facts {h : Heap} {f : Addr} (kin : K.In h) (G : h.Ns mainGlobals mg) (hfa : mg ("law" : Str) = some (.ref f)) (c : SaysQ fa fn ex ts w K) :
    ∃ fd : FuncData, (∀ (s : Shared) (v : Value), BindsTo s fd ⟨[v], []⟩ [("_law_cells", v)]) ∧ ∀ base : Heap, K.In base → base.Ns mainGlobals mg → (∀ p ∈ tf.map (He.cT K), LamX.TabB base mg p.1 p.2) → Gn P w K mg base 23 f fd ["_law_cells"] (spLaw K) := by
  have fact : ∀ (i : Nat) {f : He.Fa}, fa[i]? = some f → f.ok K = true := fun i f hf => c.p.fact (List.mem_of_getElem? hf)
  have defs : ∀ (i : Nat) {d : DefP}, fn[i]? = some d → ∃ fd, IsDef K d fd := fun i d hd => c.p.defs (List.mem_of_getElem? hd)
  obtain ⟨fdD, DD⟩ := defs 0 (d := d_law_draw) rfl
  obtain ⟨fdP, DP⟩ := defs 1 (d := d_law_pool) rfl
  obtain ⟨fd, DL⟩ := defs 2 (d := d_law) rfl
  have FD := DD.bare rfl
  have FP := DP.bare rfl
  have F := DL.bare rfl
  have e := hfa.symm.trans (He.glo_ok kin G (fact 2 (f := .glo "law") rfl))
  cases e
  have gD := He.glo_ok kin G (fact 0 (f := .glo "_law_draw") rfl)
  have gP := He.glo_ok kin G (fact 1 (f := .glo "_law_pool") rfl)
  have b := FunD.bindsA (ps := ["_law_cells"]) F fun _ _ _ _ _ _ us hl => match us, hl with | [_], _ => rfl
  refine ⟨fd, fun s v => b s [v] rfl, fun base hb1 hb2 hb3 => ?_⟩
  have X0 : ∀ (n : Nat) (x : Str), fa[n]? = some (.free x) → mg x = none := fun n x hn => He.free_ok kin G (fact n hn)
  have mi := X0 13 "int" rfl
  have md := X0 25 "divmod" rfl
  have dr : DefOk P w K mg base 4 "_law_draw" f_law_draw := ⟨fdD, ["_law_pool_here", "_law_many"], (gn_draw FD mi md).mono (by decide), fun ds P' hn => by obtain ⟨m, a, b, c, rfl, _⟩ := draw_inv hn; rfl, FD.bindsN fun _ _ _ _ _ _ us hl => match us, hl with | [_, _], _ => rfl, FD.kp, gD⟩
  have X : Fx True P w K mg base h := ⟨kin, G, c, dr, fun q hq => hb3 _ (List.mem_map.mpr ⟨(q, none), List.mem_map.mpr ⟨q, hq, rfl⟩, rfl⟩)⟩
  exact gn_law F ((ok_law_right X).mono (by decide)) ((ok_law_limits X).mono (by decide)) (gn_pool FP mi X.free_abs X.free_len) (FP.bindsN fun _ _ _ _ _ _ us hl => match us, hl with | [_, _], _ => rfl) FP.kp gP X.free_len X.free_range X.free_max X.free_min
end
end DL.Law
open PySem PySem.W PySem.Calls PyProof.Rows
theorem PySem.Challenge.cw_holdhouse_k01_limits_and_errors_holds : PySem.Challenge.rw_holdhouse_k01_limits_and_errors.Holds := by
  w_on; o_law
  refine HandSHeadRun.head_any (r := OpenLaw.row PySem.Challenge.rw_holdhouse_k01_limits_and_errors) (q := view (OpenLaw.row PySem.Challenge.rw_holdhouse_k01_limits_and_errors).prog [40]) (H := DL.Law.hk) (ob := DL.Law.ob) (M := 14000) (loose := DL.Law.loose) (d := HandSHeadRun.topDef (OpenLaw.row PySem.Challenge.rw_holdhouse_k01_limits_and_errors).prog 40) (kwd := []) DL.Law.ob_eq
    (by kernel_rfl) (fun s => by kernel_rfl) DL.Law.run (by kernel_rfl) (by kernel_rfl) (by kernel_rfl) (by rfl) (by first | assumption | decide +kernel) (by decide +kernel) ⟨rfl, rfl, rfl, rfl, rfl, by decide +kernel⟩ ?hw ?hc
  case hw => w_witness2
  case hc =>
    refine DL.walk_ofR (l := PySem.Challenge.rw_holdhouse_k01_limits_and_errors) (n := 63) (k := 23) (x := "_law_cells") rfl (by decide) (by kernel_rfl) ⟨rfl, by decide, by decide⟩ ?F ?X
    case X => exact fun w H s e s' ⟨_, _, _, _, _, _, _, _, _, _, _, _, z⟩ => z
    intro w mg fa h Y G hmg0
    obtain ⟨K, KX, c⟩ := Y
    have hmg : mg ("law" : PySem.Str) = some (.ref fa) := by
      have e : (HandSHeadRun.topDef (OpenLaw.row PySem.Challenge.rw_holdhouse_k01_limits_and_errors).prog 40).name = ("law" : PySem.Str) := by kernel_rfl
      rw [← e]
      exact hmg0
    obtain ⟨fd, hb, hF⟩ := DL.Law.facts (P := (PySem.Challenge.rw_holdhouse_k01_limits_and_errors).prog) (w := w) KX G hmg c.q
    refine ⟨K, fd, DL.tf.map (He.cT K), DL.Law.spLaw K, KX, ?_, ?_, ?_, hb, fun H a ns hl hT hO hS => ⟨a, ns, rfl, hl, hS, ⟨?_, fun _ _ => rfl, ?_⟩, fun _ => rfl⟩, hF⟩
    · intro p hp
      obtain ⟨q, hq, rfl⟩ := List.mem_map.mp hp
      exact c.empty q hq
    · intro p hp
      obtain ⟨q, hq, rfl⟩ := List.mem_map.mp hp
      exact c.out q hq
    · intro p hp
      obtain ⟨q, hq, rfl⟩ := List.mem_map.mp hp
      exact PySem.W.codeHd_of_K KX (c.hd q hq)
    · intro p hp
      obtain ⟨x, hx, rfl⟩ := List.mem_map.mp hp
      exact LamX.TabS.nil (hT _ (List.mem_map.mpr ⟨(x, none), List.mem_map.mpr ⟨x, hx, rfl⟩, rfl⟩))
    · intro b ps e
      obtain ⟨p, hp, rfl⟩ := hO b ps e
      obtain ⟨q, hq, rfl⟩ := List.mem_map.mp hp
      obtain ⟨x, hx, rfl⟩ := List.mem_map.mp hq
      exact ⟨_, List.mem_map.mpr ⟨x, hx, rfl⟩, rfl⟩

