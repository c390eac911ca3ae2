import PyProof.Rows.All
import Wide.All
import OpenK.AllK
import Wide.FinOn
import HandS.ForMost
import HandS.Exc
import HandS.ExcOwn
import HandS.TryOnly
import HandS.WordsExc
import HandS.CallSlots
import HandS.Flow
import HandS.Deep
import HandS.TupAny
import HandS.TupMul
import HandS.Wide
import HandS.Slots
import HandS.SlotsOwn
import HandS.IsInst
import HandS.Zip
import HandS.Conv
import HandS.Star
import HandS.Defaults
import HandS.Head0
import HandS.Head1
import HandS.Head2
import HandS.HeadEnd
import HandS.HeadHook1
import HandS.HeadHook2
import KE.KeyNested
import HandS.ExcCtx
import HandS.Hot
import HandS.HotCalls
import KE.KTupSum
import HandS.TupLe
import KE.GoesNew
import PyProof.EnumMake
import HandS.ClsMeth
import HandS.HeadNt
import KE.SortCalls
import HandS.ExcValue
import HandS.Text
import HandS.Style
import HandS.Codes
import HandS.EndBits
import PyProof.ListStr
import PyProof.CollectStr
import PyProof.TupleCall
import KE.KRevSl
import HandS.TryMany
import HandS.ExcInit
import HandS.ExcField
import KE.KExcIs
import KE.KDictZip
import HandS.Dict
import HandS.More
import HandS.DictTup
import HandS.Iter
import HandS.DictComp
import KE.DataMinMax
import HandS.SortKw
import KE.GoesZip
import KE.GoesMore
import KE.KDictPairs
import KE.KDictWalk
import KE.KDictCopyH
import KE.KDictSum
import HandS.TupSets
import HandS.Replace
import HandS.SetTxt0
import KE.KIndexOf
import HandS.Zip0
import KE.DataMinKey
import PySem.Challenge.RW_allgather_k30_the_worth_of_a_table
set_option Elab.async false
set_option linter.all false
set_option maxRecDepth 100000
set_option autoImplicit false
namespace VL
open PySem PySem.Spec L2
open PyProof.Rows hiding St
inductive D where
  | non | bl (b : Bool) | int (i : Int) | str (x : Str) | tup (xs : List D) | lst (xs : List D) | scr (xs : List D)
  | obj (c : Str) (xs : List D) | dT (kvs : List (List Key × D)) | dK (kvs : List (Key × D)) | exn (c : Str) (fs : List (Str × D)) | dN (w : World) (kvs : List (NestedKey × D)) | tupL (xs : List D)
inductive Rs (α : Type) where
  | ok (a : α) | ex (c : Str) (fs : List (Str × D)) | no
def Rs.bind {α β : Type} (m : Rs α) (f : α → Rs β) : Rs β := match m with
  | .ok a => f a
  | .ex c fs => .ex c fs
  | .no => .no
instance : Monad Rs where
  pure := Rs.ok
  bind := Rs.bind
@[simp] theorem bind_ok {α β : Type} (a : α) (f : α → Rs β) : (Rs.ok a >>= f) = f a := rfl
@[simp] theorem bind_ex {α β : Type} (c : Str) (fs : List (Str × D)) (f : α → Rs β) : ((Rs.ex c fs : Rs α) >>= f) = .ex c fs := rfl
@[simp] theorem bind_no {α β : Type} (f : α → Rs β) : ((Rs.no : Rs α) >>= f) = .no := rfl
@[simp] theorem pure_ok {α : Type} (a : α) : (pure a : Rs α) = .ok a := rfl
@[simp] theorem Rs.bind_ok {α β : Type} (a : α) (f : α → Rs β) : (Rs.ok a).bind f = f a := rfl
@[simp] theorem Rs.bind_ex {α β : Type} (c : Str) (fs : List (Str × D)) (f : α → Rs β) : (Rs.ex c fs : Rs α).bind f = .ex c fs := rfl
@[simp] theorem Rs.bind_no {α β : Type} (f : α → Rs β) : (Rs.no : Rs α).bind f = .no := rfl
mutual
def nkD : NestedKey → D
  | .none => .non
  | .num i => .int i
  | .text x => .str x
  | .tup ks => .tup (nkDs ks)
def nkDs : List NestedKey → List D
  | [] => []
  | k :: ks => nkD k :: nkDs ks
end
def nEnt (w : World) (x : NestedKey × Addr × Value) : DictEntry := ⟨x.1.hash w, .ref x.2.1, x.2.2⟩
def nO (w : World) (a : Addr) (ys : List (NestedKey × Addr × V)) : HO := .ext fun h => (a == sysModules) = false ∧ (∀ y ∈ ys, y.1.depth ≤ 8) ∧ ∃ xs : List (NestedKey × Addr × Value), Paired (fun p q => p.1 = q.1 ∧ p.2.1 = q.2.1 ∧ RelV p.2.2 q.2.2) ys xs ∧
  ∃ (o : Obj) (es : Array DictEntry) (ep : Nat), h.get? a = some o ∧ o.ExactDict ∧ o.data = .dict es ep ∧ es.toList = xs.map (nEnt w) ∧ (xs.map (·.1)).Nodup
def xO (cls : Value) (d : Option Addr) (a : Addr) : HO := .ext fun h => ∃ (oe : Obj) (vs : Array Value), h.get? a = some oe ∧ L2N.Zn cls d oe ∧ oe.data = .fields vs
def TupR (K : PySem.W.Frag) (F : Hp) (a : Addr) (xs : List V) : Prop := F a = some (.tup xs) ∨ (SqT K (fun _ => none) a xs ∧ ∀ x ∈ xs, ∃ i : Int, x = .int i)
theorem TupR.sq {K : PySem.W.Frag} {F : Hp} {a : Addr} {xs : List V} (h : TupR K F a xs) : SqT K F a xs := by
  rcases h with h | ⟨(h | ⟨o, h⟩) | h, _⟩
  · exact .inl (.inl h)
  · cases h
  · cases h
  · exact .inr h
theorem sqT_frz {K : PySem.W.Frag} {F : Hp} {a : Addr} {o : Obj} {xs : List V} (h : F a = some (.frz o (.tup xs))) : SqT K F a xs := .inl (.inr ⟨o, h⟩)
theorem TupR.same {K : PySem.W.Frag} {F F' : Hp} {a : Addr} {xs : List V} (e : Same F F') (h : TupR K F a xs) : TupR K F' a xs := by
  rcases h with h | h
  · exact .inl (e _ _ h)
  · exact .inr h
mutual
inductive Rep (K : PySem.W.Frag) (F : Hp) : V → D → Prop
  | non : Rep K F .non .non
  | bl (b : Bool) : Rep K F (.bl b) (.bl b)
  | int (i : Int) : Rep K F (.int i) (.int i)
  | str (x : Str) : Rep K F (.str x) (.str x)
  | lst {a : Addr} {xs : List V} {ds : List D} : F a = some (.lst xs) → xs.length ≤ sizeLine → Reps K F xs ds → Rep K F (.ref a) (.lst ds)
  | scr {a : Addr} {xs : List V} {ds : List D} : SqL K F a xs → xs.length ≤ sizeLine → Reps K F xs ds → Rep K F (.ref a) (.scr ds)
  | tup {a : Addr} {xs : List V} {ds : List D} : TupR K F a xs → xs.length ≤ sizeLine → Reps K F xs ds → Rep K F (.ref a) (.tup ds)
  | tupL {a : Addr} {o : Obj} {xs : List V} {ds : List D} : F a = some (.frz o (.tup xs)) → o.dict = none → xs.length ≤ sizeLine → Reps K F xs ds → Rep K F (.ref a) (.tupL ds)
  | obj {a dx : Addr} {c : Str} {xs : List V} {ds : List D} : F a = some (SlX.SlO a (He.ga K c) dx (xs.map some)) → F dx = some (.xd []) → Reps K F xs ds → Rep K F (.ref a) (.obj c ds)
  | dT {a : Addr} {o : Obj} {kvs : List (List Key × V)} {es : List (List Key × D)} : F a = some (.frz o (.dT kvs)) → kvs.map (·.1) = es.map (·.1) → Reps K F (kvs.map (·.2)) (es.map (·.2)) → Rep K F (.ref a) (.dT es)
  | dK {a : Addr} {o : Obj} {kvs : List (Key × V)} {es : List (Key × D)} : F a = some (.frz o (.dK kvs)) → kvs.map (·.1) = es.map (·.1) → Reps K F (kvs.map (·.2)) (es.map (·.2)) → Rep K F (.ref a) (.dK es)
  | dN {a : Addr} {o : Obj} {w : World} {ys : List (NestedKey × Addr × V)} {es : List (NestedKey × D)} : F a = some (.frz o (nO w a ys)) → ys.map (·.1) = es.map (·.1) → Reps K F (ys.map fun y => V.ref y.2.1) (es.map fun p => nkD p.1) → Reps K F (ys.map (·.2.2)) (es.map (·.2)) → Rep K F (.ref a) (.dN w es)
  | exn {a dd : Addr} {c : Str} {vs : List (Str × V)} {fs : List (Str × D)} : F a = some (xO (.ref (He.ga K c)) (some dd) a) → F dd = some (.xd vs) → vs.map (·.1) = fs.map (·.1) → Reps K F (vs.map (·.2)) (fs.map (·.2)) → Rep K F (.ref a) (.exn c fs)
inductive Reps (K : PySem.W.Frag) (F : Hp) : List V → List D → Prop
  | nil : Reps K F [] []
  | cons {v : V} {vs : List V} {d : D} {ds : List D} : Rep K F v d → Reps K F vs ds → Reps K F (v :: vs) (d :: ds)
end
theorem SqL.same {K : PySem.W.Frag} {H H' : Hp} {a : Addr} {xs : List V} (e : Same H H') (h : SqL K H a xs) : SqL K H' a xs := by
  rcases h with (h | ⟨o, h⟩) | h
  · exact .inl (.inl (e _ _ h))
  · exact .inl (.inr ⟨o, e _ _ h⟩)
  · exact .inr h
theorem SqT.same {K : PySem.W.Frag} {H H' : Hp} {a : Addr} {xs : List V} (e : Same H H') (h : SqT K H a xs) : SqT K H' a xs := by
  rcases h with (h | ⟨o, h⟩) | h
  · exact .inl (.inl (e _ _ h))
  · exact .inl (.inr ⟨o, e _ _ h⟩)
  · exact .inr h
mutual
theorem Rep.mono {K : PySem.W.Frag} {F F' : Hp} (e : Same F F') : ∀ {v : V} {d : D}, Rep K F v d → Rep K F' v d
  | _, _, .non => .non
  | _, _, .bl b => .bl b
  | _, _, .int i => .int i
  | _, _, .str x => .str x
  | _, _, .lst h l r => .lst (e _ _ h) l (Reps.mono e r)
  | _, _, .scr h l r => .scr (SqL.same e h) l (Reps.mono e r)
  | _, _, .tup h l r => .tup (TupR.same e h) l (Reps.mono e r)
  | _, _, .tupL h h2 l r => .tupL (e _ _ h) h2 l (Reps.mono e r)
  | _, _, .obj h h2 r => .obj (e _ _ h) (e _ _ h2) (Reps.mono e r)
  | _, _, .dT h h2 r => .dT (e _ _ h) h2 (Reps.mono e r)
  | _, _, .dK h h2 r => .dK (e _ _ h) h2 (Reps.mono e r)
  | _, _, .dN h h2 k r => .dN (e _ _ h) h2 (Reps.mono e k) (Reps.mono e r)
  | _, _, .exn h h1 h2 r => .exn (e _ _ h) (e _ _ h1) h2 (Reps.mono e r)
theorem Reps.mono {K : PySem.W.Frag} {F F' : Hp} (e : Same F F') : ∀ {v : List V} {d : List D}, Reps K F v d → Reps K F' v d
  | _, _, .nil => .nil
  | _, _, .cons h r => .cons (Rep.mono e h) (Reps.mono e r)
end
section
variable {K : PySem.W.Frag} {F : Hp}
theorem Reps.length : ∀ {vs : List V} {ds : List D}, Reps K F vs ds → vs.length = ds.length
  | _, _, .nil => rfl
  | _, _, .cons _ r => congrArg (· + 1) (Reps.length r)
theorem Reps.get : ∀ {vs : List V} {ds : List D} {i : Nat} {d : D}, Reps K F vs ds → ds[i]? = some d → ∃ v, vs[i]? = some v ∧ Rep K F v d
  | _, _, _, _, .nil, h => by simp at h
  | _, _, 0, _, .cons h _, e => ⟨_, rfl, by simp at e; exact e ▸ h⟩
  | _, _, i + 1, _, .cons _ r, e => by
    obtain ⟨v, h1, h2⟩ := Reps.get (i := i) r (by simpa using e)
    exact ⟨v, by simpa using h1, h2⟩
theorem Reps.getV : ∀ {vs : List V} {ds : List D} {i : Nat} {v : V}, Reps K F vs ds → vs[i]? = some v → ∃ d, ds[i]? = some d ∧ Rep K F v d
  | _, _, _, _, .nil, h => by simp at h
  | _, _, 0, _, .cons h _, e => ⟨_, rfl, by simp at e; exact e ▸ h⟩
  | _, _, i + 1, _, .cons _ r, e => by
    obtain ⟨v, h1, h2⟩ := Reps.getV (i := i) r (by simpa using e)
    exact ⟨v, by simpa using h1, h2⟩
theorem Reps.append : ∀ {vs ws : List V} {ds es : List D}, Reps K F vs ds → Reps K F ws es → Reps K F (vs ++ ws) (ds ++ es)
  | _, _, _, _, .nil, s => s
  | _, _, _, _, .cons h r, s => .cons h (r.append s)
theorem Reps.take : ∀ {vs : List V} {ds : List D} (n : Nat), Reps K F vs ds → Reps K F (vs.take n) (ds.take n)
  | _, _, 0, _ => .nil
  | _, _, _ + 1, .nil => .nil
  | _, _, n + 1, .cons h r => .cons h (r.take n)
theorem Reps.drop : ∀ {vs : List V} {ds : List D} (n : Nat), Reps K F vs ds → Reps K F (vs.drop n) (ds.drop n)
  | _, _, 0, r => r
  | _, _, _ + 1, .nil => .nil
  | _, _, n + 1, .cons _ r => r.drop n
theorem Reps.set : ∀ {vs : List V} {ds : List D} {v : V} {d : D} (i : Nat), Rep K F v d → Reps K F vs ds → Reps K F (vs.set i v) (ds.set i d)
  | _, _, _, _, _, _, .nil => .nil
  | _, _, _, _, 0, h, .cons _ r => .cons h r
  | _, _, _, _, i + 1, h, .cons q r => .cons q (r.set i h)
theorem Reps.one {v : V} {d : D} (h : Rep K F v d) : Reps K F [v] [d] := .cons h .nil
end
def Tpl (o : HO) : Prop := ∃ ks : List Key, o = .tup (ks.map kV)
def nT (o : HO) : Prop := ∀ xs, o ≠ .tup xs
def Nw (H : Hp) (a : Addr) (o : HO) : Prop := H a = none ∨ (Tpl o ∧ H a = some o)
theorem Nw.not {H : Hp} {a : Addr} {o o' : HO} (n : Nw H a o) (h : H a = some o') (t : nT o') : False := by
  rcases n with n | ⟨⟨ks, rfl⟩, n⟩
  · rw [n] at h; cases h
  · rw [n] at h; cases h; exact t _ rfl
theorem Nw.back {H H' : Hp} {a : Addr} {o : HO} (n : Nw H' a o) (s : ∀ o', H a = some o' → H' a = some o') : Nw H a o := by
  cases q : H a with
  | none => exact .inl q
  | some o' =>
    rcases n with n | ⟨t, n⟩
    · rw [s _ q] at n; cases n
    · have n2 := n
      rw [s _ q] at n2; cases n2; exact .inr ⟨t, q⟩
structure Ext (F H F' H' : Hp) : Prop where
  same : Same H H'
  sub : Same F' H'
  ext : Same F F'
  new : ∀ a o, F' a = some o → F a = some o ∨ Nw H a o
theorem Ext.refl {F H : Hp} (s : Same F H) : Ext F H F H := ⟨Same.refl H, s, Same.refl F, fun _ _ h => .inl h⟩
theorem Ext.trans {F H F1 H1 F2 H2 : Hp} (a : Ext F H F1 H1) (b : Ext F1 H1 F2 H2) : Ext F H F2 H2 :=
  ⟨a.same.trans b.same, b.sub, a.ext.trans b.ext, fun x o h => by
    rcases b.new x o h with h | h
    · exact a.new x o h
    · exact .inr (h.back fun o' q => a.same _ _ q)⟩
theorem same_upd {H : Hp} {p : Addr} {o : HO} (h : H p = none) : Same H (upd H p o) := fun b x e => by
  rw [upd_ne (ne_of_none e h)]
  exact e
theorem sub_none {F H : Hp} (s : Same F H) {p : Addr} (h : H p = none) : F p = none := s.free h
theorem sub_upd {F H : Hp} (s : Same F H) (p : Addr) (o : HO) : Same (upd F p o) (upd H p o) := fun b x e => by
  by_cases hb : b = p
  · subst hb
    rw [upd_same] at e
    rw [upd_same]
    exact e
  · rw [upd_ne hb] at e
    rw [upd_ne hb]
    exact s _ _ e
theorem Ext.fresh {F H : Hp} (s : Same F H) {p : Addr} (o : HO) (h : H p = none) : Ext F H (upd F p o) (upd H p o) :=
  ⟨same_upd h, sub_upd s p o, same_upd (sub_none s h), fun b x e => by
    by_cases hb : b = p
    · subst hb
      exact .inr (.inl h)
    · rw [upd_ne hb] at e
      exact .inl e⟩
theorem Ext.loose {F H : Hp} (s : Same F H) {p : Addr} (o : HO) (h : H p = none) : Ext F H F (upd H p o) :=
  ⟨same_upd h, fun b x e => same_upd h b x (s b x e), Same.refl F, fun _ _ e => .inl e⟩
theorem passLN {X : Cx} : Passes (L2N.CX X.prog X.w) X E0 := fun pins σ H s er s' I hq => by
  rcases hq with ⟨a0, B0, Hq, cq, dq, q1, q2, q3, q4, q5, q6, q7, q8⟩
  exact q8.elim
theorem takes0N {X : Cx} : L2N.Takes X (fun _ _ _ _ => False) := fun u s' hq => by
  rcases hq with ⟨a0, B0, sI, pn, σq, Hq, cq, dq, q1, q2, q3, q4, q5, q6, q7, q8, q9⟩
  exact q9.elim
end VL
set_option Elab.async false
set_option linter.all false
set_option maxRecDepth 100000
set_option autoImplicit false
namespace VL
open PySem PySem.Spec L2
open PyProof.Rows hiding St
inductive Own (K : PySem.W.Frag) (F H : Hp) (a : Addr) : D → Prop
  | lst {xs : List V} {ds : List D} : H a = some (.lst xs) → xs.length ≤ sizeLine → Reps K F xs ds → Own K F H a (.lst ds)
  | dT {kvs : List (List Key × V)} {es : List (List Key × D)} : H a = some (.dT kvs) → kvs.map (·.1) = es.map (·.1) → Reps K F (kvs.map (·.2)) (es.map (·.2)) → Own K F H a (.dT es)
  | dK {kvs : List (Key × V)} {es : List (Key × D)} : H a = some (.dK kvs) → kvs.map (·.1) = es.map (·.1) → Reps K F (kvs.map (·.2)) (es.map (·.2)) → Own K F H a (.dK es)
  | dN {w : World} {ys : List (NestedKey × Addr × V)} {es : List (NestedKey × D)} : H a = some (nO w a ys) → ys.map (·.1) = es.map (·.1) → Reps K F (ys.map fun y => V.ref y.2.1) (es.map fun p => nkD p.1) → Reps K F (ys.map (·.2.2)) (es.map (·.2)) → Own K F H a (.dN w es)
  | obj {dx : Addr} {c : Str} {xs : List V} {ds : List D} : H a = some (SlX.SlO a (He.ga K c) dx (xs.map some)) → F dx = some (.xd []) → Reps K F xs ds → Own K F H a (.obj c ds)
theorem Own.there {K : PySem.W.Frag} {F H : Hp} {a : Addr} {d : D} (h : Own K F H a d) : ∃ o, H a = some o ∧ nT o := by
  cases h with
  | lst h _ _ => exact ⟨_, h, fun _ z => nomatch z⟩
  | dT h _ _ => exact ⟨_, h, fun _ z => nomatch z⟩
  | dK h _ _ => exact ⟨_, h, fun _ z => nomatch z⟩
  | dN h _ _ _ => exact ⟨_, h, fun _ z => nomatch z⟩
  | obj h _ _ => exact ⟨_, h, fun _ z => nomatch z⟩
theorem Own.move {K : PySem.W.Frag} {F H F' H' : Hp} {a : Addr} {d : D} (e : Same F F') (hs : H' a = H a) (h : Own K F H a d) : Own K F' H' a d := by
  cases h with
  | lst h l r => exact .lst (hs.trans h) l (r.mono e)
  | dT h l r => exact .dT (hs.trans h) l (r.mono e)
  | dK h l r => exact .dK (hs.trans h) l (r.mono e)
  | dN h l k r => exact .dN (hs.trans h) l (k.mono e) (r.mono e)
  | obj h l r => exact .obj (hs.trans h) (e _ _ l) (r.mono e)
theorem Own.ext {K : PySem.W.Frag} {F H F' H' : Hp} {a : Addr} {d : D} (e : Ext F H F' H') (h : Own K F H a d) : Own K F' H' a d := by
  obtain ⟨o, q, _⟩ := h.there
  exact h.move e.ext ((e.same _ _ q).trans q.symm)
def D.frzd : D → Bool
  | .dT _ => false
  | .dK _ => false
  | .dN _ _ => false
  | _ => true
theorem Own.rep {K : PySem.W.Frag} {F H : Hp} {a : Addr} {d : D} (h : Own K F H a d) (hd : d.frzd = true) (s : Same F H) (hn : F a = none) : ∃ o, H a = some o ∧ Rep K (upd F a o) (.ref a) d := by
  cases h with
  | lst h l r => exact ⟨_, h, .lst upd_same l (r.mono (same_upd hn))⟩
  | dT h l r => cases hd
  | dK h l r => cases hd
  | dN h l k r => cases hd
  | obj h l r => exact ⟨_, h, .obj upd_same (same_upd hn _ _ l) (r.mono (same_upd hn))⟩
inductive Cl where
  | val (d : D) | own (l : Bool) (d : D)
abbrev Rho := List (Option Cl)
structure Gd where
  F0 : Hp
  H0 : Hp
  bs : List Addr
def Gd.at (G : Gd) (F : Hp) : Gd := { G with F0 := F }
def OwnAt (G : Gd) (a : Addr) : Bool → Prop
  | true => G.H0 a = none ∧ a ∉ G.bs
  | false => a ∈ G.bs
def NwG (G : Gd) (a : Addr) (o : HO) : Prop := (G.H0 a = none ∧ a ∉ G.bs) ∨ (Tpl o ∧ G.H0 a = some o ∧ a ∉ G.bs)
structure Gnd (K : PySem.W.Frag) (G : Gd) (F H : Hp) : Prop where
  sub : Same F H
  base : ∀ a o, G.H0 a = some o → a ∉ G.bs → H a = some o
  bsT : ∀ a, a ∈ G.bs → ∃ o, H a = some o ∧ nT o
  ext : Same G.F0 F
  new : ∀ a o, F a = some o → G.F0 a = some o ∨ NwG G a o
structure Holds (K : PySem.W.Frag) (G : Gd) (ρ : Rho) (σ : St) (F H : Hp) : Prop extends Gnd K G F H where
  val : ∀ (i : Nat) (d : D), ρ[i]? = some (some (Cl.val d)) → ∃ v, σ[i]? = some (some v) ∧ Rep K F v d
  own : ∀ (i : Nat) (l : Bool) (d : D), ρ[i]? = some (some (Cl.own l d)) → ∃ a, σ[i]? = some (some (V.ref a)) ∧ F a = none ∧ OwnAt G a l ∧ Own K F H a d
  sep : ∀ (i j : Nat) (l m : Bool) (d e : D) (a : Addr), i ≠ j → ρ[i]? = some (some (Cl.own l d)) → ρ[j]? = some (some (Cl.own m e)) → σ[i]? = some (some (V.ref a)) → σ[j]? = some (some (V.ref a)) → False
  len : ρ.length ≤ σ.length
section
variable {K : PySem.W.Frag} {G : Gd} {ρ : Rho} {σ : St} {F H F' H' : Hp}
theorem Gnd.nwG {a : Addr} {o : HO} (g : Gnd K G F H) (h : Nw H a o) : NwG G a o := by
  have nb : a ∉ G.bs := fun hb => by
    obtain ⟨o2, q2, t⟩ := g.bsT a hb
    exact h.not q2 t
  cases q : G.H0 a with
  | none => exact .inl ⟨q, nb⟩
  | some o' =>
    rcases h with h | ⟨t, h⟩
    · rw [g.base a o' q nb] at h
      cases h
    · rw [g.base a o' q nb] at h
      cases h
      exact .inr ⟨t, q, nb⟩
theorem Gnd.more (g : Gnd K G F H) (e : Ext F H F' H') : Gnd K G F' H' where
  sub := e.sub
  base := fun a o h hb => e.same _ _ (g.base a o h hb)
  bsT := fun a hb => by
    obtain ⟨o, q, t⟩ := g.bsT a hb
    exact ⟨o, e.same _ _ q, t⟩
  ext := g.ext.trans e.ext
  new := fun a o h => by
    rcases e.new a o h with h | h
    · exact g.new a o h
    · exact .inr (g.nwG h)
theorem Holds.more (h : Holds K G ρ σ F H) (e : Ext F H F' H') : Holds K G ρ σ F' H' where
  toGnd := h.toGnd.more e
  val := fun i d q => by
    obtain ⟨v, h1, h2⟩ := h.val i d q
    exact ⟨v, h1, h2.mono e.ext⟩
  own := fun i l d q => by
    obtain ⟨a, h1, h2, h3, h4⟩ := h.own i l d q
    refine ⟨a, h1, ?_, h3, h4.ext e⟩
    cases q2 : F' a with
    | none => rfl
    | some o =>
      rcases e.new a o q2 with z | z
      · rw [h2] at z
        cases z
      · obtain ⟨o2, z2, t⟩ := h4.there
        exact (z.not z2 t).elim
  sep := h.sep
  len := h.len
end
def XRep (K : PySem.W.Frag) (F : Hp) (dd : Addr) (fs : List (Str × D)) : Prop := ∃ vs : List (Str × V), F dd = some (.xd vs) ∧ vs.map (·.1) = fs.map (·.1) ∧ Reps K F (vs.map (·.2)) (fs.map (·.2))
def Post {α β : Type} (K : PySem.W.Frag) (Rl : Hp → Hp → α → β → Prop) (W : XK) (F H : Hp) (Q : α → Hp → Prop) : Rs β → Prop
  | .ok d => ∀ v F' H', Ext F H F' H' → Rl F' H' v d → Q v H'
  | .ex c fs => ∀ dd F' H', Ext F H F' H' → XRep K F' dd fs → W (.ref (He.ga K c)) (some dd) H'
  | .no => False
theorem Post.more {α β : Type} {K : PySem.W.Frag} {Rl : Hp → Hp → α → β → Prop} {W : XK} {F H F' H' : Hp} {Q : α → Hp → Prop} {m : Rs β} (h : Post K Rl W F H Q m) (e : Ext F H F' H') : Post K Rl W F' H' Q m := by
  cases m with
  | ok d => exact fun v F2 H2 e2 r => h v F2 H2 (e.trans e2) r
  | ex c fs => exact fun dd F2 H2 e2 r => h dd F2 H2 (e.trans e2) r
  | no => exact h
theorem Post.bind {α β γ δ : Type} {K : PySem.W.Frag} {R1 : Hp → Hp → α → β → Prop} {R2 : Hp → Hp → γ → δ → Prop} {W : XK} {F H : Hp} {Q1 : α → Hp → Prop} {Q : γ → Hp → Prop} {m : Rs β} {f : β → Rs δ}
    (h : Post K R2 W F H Q (m.bind f)) (k : ∀ d v F' H', Ext F H F' H' → R1 F' H' v d → Post K R2 W F' H' Q (f d) → Q1 v H') : Post K R1 W F H Q1 m := by
  cases m with
  | ok d => exact fun v F2 H2 e2 r => k d v F2 H2 e2 r (Post.more h e2)
  | ex c fs => exact h
  | no => exact h
theorem Post.imp {α β γ : Type} {K : PySem.W.Frag} {R1 : Hp → Hp → α → β → Prop} {R2 : Hp → Hp → γ → β → Prop} {W : XK} {F H : Hp} {Q1 : α → Hp → Prop} {Q : γ → Hp → Prop} {m : Rs β}
    (h : Post K R2 W F H Q m) (k : ∀ d v F' H', Ext F H F' H' → R1 F' H' v d → (∀ u F2 H2, Ext F' H' F2 H2 → R2 F2 H2 u d → Q u H2) → Q1 v H') : Post K R1 W F H Q1 m := by
  cases m with
  | ok d => exact fun v F2 H2 e2 r => k d v F2 H2 e2 r fun u F3 H3 e3 r3 => h u F3 H3 (e2.trans e3) r3
  | ex c fs => exact h
  | no => exact h
def Rs.of {α : Type} : Option α → Rs α
  | some a => .ok a
  | none => .no
@[simp] theorem Rs.of_some {α : Type} (a : α) : Rs.of (some a) = .ok a := rfl
@[simp] theorem Rs.of_none {α : Type} : (Rs.of (none : Option α)) = .no := rfl
theorem Post.of {α β : Type} {K : PySem.W.Frag} {Rl : Hp → Hp → α → β → Prop} {W : XK} {F H : Hp} {Q : α → Hp → Prop} {o : Option β} (h : Post K Rl W F H Q (Rs.of o)) : ∃ d, o = some d ∧ ∀ v F' H', Ext F H F' H' → Rl F' H' v d → Q v H' := by
  cases o with
  | none => exact h.elim
  | some d => exact ⟨d, rfl, h⟩
def RepH (K : PySem.W.Frag) (F H : Hp) (v : V) (d : D) : Prop := Rep K F v d ∨ ∃ a, v = .ref a ∧ Own K F H a d
theorem RepH.more {K : PySem.W.Frag} {F H F' H' : Hp} {v : V} {d : D} (h : RepH K F H v d) (e : Ext F H F' H') : RepH K F' H' v d := by
  rcases h with h | ⟨a, h, q⟩
  · exact .inl (h.mono e.ext)
  · exact .inr ⟨a, h, q.ext e⟩
abbrev RF (K : PySem.W.Frag) : Hp → Hp → V → D → Prop := fun F _ v d => Rep K F v d
abbrev RL (K : PySem.W.Frag) : Hp → Hp → List V → List D → Prop := fun F _ v d => Reps K F v d
abbrev RB : Hp → Hp → Bool → Bool → Prop := fun _ _ b c => b = c
def EV (X : Cx) (G : Gd) (W : WX) (ρ : Rho) (e : Expr) (m : Rs D) : Prop :=
  ∃ t, PE X e t ∧ ∀ F0 σ F H Q, Holds X.K (G.at F0) ρ σ F H → Post X.K (RF X.K) (fun c d H => W c d σ H) F H Q m → t σ H Q
def EO (X : Cx) (G : Gd) (W : WX) (ρ : Rho) (e : Expr) (m : Rs D) : Prop :=
  ∃ t, PE X e t ∧ ∀ F0 σ F H Q, Holds X.K (G.at F0) ρ σ F H → Post X.K (RepH X.K) (fun c d H => W c d σ H) F H Q m → t σ H Q
abbrev RN (K : PySem.W.Frag) (H : Hp) : Hp → Hp → V → List D → Prop := fun F' H' v ds => ∃ a, v = .ref a ∧ H a = none ∧ F' a = none ∧ Own K F' H' a (.lst ds)
def EF (X : Cx) (G : Gd) (W : WX) (ρ : Rho) (e : Expr) (m : Rs (List D)) : Prop :=
  ∃ t, PE X e t ∧ ∀ F0 σ F H Q, Holds X.K (G.at F0) ρ σ F H → Post X.K (RN X.K H) (fun c d H => W c d σ H) F H Q m → t σ H Q
def AV (X : Cx) (G : Gd) (W : WX) (ρ : Rho) (es : List Expr) (m : Rs (List D)) : Prop :=
  (∀ ds, m = .ok ds → ds.length = es.length) ∧ ∃ t, PA X es t ∧ ∀ F0 σ F H Q, Holds X.K (G.at F0) ρ σ F H → Post X.K (RL X.K) (fun c d H => W c d σ H) F H Q m → t σ H Q
def TV (X : Cx) (G : Gd) (W : WX) (ρ : Rho) (e : Expr) (m : Rs Bool) : Prop :=
  ∃ t, PT X e t ∧ ∀ F0 σ F H Q, Holds X.K (G.at F0) ρ σ F H → Post X.K RB (fun c d H => W c d σ H) F H Q m → t σ H Q
section
variable {X : Cx} {G : Gd} {W : WX} {ρ : Rho} {e : Expr} {m : Rs D}
theorem EV.o (h : EV X G W ρ e m) : EO X G W ρ e m := by
  obtain ⟨t, p, q⟩ := h
  refine ⟨t, p, fun F0 σ F H Q hh hp => q F0 σ F H Q hh ?_⟩
  exact hp.imp fun d v F' H' e1 r k => k v F' H' (Ext.refl e1.sub) (.inl r)
theorem ev_var {i : Nat} {x : Str} {pos : Pos} {d : D} (hi : ρ[i]? = some (some (.val d))) (h : PE X (.Name x pos) (tVar i)) : EV X G W ρ (.Name x pos) (.ok d) :=
  ⟨_, h, fun F0 σ F H Q hh hp => by
    obtain ⟨v, h1, h2⟩ := hh.val i d hi
    exact ⟨v, h1, hp v F H (Ext.refl hh.sub) h2⟩⟩
theorem eo_var {i : Nat} {x : Str} {pos : Pos} {l : Bool} {d : D} (hi : ρ[i]? = some (some (.own l d))) (h : PE X (.Name x pos) (tVar i)) : EO X G W ρ (.Name x pos) (.ok d) :=
  ⟨_, h, fun F0 σ F H Q hh hp => by
    obtain ⟨a, h1, h2, h3, h4⟩ := hh.own i l d hi
    exact ⟨_, h1, hp _ F H (Ext.refl hh.sub) (.inr ⟨a, rfl, h4⟩)⟩⟩
theorem ev_c {v : V} {d : D} (h : PE X e (tC v)) (r : ∀ F, Rep X.K F v d) : EV X G W ρ e (.ok d) :=
  ⟨_, h, fun F0 σ F H Q hh hp => hp v F H (Ext.refl hh.sub) (r F)⟩
theorem ev_int {i : Int} {j pos} : EV X G W ρ (.Constant (.int i) j pos) (.ok (.int i)) := ev_c pe_int fun _ => .int i
theorem ev_bl {b : Bool} {j pos} : EV X G W ρ (.Constant (.bool b) j pos) (.ok (.bl b)) := ev_c pe_bl fun _ => .bl b
theorem ev_non {j pos} : EV X G W ρ (.Constant .none j pos) (.ok .non) := ev_c pe_non fun _ => .non
theorem ev_str {x : Str} {j pos} : EV X G W ρ (.Constant (.str x) j pos) (.ok (.str x)) := ev_c pe_str fun _ => .str x
def R2ok (K : PySem.W.Frag) (r : R2) (f : D → D → Option D) : Prop := ∀ {x y : V} {dx dy : D} {F H : Hp} {Q : VK} {d : D}, Same F H → RepH K F H x dx → RepH K F H y dy → f dx dy = some d →
  (∀ v F' H', Ext F H F' H' → Rep K F' v d → Q v H') → r x y H Q
def R1ok (K : PySem.W.Frag) (r : V → Hp → VK → Prop) (f : D → Option D) : Prop := ∀ {x : V} {dx : D} {F H : Hp} {Q : VK} {d : D}, Same F H → RepH K F H x dx → f dx = some d →
  (∀ v F' H', Ext F H F' H' → Rep K F' v d → Q v H') → r x H Q
variable {a b c : Expr} {ma mb mc : Rs D} {pos : Pos}
theorem bin_ok {r : R2} {f : D → D → Option D} {ta tb : TE} (hf : R2ok X.K r f)
    (qa : ∀ F0 σ F H Q, Holds X.K (G.at F0) ρ σ F H → Post X.K (RepH X.K) (fun c d H => W c d σ H) F H Q ma → ta σ H Q) (qb : ∀ F0 σ F H Q, Holds X.K (G.at F0) ρ σ F H → Post X.K (RepH X.K) (fun c d H => W c d σ H) F H Q mb → tb σ H Q)
    {F0 : Hp} {σ : St} {F H : Hp} {Q : VK} (hh : Holds X.K (G.at F0) ρ σ F H) (hp : Post X.K (RF X.K) (fun c d H => W c d σ H) F H Q (ma.bind fun x => mb.bind fun y => Rs.of (f x y))) : ta σ H fun x H1 => tb σ H1 fun y H2 => r x y H2 Q := by
  refine qa F0 σ F H _ hh (hp.bind fun dx x F1 H1 e1 r1 hp1 => ?_)
  refine qb F0 σ F1 H1 _ (hh.more e1) (hp1.bind fun dy y F2 H2 e2 r2 hp2 => ?_)
  obtain ⟨d, hd, k⟩ := hp2.of
  exact hf e2.sub (r1.more e2) r2 hd k
theorem ev_bin {op : Operator} {r : R2} {f : D → D → Option D} (ho : OpR X (binaryOp op) r) (hf : R2ok X.K r f) (ha : EO X G W ρ a ma) (hb : EO X G W ρ b mb) : EV X G W ρ (.BinOp a op b pos) (ma.bind fun x => mb.bind fun y => Rs.of (f x y)) := by
  obtain ⟨ta, pa, qa⟩ := ha
  obtain ⟨tb, pb, qb⟩ := hb
  exact ⟨_, pe_op ho pa pb, fun F0 σ F H Q hh hp => bin_ok hf qa qb hh hp⟩
theorem ev_cmp {op : CmpOp} {r : R2} {f : D → D → Option D} (ho : OpR X (compareOp op) r) (hf : R2ok X.K r f) (ha : EO X G W ρ a ma) (hb : EO X G W ρ b mb) (hm : behindInMarks op b = false) : EV X G W ρ (.Compare a [op] [b] pos) (ma.bind fun x => mb.bind fun y => Rs.of (f x y)) := by
  obtain ⟨ta, pa, qa⟩ := ha
  obtain ⟨tb, pb, qb⟩ := hb
  exact ⟨_, pe_cmpR ho pa pb hm, fun F0 σ F H Q hh hp => bin_ok hf qa qb hh hp⟩
theorem ev_ix {r : R2} {f : D → D → Option D} (ho : IxR X r) (hf : R2ok X.K r f) (ha : EO X G W ρ a ma) (hb : EO X G W ρ b mb) (hm : PlainIx b) : EV X G W ρ (.Subscript a b pos) (ma.bind fun x => mb.bind fun y => Rs.of (f x y)) := by
  obtain ⟨ta, pa, qa⟩ := ha
  obtain ⟨tb, pb, qb⟩ := hb
  exact ⟨_, pe_ix ho pa pb hm, fun F0 σ F H Q hh hp => bin_ok hf qa qb hh hp⟩
theorem ev_un {op : UnaryOp} {r : V → Hp → VK → Prop} {f : D → Option D} (ho : UnR X (unaryOp op) r) (hf : R1ok X.K r f) (ha : EO X G W ρ a ma) : EV X G W ρ (.UnaryOp op a pos) (ma.bind fun x => Rs.of (f x)) := by
  obtain ⟨ta, pa, qa⟩ := ha
  refine ⟨_, pe_un ho pa, fun F0 σ F H Q hh hp => ?_⟩
  refine qa F0 σ F H _ hh (hp.bind fun dx x F1 H1 e1 r1 hp1 => ?_)
  obtain ⟨d, hd, k⟩ := hp1.of
  exact hf e1.sub r1 hd k
end
def asB : D → Option Bool
  | .bl b => some b
  | _ => none
section
variable {X : Cx} {G : Gd} {W : WX} {ρ : Rho} {a b c : Expr} {ma mb mc : Rs D} {pos : Pos} {tb tc : Rs Bool}
theorem tv_val (ha : EV X G W ρ a ma) (he : ∀ whole, isTrue a X.env whole = (do let v ← whole; standAt a.pos; holding [v] (truthy v)) := by intro _; rfl) : TV X G W ρ a (ma.bind fun x => Rs.of (asB x)) := by
  obtain ⟨ta, pa, qa⟩ := ha
  refine ⟨_, pt_val pa he, fun F0 σ F H Q hh hp => ?_⟩
  refine qa F0 σ F H _ hh (hp.bind fun dx x F1 H1 e1 r1 hp1 => ?_)
  obtain ⟨d, hd, k⟩ := hp1.of
  cases r1 with
  | bl b =>
    cases hd
    exact ⟨_, rfl, k _ _ _ (Ext.refl e1.sub) rfl⟩
  | _ => cases hd
theorem tv_not (ha : TV X G W ρ a tb) : TV X G W ρ (.UnaryOp .Not a pos) (tb.bind fun x => .ok (!x)) := by
  obtain ⟨ta, pa, qa⟩ := ha
  refine ⟨_, pt_not pa, fun F0 σ F H Q hh hp => ?_⟩
  refine qa F0 σ F H _ hh (hp.bind fun dx x F1 H1 e1 r1 hp1 => ?_)
  cases r1
  exact hp1 _ _ _ (Ext.refl e1.sub) rfl
def TW (X : Cx) (G : Gd) (W : WX) (ρ : Rho) (e : Expr) (m : Rs Bool) : Prop :=
  ∃ t, PW X e t ∧ ∀ F0 σ F H Q, Holds X.K (G.at F0) ρ σ F H → Post X.K RB (fun c d H => W c d σ H) F H Q m → t σ H Q
theorem TW.tv (h : TW X G W ρ a tb) : TV X G W ρ a tb := by
  obtain ⟨t, p, q⟩ := h
  exact ⟨t, p.pt, q⟩
theorem tw_or1 (ha : TV X G W ρ a tb) : TW X G W ρ (.BoolOp .Or [a] pos) tb := by
  obtain ⟨t, p, q⟩ := ha
  exact ⟨t, pw_or1 p, q⟩
theorem tw_or {rest : List Expr} (ha : TV X G W ρ a tb) (hb : TW X G W ρ (.BoolOp .Or (b :: rest) pos) tc) : TW X G W ρ (.BoolOp .Or (a :: b :: rest) pos) (tb.bind fun x => if x then .ok true else tc) := by
  obtain ⟨t, p, q⟩ := ha
  obtain ⟨u, p2, q2⟩ := hb
  refine ⟨_, pw_or p p2, fun F0 σ F H Q hh hp => ?_⟩
  refine q F0 σ F H _ hh (hp.bind fun dx x F1 H1 e1 r1 hp1 => ?_)
  cases r1
  cases dx with
  | true => exact iteT (hp1 _ _ _ (Ext.refl e1.sub) rfl)
  | false => exact iteF (q2 F0 σ F1 H1 Q (hh.more e1) hp1)
theorem ev_one {op} (ha : EV X G W ρ a ma) : EV X G W ρ (.BoolOp op [a] pos) ma := by
  obtain ⟨t, p, q⟩ := ha
  exact ⟨t, pe_one p, q⟩
theorem ev_and {rest : List Expr} (ha : EV X G W ρ a ma) (hb : EV X G W ρ (.BoolOp .And (b :: rest) pos) mb) : EV X G W ρ (.BoolOp .And (a :: b :: rest) pos) (ma.bind fun x => (Rs.of (asB x)).bind fun k => if k then mb else .ok (.bl false)) := by
  obtain ⟨t, p, q⟩ := ha
  obtain ⟨u, p2, q2⟩ := hb
  refine ⟨_, pe_and p p2, fun F0 σ F H Q hh hp => ?_⟩
  refine q F0 σ F H _ hh (hp.bind fun dx x F1 H1 e1 r1 hp1 => ?_)
  cases r1 with
  | bl k =>
    refine ⟨k, rfl, ?_⟩
    cases k with
    | true => exact iteT (q2 F0 σ F1 H1 Q (hh.more e1) hp1)
    | false => exact iteF (hp1 _ _ _ (Ext.refl e1.sub) (.bl false))
  | _ => exact hp1.elim
theorem ev_not (ha : EV X G W ρ a ma) : EV X G W ρ (.UnaryOp .Not a pos) (ma.bind fun x => (Rs.of (asB x)).bind fun k => .ok (.bl (!k))) := by
  obtain ⟨t, p, q⟩ := ha
  refine ⟨_, pe_not p, fun F0 σ F H Q hh hp => ?_⟩
  refine q F0 σ F H _ hh (hp.bind fun dx x F1 H1 e1 r1 hp1 => ?_)
  cases r1 with
  | bl k => exact ⟨k, rfl, hp1 _ _ _ (Ext.refl e1.sub) (.bl _)⟩
  | _ => exact hp1.elim
theorem ev_if (hc : TV X G W ρ c tc) (ha : EV X G W ρ a ma) (hb : EV X G W ρ b mb) : EV X G W ρ (.IfExp c a b pos) (tc.bind fun k => if k then ma else mb) := by
  obtain ⟨t, p, q⟩ := hc
  obtain ⟨u, p2, q2⟩ := ha
  obtain ⟨u3, p3, q3⟩ := hb
  refine ⟨_, pe_ifExp p p2 p3, fun F0 σ F H Q hh hp => ?_⟩
  refine q F0 σ F H _ hh (hp.bind fun dx x F1 H1 e1 r1 hp1 => ?_)
  cases r1
  cases dx with
  | true => exact iteT (q2 F0 σ F1 H1 Q (hh.more e1) hp1)
  | false => exact iteF (q3 F0 σ F1 H1 Q (hh.more e1) hp1)
end
section
variable {X : Cx} {G : Gd} {W : WX} {ρ : Rho} {e : Expr} {es : List Expr} {m : Rs D} {ms : Rs (List D)} {pos : Pos}
theorem av_nil : AV X G W ρ [] (.ok []) := ⟨fun ds h => by cases h; rfl, _, pa_nil, fun F0 σ F H Q hh hp => hp [] F H (Ext.refl hh.sub) .nil⟩
theorem av_cons (ha : EV X G W ρ e m) (hr : AV X G W ρ es ms) (hs : starEach (e :: es) X.env = (false, eval e X.env) :: starEach es X.env := by rfl) : AV X G W ρ (e :: es) (m.bind fun x => ms.bind fun xs => .ok (x :: xs)) := by
  obtain ⟨ta, pa, qa⟩ := ha
  obtain ⟨ln, tb, pb, qb⟩ := hr
  refine ⟨fun ds h => ?_, _, pa_cons pa pb hs, fun F0 σ F H Q hh hp => ?_⟩
  · cases m with
    | ok x =>
      cases ms with
      | ok xs =>
        cases h
        exact congrArg (· + 1) (ln xs rfl)
      | ex c fs => cases h
      | no => cases h
    | ex c fs => cases h
    | no => cases h
  refine qa F0 σ F H _ hh (hp.bind fun dx x F1 H1 e1 r1 hp1 => ?_)
  refine qb F0 σ F1 H1 _ (hh.more e1) (hp1.bind fun dy y F2 H2 e2 r2 hp2 => ?_)
  exact hp2 _ F2 H2 (Ext.refl e2.sub) (.cons (r1.mono e2.ext) r2)
theorem new_tup {K : PySem.W.Frag} {F H : Hp} {p : Addr} {xs : List V} {ds : List D} (s : Same F H) (h : H p = none) (l : xs.length ≤ sizeLine) (r : Reps K F xs ds) : Rep K (upd F p (.tup xs)) (.ref p) (.tup ds) :=
  .tup (.inl upd_same) l (r.mono (same_upd (sub_none s h)))
theorem new_lst {K : PySem.W.Frag} {F H : Hp} {p : Addr} {xs : List V} {ds : List D} (s : Same F H) (h : H p = none) (l : xs.length ≤ sizeLine) (r : Reps K F xs ds) : Rep K (upd F p (.lst xs)) (.ref p) (.lst ds) :=
  .lst upd_same l (r.mono (same_upd (sub_none s h)))
def lenR (ds : List D) : Option (List D) := if ds.length ≤ sizeLine then some ds else none
theorem lenR_some {ds es : List D} (h : lenR ds = some es) : ds.length ≤ sizeLine ∧ es = ds := by
  unfold lenR at h
  split at h
  · exact ⟨by assumption, by cases h; rfl⟩
  · cases h
theorem ev_tupM {x1} (h : AV X G W ρ es ms) (hl : es.length ≤ sizeLine := by decide) : EV X G W ρ (.Tuple es x1 pos) (ms.bind fun xs => .ok (.tup xs)) := by
  obtain ⟨ln, ta, pa, qa⟩ := h
  refine ⟨_, pe_tup pa, fun F0 σ F H Q hh hp => ?_⟩
  refine qa F0 σ F H _ hh ?_
  cases ms with
  | ex c fs => exact hp
  | no => exact hp
  | ok ds =>
    intro xs F1 H1 e1 r1
    have l2 : xs.length ≤ sizeLine := by
      rw [r1.length, ln ds rfl]
      exact hl
    exact ⟨l2, fun p hn => hp _ _ _ (e1.trans (Ext.fresh e1.sub _ hn)) (new_tup e1.sub hn l2 r1)⟩
theorem ev_lstM (h : AV X G W ρ es ms) (hl : es.length ≤ sizeLine := by decide) : EV X G W ρ (.List es pos) (ms.bind fun xs => .ok (.lst xs)) := by
  obtain ⟨ln, ta, pa, qa⟩ := h
  refine ⟨_, pe_lst pa, fun F0 σ F H Q hh hp => ?_⟩
  refine qa F0 σ F H _ hh ?_
  cases ms with
  | ex c fs => exact hp
  | no => exact hp
  | ok ds =>
    intro xs F1 H1 e1 r1
    have l2 : xs.length ≤ sizeLine := by
      rw [r1.length, ln ds rfl]
      exact hl
    exact ⟨l2, fun p hn => hp _ _ _ (e1.trans (Ext.fresh e1.sub _ hn)) (new_lst e1.sub hn l2 r1)⟩
theorem ef_lstM (h : AV X G W ρ es ms) (hl : es.length ≤ sizeLine := by decide) : EF X G W ρ (.List es pos) ms := by
  obtain ⟨ln, ta, pa, qa⟩ := h
  refine ⟨_, pe_lst pa, fun F0 σ F H Q hh hp => ?_⟩
  refine qa F0 σ F H _ hh ?_
  cases ms with
  | ex c fs => exact hp
  | no => exact hp
  | ok ds =>
    intro xs F1 H1 e1 r1
    have l2 : xs.length ≤ sizeLine := by
      rw [r1.length, ln ds rfl]
      exact hl
    exact ⟨l2, fun p hn => hp _ F1 _ (e1.trans (Ext.loose e1.sub _ hn)) ⟨p, rfl, e1.same.free hn, sub_none e1.sub hn, .lst upd_same l2 r1⟩⟩
end
end VL
set_option Elab.async false
set_option linter.all false
set_option maxRecDepth 100000
set_option autoImplicit false
namespace VL
open PySem PySem.Spec L2
open PyProof.Rows hiding St
theorem RepH.int {K : PySem.W.Frag} {F H : Hp} {v : V} {i : Int} (h : RepH K F H v (.int i)) : v = .int i := by
  rcases h with h | ⟨a, rfl, h⟩
  · cases h; rfl
  · cases h
theorem RepH.bl {K : PySem.W.Frag} {F H : Hp} {v : V} {b : Bool} (h : RepH K F H v (.bl b)) : v = .bl b := by
  rcases h with h | ⟨a, rfl, h⟩
  · cases h; rfl
  · cases h
theorem RepH.str {K : PySem.W.Frag} {F H : Hp} {v : V} {x : Str} (h : RepH K F H v (.str x)) : v = .str x := by
  rcases h with h | ⟨a, rfl, h⟩
  · cases h; rfl
  · cases h
theorem RepH.non {K : PySem.W.Frag} {F H : Hp} {v : V} (h : RepH K F H v .non) : v = .non := by
  rcases h with h | ⟨a, rfl, h⟩
  · cases h; rfl
  · cases h
theorem RepH.lst {K : PySem.W.Frag} {F H : Hp} {v : V} {ds : List D} (s : Same F H) (h : RepH K F H v (.lst ds)) : ∃ a xs, v = .ref a ∧ H a = some (.lst xs) ∧ xs.length ≤ sizeLine ∧ Reps K F xs ds := by
  rcases h with h | ⟨a, rfl, h⟩
  · cases h with
    | lst h l r => exact ⟨_, _, rfl, s _ _ h, l, r⟩
  · cases h with
    | lst h l r => exact ⟨_, _, rfl, h, l, r⟩
theorem RepH.scr {K : PySem.W.Frag} {F H : Hp} {v : V} {ds : List D} (s : Same F H) (h : RepH K F H v (.scr ds)) : ∃ a xs, v = .ref a ∧ SqL K H a xs ∧ xs.length ≤ sizeLine ∧ Reps K F xs ds := by
  rcases h with h | ⟨a, rfl, h⟩
  · cases h with
    | scr h l r => exact ⟨_, _, rfl, SqL.same s h, l, r⟩
  · cases h
theorem RepH.tup {K : PySem.W.Frag} {F H : Hp} {v : V} {ds : List D} (s : Same F H) (h : RepH K F H v (.tup ds)) : ∃ a xs, v = .ref a ∧ SqT K H a xs ∧ xs.length ≤ sizeLine ∧ Reps K F xs ds ∧ Rep K F v (.tup ds) := by
  rcases h with h | ⟨a, rfl, h⟩
  · cases h with
    | tup h l r => exact ⟨_, _, rfl, SqT.same s h.sq, l, r, .tup h l r⟩
  · cases h
theorem RepH.tupL {K : PySem.W.Frag} {F H : Hp} {v : V} {ds : List D} (s : Same F H) (h : RepH K F H v (.tupL ds)) : ∃ a xs, v = .ref a ∧ SqT K H a xs ∧ xs.length ≤ sizeLine ∧ Reps K F xs ds := by
  rcases h with h | ⟨a, rfl, h⟩
  · cases h with
    | tupL h h2 l r => exact ⟨_, _, rfl, SqT.same s (sqT_frz h), l, r⟩
  · cases h
def CMulB (i j : Int) : Prop := i.natAbs.log2 + j.natAbs.log2 < 134000000
theorem CMulB.ok {i j : Int} (h : CMulB i j) : IntMulOk i j := by
  have b : ∀ x : Int, Builtin.Int.intBits x ≤ x.natAbs.log2 + 1 := fun x => by
    unfold Builtin.Int.intBits
    split <;> omega
  have h1 := b i
  have h2 := b j
  have h3 : i.natAbs.log2 + j.natAbs.log2 < 134000000 := h
  have e : bitsLine = 134217728 := by decide
  unfold IntMulOk
  intro z
  rw [Bool.and_eq_true] at z
  have z2 := z.2
  unfold Builtin.Int.intTooBig at z2
  have z3 := of_decide_eq_true z2
  rw [e] at z3
  omega
def CDivB (_ j : Int) : Prop := j ≠ 0 ∧ j.natAbs.log2 < 9000
section
variable {X : Cx}
theorem op_mulB : OpR X (binaryOp .Mult) (rI CMulB fun i j => .int (i * j)) := opI fun _ _ _ _ _ _ _ hc q => mul_int q hc.ok
theorem op_fdivB : OpR X (binaryOp .FloorDiv) (rI CDivB fun i j => .int (i.fdiv j)) := opI fun _ _ _ _ _ _ _ hc q => floordiv_int hc.1 q (.inl (PyProof.noPylong_of_log2 hc.2))
end
def addD : D → D → Option D
  | .int i, .int j => some (.int (i + j))
  | .str i, .str j => if i.length + j.length ≤ sizeLine then some (.str (i ++ j)) else none
  | .lst xs, .lst ys => if xs.length + ys.length ≤ sizeLine then some (.lst (xs ++ ys)) else none
  | .tup xs, .tup ys => if xs.length + ys.length ≤ sizeLine then some (.tup (xs ++ ys)) else none
  | _, _ => none
def rAddD (K : PySem.W.Frag) : R2 := fun x y H Q => (rI0 (fun i j => .int (i + j)) x y H Q) ∨ (∃ i j, x = .str i ∧ y = .str j ∧ i.length + j.length ≤ sizeLine ∧ Q (.str (i ++ j)) H) ∨ rCat x y H Q ∨ rCatA K x y H Q
theorem op_addD {X : Cx} : OpR X (binaryOp .Add) (rAddD X.K) := OpR.or op_add (OpR.or op_add_str (OpR.or op_cat op_catA))
theorem addD_ok {K : PySem.W.Frag} : R2ok K (rAddD K) addD := by
  intro x y dx dy F H Q d s hx hy hd k
  unfold addD at hd
  split at hd
  · cases hd
    exact .inl ⟨_, _, hx.int, hy.int, k _ F H (Ext.refl s) (.int _)⟩
  · split at hd
    · cases hd
      exact .inr (.inl ⟨_, _, hx.str, hy.str, by assumption, k _ F H (Ext.refl s) (.str _)⟩)
    · cases hd
  · split at hd
    · cases hd
      obtain ⟨a, xs, rfl, ha, la, ra⟩ := hx.lst s
      obtain ⟨b, ys, rfl, hb, lb, rb⟩ := hy.lst s
      have l2 : xs.length + ys.length ≤ sizeLine := by rw [ra.length, rb.length]; assumption
      exact .inr (.inr (.inl ⟨a, b, xs, ys, rfl, rfl, ha, hb, l2, fun p hp => k _ _ _ (Ext.fresh s _ hp) (new_lst s hp (by rw [List.length_append]; exact l2) (ra.append rb))⟩))
    · cases hd
  · split at hd
    · cases hd
      obtain ⟨a, xs, rfl, ha, la, ra, wa⟩ := hx.tup s
      obtain ⟨b, ys, rfl, hb, lb, rb, wb⟩ := hy.tup s
      have l2 : xs.length + ys.length ≤ sizeLine := by rw [ra.length, rb.length]; assumption
      refine .inr (.inr (.inr ⟨a, b, xs, ys, rfl, rfl, ha, hb, l2, fun e => ?_, fun _ e => ?_, fun _ _ p hp => ?_⟩))
      · subst e
        cases ra
        exact k _ F H (Ext.refl s) wb
      · subst e
        cases rb
        rw [List.append_nil] at k
        exact k _ F H (Ext.refl s) wa
      · exact k _ _ _ (Ext.fresh s _ hp) (new_tup s hp (by rw [List.length_append]; exact l2) (ra.append rb))
    · cases hd
  · cases hd
def subD : D → D → Option D
  | .int i, .int j => some (.int (i - j))
  | _, _ => none
theorem subD_ok {K : PySem.W.Frag} : R2ok K (rI0 fun i j => .int (i - j)) subD := by
  intro x y dx dy F H Q d s hx hy hd k
  unfold subD at hd
  split at hd
  · cases hd
    exact ⟨_, _, hx.int, hy.int, k _ F H (Ext.refl s) (.int _)⟩
  · cases hd
def mulD : D → D → Option D
  | .int i, .int j => if i.natAbs.log2 + j.natAbs.log2 < 134000000 then some (.int (i * j)) else none
  | .lst xs, .int k => if 0 ≤ k ∧ k < 1000000 ∧ xs.length * k.toNat ≤ sizeLine then some (.lst (List.replicate k.toNat xs).flatten) else none
  | .tup xs, .int k => if xs ≠ [] ∧ 2 ≤ k ∧ k ≤ 1000 ∧ xs.length ≤ 1000 then some (.tup (List.replicate k.toNat xs).flatten) else none
  | _, _ => none
def rMulD (K : PySem.W.Frag) : R2 := fun x y H Q => (rI CMulB (fun i j => .int (i * j)) x y H Q) ∨ rRep x y H Q ∨ rRepT K x y H Q
theorem op_mulD {X : Cx} : OpR X (binaryOp .Mult) (rMulD X.K) := OpR.or op_mulB (OpR.or op_rep op_repT)
theorem Reps.repl {K : PySem.W.Frag} {F : Hp} {xs : List V} {ds : List D} (h : Reps K F xs ds) : ∀ n : Nat, Reps K F (List.replicate n xs).flatten (List.replicate n ds).flatten
  | 0 => .nil
  | n + 1 => by
    rw [List.replicate_succ, List.replicate_succ, List.flatten_cons, List.flatten_cons]
    exact h.append (h.repl n)
theorem len_repl {α : Type} (xs : List α) : ∀ n : Nat, (List.replicate n xs).flatten.length = xs.length * n
  | 0 => rfl
  | n + 1 => by
    rw [List.replicate_succ, List.flatten_cons, List.length_append, len_repl xs n, Nat.mul_succ]
    omega
theorem mulD_ok {K : PySem.W.Frag} : R2ok K (rMulD K) mulD := by
  intro x y dx dy F H Q d s hx hy hd k
  unfold mulD at hd
  split at hd
  · split at hd
    · cases hd
      exact .inl ⟨_, _, hx.int, hy.int, by assumption, k _ F H (Ext.refl s) (.int _)⟩
    · cases hd
  · split at hd
    · rename_i ds m hc
      cases hd
      obtain ⟨a, xs, rfl, ha, la, ra⟩ := hx.lst s
      obtain ⟨c1, c2, c3⟩ := hc
      rw [← ra.length] at c3
      exact .inr (.inl ⟨a, m, xs, rfl, hy.int, ha, by omega, by omega, c3, fun p hp => k _ _ _ (Ext.fresh s _ hp) (new_lst s hp (by rw [len_repl]; exact c3) (ra.repl _))⟩)
    · cases hd
  · split at hd
    · rename_i ds m hc
      cases hd
      obtain ⟨a, xs, rfl, ha, la, ra, wa⟩ := hx.tup s
      obtain ⟨c0, c1, c2, c3⟩ := hc
      rw [← ra.length] at c3
      refine .inr (.inr ⟨a, m, xs, rfl, hy.int, ha, fun e => ?_, c1, c2, c3, fun p hp => k _ _ _ (Ext.fresh s _ hp) (new_tup s hp ?_ (ra.repl _))⟩)
      · subst e
        cases ra
        exact c0 rfl
      · rw [len_repl]
        have h1 : xs.length * m.toNat ≤ 1000 * 1000 := Nat.mul_le_mul c3 (by omega)
        exact Nat.le_trans h1 (by decide)
    · cases hd
  · cases hd
def fdivD : D → D → Option D
  | .int i, .int j => if j ≠ 0 ∧ j.natAbs.log2 < 9000 then some (.int (i.fdiv j)) else none
  | _, _ => none
theorem fdivD_ok {K : PySem.W.Frag} : R2ok K (rI CDivB fun i j => .int (i.fdiv j)) fdivD := by
  intro x y dx dy F H Q d s hx hy hd k
  unfold fdivD at hd
  split at hd
  · split at hd
    · cases hd
      exact ⟨_, _, hx.int, hy.int, by assumption, k _ F H (Ext.refl s) (.int _)⟩
    · cases hd
  · cases hd
def modD : D → D → Option D
  | .int i, .int j => if j ≠ 0 then some (.int (i.fmod j)) else none
  | _, _ => none
theorem modD_ok {K : PySem.W.Frag} : R2ok K (rI (fun _ j => j ≠ 0) fun i j => .int (i.fmod j)) modD := by
  intro x y dx dy F H Q d s hx hy hd k
  unfold modD at hd
  split at hd
  · split at hd
    · cases hd
      exact ⟨_, _, hx.int, hy.int, by assumption, k _ F H (Ext.refl s) (.int _)⟩
    · cases hd
  · cases hd
def powD : D → D → Option D
  | .int i, .int j => if 0 ≤ j ∧ j.natAbs ≤ 1000000 ∧ i.natAbs < 2 ^ 64 then some (.int (i ^ j.toNat)) else none
  | _, _ => none
theorem powD_ok {K : PySem.W.Frag} : R2ok K (rI CPow fun i j => .int (i ^ j.toNat)) powD := by
  intro x y dx dy F H Q d s hx hy hd k
  unfold powD at hd
  split at hd
  · split at hd
    · cases hd
      rename_i hc
      exact ⟨_, _, hx.int, hy.int, ⟨hc.1, by omega, hc.2.2⟩, k _ F H (Ext.refl s) (.int _)⟩
    · cases hd
  · cases hd
def negD : D → Option D
  | .int i => some (.int (-i))
  | _ => none
theorem negD_ok {K : PySem.W.Frag} : R1ok K (rU fun i => .int (-i)) negD := by
  intro x dx F H Q d s hx hd k
  unfold negD at hd
  split at hd
  · cases hd
    exact ⟨_, hx.int, k _ F H (Ext.refl s) (.int _)⟩
  · cases hd
mutual
def D.py : D → PyData
  | .non => .none
  | .bl b => .bool b
  | .int i => .int i
  | .str x => .str x
  | .tup xs => .tuple (pys xs)
  | .lst xs => .list (pys xs)
  | .scr _ => .none
  | .obj _ _ => .none
  | .dT _ => .none
  | .dK _ => .none
  | .dN _ _ => .none
  | .tupL _ => .none
  | .exn _ _ => .none
def pys : List D → List PyData
  | [] => []
  | d :: ds => d.py :: pys ds
end
mutual
def D.isData : D → Bool
  | .non => true
  | .bl _ => true
  | .int _ => true
  | .str _ => true
  | .tup xs => areData xs
  | .lst xs => areData xs
  | .scr _ => false
  | .obj _ _ => false
  | .dT _ => false
  | .dK _ => false
  | .dN _ _ => false
  | .tupL _ => false
  | .exn _ _ => false
def areData : List D → Bool
  | [] => true
  | d :: ds => d.isData && areData ds
end
mutual
theorem Rep.dp {K : PySem.W.Frag} {F H : Hp} (s : Same F H) : ∀ {v : V} {d : D}, Rep K F v d → d.isData = true → Dp K H v d.py
  | _, _, .non, _ => by simp only [D.py]; exact .non
  | _, _, .bl b, _ => by simp only [D.py]; exact .bl b
  | _, _, .int i, _ => by simp only [D.py]; exact .int i
  | _, _, .str x, _ => by simp only [D.py]; exact .str x
  | _, _, .lst h l r, e => by simp only [D.py]; exact .lst (.inl (.inl (s _ _ h))) (Reps.dp s r (by simpa only [D.isData] using e))
  | _, _, .tup h l r, e => by simp only [D.py]; exact .tup (SqT.same s h.sq) (Reps.dp s r (by simpa only [D.isData] using e))
  | _, _, .scr _ _ _, e => by simp only [D.isData] at e; cases e
  | _, _, .obj _ _ _, e => by simp only [D.isData] at e; cases e
  | _, _, .dT _ _ _, e => by simp only [D.isData] at e; cases e
  | _, _, .dK _ _ _, e => by simp only [D.isData] at e; cases e
  | _, _, .dN _ _ _ _, e => by simp only [D.isData] at e; cases e
  | _, _, .tupL _ _ _ _, e => by simp only [D.isData] at e; cases e
  | _, _, .exn _ _ _ _, e => by simp only [D.isData] at e; cases e
theorem Reps.dp {K : PySem.W.Frag} {F H : Hp} (s : Same F H) : ∀ {vs : List V} {ds : List D}, Reps K F vs ds → areData ds = true → DpAll K H vs (pys ds)
  | _, _, .nil, _ => by simp only [pys]; exact .nil
  | _, _, .cons h r, e => by
    simp only [areData, Bool.and_eq_true] at e
    simp only [pys]
    exact .cons (Rep.dp s h e.1) (Reps.dp s r e.2)
end
theorem RepH.dp {K : PySem.W.Frag} {F H : Hp} (s : Same F H) {v : V} {d : D} (h : RepH K F H v d) (e : d.isData = true) : Dp K H v d.py := by
  rcases h with h | ⟨a, rfl, h⟩
  · exact h.dp s e
  · cases h with
    | lst h l r =>
      simp only [D.py]
      exact .lst (.inl (.inl h)) (Reps.dp s r (by simpa only [D.isData] using e))
    | dT _ _ _ => simp only [D.isData] at e; cases e
    | dK _ _ _ => simp only [D.isData] at e; cases e
    | dN _ _ _ _ => simp only [D.isData] at e; cases e
    | obj _ _ _ => simp only [D.isData] at e; cases e
def D.okD (d : D) : Bool := d.isData && SeqAt.shaped d.py
def eqB (a b : D) : Option Bool := match a, b with
  | .str x, .str y => some (decide (x = y))
  | _, _ => if a.okD && b.okD then some (PyData.eqv a.py b.py) else none
def eqD (a b : D) : Option D := (eqB a b).map .bl
def neD (a b : D) : Option D := (eqB a b).map fun k => .bl (!k)
def rEqA (K : PySem.W.Frag) : R2 := fun x y H Q => rEq x y H Q ∨ rEqD K x y H Q
def rNeA (K : PySem.W.Frag) : R2 := fun x y H Q => rNe x y H Q ∨ rNeD K x y H Q
theorem op_eqA {X : Cx} (hu : X.A.units + 64 < cLine) : OpR X (compareOp .Eq) (rEqA X.K) := OpR.or op_eq (op_eqD hu)
theorem op_neA {X : Cx} (hu : X.A.units + 64 < cLine) : OpR X (compareOp .NotEq) (rNeA X.K) := OpR.or op_ne (op_neD hu)
theorem str_eq {x y : Str} : decide (V.str x = V.str y) = decide (x = y) := by
  by_cases h : x = y
  · subst h; simp
  · rw [decide_eq_false h, decide_eq_false fun e => h (V.str.inj e)]
theorem eqD_ok {K : PySem.W.Frag} : R2ok K (rEqA K) eqD := by
  intro x y dx dy F H Q d s hx hy hd k
  unfold eqD eqB at hd
  split at hd
  · cases hd
    obtain rfl := hx.str
    obtain rfl := hy.str
    refine .inl ⟨rfl, ?_⟩
    rw [str_eq]
    exact k _ F H (Ext.refl s) (.bl _)
  · split at hd
    · rename_i hc
      cases hd
      rw [Bool.and_eq_true] at hc
      obtain ⟨c1, c2⟩ := Bool.and_eq_true_iff.mp hc.1
      obtain ⟨c3, c4⟩ := Bool.and_eq_true_iff.mp hc.2
      exact .inr ⟨_, _, hx.dp s c1, hy.dp s c3, c2, c4, k _ F H (Ext.refl s) (.bl _)⟩
    · cases hd
theorem neD_ok {K : PySem.W.Frag} : R2ok K (rNeA K) neD := by
  intro x y dx dy F H Q d s hx hy hd k
  unfold neD eqB at hd
  split at hd
  · cases hd
    obtain rfl := hx.str
    obtain rfl := hy.str
    refine .inl ⟨rfl, ?_⟩
    rw [str_eq]
    exact k _ F H (Ext.refl s) (.bl _)
  · split at hd
    · rename_i hc
      cases hd
      rw [Bool.and_eq_true] at hc
      obtain ⟨c1, c2⟩ := Bool.and_eq_true_iff.mp hc.1
      obtain ⟨c3, c4⟩ := Bool.and_eq_true_iff.mp hc.2
      exact .inr ⟨_, _, hx.dp s c1, hy.dp s c3, c2, c4, k _ F H (Ext.refl s) (.bl _)⟩
    · cases hd
def D.isNon : D → Bool
  | .non => true
  | _ => false
def isND : D → D → Option D
  | x, .non => some (.bl x.isNon)
  | _, _ => none
def notND : D → D → Option D
  | x, .non => some (.bl (!x.isNon))
  | _, _ => none
theorem RepH.isN {K : PySem.W.Frag} {F H : Hp} {v : V} {d : D} (h : RepH K F H v d) : decide (v = .non) = d.isNon := by
  rcases h with h | ⟨a, rfl, h⟩
  · cases h <;> simp [D.isNon]
  · cases h <;> simp [D.isNon]
theorem isND_ok {K : PySem.W.Frag} : R2ok K (fun x y H Q => y = .non ∧ Q (.bl (decide (x = .non))) H) isND := by
  intro x y dx dy F H Q d s hx hy hd k
  unfold isND at hd
  split at hd
  · cases hd
    refine ⟨hy.non, ?_⟩
    rw [hx.isN]
    exact k _ F H (Ext.refl s) (.bl _)
  · cases hd
theorem notND_ok {K : PySem.W.Frag} : R2ok K (fun x y H Q => y = .non ∧ Q (.bl (!decide (x = .non))) H) notND := by
  intro x y dx dy F H Q d s hx hy hd k
  unfold notND at hd
  split at hd
  · cases hd
    refine ⟨hy.non, ?_⟩
    rw [hx.isN]
    exact k _ F H (Ext.refl s) (.bl _)
  · cases hd
end VL
set_option Elab.async false
set_option linter.all false
set_option maxRecDepth 100000
set_option autoImplicit false
namespace VL
open PySem PySem.Spec L2
open PyProof.Rows hiding St
def Wk (ρ ρ' : Rho) : Prop := (∀ (i : Nat) (c : Cl), ρ'[i]? = some (some c) → ρ[i]? = some (some c)) ∧ ρ'.length ≤ ρ.length
theorem Wk.nil {ρ : Rho} : Wk ρ [] := ⟨fun i c h => by simp at h, Nat.zero_le _⟩
theorem Wk.refl {ρ : Rho} : Wk ρ ρ := ⟨fun _ _ h => h, Nat.le_refl _⟩
theorem Wk.keep {c : Option Cl} {ρ ρ' : Rho} (h : Wk ρ ρ') : Wk (c :: ρ) (c :: ρ') := ⟨fun i d q => by
    cases i with
    | zero => exact q
    | succ i => exact h.1 i d (by simpa using q), by simp only [List.length_cons]; have := h.2; omega⟩
theorem Wk.drop {c : Option Cl} {ρ ρ' : Rho} (h : Wk ρ ρ') : Wk (c :: ρ) (none :: ρ') := ⟨fun i d q => by
    cases i with
    | zero => simp at q
    | succ i => exact h.1 i d (by simpa using q), by simp only [List.length_cons]; have := h.2; omega⟩
section
variable {K : PySem.W.Frag} {G : Gd} {ρ ρ' : Rho} {σ : St} {F H : Hp}
theorem Holds.weak (h : Holds K G ρ σ F H) (w : Wk ρ ρ') : Holds K G ρ' σ F H where
  toGnd := h.toGnd
  val := fun i d q => h.val i d (w.1 i _ q)
  own := fun i l d q => h.own i l d (w.1 i _ q)
  sep := fun i j l m d e a n q1 q2 => h.sep i j l m d e a n (w.1 i _ q1) (w.1 j _ q2)
  len := Nat.le_trans w.2 h.len
theorem set_at {α : Type} {l : List (Option α)} {i j : Nat} {x : Option α} {c : α} (h : (l.set i x)[j]? = some (some c)) : (i = j ∧ x = some c) ∨ (i ≠ j ∧ l[j]? = some (some c)) := by
  by_cases e : i = j
  · subst e
    by_cases hl : i < l.length
    · rw [List.getElem?_set_self hl] at h
      exact .inl ⟨rfl, Option.some.inj h⟩
    · rw [List.getElem?_eq_none (by simpa using hl)] at h
      cases h
  · rw [List.getElem?_set_ne e] at h
    exact .inr ⟨e, h⟩
theorem Holds.setV {i : Nat} {v : V} {d : D} (h : Holds K G ρ σ F H) (r : Rep K F v d) (hi : i < ρ.length) : Holds K G (ρ.set i (some (.val d))) (σ.set i (some v)) F H where
  toGnd := h.toGnd
  val := fun j e q => by
    rcases set_at q with ⟨rfl, z⟩ | ⟨n, z⟩
    · cases z
      exact ⟨v, List.getElem?_set_self (Nat.lt_of_lt_of_le hi h.len), r⟩
    · obtain ⟨u, h1, h2⟩ := h.val j e z
      exact ⟨u, by rw [List.getElem?_set_ne n]; exact h1, h2⟩
  own := fun j l e q => by
    rcases set_at q with ⟨rfl, z⟩ | ⟨n, z⟩
    · cases z
    · obtain ⟨u, h1, h2⟩ := h.own j l e z
      exact ⟨u, by rw [List.getElem?_set_ne n]; exact h1, h2⟩
  sep := fun j k l1 l2 d1 d2 a n q1 q2 s1 s2 => by
    rcases set_at q1 with ⟨rfl, z⟩ | ⟨n1, z1⟩
    · cases z
    · rcases set_at q2 with ⟨rfl, z⟩ | ⟨n2, z2⟩
      · cases z
      · rw [List.getElem?_set_ne n1] at s1
        rw [List.getElem?_set_ne n2] at s2
        exact h.sep j k l1 l2 d1 d2 a n z1 z2 s1 s2
  len := by simpa using h.len
theorem Holds.setO {i : Nat} {a : Addr} {l : Bool} {d : D} (h : Holds K G ρ σ F H) (r : Own K F H a d) (hf : F a = none) (h0 : OwnAt G a l) (hn : ∀ (j : Nat) (m : Bool) (e : D), ρ[j]? = some (some (.own m e)) → σ[j]? ≠ some (some (.ref a))) (hi : i < ρ.length) :
    Holds K G (ρ.set i (some (.own l d))) (σ.set i (some (.ref a))) F H where
  toGnd := h.toGnd
  val := fun j e q => by
    rcases set_at q with ⟨rfl, z⟩ | ⟨n, z⟩
    · cases z
    · obtain ⟨u, h1, h2⟩ := h.val j e z
      exact ⟨u, by rw [List.getElem?_set_ne n]; exact h1, h2⟩
  own := fun j l e q => by
    rcases set_at q with ⟨rfl, z⟩ | ⟨n, z⟩
    · cases z
      exact ⟨a, List.getElem?_set_self (Nat.lt_of_lt_of_le hi h.len), hf, h0, r⟩
    · obtain ⟨u, h1, h2⟩ := h.own j l e z
      exact ⟨u, by rw [List.getElem?_set_ne n]; exact h1, h2⟩
  sep := fun j k l1 l2 d1 d2 b n q1 q2 s1 s2 => by
    rcases set_at q1 with ⟨rfl, z⟩ | ⟨n1, z1⟩
    · rcases set_at q2 with ⟨rfl, z2⟩ | ⟨n2, z2⟩
      · exact n rfl
      · rw [List.getElem?_set_self (Nat.lt_of_lt_of_le hi h.len)] at s1
        cases s1
        rw [List.getElem?_set_ne n2] at s2
        exact hn _ _ _ z2 s2
    · rcases set_at q2 with ⟨rfl, z2⟩ | ⟨n2, z2⟩
      · rw [List.getElem?_set_self (Nat.lt_of_lt_of_le hi h.len)] at s2
        cases s2
        rw [List.getElem?_set_ne n1] at s1
        exact hn _ _ _ z1 s1
      · rw [List.getElem?_set_ne n1] at s1
        rw [List.getElem?_set_ne n2] at s2
        exact h.sep j k l1 l2 d1 d2 b n z1 z2 s1 s2
  len := by simpa using h.len
theorem Holds.write {i : Nat} {a : Addr} {l : Bool} {d d' : D} {o : HO} (h : Holds K G ρ σ F H) (hi : ρ[i]? = some (some (.own l d))) (ha : σ[i]? = some (some (.ref a))) (r : Own K F (upd H a o) a d') :
    Holds K G (ρ.set i (some (.own l d'))) σ F (upd H a o) := by
  obtain ⟨a', h1, hf, h0, hw⟩ := h.own i l d hi
  rw [ha] at h1
  cases h1
  have il : i < ρ.length := by
    rcases Nat.lt_or_ge i ρ.length with z | z
    · exact z
    · rw [List.getElem?_eq_none z] at hi
      cases hi
  have sub' : Same F (upd H a o) := fun b x q => by
    have e : b ≠ a := fun e => by
      subst e
      rw [hf] at q
      cases q
    rw [upd_ne e]
    exact h.sub _ _ q
  refine ⟨⟨sub', fun b x q nb => ?_, fun b hb => ?_, h.ext, h.new⟩, fun j e q => ?_, fun j m e q => ?_, fun j k l1 l2 d1 d2 b n q1 q2 s1 s2 => ?_, by simpa using h.len⟩
  · have e : b ≠ a := fun e => by
      subst e
      cases l with
      | true =>
        rw [h0.1] at q
        cases q
      | false => exact nb h0
    rw [upd_ne e]
    exact h.base _ _ q nb
  · by_cases e : b = a
    · subst e
      obtain ⟨o2, q2, t2⟩ := r.there
      exact ⟨_, q2, t2⟩
    · rw [upd_ne e]
      exact h.bsT b hb
  · rcases set_at q with ⟨rfl, z⟩ | ⟨n, z⟩
    · cases z
    · exact h.val j e z
  · rcases set_at q with ⟨rfl, z⟩ | ⟨n, z⟩
    · cases z
      exact ⟨a, ha, hf, h0, r⟩
    · obtain ⟨b, h1, h2, h3, h4⟩ := h.own j m e z
      have e : b ≠ a := fun e => by
        subst e
        exact h.sep i j _ _ _ _ b n hi z ha h1
      exact ⟨b, h1, h2, h3, h4.move (Same.refl F) (upd_ne e)⟩
  · rcases set_at q1 with ⟨rfl, z⟩ | ⟨n1, z1⟩
    · rcases set_at q2 with ⟨rfl, z2⟩ | ⟨n2, z2⟩
      · exact n rfl
      · exact h.sep _ _ _ _ _ _ b n hi z2 s1 s2
    · rcases set_at q2 with ⟨rfl, z2⟩ | ⟨n2, z2⟩
      · exact h.sep _ _ _ _ _ _ b n z1 hi s1 s2
      · exact h.sep j k l1 l2 d1 d2 b n z1 z2 s1 s2
theorem Holds.freeze {i : Nat} {d : D} (h : Holds K G ρ σ F H) (hi : ρ[i]? = some (some (.own true d))) (hd : d.frzd = true) : ∃ F', Holds K G (ρ.set i (some (.val d))) σ F' H := by
  obtain ⟨a, h1, hf, h0, hw⟩ := h.own i true d hi
  obtain ⟨o, ho, hr⟩ := hw.rep hd h.sub hf
  have ex : Same F (upd F a o) := same_upd hf
  have sub' : Same (upd F a o) H := fun b x q => by
    by_cases e : b = a
    · subst e
      rw [upd_same] at q
      cases q
      exact ho
    · rw [upd_ne e] at q
      exact h.sub _ _ q
  have il : i < ρ.length := by
    rcases Nat.lt_or_ge i ρ.length with z | z
    · exact z
    · rw [List.getElem?_eq_none z] at hi
      cases hi
  refine ⟨upd F a o, ⟨⟨sub', h.base, h.bsT, h.ext.trans ex, fun b x q => ?_⟩, fun j e q => ?_, fun j m e q => ?_, fun j k l1 l2 d1 d2 b n q1 q2 s1 s2 => ?_, by simpa using h.len⟩⟩
  · by_cases e : b = a
    · subst e
      exact .inr (.inl h0)
    · rw [upd_ne e] at q
      exact h.new _ _ q
  · rcases set_at q with ⟨rfl, z⟩ | ⟨n, z⟩
    · cases z
      exact ⟨_, h1, hr⟩
    · obtain ⟨u, h1, h2⟩ := h.val j e z
      exact ⟨u, h1, h2.mono ex⟩
  · rcases set_at q with ⟨rfl, z⟩ | ⟨n, z⟩
    · cases z
    · obtain ⟨b, g1, g2, g3, g4⟩ := h.own j m e z
      have ne : b ≠ a := fun e => by
        subst e
        exact h.sep i j _ _ _ _ b n hi z h1 g1
      exact ⟨b, g1, by rw [upd_ne ne]; exact g2, g3, g4.move ex rfl⟩
  · rcases set_at q1 with ⟨rfl, z⟩ | ⟨n1, z1⟩
    · cases z
    · rcases set_at q2 with ⟨rfl, z2⟩ | ⟨n2, z2⟩
      · cases z2
      · exact h.sep j k l1 l2 d1 d2 b n z1 z2 s1 s2
theorem Holds.lock {i : Nat} {d : D} (h : Holds K G ρ σ F H) (hi : ρ[i]? = some (some (.own true d))) (hd : d.frzd = false) : ∃ a u, H a = some u ∧ Mut (some u) ∧ ∀ od, ∃ F', Holds K G (ρ.set i (some (.val d))) σ F' (upd H a (.frz od u)) := by
  obtain ⟨a, h1, hf, h0, hw⟩ := h.own i true d hi
  have key : ∃ u, H a = some u ∧ Mut (some u) ∧ ∀ od, Rep K (upd F a (.frz od u)) (.ref a) d := by
    cases hw with
    | lst _ _ _ => cases hd
    | obj _ _ _ => cases hd
    | dT h l r => exact ⟨_, h, True.intro, fun od => .dT upd_same l (r.mono (same_upd hf))⟩
    | dK h l r => exact ⟨_, h, True.intro, fun od => .dK upd_same l (r.mono (same_upd hf))⟩
    | dN h l k r => exact ⟨_, h, True.intro, fun od => .dN upd_same l (k.mono (same_upd hf)) (r.mono (same_upd hf))⟩
  obtain ⟨u, hu, mu, hr⟩ := key
  refine ⟨a, u, hu, mu, fun od => ⟨upd F a (.frz od u), ?_⟩⟩
  have ex : Same F (upd F a (.frz od u)) := same_upd hf
  have sub' : Same (upd F a (.frz od u)) (upd H a (.frz od u)) := fun b x q => by
    by_cases e : b = a
    · subst e
      rw [upd_same] at q ⊢
      exact q
    · rw [upd_ne e] at q ⊢
      exact h.sub _ _ q
  have il : i < ρ.length := by
    rcases Nat.lt_or_ge i ρ.length with z | z
    · exact z
    · rw [List.getElem?_eq_none z] at hi
      cases hi
  refine ⟨⟨sub', fun b x q nb => ?_, fun b hb => ?_, h.ext.trans ex, fun b x q => ?_⟩, fun j e q => ?_, fun j m e q => ?_, fun j k l1 l2 d1 d2 b n q1 q2 s1 s2 => ?_, by simpa using h.len⟩
  · have e : b ≠ a := fun e => by
      subst e
      rw [h0.1] at q
      cases q
    rw [upd_ne e]
    exact h.base _ _ q nb
  · have e : b ≠ a := fun e => by
      subst e
      exact h0.2 hb
    rw [upd_ne e]
    exact h.bsT b hb
  · by_cases e : b = a
    · subst e
      exact .inr (.inl h0)
    · rw [upd_ne e] at q
      exact h.new _ _ q
  · rcases set_at q with ⟨rfl, z⟩ | ⟨n, z⟩
    · cases z
      exact ⟨_, h1, hr od⟩
    · obtain ⟨v, g1, g2⟩ := h.val j e z
      exact ⟨v, g1, g2.mono ex⟩
  · rcases set_at q with ⟨rfl, z⟩ | ⟨n, z⟩
    · cases z
    · obtain ⟨b, g1, g2, g3, g4⟩ := h.own j m e z
      have ne : b ≠ a := fun e => by
        subst e
        exact h.sep i j _ _ _ _ b n hi z h1 g1
      exact ⟨b, g1, by rw [upd_ne ne]; exact g2, g3, g4.move ex (upd_ne ne)⟩
  · rcases set_at q1 with ⟨rfl, z⟩ | ⟨n1, z1⟩
    · cases z
    · rcases set_at q2 with ⟨rfl, z2⟩ | ⟨n2, z2⟩
      · cases z2
      · exact h.sep j k l1 l2 d1 d2 b n z1 z2 s1 s2
end
end VL
set_option Elab.async false
set_option linter.all false
set_option maxRecDepth 100000
set_option autoImplicit false
namespace VL
open PySem PySem.Spec L2
open PyProof.Rows hiding St
inductive Fl (α β : Type) where
  | nx (z : α) | rt (d : D) (s : List D) | bk (y : β) | ct (y : β)
def OwnsL (K : PySem.W.Frag) (F H : Hp) (bs : List Addr) (s : List D) : Prop := bs.length = s.length ∧ ∀ (i : Nat) (a : Addr), bs[i]? = some a → F a = none ∧ ∃ d, s[i]? = some d ∧ Own K F H a d
def PostS {α β : Type} (K : PySem.W.Frag) (G : Gd) (W : WX) (ρx : Rho) (pn : α → Rho) (pl : β → Rho) (E : Ends) : Rs (Fl α β) → Prop
  | .ok (.nx z) => ∀ σ F H, Holds K G (pn z) σ F H → E.nx σ H
  | .ok (.bk y) => ∀ σ F H, Holds K G (pl y) σ F H → E.bk σ H
  | .ok (.ct y) => ∀ σ F H, Holds K G (pl y) σ F H → E.ct σ H
  | .ok (.rt d s) => ∀ v F H, Gnd K G F H → Rep K F v d → OwnsL K F H G.bs s → E.rt v H
  | .ex c fs => ∀ dd σ F H, Holds K G ρx σ F H → XRep K F dd fs → W (.ref (He.ga K c)) (some dd) σ H
  | .no => False
def tAny (X : Cx) (sts : List Stmt) : TS := fun E σ H => ∃ t, PSs X sts t ∧ t E σ H
theorem pss_any {X : Cx} {sts : List Stmt} : PSs X sts (tAny X sts) := ⟨fun pins s σ H E I ⟨_, p, h⟩ => p.run pins s σ H E I h⟩
def BK (X : Cx) (G : Gd) (W : WX) (ρx ρ : Rho) (sts : List Stmt) {α β : Type} (pn : α → Rho) (pl : β → Rho) (m : Rs (Fl α β)) : Prop :=
  ∀ F0 σ F H E, Holds X.K (G.at F0) ρ σ F H → PostS X.K (G.at F0) W ρx pn pl E m → tAny X sts E σ H
def AS (X : Cx) (G : Gd) (W : WX) (ρ : Rho) (st : Stmt) (i : Nat) (m : Rs D) : Prop :=
  ∃ te, PS X st (tAsg te (gName i)) ∧ ∀ F0 σ F H Q, Holds X.K (G.at F0) ρ σ F H → Post X.K (RF X.K) (fun c d H => W c d σ H) F H Q m → te σ H Q
def AF (X : Cx) (G : Gd) (W : WX) (ρ : Rho) (st : Stmt) (i : Nat) (m : Rs (List D)) : Prop :=
  ∃ te, PS X st (tAsg te (gName i)) ∧ ∀ F0 σ F H Q, Holds X.K (G.at F0) ρ σ F H → Post X.K (RN X.K H) (fun c d H => W c d σ H) F H Q m → te σ H Q
section
variable {X : Cx} {G : Gd} {W : WX} {ρx ρ : Rho} {rest : List Stmt} {α β : Type} {pn : α → Rho} {pl : β → Rho}
theorem post_seq {γ δ : Type} {Rl : Hp → Hp → γ → δ → Prop} {F0 : Hp} {σ : St} {F H : Hp} {E : Ends} {m : Rs δ} {f : δ → Rs (Fl α β)} {Q1 : γ → Hp → Prop} (hh : Holds X.K (G.at F0) ρ σ F H) (wx : Wk ρ ρx) (hp : PostS X.K (G.at F0) W ρx pn pl E (m.bind f))
    (k : ∀ d v F' H', Ext F H F' H' → Rl F' H' v d → PostS X.K (G.at F0) W ρx pn pl E (f d) → Q1 v H') : Post X.K Rl (fun c d H => W c d σ H) F H Q1 m := by
  cases m with
  | ok d => exact fun v F2 H2 e2 r => k d v F2 H2 e2 r hp
  | ex c fs => exact fun dd F2 H2 e2 r => hp dd σ F2 H2 ((hh.more e2).weak wx) r
  | no => exact hp
theorem as_ev {i : Nat} {x : Str} {e : Expr} {pos pos' : Pos} {m : Rs D} (nd : X.N.Nodup) (h : EV X G W ρ e m) (hi : X.N[i]? = some x := by rfl) (hx : Loc X.env.scope x := by first | exact Or.inl rfl | exact Or.inr rfl) (hs : swapsWith e (some (.Name x pos')) pos.line X.env = pure false := by rfl)
    (hf : X.fn x = true ∨ X.env.scope.names.lookup x = some .local := by first | exact .inl rfl | exact .inr rfl) : AS X G W ρ (.Assign [.Name x pos'] e pos) i m := by
  obtain ⟨t, p, q⟩ := h
  exact ⟨t, ps_set nd hi hx p hs hf, q⟩
theorem af_ef {i : Nat} {x : Str} {e : Expr} {pos pos' : Pos} {m : Rs (List D)} (nd : X.N.Nodup) (h : EF X G W ρ e m) (hi : X.N[i]? = some x := by rfl) (hx : Loc X.env.scope x := by first | exact Or.inl rfl | exact Or.inr rfl) (hs : swapsWith e (some (.Name x pos')) pos.line X.env = pure false := by rfl)
    (hf : X.fn x = true ∨ X.env.scope.names.lookup x = some .local := by first | exact .inl rfl | exact .inr rfl) : AF X G W ρ (.Assign [.Name x pos'] e pos) i m := by
  obtain ⟨t, p, q⟩ := h
  exact ⟨t, ps_set nd hi hx p hs hf, q⟩
theorem any_cons {st : Stmt} {t : TS} {E : Ends} {σ : St} {H : Hp} (p : PS X st t) (h : t { E with nx := tAny X rest E } σ H) : tAny X (st :: rest) E σ H := ⟨_, pss_cons p pss_any, h⟩
theorem bk_nil {z : α} (w : Wk ρ (pn z)) : BK X G W ρx ρ [] pn pl (.ok (.nx z) : Rs (Fl α β)) := fun F0 σ F H E hh hp => ⟨_, pss_nil, hp σ F H (hh.weak w)⟩
theorem bk_set {i : Nat} {st : Stmt} {m : Rs D} {f : D → Rs (Fl α β)} (ha : AS X G W ρ st i m) (hr : ∀ d, BK X G W ρx (ρ.set i (some (.val d))) rest pn pl (f d)) (hi : i < ρ.length := by exact Nat.le_of_ble_eq_true rfl) (wx : Wk ρ ρx := by first | exact Wk.nil | exact Wk.refl | (repeat (first | exact Wk.nil | apply Wk.keep | apply Wk.drop))) :
    BK X G W ρx ρ (st :: rest) pn pl (m.bind f) := by
  obtain ⟨te, p, q⟩ := ha
  intro F0 σ F H E hh hp
  refine any_cons p (q F0 σ F H _ hh (post_seq hh wx hp fun d v F' H' e1 r1 hp1 => ?_))
  exact hr d F0 _ F' H' E ((hh.more e1).setV r1 hi) hp1
theorem bk_own {i : Nat} {st : Stmt} {m : Rs (List D)} {f : List D → Rs (Fl α β)} (ha : AF X G W ρ st i m) (hr : ∀ d, BK X G W ρx (ρ.set i (some (.own true (.lst d)))) rest pn pl (f d)) (hi : i < ρ.length := by exact Nat.le_of_ble_eq_true rfl) (wx : Wk ρ ρx := by first | exact Wk.nil | exact Wk.refl | (repeat (first | exact Wk.nil | apply Wk.keep | apply Wk.drop))) :
    BK X G W ρx ρ (st :: rest) pn pl (m.bind f) := by
  obtain ⟨te, p, q⟩ := ha
  intro F0 σ F H E hh hp
  refine any_cons p (q F0 σ F H _ hh (post_seq hh wx hp fun d v F' H' e1 r1 hp1 => ?_))
  obtain ⟨a, rfl, hn, hf, ho⟩ := r1
  refine hr d F0 _ F' H' E ((hh.more e1).setO ho hf ?_ ?_ hi) hp1
  · refine ⟨?_, fun hb => ?_⟩
    · cases q0 : G.H0 a with
      | none => exact q0
      | some o =>
        by_cases hb : a ∈ G.bs
        · obtain ⟨o2, q2, _⟩ := hh.bsT a hb
          rw [hn] at q2
          cases q2
        · rw [hh.base a o q0 hb] at hn
          cases hn
    · obtain ⟨o2, q2, _⟩ := hh.bsT a hb
      rw [hn] at q2
      cases q2
  · intro j l e qj sj
    obtain ⟨b, h1, h2, h3, h4⟩ := hh.own j l e qj
    rw [h1] at sj
    cases sj
    obtain ⟨o, ho, nt_⟩ := h4.there
    rw [hn] at ho
    cases ho
theorem any_lock {sts : List Stmt} {E : Ends} {σ : L2.St} {H : Hp} {a : Addr} {u : HO} (h : H a = some u) (mu : Mut (some u)) (k : ∀ od, tAny X sts E σ (upd H a (.frz od u))) : tAny X sts E σ H := by
  refine ⟨fun E σ H => ∃ a u, H a = some u ∧ Mut (some u) ∧ ∀ od, tAny X sts E σ (upd H a (.frz od u)), ⟨fun pins s σ H E I hw => ?_⟩, a, u, h, mu, k⟩
  obtain ⟨a, u, h, mu, k⟩ := hw
  obtain ⟨od, I1⟩ := I.lock h mu
  obtain ⟨t, p, q⟩ := k od
  exact p.run pins s σ _ E I1 q
theorem bk_frz {i : Nat} {d : D} {sts : List Stmt} {m : Rs (Fl α β)} (hi : ρ[i]? = some (some (.own true d)) := by rfl) (hr : BK X G W ρx (ρ.set i (some (.val d))) sts pn pl m) : BK X G W ρx ρ sts pn pl m := by
  intro F0 σ F H E hh hp
  cases hd : d.frzd with
  | true =>
    obtain ⟨F', hh'⟩ := hh.freeze hi hd
    exact hr F0 σ F' H E hh' hp
  | false =>
    obtain ⟨a, u, h1, mu, k⟩ := hh.lock hi hd
    refine any_lock h1 mu fun od => ?_
    obtain ⟨F', hh'⟩ := k od
    exact hr F0 σ F' _ E hh' hp
def appL (ds : List D) (d : D) : Option (List D) := if ds.length < sizeLine then some (ds ++ [d]) else none
theorem Own.asL {K : PySem.W.Frag} {F H : Hp} {a : Addr} {ds : List D} (h : Own K F H a (.lst ds)) : ∃ xs, H a = some (.lst xs) ∧ xs.length ≤ sizeLine ∧ Reps K F xs ds := by
  cases h with
  | lst h l r => exact ⟨_, h, l, r⟩
theorem bk_append {i : Nat} {x : Str} {e : Expr} {xpos apos cpos pos : Pos} {l : Bool} {c : List D} {m : Rs D} {f : List D → Rs (Fl α β)} (hv : PE X (.Name x xpos) (tVar i)) (he : EV X G W ρ e m)
    (hr : ∀ c', BK X G W ρx (ρ.set i (some (.own l (.lst c')))) rest pn pl (f c')) (hi : ρ[i]? = some (some (.own l (.lst c))) := by rfl)
    (hbase : attributeBase (.Name x xpos) "append" X.env (eval (.Name x xpos) X.env) = eval (.Name x xpos) X.env := by rfl)
    (hfew : ((backTo cpos (starEach [e] X.env)).all (fun x => !x.1) && (backToKw cpos (keywordEach [] X.env)).all (fun x => x.1.isSome) && decide ([e].length + ([] : List Keyword).length + (if ([] : List Keyword).isEmpty then 0 else 1) < 30)) = true := by rfl)
    (hst : starEach [e] X.env = (false, eval e X.env) :: starEach [] X.env := by rfl)
    (hline : (apos.endLine == cpos.line) = true := by rfl) (hs : swapsWith (.Call (.Attribute (.Name x xpos) "append" apos) [e] [] cpos) none pos.line X.env = pure false := by rfl) (wx : Wk ρ ρx := by first | exact Wk.nil | exact Wk.refl | (repeat (first | exact Wk.nil | apply Wk.keep | apply Wk.drop))) :
    BK X G W ρx ρ (.Expr (.Call (.Attribute (.Name x xpos) "append" apos) [e] [] cpos) pos :: rest) pn pl (m.bind fun d => (Rs.of (appL c d)).bind f) := by
  obtain ⟨te, p, q⟩ := he
  intro F0 σ F H E hh hp
  refine any_cons (ps_expr (pe_bm PySem.F.plainAttrs_list PySem.F.slot_list_append PySem.F.type_list_append mt_append hv (pa_cons p pa_nil hst) hbase hfew hline hst rfl) hs) ?_
  obtain ⟨a, h1, h2, h3, h4⟩ := hh.own i l _ hi
  obtain ⟨xs, h5, l5, r5⟩ := h4.asL
  refine ⟨.ref a, h1, .inl ⟨rfl, _, SqL.of h5⟩, ?_⟩
  refine q F0 σ F H _ hh (post_seq hh wx hp fun d v F' H' e1 r1 hp1 => ?_)
  have h6 := e1.same _ _ h5
  unfold appL at hp1
  split at hp1
  · rename_i hlt
    have l6 : xs.length < sizeLine := by rw [r5.length]; exact hlt
    refine ⟨a, xs, v, rfl, rfl, h6, l6, ?_⟩
    refine hr _ F0 σ F' _ E ((hh.more e1).write hi h1 (.lst upd_same ?_ ((r5.mono e1.ext).append (.one r1)))) hp1
    rw [List.length_append, List.length_singleton]
    exact l6
  · exact hp1.elim
def setL (ds : List D) (k d : D) : Option (List D) := match k with
  | .int i => (ixN ds.length i).map fun j => ds.set j d
  | _ => none
theorem bk_setix {i : Nat} {x : Str} {e k : Expr} {xpos spos pos : Pos} {l : Bool} {c : List D} {m mk : Rs D} {f : List D → Rs (Fl α β)} (hv : PE X (.Name x xpos) (tVar i)) (he : EV X G W ρ e m) (hk : EV X G W ρ k mk)
    (hr : ∀ c', BK X G W ρx (ρ.set i (some (.own l (.lst c')))) rest pn pl (f c')) (hi : ρ[i]? = some (some (.own l (.lst c))) := by rfl)
    (hs : swapsWithSole [.Subscript (.Name x xpos) k spos] e pos.line X.env = pure false := by rfl) (hw : swappedStores [.Subscript (.Name x xpos) k spos] e X.env = pure none := by rfl)
    (h1 : (assignEach [.Subscript (.Name x xpos) k spos] X.env).map (·.2) = [assign (.Subscript (.Name x xpos) k spos) X.env] := by rfl)
    (hA : ∀ v, assign (.Subscript (.Name x xpos) k spos) X.env v = (do
      let ov ← holding [v] (eval (.Name x xpos) X.env); let iv ← holding [v, ov] (eval k X.env); standAt spos; holding [v, ov, iv] (setItem ov iv v); release [v, ov, iv] []) := by intro _; rfl) (wx : Wk ρ ρx := by first | exact Wk.nil | exact Wk.refl | (repeat (first | exact Wk.nil | apply Wk.keep | apply Wk.drop))) :
    BK X G W ρx ρ (.Assign [.Subscript (.Name x xpos) k spos] e pos :: rest) pn pl (m.bind fun d => mk.bind fun j => (Rs.of (setL c j d)).bind f) := by
  obtain ⟨te, p, q⟩ := he
  obtain ⟨tk, pk, qk⟩ := hk
  intro F0 σ F H E hh hp
  refine any_cons (ps_asg p (pg_sub hv pk set_list hA) hs hw h1) ?_
  refine q F0 σ F H _ hh (post_seq hh wx hp fun d v F' H' e1 r1 hp1 => ?_)
  have hh1 := hh.more e1
  obtain ⟨a, g1, g2, g3, g4⟩ := hh1.own i l _ hi
  refine ⟨.ref a, g1, ?_⟩
  refine qk F0 σ F' H' _ hh1 (post_seq hh1 wx hp1 fun dk vk F2 H2 e2 r2 hp2 => ?_)
  have hh2 := hh1.more e2
  obtain ⟨xs, h5, l5, r5⟩ := (g4.ext e2).asL
  cases dk with
  | int n =>
    cases r2
    cases q3 : ixN c.length n with
    | none =>
      simp only [setL, q3] at hp2
      exact hp2.elim
    | some j =>
      simp only [setL, q3, Option.map] at hp2
      refine ⟨a, xs, n, j, rfl, rfl, h5, by rw [r5.length]; exact q3, ?_⟩
      exact hr _ F0 σ F2 _ E (hh2.write hi g1 (.lst upd_same (by rw [List.length_set]; exact l5) (r5.set j (r1.mono e2.ext)))) hp2
  | _ => exact hp2.elim
end
end VL
set_option Elab.async false
set_option linter.all false
set_option maxRecDepth 100000
set_option autoImplicit false
namespace VL
open PySem PySem.Spec L2
open PyProof.Rows hiding St
section
variable {X : Cx} {G : Gd} {W : WX} {ρx ρ : Rho} {rest : List Stmt} {α β : Type} {pn : α → Rho} {pl : β → Rho}
theorem owns0 {K : PySem.W.Frag} {F H : Hp} {bs : List Addr} (h : bs = []) : OwnsL K F H bs [] := by
  subst h
  exact ⟨rfl, fun i a q => by simp at q⟩
theorem any_one {st : Stmt} {t : TS} {E : Ends} {σ : St} {H : Hp} (p : PS X st t) (h : t E σ H) : tAny X [st] E σ H := ⟨_, pss_one p, h⟩
theorem bk_ret {e : Expr} {pos : Pos} {m : Rs D} (he : EV X G W ρ e m) (hb : G.bs = [] := by rfl) (wx : Wk ρ ρx := by first | exact Wk.nil | exact Wk.refl | (repeat (first | exact Wk.nil | apply Wk.keep | apply Wk.drop))) : BK X G W ρx ρ (.Return (some e) pos :: rest) pn pl (m.bind fun d => (.ok (.rt d []) : Rs (Fl α β))) := by
  obtain ⟨te, p, q⟩ := he
  intro F0 σ F H E hh hp
  refine any_cons (ps_ret p) (q F0 σ F H _ hh (post_seq hh wx hp fun d v F' H' e1 r1 hp1 => ?_))
  exact hp1 v F' H' (hh.toGnd.more e1) r1 (owns0 hb)
theorem bk_retIO {i : Nat} {b : Addr} {s : D} {e : Expr} {pos : Pos} {m : Rs D} (he : EV X G W ρ e m) (hi : ρ[i]? = some (some (.own false s)) := by rfl) (hb : G.bs = [b] := by rfl) (wx : Wk ρ ρx := by first | exact Wk.nil | exact Wk.refl | (repeat (first | exact Wk.nil | apply Wk.keep | apply Wk.drop))) :
    BK X G W ρx ρ (.Return (some e) pos :: rest) pn pl (m.bind fun d => (.ok (.rt d [s]) : Rs (Fl α β))) := by
  obtain ⟨te, p, q⟩ := he
  intro F0 σ F H E hh hp
  refine any_cons (ps_ret p) (q F0 σ F H _ hh (post_seq hh wx hp fun d v F' H' e1 r1 hp1 => ?_))
  have hh1 := hh.more e1
  obtain ⟨a, g1, g2, g3, g4⟩ := hh1.own i false s hi
  refine hp1 v F' H' hh1.toGnd r1 ?_
  have g3' : a ∈ G.bs := g3
  show OwnsL X.K F' H' G.bs [s]
  rw [hb] at g3' ⊢
  cases List.mem_singleton.mp g3'
  refine ⟨rfl, fun j a' q' => ?_⟩
  cases j with
  | zero =>
    cases q'
    exact ⟨g2, s, rfl, g4⟩
  | succ j => simp at q'
theorem bk_cnt {pos : Pos} {y : β} (w : Wk ρ (pl y)) : BK X G W ρx ρ (.Continue pos :: rest) pn pl (.ok (.ct y) : Rs (Fl α β)) := fun F0 σ F H E hh hp => any_cons ps_continue (hp σ F H (hh.weak w))
def Fl.lift {α β : Type} : Fl Empty β → Fl α β
  | .nx z => nomatch z
  | .rt d s => .rt d s
  | .bk y => .bk y
  | .ct y => .ct y
def liftF {α β : Type} (m : Rs (Fl Empty β)) : Rs (Fl α β) := m.bind fun f => .ok f.lift
def pEmp : Empty → Rho := fun z => nomatch z
theorem postS_lift {F0 : Hp} {E : Ends} {N : St → Hp → Prop} {m : Rs (Fl Empty β)} (h : PostS X.K (G.at F0) W ρx pn pl E (liftF m : Rs (Fl α β))) : PostS X.K (G.at F0) W ρx pEmp pl { E with nx := N } m := by
  cases m with
  | ok f =>
    cases f with
    | nx z => exact nomatch z
    | rt d s => exact h
    | bk y => exact h
    | ct y => exact h
  | ex c fs => exact h
  | no => exact h
theorem bk_ifr {c : Expr} {a : List Stmt} {pos : Pos} {tc : Rs Bool} {ma : Rs (Fl Empty β)} {mr : Rs (Fl α β)} (hc : TV X G W ρ c tc) (ha : BK X G W ρx ρ a pEmp pl ma) (hr : BK X G W ρx ρ rest pn pl mr) (wx : Wk ρ ρx := by first | exact Wk.nil | exact Wk.refl | (repeat (first | exact Wk.nil | apply Wk.keep | apply Wk.drop))) :
    BK X G W ρx ρ (.If c a [] pos :: rest) pn pl (tc.bind fun k => if k then liftF ma else mr) := by
  obtain ⟨t, p, q⟩ := hc
  intro F0 σ F H E hh hp
  refine any_cons (ps_if p pss_any pss_nil) (q F0 σ F H _ hh (post_seq hh wx hp fun d v F' H' e1 r1 hp1 => ?_))
  cases r1
  cases d with
  | true => exact iteT (ha F0 σ F' H' _ (hh.more e1) (postS_lift hp1))
  | false => exact iteF (hr F0 σ F' H' E (hh.more e1) hp1)
theorem bk_if2 {c : Expr} {a b : List Stmt} {pos : Pos} {tc : Rs Bool} {ma mb : Rs (Fl α β)} (hc : TV X G W ρ c tc) (ha : BK X G W ρx ρ a pn pl ma) (hb : BK X G W ρx ρ b pn pl mb) (wx : Wk ρ ρx := by first | exact Wk.nil | exact Wk.refl | (repeat (first | exact Wk.nil | apply Wk.keep | apply Wk.drop))) :
    BK X G W ρx ρ [.If c a b pos] pn pl (tc.bind fun k => if k then ma else mb) := by
  obtain ⟨t, p, q⟩ := hc
  intro F0 σ F H E hh hp
  refine any_one (ps_if p pss_any pss_any) (q F0 σ F H _ hh (post_seq hh wx hp fun d v F' H' e1 r1 hp1 => ?_))
  cases r1
  cases d with
  | true => exact iteT (ha F0 σ F' H' _ (hh.more e1) hp1)
  | false => exact iteF (hb F0 σ F' H' E (hh.more e1) hp1)
def Fl.andThen {α γ β : Type} (f : γ → Rs (Fl α β)) : Fl γ β → Rs (Fl α β)
  | .nx z => f z
  | .rt d s => .ok (.rt d s)
  | .bk y => .ok (.bk y)
  | .ct y => .ok (.ct y)
theorem postS_then {γ : Type} {F0 : Hp} {p1 : γ → Rho} {E : Ends} {m : Rs (Fl γ β)} {f : γ → Rs (Fl α β)} (hr : ∀ z, BK X G W ρx (p1 z) rest pn pl (f z)) (h : PostS X.K (G.at F0) W ρx pn pl E (m.bind (Fl.andThen f))) :
    PostS X.K (G.at F0) W ρx p1 pl { E with nx := tAny X rest E } m := by
  cases m with
  | ok fl =>
    cases fl with
    | nx z => exact fun σ F H hh => hr z F0 σ F H E hh h
    | rt d s => exact h
    | bk y => exact h
    | ct y => exact h
  | ex c fs => exact h
  | no => exact h
theorem bk_if {γ : Type} {p1 : γ → Rho} {c : Expr} {a b : List Stmt} {pos : Pos} {tc : Rs Bool} {ma mb : Rs (Fl γ β)} {f : γ → Rs (Fl α β)} (hc : TV X G W ρ c tc) (ha : BK X G W ρx ρ a p1 pl ma) (hb : BK X G W ρx ρ b p1 pl mb)
    (hr : ∀ z, BK X G W ρx (p1 z) rest pn pl (f z)) (wx : Wk ρ ρx := by first | exact Wk.nil | exact Wk.refl | (repeat (first | exact Wk.nil | apply Wk.keep | apply Wk.drop))) :
    BK X G W ρx ρ (.If c a b pos :: rest) pn pl ((tc.bind fun k => if k then ma else mb).bind (Fl.andThen f)) := by
  obtain ⟨t, p, q⟩ := hc
  intro F0 σ F H E hh hp
  refine any_cons (ps_if p pss_any pss_any) (q F0 σ F H _ hh ?_)
  cases tc with
  | ok k =>
    intro v F' H' e1 r1
    cases r1
    cases k with
    | true => exact iteT (ha F0 σ F' H' _ (hh.more e1) (postS_then hr hp))
    | false => exact iteF (hb F0 σ F' H' _ (hh.more e1) (postS_then hr hp))
  | ex cc fs => exact fun dd F2 H2 e2 r => hp dd σ F2 H2 ((hh.more e2).weak wx) r
  | no => exact hp
def Walks (K : PySem.W.Frag) (J : It) (F0 : Hp) (items : List D) : Prop := items.length ≤ sizeLine ∧ ∀ F H, Same F0 F → Same F H →
  (∀ (i : Nat) (d : D), items[i]? = some d → J.go i H ∧ ∀ x H', J.yld i H x H' → ∃ F', Ext F H F' H' ∧ Rep K F' x d) ∧ J.stop items.length H
def IT (X : Cx) (G : Gd) (W : WX) (ρ : Rho) (tg iter : Expr) (m : Rs (List D)) : Prop :=
  ∃ wi, PI X tg iter wi ∧ ∀ F0 σ F H R, Holds X.K (G.at F0) ρ σ F H → Post X.K (fun F' _ J ds => Walks X.K J F' ds) (fun c d H => W c d σ H) F H R m → wi σ H R
theorem PI.or {tg iter : Expr} {w1 w2 : TI} (h1 : PI X tg iter w1) (h2 : PI X tg iter w2) : PI X tg iter (fun σ H R => w1 σ H R ∨ w2 σ H R) := ⟨fun pins s σ H R I h => by
  rcases h with h | h
  · exact h1.run pins s σ H R I h
  · exact h2.run pins s σ H R I h⟩
def itemsD : D → Option (List D)
  | .lst ds => some ds
  | .tup ds => some ds
  | .tupL ds => some ds
  | .scr ds => some ds
  | .str x => if x.cps.size ≤ sizeLine then some (x.cps.toList.map fun c => .str ⟨#[c]⟩) else none
  | _ => none
theorem walks_list {K : PySem.W.Frag} {F : Hp} {a : Addr} {xs : List V} {ds : List D} (h : SqL K F a xs) (hl : xs.length ≤ sizeLine) (r : Reps K F xs ds) : Walks K (Itl K a) F ds := by
  refine ⟨by rw [← r.length]; exact hl, ?_⟩
  intro F1 H1 e1 e2
  have h1 : SqL K H1 a xs := SqL.same e2 (SqL.same e1 h)
  refine ⟨fun i d q => ?_, ⟨xs, h1, Nat.le_of_eq r.length⟩⟩
  obtain ⟨v, hv, rv⟩ := r.get q
  refine ⟨⟨xs, v, h1, hv⟩, fun x H' y => ?_⟩
  obtain ⟨rfl, y⟩ := y
  have e3 := y xs h1
  rw [hv] at e3
  cases e3
  exact ⟨F1, Ext.refl e2, rv.mono e1⟩
theorem walks_tup {K : PySem.W.Frag} {F : Hp} {a : Addr} {xs : List V} {ds : List D} (h : SqT K F a xs) (hl : xs.length ≤ sizeLine) (r : Reps K F xs ds) : Walks K (Itt K a) F ds := by
  refine ⟨by rw [← r.length]; exact hl, ?_⟩
  intro F1 H1 e1 e2
  have h1 : SqT K H1 a xs := SqT.same e2 (SqT.same e1 h)
  refine ⟨fun i d q => ?_, ⟨xs, h1, Nat.le_of_eq r.length⟩⟩
  obtain ⟨v, hv, rv⟩ := r.get q
  refine ⟨⟨xs, v, h1, hv⟩, fun x H' y => ?_⟩
  obtain ⟨rfl, y⟩ := y
  have e3 := y xs h1
  rw [hv] at e3
  cases e3
  exact ⟨F1, Ext.refl e2, rv.mono e1⟩
theorem walks_str {K : PySem.W.Frag} {F : Hp} {z : Str} (hl : z.cps.size ≤ sizeLine) : Walks K (Its z) F (z.cps.toList.map fun c => .str ⟨#[c]⟩) := by
  refine ⟨by simpa using hl, ?_⟩
  intro F1 H1 e1 e2
  refine ⟨fun i d q => ?_, ?_⟩
  · rw [List.getElem?_map] at q
    cases hc : z.cps.toList[i]? with
    | none => rw [hc] at q; cases q
    | some c =>
      rw [hc] at q
      cases q
      have hc' : z.cps[i]? = some c := by simpa using hc
      have hl : i < z.cps.size := by
        rcases Nat.lt_or_ge i z.cps.size with h | h
        · exact h
        · rw [Array.getElem?_eq_none h] at hc'; cases hc'
      refine ⟨hl, fun x H' y => ?_⟩
      obtain ⟨rfl, c2, h2, rfl⟩ := y
      rw [hc'] at h2
      cases h2
      exact ⟨F1, Ext.refl e2, .str _⟩
  · show z.cps.size ≤ _
    simp
theorem it_seq {tg e : Expr} {m : Rs D} (h : EV X G W ρ e m) : IT X G W ρ tg e (m.bind fun d => Rs.of (itemsD d)) := by
  obtain ⟨t, p, q⟩ := h
  refine ⟨_, PI.or (pi_list p) (PI.or (pi_tup p) (pi_str p)), fun F0 σ F H R hh hp => ?_⟩
  cases m with
  | ok d =>
    obtain ⟨ds, hd, k⟩ := Post.of (o := itemsD d) hp
    cases d with
    | lst es =>
      cases hd
      refine .inl (q F0 σ F H _ hh fun v F' H' e1 r1 => ?_)
      cases r1 with
      | lst h1 l1 r1 => exact ⟨_, rfl, ⟨_, SqL.of (e1.sub _ _ h1)⟩, k _ F' H' e1 (walks_list (SqL.of h1) l1 r1)⟩
    | scr es =>
      cases hd
      refine .inl (q F0 σ F H _ hh fun v F' H' e1 r1 => ?_)
      cases r1 with
      | scr h1 l1 r1 => exact ⟨_, rfl, ⟨_, SqL.same e1.sub h1⟩, k _ F' H' e1 (walks_list h1 l1 r1)⟩
    | tup es =>
      cases hd
      refine .inr (.inl (q F0 σ F H _ hh fun v F' H' e1 r1 => ?_))
      cases r1 with
      | tup h1 l1 r1 => exact ⟨_, rfl, ⟨_, SqT.same e1.sub h1.sq⟩, k _ F' H' e1 (walks_tup h1.sq l1 r1)⟩
    | tupL es =>
      cases hd
      refine .inr (.inl (q F0 σ F H _ hh fun v F' H' e1 r1 => ?_))
      cases r1 with
      | tupL h1 _ l1 r1 => exact ⟨_, rfl, ⟨_, SqT.same e1.sub (sqT_frz h1)⟩, k _ F' H' e1 (walks_tup (sqT_frz h1) l1 r1)⟩
    | str z =>
      simp only [itemsD] at hd
      split at hd
      · rename_i hl
        cases hd
        refine .inr (.inr (q F0 σ F H _ hh fun v F' H' e1 r1 => ?_))
        cases r1 with
        | str _ => exact ⟨z, rfl, k _ F' H' e1 (walks_str hl)⟩
      · cases hd
    | _ => cases hd
  | ex c fs => exact .inl (q F0 σ F H _ hh hp)
  | no => exact hp.elim
theorem walks_range {K : PySem.W.Frag} {F : Hp} {lo : Int} {n : Nat} (hl : n ≤ sizeLine) : Walks K (Itr lo n) F ((List.range n).map fun (i : Nat) => D.int (lo + (i : Int))) := by
  refine ⟨by simpa using hl, ?_⟩
  intro F1 H1 e1 e2
  refine ⟨fun i d q => ?_, ?_⟩
  · rw [List.getElem?_map] at q
    have hi : i < n := by
      rcases Nat.lt_or_ge i n with h | h
      · exact h
      · rw [List.getElem?_eq_none (by simpa using h)] at q; cases q
    rw [List.getElem?_range hi] at q
    cases q
    refine ⟨hi, fun x H' y => ?_⟩
    obtain ⟨rfl, rfl⟩ := y
    exact ⟨F1, Ext.refl e2, .int _⟩
  · show n ≤ _
    simp
def rangeL (lo : Int) (n : Nat) : List D := (List.range n).map fun (i : Nat) => D.int (lo + (i : Int))
def rangeD : D → Option (List D)
  | .int n => if n.natAbs < 16000000 then some (rangeL 0 n.toNat) else none
  | _ => none
def rangeD2 : D → D → Option (List D)
  | .int i, .int j => if i.natAbs < 8000000 ∧ j.natAbs < 8000000 then some (rangeL i (j - i).toNat) else none
  | _, _ => none
theorem it_range {tg e : Expr} {p pos : Pos} {m : Rs D} (hg : Gl X "range") (hm : X.mg "range" = none) (h : EV X G W ρ e m) (hs : starEach [e] X.env = (false, eval e X.env) :: starEach [] X.env := by rfl) (hs2 : starEach [] X.env = [] := by rfl) :
    IT X G W ρ tg (.Call (.Name "range" p) [e] [] pos) (m.bind fun d => Rs.of (rangeD d)) := by
  obtain ⟨t, pe, q⟩ := h
  refine ⟨_, pi_range1 hg hm (pa_cons pe pa_nil hs) (hs.trans (by rw [hs2])), fun F0 σ F H R hh hp => ?_⟩
  refine q F0 σ F H _ hh (hp.bind fun d v F' H' e1 r1 hp1 => ?_)
  obtain ⟨ds, hd, k⟩ := hp1.of
  cases d with
  | int n =>
    cases r1
    simp only [rangeD] at hd
    split at hd
    · rename_i hn
      cases hd
      exact ⟨n, rfl, by omega, by omega, k _ F' H' (Ext.refl e1.sub) (walks_range (Nat.le_trans (by omega : n.toNat ≤ 16000000) (by decide)))⟩
    · cases hd
  | _ => cases hd
theorem wipe_set {i : Nat} {x : Option V} : ∀ {vs : List Nat} {σ : St}, i ∈ vs → wipe (σ.set i x) vs = wipe σ vs
  | [], _, h => by cases h
  | v :: vs, σ, h => by
    simp only [wipe]
    by_cases e : i ∈ vs
    · rw [wipe_set e]
    · have ev : i = v := by
        rcases List.mem_cons.mp h with z | z
        · exact z
        · exact absurd z e
      subst ev
      rw [wipe_comm e]
      simp
where wipe_comm {i : Nat} {x : Option V} : ∀ {vs : List Nat} {σ : St}, i ∉ vs → wipe (σ.set i x) vs = (wipe σ vs).set i x
  | [], _, _ => rfl
  | v :: vs, σ, h => by
    simp only [List.mem_cons, not_or] at h
    simp only [wipe]
    rw [wipe_comm h.2]
    exact List.set_comm _ _ h.1
def tAnyG (X : Cx) (tg : Expr) : TG := fun v σ H Q => ∃ g, PG X tg g ∧ g v σ H Q
theorem pg_any {tg : Expr} : PG X tg (tAnyG X tg) := ⟨fun pins s σ H v u Q I r ⟨_, p, h⟩ => p.run pins s σ H v u Q I r h⟩
def TT1 (X : Cx) (G : Gd) (tg : Expr) (ρ : Rho) (is : List Nat) {γ : Type} (u : D → Option γ) (p : γ → Rho) : Prop :=
  ∀ F0 σ F H v d z Q, Holds X.K (G.at F0) ρ σ F H → Rep X.K F v d → u d = some z → (∀ σ', (∀ vs : List Nat, (∀ i ∈ is, i ∈ vs) → wipe σ' vs = wipe σ vs) → Holds X.K (G.at F0) (p z) σ' F H → Q σ' H) → tAnyG X tg v σ H Q
theorem tt_name {i : Nat} {x : Str} {pos : Pos} (nd : X.N.Nodup) (hi : X.N[i]? = some x := by rfl) (hx : Loc X.env.scope x := by first | exact Or.inl rfl | exact Or.inr rfl) (hf : X.fn x = true ∨ X.env.scope.names.lookup x = some .local := by first | exact .inl rfl | exact .inr rfl)
    (hl : i < ρ.length := by exact Nat.le_of_ble_eq_true rfl) : TT1 X G (.Name x pos) ρ [i] some (fun d => ρ.set i (some (.val d))) := by
  intro F0 σ F H v d z Q hh r e k
  cases e
  exact ⟨_, pg_name nd hi hx hf, k _ (fun vs hv => wipe_set (hv i (by simp))) (hh.setV r hl)⟩
def un2 : D → Option (D × D)
  | .tup [a, b] => some (a, b)
  | _ => none
theorem tt_2 {i j k : Nat} {a b : Expr} {pos : Pos} (hc : X.calm = true) (ha : PG X a (gName i)) (hb : PG X b (gName j)) (hl : i < ρ.length := by exact Nat.le_of_ble_eq_true rfl) (hl2 : j < ρ.length := by exact Nat.le_of_ble_eq_true rfl)
    (h1 : (assignEach [a, b] X.env).map (·.2) = assign a X.env :: (assignEach [b] X.env).map (·.2) := by rfl) (h2 : (assignEach [b] X.env).map (·.2) = assign b X.env :: (assignEach [] X.env).map (·.2) := by rfl)
    (hn : (assignEach [a, b] X.env).length = 2 := by rfl) (hst : (assignEach [a, b] X.env).findIdx? (·.1) = none := by rfl) :
    TT1 X G (.Tuple [a, b] k pos) ρ [i, j] un2 (fun z => (ρ.set i (some (.val z.1))).set j (some (.val z.2))) := by
  intro F0 σ F H v d z Q hh r e kk
  refine ⟨_, pg_tup hc (pgs_cons ha (pgs_cons hb pgs_nil h2) h1) hn hst, ?_⟩
  unfold un2 at e
  split at e
  · cases e
    cases r with
    | tup h l r =>
      cases r with
      | cons r1 r =>
        cases r with
        | cons r2 r =>
          cases r
          refine ⟨_, _, rfl, SqT.same hh.sub h.sq, rfl, _, _, rfl, _, _, rfl, rfl, ?_⟩
          exact kk _ (fun vs hv => (wipe_set (hv j (by simp))).trans (wipe_set (hv i (by simp)))) ((hh.setV r1 hl).setV r2 (by simpa using hl2))
  · cases e
theorem Gnd.rebase {K : PySem.W.Frag} {F0 F H : Hp} (g : Gnd K (G.at F0) F H) : Gnd K (G.at F) F H := ⟨g.sub, g.base, g.bsT, Same.refl F, fun _ _ h => .inl h⟩
theorem Holds.rebase {K : PySem.W.Frag} {F0 F H : Hp} {σ : St} (h : Holds K (G.at F0) ρ σ F H) : Holds K (G.at F) ρ σ F H := ⟨h.toGnd.rebase, h.val, h.own, h.sep, h.len⟩
theorem Gnd.unbase {K : PySem.W.Frag} {F0 F1 H1 F H : Hp} (g : Gnd K (G.at F0) F1 H1) (h : Gnd K (G.at F1) F H) : Gnd K (G.at F0) F H :=
  ⟨h.sub, h.base, h.bsT, g.ext.trans h.ext, fun a o q => by
    rcases h.new a o q with z | z
    · exact g.new a o z
    · exact .inr z⟩
theorem Holds.unbase {K : PySem.W.Frag} {F0 F1 H1 F H : Hp} {σ : St} (g : Gnd K (G.at F0) F1 H1) (h : Holds K (G.at F1) ρ σ F H) : Holds K (G.at F0) ρ σ F H := ⟨g.unbase h.toGnd, h.val, h.own, h.sep, h.len⟩
theorem PostS.rebase {K : PySem.W.Frag} {F0 F1 H1 : Hp} {E : Ends} {m : Rs (Fl α β)} (g : Gnd K (G.at F0) F1 H1) (h : PostS K (G.at F0) W ρx pn pl E m) : PostS K (G.at F1) W ρx pn pl E m := by
  cases m with
  | ok f =>
    cases f with
    | nx z => exact fun σ F H hh => h σ F H (hh.unbase g)
    | bk z => exact fun σ F H hh => h σ F H (hh.unbase g)
    | ct z => exact fun σ F H hh => h σ F H (hh.unbase g)
    | rt d s => exact fun v F H hh => h v F H (g.unbase hh)
  | ex c fs => exact fun dd σ F H hh => h dd σ F H (hh.unbase g)
  | no => exact h
def loopM {ε β : Type} (f : ε → D → Rs (Fl ε ε)) : List D → ε → Rs (Fl ε β)
  | [], z => .ok (.nx z)
  | d :: ds, z => (f z d).bind fun r => match r with
    | .nx z' => loopM f ds z'
    | .ct z' => loopM f ds z'
    | .bk z' => .ok (.nx z')
    | .rt v s => .ok (.rt v s)
theorem bk_for {ε γ : Type} {post : ε → Rho} {u : D → Option γ} {p : ε → γ → Rho} {tg iter : Expr} {body : List Stmt} {pos : Pos} {mi : Rs (List D)} {fb : ε → γ → Rs (Fl ε ε)} {z0 : ε} {f : ε → Rs (Fl α β)}
    (po : PassesOwn (model X.prog X.w) X.A X.env X.xe) (calm : X.calm = true) (hi : IT X G W ρ tg iter mi) (h0 : Wk ρ (post z0)) {is : List Nat} (ht : ∀ z, TT1 X G tg (post z) is u (p z)) (hb : ∀ z y, BK X G W ρx (p z y) body post post (fb z y))
    (hr : ∀ z, BK X G W ρx (post z) rest pn pl (f z)) (wx : Wk ρ ρx := by first | exact Wk.nil | exact Wk.refl | (repeat (first | exact Wk.nil | apply Wk.keep | apply Wk.drop))) (hs : ∀ x, foldedSetIterable iter X.env x = pure x := by intro _; rfl) :
    BK X G W ρx ρ (.For tg iter body [] pos :: rest) pn pl (mi.bind fun items => (loopM (fun z d => (Rs.of (u d)).bind (fb z)) items z0).bind (Fl.andThen f)) := by
  obtain ⟨wi, pI, qI⟩ := hi
  intro F0 σ F H E hh hp
  refine any_cons (ps_for po calm pI pg_any pss_any hs) ?_
  refine qI F0 σ F H _ hh (post_seq hh wx hp fun items J F1 H1 e1 hw hp1 => ?_)
  have hh1 := (hh.more e1).weak h0
  refine ⟨fun i m σ H => m = items.length - i ∧ i ≤ items.length ∧ ∃ z F, Holds X.K (G.at F0) (post z) σ F H ∧ Same F1 F ∧ PostS X.K (G.at F0) W ρx pn pl E ((loopM (fun z d => (Rs.of (u d)).bind (fb z)) (items.drop i) z).bind (Fl.andThen f)),
    ⟨items.length, by simp, Nat.zero_le _, z0, F1, hh1, Same.refl F1, hp1⟩, ?_⟩
  rintro i m σ2 H2 ⟨rfl, hil, z, F2, hh2, s2, hp2⟩
  obtain ⟨wgo, wstop⟩ := hw.2 F2 H2 s2 hh2.sub
  by_cases hlt : i < items.length
  · have hg : items[i]? = some items[i] := List.getElem?_eq_getElem hlt
    obtain ⟨g1, g2⟩ := wgo i _ hg
    rw [List.drop_eq_getElem_cons hlt] at hp2
    refine .inr ⟨g1, fun σ' H' => ∃ z' F', Holds X.K (G.at F0) (post z') σ' F' H' ∧ Same F1 F' ∧ PostS X.K (G.at F0) W ρx pn pl E ((loopM (fun z d => (Rs.of (u d)).bind (fb z)) (items.drop (i + 1)) z').bind (Fl.andThen f)), fun σ' H' ⟨z', F', q1, q2, q3⟩ => ⟨items.length - (i + 1), by omega, rfl, hlt, z', F', q1, q2, q3⟩, fun x H' y => ?_⟩
    obtain ⟨F3, e3, r3⟩ := g2 x H' y
    have hh3 := hh2.more e3
    simp only [loopM] at hp2
    cases hu : u items[i] with
    | none =>
      rw [hu] at hp2
      exact hp2.elim
    | some y =>
      rw [hu] at hp2
      simp only [Rs.of_some, Rs.bind_ok] at hp2
      refine ht z F0 σ2 F3 H' x _ y _ hh3 r3 hu fun σ4 _ hh4 => ?_
      refine hb z y F3 σ4 F3 H' _ hh4.rebase ?_
      cases hfb : fb z y with
      | no =>
        rw [hfb] at hp2
        exact hp2
      | ex c fs =>
        rw [hfb] at hp2
        exact PostS.rebase (W := W) (m := (Rs.ex c fs : Rs (Fl α β))) (pn := pn) (pl := pl) (E := E) hh4.toGnd hp2
      | ok fl =>
        rw [hfb] at hp2
        simp only [Rs.bind_ok] at hp2
        cases fl with
        | nx z' => exact fun σ5 F5 H5 hh5 => ⟨z', F5, hh5.unbase hh4.toGnd, (s2.trans e3.ext).trans hh5.ext, hp2⟩
        | ct z' => exact fun σ5 F5 H5 hh5 => ⟨z', F5, hh5.unbase hh4.toGnd, (s2.trans e3.ext).trans hh5.ext, hp2⟩
        | bk z' => exact fun σ5 F5 H5 hh5 => hr z' F0 σ5 F5 H5 E (hh5.unbase hh4.toGnd) hp2
        | rt v s => exact fun v2 F5 H5 hh5 => hp2 v2 F5 H5 (hh4.toGnd.unbase hh5)
  · have ei : i = items.length := by omega
    subst ei
    rw [List.drop_length] at hp2
    exact .inl ⟨wstop, hr z F0 σ2 F2 H2 E hh2 hp2⟩
def whileM {ε β : Type} (c : ε → Rs Bool) (f : ε → Rs (Fl ε ε)) : Nat → ε → Rs (Fl ε β)
  | 0, _ => .no
  | n + 1, z => (c z).bind fun k => if k then (f z).bind fun r => (match r with
    | .nx z' => whileM c f n z'
    | .ct z' => whileM c f n z'
    | .bk z' => .ok (.nx z')
    | .rt v s => .ok (.rt v s)) else .ok (.nx z)
theorem bk_while {ε : Type} {post : ε → Rho} {c : Expr} {body : List Stmt} {pos : Pos} {fc : ε → Rs Bool} {fb : ε → Rs (Fl ε ε)} {z0 : ε} {f : ε → Rs (Fl α β)} {n : Nat}
    (po : PassesOwn (model X.prog X.w) X.A X.env X.xe) (h0 : Wk ρ (post z0)) (hc : ∀ z, TV X G W (post z) c (fc z)) (hb : ∀ z, BK X G W ρx (post z) body post post (fb z))
    (hr : ∀ z, BK X G W ρx (post z) rest pn pl (f z)) (wx : ∀ z, Wk (post z) ρx := by exact fun _ => Wk.nil) :
    BK X G W ρx ρ (.While c body [] pos :: rest) pn pl ((whileM fc fb n z0).bind (Fl.andThen f)) := by
  intro F0 σ F H E hh hp
  refine any_cons (ps_while (tc := fun σ H Q => ∃ t, PT X c t ∧ t σ H Q) po ⟨fun pins s σ H Q I ⟨_, p, h⟩ => p.run pins s σ H Q I h⟩ pss_any) ?_
  refine ⟨fun m σ H => ∃ z F, Holds X.K (G.at F0) (post z) σ F H ∧ PostS X.K (G.at F0) W ρx pn pl E ((whileM fc fb m z).bind (Fl.andThen f)), ⟨n, z0, F, hh.weak h0, hp⟩, ?_⟩
  rintro m σ1 H1 ⟨z, F1, hh1, hp1⟩
  cases m with
  | zero => exact hp1.elim
  | succ m =>
    obtain ⟨t, pt, qt⟩ := hc z
    refine ⟨t, pt, qt F0 σ1 F1 H1 _ hh1 ?_⟩
    simp only [whileM] at hp1
    cases hfc : fc z with
    | no => rw [hfc] at hp1; exact hp1
    | ex cc fs =>
      rw [hfc] at hp1
      exact fun dd F2 H2 e2 r => hp1 dd σ1 F2 H2 ((hh1.more e2).weak (wx z)) r
    | ok k =>
      rw [hfc] at hp1
      intro v F2 H2 e2 r2
      cases r2
      have hh2 := hh1.more e2
      cases k with
      | false => exact iteF (hr z F0 σ1 F2 H2 E hh2 hp1)
      | true =>
        refine iteT ⟨fun σ' H' => ∃ z' F', Holds X.K (G.at F0) (post z') σ' F' H' ∧ PostS X.K (G.at F0) W ρx pn pl E ((whileM fc fb m z').bind (Fl.andThen f)), fun σ' H' ⟨z', F', q1, q2⟩ => ⟨m, Nat.lt_succ_self m, z', F', q1, q2⟩, ?_⟩
        refine hb z F0 σ1 F2 H2 _ hh2 ?_
        simp only [Rs.bind_ok, if_true] at hp1
        cases hfb : fb z with
        | no => rw [hfb] at hp1; exact hp1
        | ex cc fs => rw [hfb] at hp1; exact hp1
        | ok fl =>
          rw [hfb] at hp1
          simp only [Rs.bind_ok] at hp1
          cases fl with
          | nx z' => exact fun σ5 F5 H5 hh5 => ⟨z', F5, hh5, hp1⟩
          | ct z' => exact fun σ5 F5 H5 hh5 => ⟨z', F5, hh5, hp1⟩
          | bk z' => exact fun σ5 F5 H5 hh5 => hr z' F0 σ5 F5 H5 E hh5 hp1
          | rt v s => exact fun v2 F5 H5 hh5 => hp1 v2 F5 H5 hh5
end
end VL
set_option Elab.async false
set_option linter.all false
set_option maxRecDepth 100000
set_option autoImplicit false
namespace VL
open PySem PySem.Spec L2
open PyProof.Rows hiding St
def Rs.noX {α : Type} : Rs α → Rs α
  | .ex _ _ => .no
  | m => m
@[simp] theorem Rs.noX_ok {α : Type} (a : α) : (Rs.ok a).noX = .ok a := rfl
@[simp] theorem Rs.noX_ex {α : Type} (c : Str) (fs : List (Str × D)) : (Rs.ex c fs : Rs α).noX = .no := rfl
@[simp] theorem Rs.noX_no {α : Type} : (Rs.no : Rs α).noX = .no := rfl
def compM {γ : Type} (u : D → Option γ) (fc : γ → Rs Bool) (fe : γ → Rs D) : List D → Rs (List D)
  | [] => .ok []
  | d :: ds => (Rs.of (u d)).bind fun y => (fc y).noX.bind fun b => if b then (fe y).noX.bind fun e => (compM u fc fe ds).bind fun es => .ok (e :: es) else compM u fc fe ds
def rWipe (ρ : Rho) : List Nat → Rho
  | [] => ρ
  | v :: vs => (rWipe ρ vs).set v none
theorem rWipe_at {ρ : Rho} {i : Nat} {c : Cl} : ∀ {vs : List Nat}, (rWipe ρ vs)[i]? = some (some c) → i ∉ vs ∧ ρ[i]? = some (some c)
  | [], h => ⟨by simp, h⟩
  | v :: vs, h => by
    rcases set_at h with ⟨rfl, z⟩ | ⟨n, z⟩
    · cases z
    · obtain ⟨h1, h2⟩ := rWipe_at z
      exact ⟨by simp only [List.mem_cons, not_or]; exact ⟨fun e => n e.symm, h1⟩, h2⟩
theorem rWipe_len {ρ : Rho} : ∀ {vs : List Nat}, (rWipe ρ vs).length = ρ.length
  | [] => rfl
  | v :: vs => by simp only [rWipe, List.length_set]; exact rWipe_len
theorem wipe_get {σ : St} {i : Nat} : ∀ {vs : List Nat}, i ∉ vs → (wipe σ vs)[i]? = σ[i]?
  | [], _ => rfl
  | v :: vs, h => by
    simp only [List.mem_cons, not_or] at h
    simp only [wipe]
    rw [List.getElem?_set_ne (fun e => h.1 e.symm)]
    exact wipe_get h.2
theorem wipe_wipe {σ : St} : ∀ {vs ws : List Nat}, (∀ i ∈ ws, i ∈ vs) → wipe (wipe σ ws) vs = wipe σ vs
  | vs, [], _ => rfl
  | vs, v :: ws, h => by
    show wipe ((wipe σ ws).set v none) vs = wipe σ vs
    rw [wipe_set (h v (by simp))]
    exact wipe_wipe fun i hi => h i (by simp [hi])
section
variable {K : PySem.W.Frag} {G : Gd} {ρ : Rho} {σ : St} {F H : Hp}
theorem Holds.wipe (h : Holds K G ρ σ F H) (vs : List Nat) : Holds K G (rWipe ρ vs) (L2.wipe σ vs) F H where
  toGnd := h.toGnd
  val := fun i d q => by
    obtain ⟨h1, h2⟩ := rWipe_at q
    rw [wipe_get h1]
    exact h.val i d h2
  own := fun i l d q => by
    obtain ⟨h1, h2⟩ := rWipe_at q
    rw [wipe_get h1]
    exact h.own i l d h2
  sep := fun i j l m d e a n q1 q2 => by
    obtain ⟨h1, h2⟩ := rWipe_at q1
    obtain ⟨h3, h4⟩ := rWipe_at q2
    rw [wipe_get h1, wipe_get h3]
    exact h.sep i j l m d e a n h2 h4
  len := by rw [rWipe_len, wipe_length]; exact h.len
theorem Holds.free {p : Addr} {o : HO} (h : Holds K G ρ σ F H) (hf : F p = none) (h0 : G.H0 p = none ∧ p ∉ G.bs) (hn : ∀ (j : Nat) (l : Bool) (e : D), ρ[j]? = some (some (.own l e)) → σ[j]? ≠ some (some (.ref p))) : Holds K G ρ σ F (upd H p o) where
  sub := fun b x q => by
    have e : b ≠ p := fun e => by
      subst e
      rw [hf] at q
      cases q
    rw [upd_ne e]
    exact h.sub _ _ q
  base := fun b x q nb => by
    have e : b ≠ p := fun e => by
      subst e
      rw [h0.1] at q
      cases q
    rw [upd_ne e]
    exact h.base _ _ q nb
  bsT := fun b hb => by
    have e : b ≠ p := fun e => by
      subst e
      exact h0.2 hb
    rw [upd_ne e]
    exact h.bsT b hb
  ext := h.ext
  new := h.new
  val := h.val
  own := fun i l d q => by
    obtain ⟨a, h1, h2, h3, h4⟩ := h.own i l d q
    have e : a ≠ p := fun e => by
      subst e
      exact hn i l d q h1
    exact ⟨a, h1, h2, h3, h4.move (Same.refl F) (upd_ne e)⟩
  sep := h.sep
  len := h.len
theorem Gnd.free0 {p : Addr} (g : Gnd K G F H) (h : H p = none) : G.H0 p = none ∧ p ∉ G.bs := by
  refine ⟨?_, fun hb => ?_⟩
  · cases q0 : G.H0 p with
    | none => rfl
    | some o =>
      by_cases hb : p ∈ G.bs
      · obtain ⟨o2, q2, _⟩ := g.bsT p hb
        rw [h] at q2
        cases q2
      · rw [g.base p o q0 hb] at h
        cases h
  · obtain ⟨o2, q2, _⟩ := g.bsT p hb
    rw [h] at q2
    cases q2
theorem Holds.notOwn {p : Addr} (hh : Holds K G ρ σ F H) (h : H p = none) (j : Nat) (l : Bool) (e : D) (q : ρ[j]? = some (some (.own l e))) : σ[j]? ≠ some (some (.ref p)) := fun s => by
  obtain ⟨b, h1, h2, h3, h4⟩ := hh.own j l e q
  rw [h1] at s
  cases s
  obtain ⟨o, ho, nt_⟩ := h4.there
  rw [h] at ho
  cases ho
end
theorem Ext.beside {F1 H1 F H : Hp} {p : Addr} {o : HO} (e : Ext F1 H1 F H) (h1 : H1 p = none) (hf : F p = none) : Ext F1 H1 F (upd H p o) :=
  ⟨fun b x q => by
    rw [upd_ne (ne_of_none q h1)]
    exact e.same _ _ q, fun b x q => by
    have n : b ≠ p := fun n => by
      subst n
      rw [hf] at q
      cases q
    rw [upd_ne n]
    exact e.sub _ _ q, e.ext, e.new⟩
theorem Ext.stays {F H F' H' : Hp} {p : Addr} {o : HO} (e : Ext F H F' H') (hf : F p = none) (h : H p = some o) (t : nT o) : F' p = none := by
  cases q : F' p with
  | none => rfl
  | some u =>
    rcases e.new p u q with z | z
    · rw [hf] at z
      cases z
    · exact (z.not h t).elim
abbrev W0 : WX := fun _ _ _ _ => False
section
variable {X : Cx} {G : Gd} {W : WX} {ρ : Rho}
abbrev XB (X : Cx) (scope : Scope) (s : Shared) (H : Hp) (C : Addr) (cl : List (Str × Addr)) (fp : List Addr) : Cx := X.blk s H scope (compEnvC scope cl C X.env) fp
abbrev gAll (X : Cx) (scope : Scope) (tg : Expr) : TG := fun v σ H Q => ∀ s H0 C cl fp, tAnyG (XB X scope s H0 C cl fp) tg v σ H Q
abbrev ttAll (X : Cx) (scope : Scope) (ifs : List Expr) : TT := fun σ H Q => ∀ s H0 C cl fp, ∃ t, PTs (XB X scope s H0 C cl fp) ifs t ∧ t σ H Q
abbrev teAll (X : Cx) (scope : Scope) (e : Expr) : TE := fun σ H Q => ∀ s H0 C cl fp, ∃ t, PE (XB X scope s H0 C cl fp) e t ∧ t σ H Q
theorem hgAll {scope : Scope} {tg : Expr} (s : Shared) (H : Hp) (C : Addr) (cl : List (Str × Addr)) (fp : List Addr) : PG (XB X scope s H C cl fp) tg (gAll X scope tg) :=
  ⟨fun pins s1 σ H1 v u Q I r h => by
    obtain ⟨g, p, q⟩ := h s H C cl fp
    exact p.run pins s1 σ H1 v u Q I r q⟩
theorem htAll {scope : Scope} {ifs : List Expr} (s : Shared) (H : Hp) (C : Addr) (cl : List (Str × Addr)) (fp : List Addr) : PTs (XB X scope s H C cl fp) ifs (ttAll X scope ifs) :=
  ⟨fun pins s1 σ H1 Q I h => by
    obtain ⟨g, p, q⟩ := h s H C cl fp
    exact p.run pins s1 σ H1 Q I q⟩
theorem heAll {scope : Scope} {e : Expr} (s : Shared) (H : Hp) (C : Addr) (cl : List (Str × Addr)) (fp : List Addr) : PE (XB X scope s H C cl fp) e (teAll X scope e) :=
  ⟨fun pins s1 σ H1 Q I h => by
    obtain ⟨g, p, q⟩ := h s H C cl fp
    exact p.run pins s1 σ H1 Q I q⟩
def TVs (X : Cx) (G : Gd) (W : WX) (ρ : Rho) (ifs : List Expr) (m : Rs Bool) : Prop :=
  ∃ t, PTs X ifs t ∧ ∀ F0 σ F H Q, Holds X.K (G.at F0) ρ σ F H → Post X.K RB (fun c d H => W c d σ H) F H Q m → t σ H Q
theorem tvs_nil : TVs X G W ρ [] (.ok true) := ⟨_, pts_nil, fun F0 σ F H Q hh hp => hp true F H (Ext.refl hh.sub) rfl⟩
theorem tvs_one {c : Expr} {m : Rs Bool} (h : TV X G W ρ c m) : TVs X G W ρ [c] m := by
  obtain ⟨t, p, q⟩ := h
  exact ⟨t, pts_one p, q⟩
theorem post_noX {α β : Type} {K : PySem.W.Frag} {Rl : Hp → Hp → α → β → Prop} {E : XK} {F H : Hp} {Q : α → Hp → Prop} {m : Rs β} (h : ∀ d, m = .ok d → ∀ v F' H', Ext F H F' H' → Rl F' H' v d → Q v H') (hn : m.noX ≠ .no) : Post K Rl E F H Q m := by
  cases m with
  | ok d => exact h d rfl
  | ex c fs => exact absurd rfl hn
  | no => exact absurd rfl hn
theorem lc_read {γ : Type} {u : D → Option γ} {p : γ → Rho} {is vs : List Nat} {tg elt : Expr} {ifs : List Expr} {scope : Scope} {wi : TI} {mi : Rs (List D)} {fc : γ → Rs Bool} {fe : γ → Rs D}
    (qI : ∀ F0 σ F H R, Holds X.K (G.at F0) ρ σ F H → Post X.K (fun F' _ J ds => Walks X.K J F' ds) (fun c d H => W c d σ H) F H R mi → wi σ H R) (his : ∀ i ∈ is, i ∈ vs)
    (ht : ∀ s H C cl fp, TT1 (XB X scope s H C cl fp) G tg (rWipe ρ vs) is u p) (hc : ∀ s H C cl fp y, TVs (XB X scope s H C cl fp) G W0 (p y) ifs (fc y)) (he : ∀ s H C cl fp y, EV (XB X scope s H C cl fp) G W0 (p y) elt (fe y))
    {F0 : Hp} {σ : St} {F H : Hp} {Q : VK} (hh : Holds X.K (G.at F0) ρ σ F H) (hp : Post X.K (RN X.K H) (fun c d H => W c d σ H) F H Q (mi.bind fun items => compM u fc fe items)) :
    tLc wi (gAll X scope tg) (ttAll X scope ifs) (teAll X scope elt) vs σ H Q := by
  refine qI F0 σ F H _ hh ?_
  cases mi with
  | ex c fs => exact hp
  | no => exact hp
  | ok items =>
  intro J F1 H1 e1 hw D0 hD
  have hh1 := hh.more e1
  have hDH : H D0 = none := e1.same.free hD
  have h0 := hh1.toGnd.free0 hD
  have hno := fun j l e q => hh1.notOwn hD j l e q
  have hFD : F1 D0 = none := sub_none e1.sub hD
  refine ⟨fun i m H2 => m = items.length - i ∧ i ≤ items.length ∧ ∃ F2 acc, Holds X.K (G.at F0) ρ σ F2 H2 ∧ Ext F1 H1 F2 H2 ∧ F2 D0 = none ∧ Own X.K F2 H2 D0 (.lst acc) ∧ acc.length ≤ i ∧
      Post X.K (RN X.K H) (fun c d H => W c d σ H) F H Q ((compM u fc fe (items.drop i)).bind fun es => .ok (acc ++ es)), ⟨items.length, by simp, Nat.zero_le _, F1, [], hh1.free hFD h0 hno, Ext.beside (Ext.refl e1.sub) hD hFD, hFD, .lst upd_same (Nat.zero_le _) .nil, Nat.zero_le _, ?_⟩, ?_⟩
  · show Post X.K (RN X.K H) _ F H Q ((compM u fc fe (items.drop 0)).bind fun es => .ok ([] ++ es))
    have e : ((compM u fc fe (items.drop 0)).bind fun es => (.ok ([] ++ es) : Rs (List D))) = compM u fc fe items := by
      rw [List.drop_zero]
      cases compM u fc fe items <;> rfl
    rw [e]
    exact hp
  · rintro i m H2 ⟨rfl, hil, F2, acc, hh2, x2, f2, o2, la, hp2⟩
    obtain ⟨wgo, wstop⟩ := hw.2 F2 H2 x2.ext hh2.sub
    by_cases hlt : i < items.length
    · have hg : items[i]? = some items[i] := List.getElem?_eq_getElem hlt
      obtain ⟨g1, g2⟩ := wgo i _ hg
      rw [List.drop_eq_getElem_cons hlt] at hp2
      refine .inr ⟨g1, fun H' => ∃ F' acc', Holds X.K (G.at F0) ρ σ F' H' ∧ Ext F1 H1 F' H' ∧ F' D0 = none ∧ Own X.K F' H' D0 (.lst acc') ∧ acc'.length ≤ i + 1 ∧ Post X.K (RN X.K H) (fun c d H => W c d σ H) F H Q ((compM u fc fe (items.drop (i + 1))).bind fun es => .ok (acc' ++ es)),
        fun H' ⟨F', acc', q1, q2, q3, q4, q5, q6⟩ => ⟨items.length - (i + 1), by omega, rfl, hlt, F', acc', q1, q2, q3, q4, q5, q6⟩, fun x H' y => ?_⟩
      obtain ⟨F3, e3, r3⟩ := g2 x H' y
      have hh3 := hh2.more e3
      have o3 := o2.ext e3
      obtain ⟨xs2, q2', _, _⟩ := o2.asL
      have f3 := e3.stays f2 q2' (fun _ z => nomatch z)
      simp only [compM] at hp2
      cases hu : u items[i] with
      | none =>
        rw [hu] at hp2
        exact hp2.elim
      | some y =>
        rw [hu] at hp2
        simp only [Rs.of_some, Rs.bind_ok] at hp2
        intro s' H0' C' cl' fp'
        refine ht s' H0' C' cl' fp' F0 _ F3 H' x _ y _ (hh3.wipe vs) r3 hu fun σ4 w4 hh4 => ⟨?_, ?_⟩
        · rw [w4 vs his]
          exact wipe_wipe fun i hi => hi
        intro s5 H05 C5 cl5 fp5
        obtain ⟨t5, p5, q5⟩ := hc s5 H05 C5 cl5 fp5 y
        refine ⟨t5, p5, q5 F0 σ4 F3 H' _ hh4 (post_noX (fun b hb v F4 H4 e4 rb => ?_) fun hn => ?_)⟩
        · cases rb
          rw [hb] at hp2
          simp only [Rs.noX_ok, Rs.bind_ok] at hp2
          have hh4' := hh3.more e4
          have o4 := o3.ext e4
          obtain ⟨xs3, q3', _, _⟩ := o3.asL
          have f4 := e4.stays f3 q3' (fun _ z => nomatch z)
          cases b with
          | true =>
            refine iteT ?_
            intro s6 H06 C6 cl6 fp6
            obtain ⟨t6, p6, q6⟩ := he s6 H06 C6 cl6 fp6 y
            refine ⟨t6, p6, q6 F0 σ4 F4 H4 _ (hh4.more e4) (post_noX (fun d hd v F5 H5 e5 r5 => ?_) fun hn => ?_)⟩
            · simp only [if_true] at hp2
              rw [hd] at hp2
              simp only [Rs.noX_ok, Rs.bind_ok] at hp2
              have hh5 := hh4'.more e5
              have o5 := o4.ext e5
              obtain ⟨xs4, q4', _, _⟩ := o4.asL
              have f5 := e5.stays f4 q4' (fun _ z => nomatch z)
              obtain ⟨xs5, q5', l5, r5'⟩ := o5.asL
              have lx : xs5.length < sizeLine := by
                rw [r5'.length]
                have := hw.1
                omega
              refine ⟨xs5, q5', lx, F5, acc ++ [d], hh5.free f5 h0 hno, Ext.beside (x2.trans (e3.trans (e4.trans e5))) hD f5, f5, .lst upd_same ?_ (r5'.append (.one r5)), ?_, ?_⟩
              · rw [List.length_append, List.length_singleton]
                exact lx
              · rw [List.length_append, List.length_singleton]
                omega
              · have e : ((compM u fc fe (items.drop (i + 1))).bind fun es => (.ok (acc ++ [d] ++ es) : Rs (List D))) = (((compM u fc fe (items.drop (i + 1))).bind fun es => (.ok (d :: es) : Rs (List D))).bind fun es => .ok (acc ++ es)) := by
                  cases compM u fc fe (items.drop (i + 1)) with
                  | ok es => simp
                  | ex _ _ => rfl
                  | no => rfl
                rw [e]
                exact hp2
            · simp only [if_true] at hp2
              rw [hn] at hp2
              exact hp2.elim
          | false =>
            refine iteF ⟨F4, acc, hh4', x2.trans (e3.trans e4), f4, o4, by omega, ?_⟩
            simpa using hp2
        · rw [hn] at hp2
          exact hp2.elim
    · have ei : i = items.length := by omega
      subst ei
      rw [List.drop_length] at hp2
      simp only [compM, Rs.bind_ok, List.append_nil] at hp2
      exact .inl ⟨wstop, hp2 (.ref D0) F2 H2 (e1.trans x2) ⟨D0, rfl, hDH, f2, o2⟩⟩
theorem ef_comp {γ : Type} {u : D → Option γ} {p : γ → Rho} {is : List Nat} {own : List (Str × Nat)} {tg iter elt : Expr} {ifs : List Expr} {scope : Scope} {pos : Pos} {mi : Rs (List D)} {fc : γ → Rs Bool} {fe : γ → Rs D}
    (calm : X.calm = true) (nd : X.N.Nodup) (hi : IT X G W ρ tg iter mi) (ok : BlkOk X.N X.env.scope scope own) (his : ∀ i ∈ is, i ∈ own.map (·.2))
    (ht : ∀ s H C cl fp, TT1 (XB X scope s H C cl fp) G tg (rWipe ρ (own.map (·.2))) is u p) (hc : ∀ s H C cl fp y, TVs (XB X scope s H C cl fp) G W0 (p y) ifs (fc y)) (he : ∀ s H C cl fp y, EV (XB X scope s H C cl fp) G W0 (p y) elt (fe y))
    (hs : ∀ x, foldedSetIterable iter X.env x = pure x := by intro _; rfl) : EF X G W ρ (.ListComp elt [⟨tg, iter, ifs, 0⟩] scope pos) (mi.bind fun items => compM u fc fe items) := by
  obtain ⟨wi, pI, qI⟩ := hi
  exact ⟨_, pe_lc calm nd pI ok hgAll htAll heAll hs, fun F0 σ F H Q hh hp => lc_read qI his ht hc he hh hp⟩
theorem af_comp {γ : Type} {i : Nat} {y : Str} {py spos : Pos} {u : D → Option γ} {p : γ → Rho} {is : List Nat} {own : List (Str × Nat)} {tg iter elt : Expr} {ifs : List Expr} {scope : Scope} {pos : Pos} {mi : Rs (List D)} {fc : γ → Rs Bool} {fe : γ → Rs D}
    (calm : X.calm = true) (nd : X.N.Nodup) (hi : IT X G W ρ tg iter mi) (ok : BlkOk X.N X.env.scope scope own) (his : ∀ i ∈ is, i ∈ own.map (·.2))
    (ht : ∀ s H C cl fp, TT1 (XB X scope s H C cl fp) G tg (rWipe ρ (own.map (·.2))) is u p) (hc : ∀ s H C cl fp y, TVs (XB X scope s H C cl fp) G W0 (p y) ifs (fc y)) (he : ∀ s H C cl fp y, EV (XB X scope s H C cl fp) G W0 (p y) elt (fe y))
    (hy : X.N[i]? = some y := by rfl) (hyl : X.env.scope.names.lookup y = some .local := by rfl) (hsw : swapsWith (.ListComp elt [⟨tg, iter, ifs, 0⟩] scope pos) (some (.Name y py)) spos.line X.env = pure true := by exact sw_true rfl rfl rfl (by decide +kernel))
    (hs : ∀ x, foldedSetIterable iter X.env x = pure x := by intro _; rfl) : AF X G W ρ (.Assign [.Name y py] (.ListComp elt [⟨tg, iter, ifs, 0⟩] scope pos) spos) i (mi.bind fun items => compM u fc fe items) := by
  obtain ⟨wi, pI, qI⟩ := hi
  exact ⟨_, ps_setLc calm nd hy hyl hsw pI ok hgAll htAll heAll hs, fun F0 σ F H Q hh hp => lc_read qI his ht hc he hh hp⟩
theorem EF.ev {e : Expr} {m : Rs (List D)} (h : EF X G W ρ e m) : EV X G W ρ e (m.bind fun ds => .ok (.lst ds)) := by
  obtain ⟨t, p, q⟩ := h
  refine ⟨t, p, fun F0 σ F H Q hh hp => q F0 σ F H Q hh ?_⟩
  cases m with
  | ex c fs => exact hp
  | no => exact hp
  | ok ds =>
    intro v F' H' e1 r1
    obtain ⟨a, rfl, hn, hf, ho⟩ := r1
    obtain ⟨o, ha, hr⟩ := ho.rep rfl e1.sub hf
    refine hp _ (upd F' a o) H' ⟨e1.same, fun b x q => ?_, e1.ext.trans (same_upd hf), fun b x q => ?_⟩ hr
    · by_cases e : b = a
      · subst e
        rw [upd_same] at q
        cases q
        exact ha
      · rw [upd_ne e] at q
        exact e1.sub _ _ q
    · by_cases e : b = a
      · subst e
        exact .inr (.inl hn)
      · rw [upd_ne e] at q
        exact e1.new _ _ q
theorem AF.as {st : Stmt} {i : Nat} {m : Rs (List D)} (h : AF X G W ρ st i m) : AS X G W ρ st i (m.bind fun ds => .ok (.lst ds)) := by
  obtain ⟨t, p, q⟩ := h
  refine ⟨t, p, fun F0 σ F H Q hh hp => q F0 σ F H Q hh ?_⟩
  cases m with
  | ex c fs => exact hp
  | no => exact hp
  | ok ds =>
    intro v F' H' e1 r1
    obtain ⟨a, rfl, hn, hf, ho⟩ := r1
    obtain ⟨o, ha, hr⟩ := ho.rep rfl e1.sub hf
    refine hp _ (upd F' a o) H' ⟨e1.same, fun b x q => ?_, e1.ext.trans (same_upd hf), fun b x q => ?_⟩ hr
    · by_cases e : b = a
      · subst e
        rw [upd_same] at q
        cases q
        exact ha
      · rw [upd_ne e] at q
        exact e1.sub _ _ q
    · by_cases e : b = a
      · subst e
        exact .inr (.inl hn)
      · rw [upd_ne e] at q
        exact e1.new _ _ q
def spM (K : PySem.W.Frag) (n : Nat) (m : List D → Rs D) : Sp := fun vs H Q E => vs.length = n ∧ ∃ F ds, Same F H ∧ Reps K F vs ds ∧ Post K (RF K) E F H Q (m ds)
abbrev Keeps (P : Program) (w : World) (K : PySem.W.Frag) (mg : Str → Option Value) (base : Heap) (k : Nat) (f : Addr) (fd : FuncData) (ps : List Str) (m : List D → Rs D) : Prop := FnOk P w K mg base (L2N.CX P w) k f fd ps (spM K ps.length m)
theorem ev_call {k : Nat} {f : Addr} {fd : FuncData} {ps : List Str} {m : List D → Rs D} {x : Str} {p pos : Pos} {e : Expr} {es : List Expr} {ms : Rs (List D)} (tk : L2N.Takes X W) (Fk : Keeps X.prog X.w X.K X.mg X.base k f fd ps m) (hr : Room k X.A) (hm : X.mg x = some (.ref f)) (hk : PySem.W.keepIn X.K (.ref f) = true)
    (hb : Binds X.K fd ps []) (ha : AV X G W ρ (e :: es) ms) (hln : (e :: es).length = ps.length := by rfl) (hg : Gl X x := by rfl) (hdb : (x == ("__debug__" : Str)) = false := by decide) (he : starEach (e :: es) X.env = (false, eval e X.env) :: starEach es X.env := by rfl)
    (hpl : (backTo pos (starEach es X.env)).any (·.1) = false := by rfl) : EV X G W ρ (.Call (.Name x p) (e :: es) [] pos) (ms.bind m) := by
  obtain ⟨ln, t, pa, qa⟩ := ha
  refine ⟨_, pe_callSD (E := WE W) Fk hr hg hm hk hb .nil (fun σ => L2N.passAt tk σ) pa hdb he hpl, fun F0 σ F H Q hh hp => ?_⟩
  refine qa F0 σ F H _ hh ?_
  cases ms with
  | ex c fs => exact hp
  | no => exact hp
  | ok ds =>
    intro vs F' H' e1 r1
    show spM X.K ps.length m (vs ++ []) H' Q _
    rw [List.append_nil]
    exact ⟨r1.length.trans ((ln ds rfl).trans hln), F', ds, e1.sub, r1, Post.more (m := m ds) hp e1⟩
theorem ev_call0 {k : Nat} {f : Addr} {fd : FuncData} {m : List D → Rs D} {x : Str} {p pos : Pos} (Fk : Keeps X.prog X.w X.K X.mg X.base k f fd [] m) (hr : Room k X.A) (hm : X.mg x = some (.ref f)) (hk : PySem.W.keepIn X.K (.ref f) = true)
    (hb : Binds X.K fd [] []) (hg : Gl X x := by rfl) (hdb : (x == ("__debug__" : Str)) = false := by decide) : EV X G W ρ (.Call (.Name x p) [] [] pos) ((m []).noX) := by
  refine ⟨_, pe_call0 (E := E0) Fk hr hg hm hk hb .nil passLN hdb, fun F0 σ F H Q hh hp => ?_⟩
  refine ⟨rfl, F, [], hh.sub, .nil, ?_⟩
  cases e : m [] with
  | ok d =>
    rw [e] at hp
    exact hp
  | ex c fs =>
    rw [e] at hp
    exact hp.elim
  | no =>
    rw [e] at hp
    exact hp.elim
theorem rho_start {ds : List D} {n i : Nat} {c : Cl} (h : (ds.map (fun d => some (Cl.val d)) ++ List.replicate n none)[i]? = some (some c)) : ∃ d, ds[i]? = some d ∧ c = .val d := by
  by_cases hl : i < ds.length
  · rw [List.getElem?_append_left (by simpa using hl), List.getElem?_map, List.getElem?_eq_getElem hl] at h
    cases h
    exact ⟨_, List.getElem?_eq_getElem hl, rfl⟩
  · rw [List.getElem?_append_right (by simpa using hl), List.getElem?_replicate] at h
    split at h <;> cases h
theorem gnd_ext {K : PySem.W.Frag} {F H F' H' : Hp} {F0 : Hp} (g : Gnd K (Gd.at ⟨F0, H, []⟩ F) F' H') : Ext F H F' H' :=
  ⟨fun a o q => g.base a o q (by simp [Gd.at]), g.sub, g.ext, fun a o q => by
    rcases g.new a o q with z | z
    · exact .inl z
    · rcases z with z | z
      · exact .inr (.inl z.1)
      · exact .inr (.inr ⟨z.1, z.2.1⟩)⟩
def Rs.ret (m : Rs (Fl Unit Unit)) : Rs D := m.bind fun f => match f with
  | .rt d _ => .ok d
  | .nx _ => .ok .non
  | _ => .no
theorem keeps_of {P : Program} {w : World} {K : PySem.W.Frag} {mg : Str → Option Value} {base : Heap} {x qual : Str} {params : Arguments} {body : List Stmt} {scope : Scope} {dvs : List V} {kws : List (Str × V)} {f : Addr} {fd : FuncData} {N ps : List Str} {k : Nat} {m : List D → Rs D}
    (Fd : FunD K x qual params body scope dvs kws f fd) (S : FnScope N ps scope)
    (hb : ∀ (cdv : Value) (A : Around) (outer : List Env) (s : Shared) (H : Hp) (E : XK) (F : Hp) (ds : List D), ds.length = ps.length → Room k (A.deeper (envOfC qual scope s.heap.objs.size f cdv)) → ∃ mb : Rs (Fl Unit Unit), m ds = mb.ret ∧
      BK (cxOf (L2N.CX P w) P w K mg base N qual scope f cdv A outer s H E) ⟨F, H, []⟩ (fun c d _ H => E c d H) [] (ds.map (fun d => some (Cl.val d)) ++ List.replicate (N.length - ds.length) none) body (fun _ : Unit => []) (fun _ : Unit => []) mb) :
    Keeps P w K mg base (k + 1) f fd ps m := by
  refine Fd.ok S (fun vs H Q E h => h.1) (fun cdv A outer s H vs Q E hr h => ?_)
  obtain ⟨hl, F, ds, hs, hr1, hp⟩ := h
  obtain ⟨mb, em, hbk⟩ := hb cdv A outer s H E F ds (hr1.length.symm.trans hl) hr
  rw [em] at hp
  refine hbk F (start N vs) F H _ ⟨⟨hs, fun a o q _ => q, fun a q => by simp [Gd.at] at q, Same.refl F, fun a o q => .inl q⟩, fun i d q => ?_, fun i l d q => ?_, fun i j l m' d e a n q => ?_, ?_⟩ ?_
  · obtain ⟨d', h1, h2⟩ := rho_start q
    cases h2
    obtain ⟨v, g1, g2⟩ := hr1.get h1
    refine ⟨v, ?_, g2⟩
    unfold L2.start
    rw [List.getElem?_append_left (by
      rw [List.length_map]
      rcases Nat.lt_or_ge i vs.length with z | z
      · exact z
      · rw [List.getElem?_eq_none z] at g1; cases g1), List.getElem?_map, g1]
    rfl
  · obtain ⟨d', h1, h2⟩ := rho_start q
    cases h2
  · obtain ⟨d', h1, h2⟩ := rho_start q
    cases h2
  · unfold L2.start
    rw [List.length_append, List.length_append, List.length_map, List.length_map, List.length_replicate, List.length_replicate, hr1.length]
    exact Nat.le_refl _
  · cases mb with
    | ex c fs => exact fun dd σ F' H' hh r => hp dd F' H' (gnd_ext hh.toGnd) r
    | no => exact hp
    | ok fl =>
      cases fl with
      | nx z => exact fun σ F' H' hh => hp .non F' H' (gnd_ext hh.toGnd) .non
      | rt d s => exact fun v F' H' g r _ => hp v F' H' (gnd_ext g) r
      | bk y => exact hp.elim
      | ct y => exact hp.elim
end
end VL
set_option Elab.async false
set_option linter.all false
set_option maxRecDepth 100000
set_option autoImplicit false
namespace VL
open PySem PySem.Spec L2
open PyProof.Rows hiding St
inductive RepHs (K : PySem.W.Frag) (F H : Hp) : List V → List D → Prop
  | nil : RepHs K F H [] []
  | cons {v : V} {vs : List V} {d : D} {ds : List D} : RepH K F H v d → RepHs K F H vs ds → RepHs K F H (v :: vs) (d :: ds)
theorem RepHs.more {K : PySem.W.Frag} {F H F' H' : Hp} (e : Ext F H F' H') : ∀ {vs : List V} {ds : List D}, RepHs K F H vs ds → RepHs K F' H' vs ds
  | _, _, .nil => .nil
  | _, _, .cons h r => .cons (h.more e) (RepHs.more e r)
def AO (X : Cx) (G : Gd) (W : WX) (ρ : Rho) (es : List Expr) (m : Rs (List D)) : Prop :=
  ∃ t, PA X es t ∧ ∀ F0 σ F H Q, Holds X.K (G.at F0) ρ σ F H → Post X.K (RepHs X.K) (fun c d H => W c d σ H) F H Q m → t σ H Q
def RCok (K : PySem.W.Frag) (r : List V → Hp → VK → Prop) (f : List D → Option D) : Prop := ∀ {xs : List V} {ds : List D} {F H : Hp} {Q : VK} {d : D}, Same F H → RepHs K F H xs ds → f ds = some d →
  (∀ v F' H', Ext F H F' H' → Rep K F' v d → Q v H') → r xs H Q
section
variable {X : Cx} {G : Gd} {W : WX} {ρ : Rho} {e : Expr} {es : List Expr} {m : Rs D} {ms : Rs (List D)} {pos p : Pos}
theorem ao_nil : AO X G W ρ [] (.ok []) := ⟨_, pa_nil, fun F0 σ F H Q hh hp => hp [] F H (Ext.refl hh.sub) .nil⟩
theorem ao_cons (ha : EO X G W ρ e m) (hr : AO X G W ρ es ms) (hs : starEach (e :: es) X.env = (false, eval e X.env) :: starEach es X.env := by rfl) : AO X G W ρ (e :: es) (m.bind fun x => ms.bind fun xs => .ok (x :: xs)) := by
  obtain ⟨ta, pa, qa⟩ := ha
  obtain ⟨tb, pb, qb⟩ := hr
  refine ⟨_, pa_cons pa pb hs, fun F0 σ F H Q hh hp => ?_⟩
  refine qa F0 σ F H _ hh (hp.bind fun dx x F1 H1 e1 r1 hp1 => ?_)
  refine qb F0 σ F1 H1 _ (hh.more e1) (hp1.bind fun dy y F2 H2 e2 r2 hp2 => ?_)
  exact hp2 _ F2 H2 (Ext.refl e2.sub) (.cons (r1.more e2) r2)
theorem ev_callB {id : String} {x : Str} {r : List V → Hp → VK → Prop} {f : List D → Option D} (hc : CallR X (.builtin id) r) (hf : RCok X.K r f) (hm : X.mg x = none) (hv : bootBuiltins x = some (.builtin id)) (ha : AO X G W ρ (e :: es) ms) (hg : Gl X x := by rfl) (hn : x ≠ "__name__" := by decide)
    (hdb : (x == ("__debug__" : Str)) = false := by decide) (he : starEach (e :: es) X.env = (false, eval e X.env) :: starEach es X.env := by rfl) (hpl : (backTo pos (starEach es X.env)).any (·.1) = false := by rfl) : EV X G W ρ (.Call (.Name x p) (e :: es) [] pos) (ms.bind fun ds => Rs.of (f ds)) := by
  obtain ⟨t, pa, qa⟩ := ha
  refine ⟨_, pe_callB hc hg hm hv pa hn hdb he hpl, fun F0 σ F H Q hh hp => ?_⟩
  refine qa F0 σ F H _ hh (hp.bind fun ds xs F1 H1 e1 r1 hp1 => ?_)
  obtain ⟨d, hd, k⟩ := hp1.of
  exact hf e1.sub r1 hd k
theorem ev_callTy {id : String} {x : Str} {r : List V → Hp → VK → Prop} {f : List D → Option D} (hc : CallR X (.type id) r) (hf : RCok X.K r f) (hm : X.mg x = none) (hv : bootBuiltins x = some (.type id)) (ha : AO X G W ρ (e :: es) ms) (hg : Gl X x := by rfl) (hn : x ≠ "__name__" := by decide)
    (hdb : (x == ("__debug__" : Str)) = false := by decide) (he : starEach (e :: es) X.env = (false, eval e X.env) :: starEach es X.env := by rfl) (hpl : (backTo pos (starEach es X.env)).any (·.1) = false := by rfl) : EV X G W ρ (.Call (.Name x p) (e :: es) [] pos) (ms.bind fun ds => Rs.of (f ds)) := by
  obtain ⟨t, pa, qa⟩ := ha
  refine ⟨_, pe_callTy hc hg hm hv pa hn hdb he hpl, fun F0 σ F H Q hh hp => ?_⟩
  refine qa F0 σ F H _ hh (hp.bind fun ds xs F1 H1 e1 r1 hp1 => ?_)
  obtain ⟨d, hd, k⟩ := hp1.of
  exact hf e1.sub r1 hd k
theorem CallR.or {v : Value} {r r' : List V → Hp → VK → Prop} (h : CallR X v r) (h' : CallR X v r') : CallR X v (fun xs H Q => r xs H Q ∨ r' xs H Q) := by
  intro pins s σ H xs us Q I rr hq
  rcases hq with hq | hq
  · exact h pins s σ H xs us Q I rr hq
  · exact h' pins s σ H xs us Q I rr hq
end
section
variable {K : PySem.W.Frag}
def absD : List D → Option D
  | [.int i] => some (.int (if i < 0 then -i else i))
  | _ => none
theorem absD_ok : RCok K (fun xs H Q => ∃ i, xs = [.int i] ∧ Q (.int (if i < 0 then -i else i)) H) absD := by
  intro xs ds F H Q d s r hd k
  unfold absD at hd
  split at hd
  · cases hd
    cases r with
    | cons r1 r2 =>
      cases r2
      obtain rfl := r1.int
      exact ⟨_, rfl, k _ F H (Ext.refl s) (.int _)⟩
  · cases hd
def intD : List D → Option D
  | [.int i] => some (.int i)
  | [.bl b] => some (.int (if b then 1 else 0))
  | [.str x] => if x.length ≤ 640 then (PySem.intText? x).map .int else none
  | _ => none
def rIntD : List V → Hp → VK → Prop := fun xs H Q => ((∃ i, xs = [.int i] ∧ Q (.int i) H) ∨ ∃ k, xs = [.bl k] ∧ Q (.int (if k then 1 else 0)) H) ∨ ∃ a n, xs = [.str a] ∧ PySem.intText? a = some n ∧ a.length ≤ 640 ∧ Q (.int n) H
theorem call_intD {X : Cx} : CallR X (.type "int") rIntD := CallR.or call_int1 call_int_str
theorem intD_ok : RCok K rIntD intD := by
  intro xs ds F H Q d s r hd k
  unfold intD at hd
  split at hd
  · cases hd
    cases r with
    | cons r1 r2 =>
      cases r2
      obtain rfl := r1.int
      exact .inl (.inl ⟨_, rfl, k _ F H (Ext.refl s) (.int _)⟩)
  · cases hd
    cases r with
    | cons r1 r2 =>
      cases r2
      obtain rfl := r1.bl
      exact .inl (.inr ⟨_, rfl, k _ F H (Ext.refl s) (.int _)⟩)
  · split at hd
    · rename_i x hl
      cases hi : PySem.intText? x with
      | none => rw [hi] at hd; cases hd
      | some n =>
        rw [hi] at hd
        cases hd
        cases r with
        | cons r1 r2 =>
          cases r2
          obtain rfl := r1.str
          exact .inr ⟨_, _, rfl, hi, hl, k _ F H (Ext.refl s) (.int _)⟩
    · cases hd
  · cases hd
def lenD : List D → Option D
  | [.lst xs] => some (.int xs.length)
  | [.tup xs] => some (.int xs.length)
  | [.tupL xs] => some (.int xs.length)
  | [.scr xs] => some (.int xs.length)
  | [.str x] => if x.length ≤ sizeLine then some (.int x.length) else none
  | _ => none
theorem lenD_ok : RCok K (fun xs H Q => ∃ x n, xs = [x] ∧ LenV K x H n ∧ Q (.int n) H) lenD := by
  intro xs ds F H Q d s r hd k
  unfold lenD at hd
  split at hd
  · cases hd
    cases r with
    | cons r1 r2 =>
      cases r2
      obtain ⟨a, ys, rfl, ha, la, ra⟩ := r1.lst s
      refine ⟨_, _, rfl, .inl ⟨_, SqL.of ha, rfl⟩, ?_⟩
      rw [ra.length]
      exact k _ F H (Ext.refl s) (.int _)
  · cases hd
    cases r with
    | cons r1 r2 =>
      cases r2
      obtain ⟨a, ys, rfl, ha, la, ra, wa⟩ := r1.tup s
      refine ⟨_, _, rfl, .inr ⟨_, ha, rfl⟩, ?_⟩
      rw [ra.length]
      exact k _ F H (Ext.refl s) (.int _)
  · cases hd
    cases r with
    | cons r1 r2 =>
      cases r2
      obtain ⟨a, ys, rfl, ha, la, ra⟩ := r1.tupL s
      refine ⟨_, _, rfl, .inr ⟨_, ha, rfl⟩, ?_⟩
      rw [ra.length]
      exact k _ F H (Ext.refl s) (.int _)
  · cases hd
    cases r with
    | cons r1 r2 =>
      cases r2
      obtain ⟨a, ys, rfl, ha, la, ra⟩ := r1.scr s
      refine ⟨_, _, rfl, .inl ⟨_, ha, rfl⟩, ?_⟩
      rw [ra.length]
      exact k _ F H (Ext.refl s) (.int _)
  · split at hd
    · rename_i hl
      cases hd
      cases r with
      | cons r1 r2 =>
        cases r2
        obtain rfl := r1.str
        exact ⟨_, _, rfl, ⟨hl, rfl⟩, k _ F H (Ext.refl s) (.int _)⟩
    · cases hd
  · cases hd
def tupleD : List D → Option D
  | [.lst xs] => some (.tup xs)
  | [.scr xs] => some (.tup xs)
  | [.tup xs] => some (.tup xs)
  | _ => none
theorem tupleD_ok : RCok K (fun xs H Q => ∃ p ys, xs = [.ref p] ∧ ((SqL K H p ys ∧ ∀ l, H l = none → Q (.ref l) (upd H l (.tup ys))) ∨ (SqT K H p ys ∧ Q (.ref p) H))) tupleD := by
  intro xs ds F H Q d s r hd k
  unfold tupleD at hd
  split at hd
  · cases hd
    cases r with
    | cons r1 r2 =>
      cases r2
      obtain ⟨a, ys, rfl, ha, la, ra⟩ := r1.lst s
      exact ⟨_, _, rfl, .inl ⟨SqL.of ha, fun l hl => k _ _ _ (Ext.fresh s _ hl) (new_tup s hl la ra)⟩⟩
  · cases hd
    cases r with
    | cons r1 r2 =>
      cases r2
      obtain ⟨a, ys, rfl, ha, la, ra⟩ := r1.scr s
      exact ⟨_, _, rfl, .inl ⟨ha, fun l hl => k _ _ _ (Ext.fresh s _ hl) (new_tup s hl la ra)⟩⟩
  · cases hd
    cases r with
    | cons r1 r2 =>
      cases r2
      obtain ⟨a, ys, rfl, ha, la, ra, wa⟩ := r1.tup s
      exact ⟨_, _, rfl, .inr ⟨ha, k _ F H (Ext.refl s) wa⟩⟩
  · cases hd
def listD : List D → Option D
  | [.lst xs] => some (.lst xs)
  | [.scr xs] => some (.lst xs)
  | [.tup xs] => some (.lst xs)
  | _ => none
theorem listD_ok : RCok K (fun xs H Q => ∃ p ys, xs = [.ref p] ∧ (SqL K H p ys ∨ SqT K H p ys) ∧ ∀ l, H l = none → Q (.ref l) (upd H l (.lst ys))) listD := by
  intro xs ds F H Q d s r hd k
  unfold listD at hd
  split at hd
  · cases hd
    cases r with
    | cons r1 r2 =>
      cases r2
      obtain ⟨a, ys, rfl, ha, la, ra⟩ := r1.lst s
      exact ⟨_, _, rfl, .inl (SqL.of ha), fun l hl => k _ _ _ (Ext.fresh s _ hl) (new_lst s hl la ra)⟩
  · cases hd
    cases r with
    | cons r1 r2 =>
      cases r2
      obtain ⟨a, ys, rfl, ha, la, ra⟩ := r1.scr s
      exact ⟨_, _, rfl, .inl ha, fun l hl => k _ _ _ (Ext.fresh s _ hl) (new_lst s hl la ra)⟩
  · cases hd
    cases r with
    | cons r1 r2 =>
      cases r2
      obtain ⟨a, ys, rfl, ha, la, ra, wa⟩ := r1.tup s
      exact ⟨_, _, rfl, .inr ha, fun l hl => k _ _ _ (Ext.fresh s _ hl) (new_lst s hl la ra)⟩
  · cases hd
def intsD : List D → Option (List Int)
  | [] => some []
  | .int i :: r => (intsD r).map (i :: ·)
  | _ => none
def boolsD : List D → Option (List Bool)
  | [] => some []
  | .bl i :: r => (boolsD r).map (i :: ·)
  | _ => none
theorem intsD_vals {F : Hp} : ∀ {ds : List D} {ns : List Int} {xs : List V}, intsD ds = some ns → Reps K F xs ds → xs = ns.map V.int
  | [], ns, xs, h, r => by
    cases h
    cases r
    rfl
  | d :: ds, ns, xs, h, r => by
    cases d with
    | int i =>
      simp only [intsD] at h
      cases e : intsD ds with
      | none => rw [e] at h; cases h
      | some ms =>
        rw [e] at h
        cases h
        cases r with
        | cons r1 r2 =>
          cases r1
          rw [intsD_vals e r2]
          rfl
    | _ => simp only [intsD] at h; cases h
theorem boolsD_vals {F : Hp} : ∀ {ds : List D} {ns : List Bool} {xs : List V}, boolsD ds = some ns → Reps K F xs ds → xs = ns.map V.bl
  | [], ns, xs, h, r => by
    cases h
    cases r
    rfl
  | d :: ds, ns, xs, h, r => by
    cases d with
    | bl i =>
      simp only [boolsD] at h
      cases e : boolsD ds with
      | none => rw [e] at h; cases h
      | some ms =>
        rw [e] at h
        cases h
        cases r with
        | cons r1 r2 =>
          cases r1
          rw [boolsD_vals e r2]
          rfl
    | _ => simp only [boolsD] at h; cases h
def sumD : List D → Option D
  | [.lst xs] => (intsD xs).map fun ns => .int ns.sum
  | [.tup xs] => (intsD xs).map fun ns => .int ns.sum
  | _ => none
def rSumT (K : PySem.W.Frag) : List V → Hp → VK → Prop := fun vs H Q => ∃ (a : Addr) (ns : List Int), vs = [V.ref a] ∧ SqT K H a (ns.map V.int) ∧ Q (.int ns.sum) H
def rSumA (K : PySem.W.Frag) : List V → Hp → VK → Prop := fun vs H Q => rSum K vs H Q ∨ rSumT K vs H Q
theorem call_sumT {X : Cx} (hc : X.calm = true) : CallR X (.builtin "sum") (rSumT X.K) := by
  intro pins s σ H vs us Q I r ⟨a, ns, e0, hs, q⟩
  subst e0
  obtain ⟨its, rv, hl, _⟩ := I.tuple hs
  rw [Vals.ref1 r]
  obtain ⟨o, ho, hcl, n, hd⟩ := hl
  obtain ⟨xs, e⟩ := rv.ints.allInts.items
  have hn : numsOf (intItems xs).toList = ns := e ▸ rv.ints.numsOf
  rw [nums_intItems] at hn
  refine PySem.W.ktm_sumG (xs := xs) (I.ok.hd hc) ⟨o, ho, hcl, n, by rw [← e]; exact hd⟩ fun h' tk t' hk => ?_
  rw [preSum_eq, List.take_of_length_le (by simp), hn]
  exact ⟨.int _, H, I.kept hk, ⟨_, rfl⟩, q⟩
theorem call_sumA {X : Cx} (hc : X.calm = true) : CallR X (.builtin "sum") (rSumA X.K) := fun pins s σ H vs us Q I r h => h.elim (cr_sum hc pins s σ H vs us Q I r) (call_sumT hc pins s σ H vs us Q I r)
theorem sumD_ok : RCok K (rSumA K) sumD := by
  intro xs ds F H Q d s r hd k
  unfold sumD at hd
  split at hd
  · rename_i es
    cases e : intsD es with
    | none => rw [e] at hd; cases hd
    | some ns =>
      rw [e] at hd
      cases hd
      cases r with
      | cons r1 r2 =>
        cases r2
        obtain ⟨a, ys, rfl, ha, la, ra⟩ := r1.lst s
        have ey := intsD_vals e ra
        subst ey
        exact .inl ⟨a, ns, rfl, SqL.of ha, k _ F H (Ext.refl s) (.int _)⟩
  · rename_i es
    cases e : intsD es with
    | none => rw [e] at hd; cases hd
    | some ns =>
      rw [e] at hd
      cases hd
      cases r with
      | cons r1 r2 =>
        cases r2
        obtain ⟨a, ys, rfl, ha, la, ra, wa⟩ := r1.tup s
        have ey := intsD_vals e ra
        subst ey
        exact .inr ⟨a, ns, rfl, ha, k _ F H (Ext.refl s) (.int _)⟩
  · cases hd
def allD : List D → Option D
  | [.lst xs] => (boolsD xs).map fun ns => .bl (ns.all id)
  | _ => none
theorem allD_ok : RCok K (rAll K) allD := by
  intro xs ds F H Q d s r hd k
  unfold allD at hd
  split at hd
  · rename_i es
    cases e : boolsD es with
    | none => rw [e] at hd; cases hd
    | some ns =>
      rw [e] at hd
      cases hd
      cases r with
      | cons r1 r2 =>
        cases r2
        obtain ⟨a, ys, rfl, ha, la, ra⟩ := r1.lst s
        have ey := boolsD_vals e ra
        subst ey
        exact ⟨a, ns, rfl, SqL.of ha, k _ F H (Ext.refl s) (.bl _)⟩
  · cases hd
end
def idxD : D → D → Option D
  | .lst xs, .int i => atI xs i
  | .tup xs, .int i => atI xs i
  | .tupL xs, .int i => atI xs i
  | .scr xs, .int i => atI xs i
  | .str z, .int i => if z.length ≤ sizeLine then (atI z.cps.toList i).map fun c => .str ⟨#[c]⟩ else none
  | _, _ => none
def rIdxD (K : PySem.W.Frag) : R2 := fun x y H Q => rIxL K x y H Q ∨ rIxT K x y H Q ∨ rIxS x y H Q
theorem ix_D {X : Cx} : IxR X (rIdxD X.K) := IxR.or ix_list (IxR.or ix_tup ix_str)
theorem Reps.atI {K : PySem.W.Frag} {F : Hp} {xs : List V} {ds : List D} {i : Int} {d : D} (r : Reps K F xs ds) (h : L2.atI ds i = some d) : ∃ v, L2.atI xs i = some v ∧ Rep K F v d := by
  unfold L2.atI at h ⊢
  rw [r.length]
  cases e : ixN ds.length i with
  | none => rw [e] at h; cases h
  | some j =>
    rw [e] at h
    exact r.get h
theorem idxD_ok {K : PySem.W.Frag} : R2ok K (rIdxD K) idxD := by
  intro x y dx dy F H Q d s hx hy hd k
  unfold idxD at hd
  split at hd
  · obtain ⟨a, xs, rfl, ha, la, ra⟩ := hx.lst s
    obtain ⟨v, h1, h2⟩ := ra.atI hd
    exact .inl ⟨_, _, _, v, rfl, hy.int, SqL.of ha, h1, k _ F H (Ext.refl s) h2⟩
  · obtain ⟨a, xs, rfl, ha, la, ra, wa⟩ := hx.tup s
    obtain ⟨v, h1, h2⟩ := ra.atI hd
    exact .inr (.inl ⟨_, _, _, v, rfl, hy.int, ha, h1, k _ F H (Ext.refl s) h2⟩)
  · obtain ⟨a, xs, rfl, ha, la, ra⟩ := hx.tupL s
    obtain ⟨v, h1, h2⟩ := ra.atI hd
    exact .inr (.inl ⟨_, _, _, v, rfl, hy.int, ha, h1, k _ F H (Ext.refl s) h2⟩)
  · obtain ⟨a, xs, rfl, ha, la, ra⟩ := hx.scr s
    obtain ⟨v, h1, h2⟩ := ra.atI hd
    exact .inl ⟨_, _, _, v, rfl, hy.int, ha, h1, k _ F H (Ext.refl s) h2⟩
  · split at hd
    · rename_i z i hl
      cases e : L2.atI z.cps.toList i with
      | none => rw [e] at hd; cases hd
      | some c =>
        rw [e] at hd
        cases hd
        exact .inr (.inr ⟨z, i, c, hx.str, hy.int, hl, e, k _ F H (Ext.refl s) (.str _)⟩)
    · cases hd
  · cases hd
def cutD (xs : List D) (lo hi : Option Int) : List D := (xs.drop (HT.sIx xs.length 0 lo)).take (HT.sIx xs.length xs.length hi - HT.sIx xs.length 0 lo)
def sliceD : D → Option Int → Option Int → Option D
  | .lst xs, lo, hi => some (.lst (cutD xs lo hi))
  | .scr xs, lo, hi => some (.lst (cutD xs lo hi))
  | .tup xs, lo, hi => some (.tup (cutD xs lo hi))
  | .str z, lo, hi => if z.length ≤ sizeLine then some (.str (cutS z lo hi)) else none
  | _, _, _ => none
def rSliceD (K : PySem.W.Frag) : V → Option Int → Option Int → Hp → VK → Prop := fun x lo hi H Q => rSlL K x lo hi H Q ∨ rSlA K x lo hi H Q ∨ rSlS x lo hi H Q
theorem sl_D {X : Cx} : L2.SlR X (rSliceD X.K) := L2.SlR.or sl_list (L2.SlR.or sl_tupA sl_str)
theorem Reps.cut {K : PySem.W.Frag} {F : Hp} {xs : List V} {ds : List D} {lo hi : Option Int} (r : Reps K F xs ds) : Reps K F (cutV xs lo hi) (cutD ds lo hi) := by
  unfold cutV cutD
  rw [r.length]
  exact (r.drop _).take _
def PV (X : Cx) (G : Gd) (W : WX) (ρ : Rho) (e : Option Expr) (m : Rs (Option Int)) : Prop :=
  ∃ t, PO X e t ∧ ∀ F0 σ F H Q, Holds X.K (G.at F0) ρ σ F H → Post X.K (fun _ _ x y => x = y) (fun c d H => W c d σ H) F H Q m → t σ H Q
def asI : D → Option (Option Int)
  | .int i => some (some i)
  | _ => none
section
variable {X : Cx} {G : Gd} {W : WX} {ρ : Rho} {e : Expr} {lo hi : Option Expr} {m : Rs D} {ml mh : Rs (Option Int)} {pos p : Pos}
theorem pv_none : PV X G W ρ none (.ok none) := ⟨_, po_none, fun F0 σ F H Q hh hp => hp none F H (Ext.refl hh.sub) rfl⟩
theorem pv_some (h : EV X G W ρ e m) : PV X G W ρ (some e) (m.bind fun d => Rs.of (asI d)) := by
  obtain ⟨t, pe, q⟩ := h
  refine ⟨_, po_some pe, fun F0 σ F H Q hh hp => ?_⟩
  refine q F0 σ F H _ hh (hp.bind fun dx x F1 H1 e1 r1 hp1 => ?_)
  obtain ⟨d, hd, k⟩ := hp1.of
  cases dx with
  | int i =>
    cases hd
    cases r1
    exact ⟨i, rfl, k _ F1 H1 (Ext.refl e1.sub) rfl⟩
  | _ => cases hd
theorem ev_slice (h : EO X G W ρ e m) (hl : PV X G W ρ lo ml) (hh' : PV X G W ρ hi mh) : EV X G W ρ (.Subscript e (.Slice lo hi none p) pos) (m.bind fun x => ml.bind fun i => mh.bind fun j => Rs.of (sliceD x i j)) := by
  obtain ⟨t, pe, q⟩ := h
  obtain ⟨tl, pl, ql⟩ := hl
  obtain ⟨th, ph, qh⟩ := hh'
  refine ⟨_, pe_slice sl_D pe pl ph, fun F0 σ F H Q hh hp => ?_⟩
  refine q F0 σ F H _ hh (hp.bind fun dx x F1 H1 e1 r1 hp1 => ?_)
  refine ql F0 σ F1 H1 _ (hh.more e1) (hp1.bind fun i i' F2 H2 e2 r2 hp2 => ?_)
  refine qh F0 σ F2 H2 _ ((hh.more e1).more e2) (hp2.bind fun j j' F3 H3 e3 r3 hp3 => ?_)
  cases r2
  cases r3
  obtain ⟨d, hd, k⟩ := hp3.of
  have s := e3.sub
  have hx := (r1.more e2).more e3
  unfold sliceD at hd
  split at hd
  · cases hd
    obtain ⟨a, xs, rfl, ha, la, ra⟩ := hx.lst s
    exact .inl ⟨a, xs, rfl, SqL.of ha, fun p hp => k _ _ _ (Ext.fresh s _ hp) (new_lst s hp (Nat.le_trans (cutV_length _ _ _) la) ra.cut)⟩
  · cases hd
    obtain ⟨a, xs, rfl, ha, la, ra⟩ := hx.scr s
    exact .inl ⟨a, xs, rfl, ha, fun p hp => k _ _ _ (Ext.fresh s _ hp) (new_lst s hp (Nat.le_trans (cutV_length _ _ _) la) ra.cut)⟩
  · cases hd
    obtain ⟨a, xs, rfl, ha, la, ra, wa⟩ := hx.tup s
    refine .inr (.inl ⟨a, xs, rfl, ha, fun hw => ?_, fun _ p hp => k _ _ _ (Ext.fresh s _ hp) (new_tup s hp (Nat.le_trans (cutV_length _ _ _) la) ra.cut)⟩)
    refine k _ _ _ (Ext.refl s) ?_
    unfold cutD
    rw [ra.length] at hw
    rw [hw.1, hw.2, List.drop_zero, Nat.sub_zero, List.take_length]
    exact wa
  · split at hd
    · rename_i hl
      cases hd
      exact .inr (.inr ⟨_, hx.str, hl, k _ _ _ (Ext.refl s) (.str _)⟩)
    · cases hd
  · cases hd
end
end VL
set_option Elab.async false
set_option linter.all false
set_option maxRecDepth 100000
set_option autoImplicit false
namespace VL
open PySem PySem.Spec L2
open PyProof.Rows hiding St
theorem Rs.assoc {α β γ : Type} (m : Rs α) (f : α → Rs β) (g : β → Rs γ) : (m.bind f).bind g = m.bind fun x => (f x).bind g := by cases m <;> rfl
theorem Rs.bind_id {α : Type} (m : Rs α) : (m.bind fun x => .ok x) = m := by cases m <;> rfl
def BI (X : Cx) (G : Gd) (W : WX) (ρx ρ : Rho) (sts : List Stmt) {α β R : Type} (pn : α → Rho) (pl : β → Rho) (ι : R → Fl α β) (m : Rs R) : Prop := BK X G W ρx ρ sts pn pl (m.bind fun r => .ok (ι r))
abbrev rtI {α β : Type} : D → Fl α β := fun d => .rt d []
section
variable {X : Cx} {G : Gd} {W : WX} {ρx ρ : Rho} {rest sts : List Stmt} {α β R : Type} {pn : α → Rho} {pl : β → Rho} {ι : R → Fl α β}
theorem bi_set {i : Nat} {st : Stmt} {m : Rs D} {f : D → Rs R} (ha : AS X G W ρ st i m) (hr : ∀ d, BI X G W ρx (ρ.set i (some (.val d))) rest pn pl ι (f d)) (hi : i < ρ.length := by exact Nat.le_of_ble_eq_true rfl) (wx : Wk ρ ρx := by first | exact Wk.nil | exact Wk.refl | (repeat (first | exact Wk.nil | apply Wk.keep | apply Wk.drop))) :
    BI X G W ρx ρ (st :: rest) pn pl ι (m.bind f) := by
  unfold BI
  rw [Rs.assoc]
  exact bk_set ha hr hi wx
theorem bi_own {i : Nat} {st : Stmt} {m : Rs (List D)} {f : List D → Rs R} (ha : AF X G W ρ st i m) (hr : ∀ d, BI X G W ρx (ρ.set i (some (.own true (.lst d)))) rest pn pl ι (f d)) (hi : i < ρ.length := by exact Nat.le_of_ble_eq_true rfl) (wx : Wk ρ ρx := by first | exact Wk.nil | exact Wk.refl | (repeat (first | exact Wk.nil | apply Wk.keep | apply Wk.drop))) :
    BI X G W ρx ρ (st :: rest) pn pl ι (m.bind f) := by
  unfold BI
  rw [Rs.assoc]
  exact bk_own ha hr hi wx
theorem bi_frz (i : Nat) {d : D} {m : Rs R} (hr : BI X G W ρx (ρ.set i (some (.val d))) sts pn pl ι m) (hi : ρ[i]? = some (some (.own true d)) := by rfl) : BI X G W ρx ρ sts pn pl ι m := bk_frz hi hr
theorem bi_append {i : Nat} {x : Str} {e : Expr} {xpos apos cpos pos : Pos} {l : Bool} {c : List D} {m : Rs D} {f : List D → Rs R} (hv : PE X (.Name x xpos) (tVar i)) (he : EV X G W ρ e m)
    (hr : ∀ c', BI X G W ρx (ρ.set i (some (.own l (.lst c')))) rest pn pl ι (f c')) (hi : ρ[i]? = some (some (.own l (.lst c))) := by rfl)
    (hbase : attributeBase (.Name x xpos) "append" X.env (eval (.Name x xpos) X.env) = eval (.Name x xpos) X.env := by rfl)
    (hfew : ((backTo cpos (starEach [e] X.env)).all (fun x => !x.1) && (backToKw cpos (keywordEach [] X.env)).all (fun x => x.1.isSome) && decide ([e].length + ([] : List Keyword).length + (if ([] : List Keyword).isEmpty then 0 else 1) < 30)) = true := by rfl)
    (hst : starEach [e] X.env = (false, eval e X.env) :: starEach [] X.env := by rfl)
    (hline : (apos.endLine == cpos.line) = true := by rfl) (hs : swapsWith (.Call (.Attribute (.Name x xpos) "append" apos) [e] [] cpos) none pos.line X.env = pure false := by rfl) (wx : Wk ρ ρx := by first | exact Wk.nil | exact Wk.refl | (repeat (first | exact Wk.nil | apply Wk.keep | apply Wk.drop))) :
    BI X G W ρx ρ (.Expr (.Call (.Attribute (.Name x xpos) "append" apos) [e] [] cpos) pos :: rest) pn pl ι (m.bind fun d => (Rs.of (appL c d)).bind f) := by
  unfold BI
  have z := bk_append (ρx := ρx) (rest := rest) (pn := pn) (pl := pl) (f := fun c' => (f c').bind fun r => .ok (ι r)) hv he hr hi hbase hfew hst hline hs wx
  have e2 : ((m.bind fun d => (Rs.of (appL c d)).bind f).bind fun r => (.ok (ι r) : Rs (Fl α β))) = m.bind fun d => (Rs.of (appL c d)).bind fun c' => (f c').bind fun r => .ok (ι r) := by
    cases m <;> simp only [Rs.bind_ok, Rs.bind_ex, Rs.bind_no, Rs.assoc]
  rw [e2]
  exact z
theorem bi_setix {i : Nat} {x : Str} {e k : Expr} {xpos spos pos : Pos} {l : Bool} {c : List D} {m mk : Rs D} {f : List D → Rs R} (hv : PE X (.Name x xpos) (tVar i)) (he : EV X G W ρ e m) (hk : EV X G W ρ k mk)
    (hr : ∀ c', BI X G W ρx (ρ.set i (some (.own l (.lst c')))) rest pn pl ι (f c')) (hi : ρ[i]? = some (some (.own l (.lst c))) := by rfl)
    (hs : swapsWithSole [.Subscript (.Name x xpos) k spos] e pos.line X.env = pure false := by rfl) (hw : swappedStores [.Subscript (.Name x xpos) k spos] e X.env = pure none := by rfl)
    (h1 : (assignEach [.Subscript (.Name x xpos) k spos] X.env).map (·.2) = [assign (.Subscript (.Name x xpos) k spos) X.env] := by rfl)
    (hA : ∀ v, assign (.Subscript (.Name x xpos) k spos) X.env v = (do
      let ov ← holding [v] (eval (.Name x xpos) X.env); let iv ← holding [v, ov] (eval k X.env); standAt spos; holding [v, ov, iv] (setItem ov iv v); release [v, ov, iv] []) := by intro _; rfl) (wx : Wk ρ ρx := by first | exact Wk.nil | exact Wk.refl | (repeat (first | exact Wk.nil | apply Wk.keep | apply Wk.drop))) :
    BI X G W ρx ρ (.Assign [.Subscript (.Name x xpos) k spos] e pos :: rest) pn pl ι (m.bind fun d => mk.bind fun j => (Rs.of (setL c j d)).bind f) := by
  unfold BI
  have z := bk_setix (ρx := ρx) (rest := rest) (pn := pn) (pl := pl) (f := fun c' => (f c').bind fun r => .ok (ι r)) hv he hk hr hi hs hw h1 hA wx
  have e2 : ((m.bind fun d => mk.bind fun j => (Rs.of (setL c j d)).bind f).bind fun r => (.ok (ι r) : Rs (Fl α β))) = m.bind fun d => mk.bind fun j => (Rs.of (setL c j d)).bind fun c' => (f c').bind fun r => .ok (ι r) := by
    cases m <;> simp only [Rs.bind_ok, Rs.bind_ex, Rs.bind_no]
    cases mk <;> simp only [Rs.bind_ok, Rs.bind_ex, Rs.bind_no, Rs.assoc]
  rw [e2]
  exact z
theorem bi_nil {z : α} (w : Wk ρ (pn z)) : BI X G W ρx ρ [] pn pl Fl.nx (.ok z) := bk_nil w
theorem bi_ret {e : Expr} {pos : Pos} {m : Rs D} (he : EV X G W ρ e m) (hb : G.bs = [] := by rfl) (wx : Wk ρ ρx := by first | exact Wk.nil | exact Wk.refl | (repeat (first | exact Wk.nil | apply Wk.keep | apply Wk.drop))) : BI X G W ρx ρ (.Return (some e) pos :: rest) pn pl rtI m := bk_ret he hb wx
theorem bi_gen {m : Rs (Fl α β)} (h : BK X G W ρx ρ sts pn pl m) : BI X G W ρx ρ sts pn pl (fun r => r) m := by
  unfold BI
  rw [Rs.bind_id]
  exact h
theorem bi_ifr {c : Expr} {a : List Stmt} {pos : Pos} {tc : Rs Bool} {ma mr : Rs D} (hc : TV X G W ρ c tc) (ha : BI X G W ρx ρ a pEmp pl rtI ma) (hr : BI X G W ρx ρ rest pn pl rtI mr) (wx : Wk ρ ρx := by first | exact Wk.nil | exact Wk.refl | (repeat (first | exact Wk.nil | apply Wk.keep | apply Wk.drop))) :
    BI X G W ρx ρ (.If c a [] pos :: rest) pn pl rtI (tc.bind fun k => if k then ma else mr) := by
  unfold BI
  have z := bk_ifr hc ha hr wx (pos := pos)
  have e2 : ((tc.bind fun k => if k then ma else mr).bind fun r => (.ok (rtI r) : Rs (Fl α β))) = tc.bind fun k => if k then liftF (ma.bind fun r => .ok (rtI r)) else (mr.bind fun r => .ok (rtI r)) := by
    cases tc with
    | ok k =>
      cases k with
      | true => cases ma <;> rfl
      | false => rfl
    | ex c fs => rfl
    | no => rfl
  rw [e2]
  exact z
theorem bi_if2 {c : Expr} {a b : List Stmt} {pos : Pos} {tc : Rs Bool} {ma mb : Rs R} (hc : TV X G W ρ c tc) (ha : BI X G W ρx ρ a pn pl ι ma) (hb : BI X G W ρx ρ b pn pl ι mb) (wx : Wk ρ ρx := by first | exact Wk.nil | exact Wk.refl | (repeat (first | exact Wk.nil | apply Wk.keep | apply Wk.drop))) :
    BI X G W ρx ρ [.If c a b pos] pn pl ι (tc.bind fun k => if k then ma else mb) := by
  unfold BI
  have z := bk_if2 hc ha hb wx (pos := pos)
  have e2 : ((tc.bind fun k => if k then ma else mb).bind fun r => (.ok (ι r) : Rs (Fl α β))) = tc.bind fun k => if k then (ma.bind fun r => .ok (ι r)) else (mb.bind fun r => .ok (ι r)) := by
    cases tc with
    | ok k => cases k <;> rfl
    | ex c fs => rfl
    | no => rfl
  rw [e2]
  exact z
theorem bi_if {γ : Type} {p1 : γ → Rho} {c : Expr} {a b : List Stmt} {pos : Pos} {tc : Rs Bool} {ma mb : Rs γ} {f : γ → Rs R} (hc : TV X G W ρ c tc) (ha : BI X G W ρx ρ a p1 pl Fl.nx ma) (hb : BI X G W ρx ρ b p1 pl Fl.nx mb)
    (hr : ∀ z, BI X G W ρx (p1 z) rest pn pl ι (f z)) (wx : Wk ρ ρx := by first | exact Wk.nil | exact Wk.refl | (repeat (first | exact Wk.nil | apply Wk.keep | apply Wk.drop))) : BI X G W ρx ρ (.If c a b pos :: rest) pn pl ι ((tc.bind fun k => if k then ma else mb).bind f) := by
  unfold BI
  have z := bk_if hc ha hb hr wx (pos := pos)
  have e2 : (((tc.bind fun k => if k then ma else mb).bind f).bind fun r => (.ok (ι r) : Rs (Fl α β))) = (tc.bind fun k => if k then (ma.bind fun r => .ok (Fl.nx r)) else (mb.bind fun r => .ok (Fl.nx r))).bind (Fl.andThen fun z => (f z).bind fun r => .ok (ι r)) := by
    cases tc with
    | ok k => cases k <;> (first | cases ma <;> rfl | cases mb <;> rfl)
    | ex c fs => rfl
    | no => rfl
  rw [e2]
  exact z
def foldM {ε : Type} (f : ε → D → Rs ε) : List D → ε → Rs ε
  | [], z => .ok z
  | d :: ds, z => (f z d).bind fun z' => foldM f ds z'
theorem loop_fold {ε β' : Type} (f : ε → D → Rs ε) : ∀ (ds : List D) (z : ε), loopM (β := β') (fun z d => (f z d).bind fun z => .ok (.nx z)) ds z = (foldM f ds z).bind fun z => .ok (.nx z)
  | [], z => rfl
  | d :: ds, z => by
    simp only [loopM, foldM]
    cases f z d with
    | ok z' => exact loop_fold f ds z'
    | ex c fs => rfl
    | no => rfl
theorem bi_for {ε γ : Type} {post : ε → Rho} {u : D → Option γ} {p : ε → γ → Rho} {is : List Nat} {tg iter : Expr} {body : List Stmt} {pos : Pos} {mi : Rs (List D)} {fb : ε → γ → Rs ε} {z0 : ε} {f : ε → Rs R}
    (po : PassesOwn (model X.prog X.w) X.A X.env X.xe) (calm : X.calm = true) (hi : IT X G W ρ tg iter mi) (h0 : Wk ρ (post z0)) (ht : ∀ z, TT1 X G tg (post z) is u (p z)) (hb : ∀ z y, BI X G W ρx (p z y) body post post Fl.nx (fb z y))
    (hr : ∀ z, BI X G W ρx (post z) rest pn pl ι (f z)) (wx : Wk ρ ρx := by first | exact Wk.nil | exact Wk.refl | (repeat (first | exact Wk.nil | apply Wk.keep | apply Wk.drop))) (hs : ∀ x, foldedSetIterable iter X.env x = pure x := by intro _; rfl) :
    BI X G W ρx ρ (.For tg iter body [] pos :: rest) pn pl ι (mi.bind fun items => (foldM (fun z d => (Rs.of (u d)).bind (fb z)) items z0).bind f) := by
  unfold BI
  have z := bk_for (pos := pos) po calm hi h0 ht hb hr wx hs
  have e0 : (fun (z : ε) (d : D) => (Rs.of (u d)).bind fun y => ((fb z y).bind fun z => (.ok (.nx z) : Rs (Fl ε ε)))) = fun z d => ((Rs.of (u d)).bind (fb z)).bind fun z => .ok (.nx z) := by
    funext z d
    rw [Rs.assoc]
  have e2 : ((mi.bind fun items => (foldM (fun z d => (Rs.of (u d)).bind (fb z)) items z0).bind f).bind fun r => (.ok (ι r) : Rs (Fl α β))) =
      mi.bind fun items => (loopM (fun z d => (Rs.of (u d)).bind fun y => ((fb z y).bind fun z => .ok (.nx z))) items z0).bind (Fl.andThen fun z => (f z).bind fun r => .ok (ι r)) := by
    cases mi with
    | ok items =>
      simp only [Rs.bind_ok]
      rw [e0, loop_fold]
      cases foldM (fun z d => (Rs.of (u d)).bind (fb z)) items z0 <;> rfl
    | ex c fs => rfl
    | no => rfl
  rw [e2]
  exact z
def Fl.toX {ε β' : Type} (f : ε → Rs D) : Fl ε β' → Rs D
  | .nx z => f z
  | .rt d _ => .ok d
  | _ => .no
theorem bi_forX {ε γ : Type} {post : ε → Rho} {u : D → Option γ} {p : ε → γ → Rho} {is : List Nat} {tg iter : Expr} {body : List Stmt} {pos : Pos} {mi : Rs (List D)} {fb : ε → γ → Rs (Fl ε ε)} {z0 : ε} {f : ε → Rs D}
    (po : PassesOwn (model X.prog X.w) X.A X.env X.xe) (calm : X.calm = true) (hbs : G.bs = []) (hi : IT X G W ρ tg iter mi) (h0 : Wk ρ (post z0)) (ht : ∀ z, TT1 X G tg (post z) is u (p z)) (hb : ∀ z y, BK X G W ρx (p z y) body post post (fb z y))
    (hr : ∀ z, BI X G W ρx (post z) rest pn pl rtI (f z)) (wx : Wk ρ ρx := by first | exact Wk.nil | exact Wk.refl | (repeat (first | exact Wk.nil | apply Wk.keep | apply Wk.drop))) (hs : ∀ x, foldedSetIterable iter X.env x = pure x := by intro _; rfl) :
    BI X G W ρx ρ (.For tg iter body [] pos :: rest) pn pl rtI (mi.bind fun items => (loopM (β := β) (fun z d => (Rs.of (u d)).bind (fb z)) items z0).bind (Fl.toX f)) := by
  unfold BI
  have z := bk_for (pos := pos) po calm hi h0 ht hb hr wx hs
  intro F0 σ F H E hh hp
  refine z F0 σ F H E hh ?_
  cases mi with
  | ex c fs => exact hp
  | no => exact hp
  | ok items =>
    simp only [Rs.bind_ok] at hp ⊢
    cases hl : loopM (β := β) (fun z d => (Rs.of (u d)).bind (fb z)) items z0 with
    | ex c fs => rw [hl] at hp; exact hp
    | no => rw [hl] at hp; exact hp
    | ok fl =>
      rw [hl] at hp
      cases fl with
      | nx z => exact hp
      | rt d s =>
        refine fun v F' H' g r ow => hp v F' H' g r ?_
        have e : G.bs = [] := hbs
        exact owns0 e
      | bk y => exact hp.elim
      | ct y => exact hp.elim
def whileN {ε : Type} (c : ε → Rs Bool) (f : ε → Rs ε) : Nat → ε → Rs ε
  | 0, _ => .no
  | n + 1, z => (c z).bind fun k => if k then (f z).bind fun z' => whileN c f n z' else .ok z
theorem while_N {ε β' : Type} (c : ε → Rs Bool) (f : ε → Rs ε) : ∀ (n : Nat) (z : ε), whileM (β := β') c (fun z => (f z).bind fun z => .ok (.nx z)) n z = (whileN c f n z).bind fun z => .ok (.nx z)
  | 0, z => rfl
  | n + 1, z => by
    simp only [whileM, whileN]
    cases c z with
    | ok k =>
      cases k with
      | false => rfl
      | true =>
        simp only [Rs.bind_ok, if_true]
        cases f z with
        | ok z' => exact while_N c f n z'
        | ex c fs => rfl
        | no => rfl
    | ex c fs => rfl
    | no => rfl
theorem bi_while {ε : Type} {post : ε → Rho} {c : Expr} {body : List Stmt} {pos : Pos} {fc : ε → Rs Bool} {fb : ε → Rs ε} {z0 : ε} {f : ε → Rs R} (n : Nat)
    (po : PassesOwn (model X.prog X.w) X.A X.env X.xe) (h0 : Wk ρ (post z0)) (hc : ∀ z, TV X G W (post z) c (fc z)) (hb : ∀ z, BI X G W ρx (post z) body post post Fl.nx (fb z))
    (hr : ∀ z, BI X G W ρx (post z) rest pn pl ι (f z)) (wx : ∀ z, Wk (post z) ρx := by exact fun _ => Wk.nil) : BI X G W ρx ρ (.While c body [] pos :: rest) pn pl ι ((whileN fc fb n z0).bind f) := by
  unfold BI
  have z := bk_while (n := n) (pos := pos) po h0 hc hb hr wx
  rw [while_N] at z
  have e2 : (((whileN fc fb n z0).bind f).bind fun r => (.ok (ι r) : Rs (Fl α β))) = ((whileN fc fb n z0).bind fun z => (.ok (.nx z) : Rs (Fl ε β))).bind (Fl.andThen fun z => (f z).bind fun r => .ok (ι r)) := by
    cases whileN fc fb n z0 <;> rfl
  rw [e2]
  exact z
end
theorem keeps_ret {P : Program} {w : World} {K : PySem.W.Frag} {mg : Str → Option Value} {base : Heap} {x qual : Str} {params : Arguments} {body : List Stmt} {scope : Scope} {dvs : List V} {kws : List (Str × V)} {f : Addr} {fd : FuncData} {N ps : List Str} {k : Nat} {m : List D → Rs D}
    (Fd : FunD K x qual params body scope dvs kws f fd) (S : FnScope N ps scope)
    (hb : ∀ (cdv : Value) (A : Around) (outer : List Env) (s : Shared) (H : Hp) (E : XK) (F : Hp) (ds : List D), ds.length = ps.length → Room k (A.deeper (envOfC qual scope s.heap.objs.size f cdv)) →
      BI (cxOf (L2N.CX P w) P w K mg base N qual scope f cdv A outer s H E) ⟨F, H, []⟩ (fun c d _ H => E c d H) [] (ds.map (fun d => some (Cl.val d)) ++ List.replicate (N.length - ds.length) none) body (fun _ : Unit => []) (fun _ : Unit => []) rtI (m ds)) :
    Keeps P w K mg base (k + 1) f fd ps m := by
  refine keeps_of Fd S fun cdv A outer s H E F ds hl hr => ⟨_, ?_, hb cdv A outer s H E F ds hl hr⟩
  cases m ds <;> rfl
end VL
set_option Elab.async false
set_option linter.all false
set_option maxRecDepth 100000
set_option autoImplicit false
namespace VL
open PySem PySem.Spec L2
open PyProof.Rows hiding St
mutual
def ltP : PyData → PyData → Bool
  | .int i, .int j => decide (i < j)
  | .str x, .str y => decide (x.cps.toList < y.cps.toList)
  | .tuple xs, .tuple ys => ltPs xs ys
  | _, _ => false
def ltPs : List PyData → List PyData → Bool
  | [], [] => false
  | [], _ :: _ => true
  | _ :: _, [] => false
  | x :: xs, y :: ys => if PyData.eqv x y then ltPs xs ys else ltP x y
end
mutual
def leP : PyData → PyData → Bool
  | .int i, .int j => decide (i ≤ j)
  | .str x, .str y => !decide (y.cps.toList < x.cps.toList)
  | .tuple xs, .tuple ys => lePs xs ys
  | _, _ => false
def lePs : List PyData → List PyData → Bool
  | [], _ => true
  | _ :: _, [] => false
  | x :: xs, y :: ys => if PyData.eqv x y then lePs xs ys else leP x y
end
mutual
def cmpP : PyData → PyData → Bool
  | .int _, .int _ => true
  | .str _, .str _ => true
  | .tuple xs, .tuple ys => cmpPs xs ys
  | _, _ => false
def cmpPs : List PyData → List PyData → Bool
  | x :: xs, y :: ys => (PyData.eqv x y || cmpP x y) && cmpPs xs ys
  | _, _ => true
end
theorem lexAt_drop {f : PyData → PyData → Bool} {g : List PyData → List PyData → Bool} {z : Bool} {xs ys : List PyData} (h0 : ∀ as bs, as = xs.drop (min xs.length ys.length) → bs = ys.drop (min xs.length ys.length) → g as bs = z)
    (h1 : ∀ x as y bs, g (x :: as) (y :: bs) = if PyData.eqv x y then g as bs else f x y) : ∀ (k i : Nat), i + k = min xs.length ys.length →
      Ob.lexAt (fun j => match xs[j]?, ys[j]? with | some x, some y => PyData.eqv x y | _, _ => false) (fun j => match xs[j]?, ys[j]? with | some x, some y => f x y | _, _ => false) z i k = g (xs.drop i) (ys.drop i)
  | 0, i, e => by
    rw [Ob.lexAt_zero, h0 _ _ (by rw [← e, Nat.add_zero]) (by rw [← e, Nat.add_zero])]
  | k + 1, i, e => by
    have hx : i < xs.length := by omega
    have hy : i < ys.length := by omega
    rw [Ob.lexAt_succ, List.drop_eq_getElem_cons hx, List.drop_eq_getElem_cons hy, h1, List.getElem?_eq_getElem hx, List.getElem?_eq_getElem hy]
    simp only
    rw [lexAt_drop h0 h1 k (i + 1) (by omega)]
theorem cmpPs_at : ∀ {xs ys : List PyData} {j : Nat} {x y : PyData}, cmpPs xs ys = true → xs[j]? = some x → ys[j]? = some y → PyData.eqv x y = false → cmpP x y = true
  | [], _, _, _, _, _, h, _, _ => by simp at h
  | _ :: _, [], _, _, _, _, _, h, _ => by simp at h
  | a :: as, b :: bs, 0, x, y, h, e1, e2, q => by
    simp only [cmpPs, Bool.and_eq_true, Bool.or_eq_true] at h
    simp at e1 e2
    subst e1 e2
    rcases h.1 with z | z
    · rw [q] at z; cases z
    · exact z
  | a :: as, b :: bs, j + 1, x, y, h, e1, e2, q => by
    simp only [cmpPs, Bool.and_eq_true] at h
    exact cmpPs_at h.2 (by simpa using e1) (by simpa using e2) q
theorem ReadsAll.at {h : Heap} : ∀ {vs : List Value} {ds : List PyData} {as : List Addr} {j : Nat} {d : PyData}, ReadsAll h vs ds as → ds[j]? = some d → ∃ v bs, vs[j]? = some v ∧ Reads h v d bs
  | _, _, _, _, _, .nil, e => by simp at e
  | _, _, _, 0, _, .cons r _, e => by simp at e; subst e; exact ⟨_, _, rfl, r⟩
  | _, _, _, j + 1, _, .cons _ r, e => by
    obtain ⟨v, bs, h1, h2⟩ := ReadsAll.at (j := j) r (by simpa using e)
    exact ⟨v, bs, by simpa using h1, h2⟩
theorem ReadsAll.len {h : Heap} : ∀ {vs : List Value} {ds : List PyData} {as : List Addr}, ReadsAll h vs ds as → vs.length = ds.length
  | _, _, _, .nil => rfl
  | _, _, _, .cons _ r => congrArg (· + 1) (ReadsAll.len r)
theorem canLay_at : ∀ {ds : List PyData} {j : Nat} {d : PyData}, PyData.canLayAll0 ds = true → ds[j]? = some d → d.canLay0 = true
  | [], _, _, _, e => by simp at e
  | x :: xs, 0, d, h, e => by
    simp only [PyData.canLayAll0, Bool.and_eq_true] at h
    simp at e; subst e; exact h.1
  | x :: xs, j + 1, d, h, e => by
    simp only [PyData.canLayAll0, Bool.and_eq_true] at h
    exact canLay_at h.2 (by simpa using e)
theorem depth_at : ∀ {ds : List PyData} {j : Nat} {d : PyData}, ds[j]? = some d → d.depth ≤ PyData.depthAll ds
  | [], _, _, e => by simp at e
  | x :: xs, 0, d, e => by
    simp at e; subst e
    simp only [PyData.depthAll]
    omega
  | x :: xs, j + 1, d, e => by
    have := depth_at (ds := xs) (j := j) (d := d) (by simpa using e)
    simp only [PyData.depthAll]
    omega
theorem rc_lt : ∀ (n : Nat) (da db : PyData) (A : Around) (s : Shared) (a b : Value) (as bs : List Addr), da.depth ≤ n → Reads s.heap a da as → Reads s.heap b db bs → da.canLay0 = true → db.canLay0 = true → cmpP da db = true →
    A.units + da.depth < cLine → Ob.RcOp .Lt A s a b (ltP da db)
  | n, .int i, db, A, s, a, b, as, bs, hn, ra, rb, ca, cb, hc, hu => by
    cases db with
    | int j =>
      cases ra; cases rb
      simp only [ltP]
      exact Ob.RcOp.lt_int _ _ _ _
    | _ => simp only [cmpP] at hc; cases hc
  | n, .str x, db, A, s, a, b, as, bs, hn, ra, rb, ca, cb, hc, hu => by
    cases db with
    | str y =>
      cases ra; cases rb
      simp only [ltP]
      exact fun _ _ _ _ h => PyProof.Rows.lt_str h
    | _ => simp only [cmpP] at hc; cases hc
  | 0, .tuple xs, db, A, s, a, b, as, bs, hn, ra, rb, ca, cb, hc, hu => by
    simp only [PyData.depth] at hn
    omega
  | n + 1, .tuple xs, db, A, s, a, b, as, bs, hn, ra, rb, ca, cb, hc, hu => by
    cases db with
    | tuple ys =>
      cases ra with
      | tuple h1 h2 h3 h4 =>
        cases rb with
        | tuple g1 g2 g3 g4 =>
          rename_i la o vs n1 lb ob ws n2
          simp only [cmpP] at hc
          simp only [PyData.canLay0] at ca cb
          simp only [PyData.depth] at hn hu
          have l1 : vs.size = xs.length := by have := ReadsAll.len h4; simpa using this
          have l2 : ws.size = ys.length := by have := ReadsAll.len g4; simpa using this
          have at1 : ∀ j (hj : j < vs.size), ∃ d bs, xs[j]? = some d ∧ Reads s.heap vs[j] d bs := fun j hj => by
            have hj' : j < xs.length := by omega
            obtain ⟨v, cs, e1, e2⟩ := ReadsAll.at h4 (List.getElem?_eq_getElem hj')
            have : v = vs[j] := by simpa [hj] using e1.symm
            exact ⟨_, cs, List.getElem?_eq_getElem hj', this ▸ e2⟩
          have at2 : ∀ j (hj : j < ws.size), ∃ d bs, ys[j]? = some d ∧ Reads s.heap ws[j] d bs := fun j hj => by
            have hj' : j < ys.length := by omega
            obtain ⟨v, cs, e1, e2⟩ := ReadsAll.at g4 (List.getElem?_eq_getElem hj')
            have : v = ws[j] := by simpa [hj] using e1.symm
            exact ⟨_, cs, List.getElem?_eq_getElem hj', this ▸ e2⟩
          have R := Ob.RcOp.tuples_lt (A := A) (s := s) (e := fun j => match xs[j]?, ys[j]? with | some x, some y => PyData.eqv x y | _, _ => false) (r := fun j => match xs[j]?, ys[j]? with | some x, some y => ltP x y | _, _ => false) ⟨o, h1, h2, n1, h3⟩ ⟨ob, g1, g2, n2, g3⟩ (by omega)
            (fun j hj1 hj2 => by
              obtain ⟨d1, b1, e1, r1⟩ := at1 j hj1
              obtain ⟨d2, b2, e2, r2⟩ := at2 j hj2
              simp only [e1, e2]
              refine SeqAt.eqAt_reads d1 d2 _ s _ _ b1 b2 r1 r2 (canLay_at ca e1) (canLay_at cb e2) ?_
              have := depth_at e1
              have hu2 : A.in1.units = A.units + 1 := rfl
              have : min d1.depth d2.depth ≤ d1.depth := Nat.min_le_left _ _
              omega)
            (fun j hj1 hj2 he => by
              obtain ⟨d1, b1, e1, r1⟩ := at1 j hj1
              obtain ⟨d2, b2, e2, r2⟩ := at2 j hj2
              simp only [e1, e2] at he ⊢
              have hd := depth_at e1
              have hu2 : A.in1.units = A.units + 1 := rfl
              exact rc_lt n d1 d2 _ s _ _ b1 b2 (by omega) r1 r2 (canLay_at ca e1) (canLay_at cb e2) (cmpPs_at hc e1 e2 he) (by omega))
          rw [l1, l2, lexAt_drop (g := ltPs) (fun as bs ea eb => ?_) (fun x as y bs => by simp only [ltPs]) (min xs.length ys.length) 0 (by omega)] at R
          · simpa only [ltP, List.drop_zero] using R
          · subst ea eb
            rcases Nat.lt_trichotomy xs.length ys.length with z | z | z
            · rw [Nat.min_eq_left (by omega), List.drop_length, List.drop_eq_getElem_cons z]
              simp only [ltPs, z, decide_true]
            · rw [z, Nat.min_self, ← z, List.drop_length, z, List.drop_length]
              simp [ltPs]
            · rw [Nat.min_eq_right (by omega), List.drop_length, List.drop_eq_getElem_cons z]
              simp only [ltPs]
              exact (decide_eq_false (by omega)).symm
    | _ => simp only [cmpP] at hc; cases hc
  | n, .none, db, A, s, a, b, as, bs, hn, ra, rb, ca, cb, hc, hu => by simp only [cmpP] at hc; cases hc
  | n, .bool _, db, A, s, a, b, as, bs, hn, ra, rb, ca, cb, hc, hu => by simp only [cmpP] at hc; cases hc
  | n, .list _, db, A, s, a, b, as, bs, hn, ra, rb, ca, cb, hc, hu => by simp only [cmpP] at hc; cases hc
  | n, .dict _, db, A, s, a, b, as, bs, hn, ra, rb, ca, cb, hc, hu => by simp only [cmpP] at hc; cases hc
def ordB (f : PyData → PyData → Bool) (g : Int → Int → Bool) (h : Str → Str → Bool) : D → D → Option Bool
  | .int i, .int j => some (g i j)
  | .str x, .str y => some (h x y)
  | .tup xs, .tup ys => if (D.tup xs).okD && (D.tup ys).okD && cmpP (D.tup xs).py (D.tup ys).py then some (f (D.tup xs).py (D.tup ys).py) else none
  | _, _ => none
def ltB : D → D → Option Bool := ordB ltP (fun i j => decide (i < j)) (fun x y => decide (x.cps.toList < y.cps.toList))
def leB : D → D → Option Bool := ordB leP (fun i j => decide (i ≤ j)) (fun x y => !decide (y.cps.toList < x.cps.toList))
def gtB : D → D → Option Bool
  | .int i, .int j => some (decide (j < i))
  | .str x, .str y => some (decide (y.cps.toList < x.cps.toList))
  | _, _ => none
def geB : D → D → Option Bool
  | .int i, .int j => some (decide (j ≤ i))
  | .str x, .str y => some (!decide (x.cps.toList < y.cps.toList))
  | _, _ => none
def neB (a b : D) : Option Bool := (eqB a b).map (!·)
def isNB : D → D → Option Bool
  | x, .non => some x.isNon
  | _, _ => none
def notNB : D → D → Option Bool
  | x, .non => some (!x.isNon)
  | _, _ => none
def ltD (a b : D) : Option D := (ltB a b).map .bl
def leD (a b : D) : Option D := (leB a b).map .bl
def gtD (a b : D) : Option D := (gtB a b).map .bl
def geD (a b : D) : Option D := (geB a b).map .bl
abbrev Isb (f : D → D → Option D) (g : D → D → Option Bool) : Prop := ∀ a b, f a b = (g a b).map .bl
theorem ltD_is : Isb ltD ltB := fun _ _ => rfl
theorem gtD_is : Isb gtD gtB := fun _ _ => rfl
theorem geD_is : Isb geD geB := fun _ _ => rfl
theorem eqD_is : Isb eqD eqB := fun _ _ => rfl
theorem neD_is : Isb neD neB := fun a b => by
  show (eqB a b).map (fun k => D.bl (!k)) = ((eqB a b).map (!·)).map .bl
  cases eqB a b <;> rfl
theorem isND_is : Isb isND isNB := fun a b => by cases b <;> rfl
theorem notND_is : Isb notND notNB := fun a b => by cases b <;> rfl
def rOrdP (K : PySem.W.Frag) (f : PyData → PyData → Bool) : R2 := fun x y H Q => ∃ d e, Dp K H x d ∧ Dp K H y e ∧ SeqAt.shaped d = true ∧ SeqAt.shaped e = true ∧ cmpP d e = true ∧ Q (.bl (f d e)) H
def rLtA (K : PySem.W.Frag) : R2 := fun x y H Q => rI0 (fun i j => .bl (decide (i < j))) x y H Q ∨ (∃ i j, x = .str i ∧ y = .str j ∧ Q (.bl (decide (i.cps.toList < j.cps.toList))) H) ∨ rOrdP K ltP x y H Q
def rGtA : R2 := fun x y H Q => rI0 (fun i j => .bl (decide (j < i))) x y H Q ∨ (∃ i j, x = .str i ∧ y = .str j ∧ Q (.bl (decide (j.cps.toList < i.cps.toList))) H)
def rGeA : R2 := fun x y H Q => rI0 (fun i j => .bl (decide (j ≤ i))) x y H Q ∨ (∃ i j, x = .str i ∧ y = .str j ∧ Q (.bl (!decide (i.cps.toList < j.cps.toList))) H)
section
variable {X : Cx}
theorem op_ltP (hu : X.A.units + 64 < cLine) : OpR X (compareOp .Lt) (rOrdP X.K ltP) := by
  intro pins s σ H x y v u Q I rx ry h
  obtain ⟨d, e, hd, he, sd, se, hc, q⟩ := h
  obtain ⟨as, r1⟩ := Dp.reads I d x v hd rx
  obtain ⟨bs, r2⟩ := Dp.reads I e y u he ry
  have := SeqAt.depth_of_shaped sd
  exact rc_lt _ d e X.A s v u as bs (Nat.le_refl _) r1 r2 (SeqAt.canLay_of_shaped sd) (SeqAt.canLay_of_shaped se) hc (by omega) X.prog X.w _ _ ⟨.bl _, H, I, rfl, q⟩
theorem op_ltA (hu : X.A.units + 64 < cLine) : OpR X (compareOp .Lt) (rLtA X.K) := OpR.or op_lt (OpR.or op_lt_str (op_ltP hu))
theorem op_gtA (hu : X.A.units + 64 < cLine) : OpR X (compareOp .Gt) rGtA := OpR.or op_gt op_gt_str
theorem op_geA (hu : X.A.units + 64 < cLine) : OpR X (compareOp .GtE) rGeA := OpR.or op_ge op_ge_str
end
section
variable {K : PySem.W.Frag}
theorem ord_tup {f : PyData → PyData → Bool} {x y : V} {xs ys : List D} {F H : Hp} {Q : VK} (s : Same F H) (hx : RepH K F H x (.tup xs)) (hy : RepH K F H y (.tup ys)) (hc : ((D.tup xs).okD && (D.tup ys).okD && cmpP (D.tup xs).py (D.tup ys).py) = true) (q : Q (.bl (f (D.tup xs).py (D.tup ys).py)) H) : rOrdP K f x y H Q := by
  rw [Bool.and_eq_true, Bool.and_eq_true] at hc
  obtain ⟨c1, c2⟩ := Bool.and_eq_true_iff.mp hc.1.1
  obtain ⟨c3, c4⟩ := Bool.and_eq_true_iff.mp hc.1.2
  exact ⟨_, _, hx.dp s c1, hy.dp s c3, c2, c4, hc.2, q⟩
theorem ltD_ok : R2ok K (rLtA K) ltD := by
  intro x y dx dy F H Q d s hx hy hd k
  unfold ltD ltB ordB at hd
  split at hd
  · cases hd
    exact .inl ⟨_, _, hx.int, hy.int, k _ F H (Ext.refl s) (.bl _)⟩
  · cases hd
    exact .inr (.inl ⟨_, _, hx.str, hy.str, k _ F H (Ext.refl s) (.bl _)⟩)
  · split at hd
    · cases hd
      exact .inr (.inr (ord_tup s hx hy (by assumption) (k _ F H (Ext.refl s) (.bl _))))
    · cases hd
  · cases hd
theorem gtD_ok : R2ok K rGtA gtD := by
  intro x y dx dy F H Q d s hx hy hd k
  unfold gtD gtB at hd
  split at hd
  · cases hd
    exact .inl ⟨_, _, hx.int, hy.int, k _ F H (Ext.refl s) (.bl _)⟩
  · cases hd
    exact .inr ⟨_, _, hx.str, hy.str, k _ F H (Ext.refl s) (.bl _)⟩
  · cases hd
theorem geD_ok : R2ok K rGeA geD := by
  intro x y dx dy F H Q d s hx hy hd k
  unfold geD geB at hd
  split at hd
  · cases hd
    exact .inl ⟨_, _, hx.int, hy.int, k _ F H (Ext.refl s) (.bl _)⟩
  · cases hd
    exact .inr ⟨_, _, hx.str, hy.str, k _ F H (Ext.refl s) (.bl _)⟩
  · cases hd
end
def flatD : D → Bool
  | .non => true
  | .bl _ => true
  | .int _ => true
  | .str _ => true
  | _ => false
def eqF : D → D → Bool
  | .non, .non => true
  | .bl a, .bl b => a == b
  | .bl a, .int b => (if a then 1 else 0) == b
  | .int a, .bl b => a == (if b then 1 else 0)
  | .int a, .int b => a == b
  | .str a, .str b => a == b
  | _, _ => false
def inB (x : D) : D → Option Bool
  | .lst ds => if flatD x && ds.all flatD then some (ds.any fun y => eqF y x) else if x.okD && (D.lst ds).okD then some ((pys ds).any fun z => PyData.eqv z x.py) else none
  | .tup ds => if flatD x && ds.all flatD then some (ds.any fun y => eqF y x) else if x.okD && (D.tup ds).okD then some ((pys ds).any fun z => PyData.eqv z x.py) else none
  | .str z => match x with
    | .str w => some (!(Builtin.Str.occurrences z w 0 z.length 1).isEmpty)
    | _ => none
  | _ => none
section
variable {K : PySem.W.Frag} {F H : Hp}
theorem RepH.flat {v : V} {d : D} (r : RepH K F H v d) (h : flatD d = true) : Rep K F v d := by
  rcases r with r | ⟨a, rfl, r⟩
  · exact r
  · cases r <;> cases h
end
theorem room65 {A : Around} {k : Nat} (h : Room k A) : A.units + 65 < cLine := by
  have := h.un
  omega
end VL
set_option Elab.async false
set_option linter.all false
set_option maxRecDepth 100000
set_option autoImplicit false
namespace VL
open PySem PySem.Spec L2
open PyProof.Rows hiding St
inductive Kd where
  | l | t
def KIter (h : Heap) (it a : Addr) (i : Nat) : Kd → Prop
  | .l => h.IsListIter it a i
  | .t => h.IsTupleIter it a i
def KIs (h : Heap) (a : Addr) (items : Array Value) : Kd → Prop
  | .l => h.IsList a items
  | .t => h.IsTuple a items
def KSq (K : PySem.W.Frag) (H : Hp) (a : Addr) (xs : List V) : Kd → Prop
  | .l => SqL K H a xs
  | .t => SqT K H a xs
def kObj (a : Addr) : Kd → Obj
  | .l => { cls := .type "list_iterator", data := .fields #[.ref a, .int 0 0] }
  | .t => { cls := .type "tuple_iterator", data := .fields #[.ref a, .int 0 0] }
theorem KIter.keep {h h' : Heap} {it a : Addr} {i : Nat} {k : Kd} (x : KIter h it a i k) (q : ∀ o, h.get? it = some o → h'.get? it = some o) : KIter h' it a i k := by
  cases k with
  | l => exact Heap.IsListIter.at x q
  | t => exact Heap.IsTupleIter.at x q
theorem KIter.there {h : Heap} {it a : Addr} {i : Nat} {k : Kd} (x : KIter h it a i k) : ∃ o, h.get? it = some o ∧ ∀ v, o.data ≠ .cell v := by
  cases k with
  | l =>
    obtain ⟨o, e, _, d⟩ := x
    exact ⟨o, e, fun v z => by rw [d] at z; cases z⟩
  | t =>
    obtain ⟨o, e, _, d⟩ := x
    exact ⟨o, e, fun v z => by rw [d] at z; cases z⟩
theorem KIter.of_new {h : Heap} {it a : Addr} {k : Kd} (e : h.get? it = some (kObj a k)) : KIter h it a 0 k := by
  cases k with
  | l => exact ⟨_, e, rfl, rfl⟩
  | t => exact ⟨_, e, rfl, rfl⟩
theorem kDraws {prog : Program} {w : World} {A : Around} (hh : A.handled = none) (it a : Addr) (hne : a ≠ it) (items : Array Value) : ∀ k : Kd, Draws prog w A it [it, a] items.size (fun i v => items[i]? = some v) (fun i h => KIter h it a i k ∧ KIs h a items k)
  | .l => Draws.list hh it a hne items
  | .t => Draws.tuple hh it a hne items
theorem kBegins (a : Addr) (items : Array Value) : ∀ k : Kd, Begins (.ref a) (kObj a k) fun h => KIs h a items k
  | .l => begins_list a items
  | .t => begins_tuple a items
section
variable {X : Cx} {pins : List (Addr × Obj)} {σ : St} {H : Hp} {s : Shared} {a : Addr} {xs ys : List V}
theorem inv_sq {k : Kd} (I : Inv X pins σ H s) (h : KSq X.K H a xs k) : ∃ its : List Value, Vals xs its ∧ KIs s.heap a its.toArray k ∧ a < s.heap.objs.size := by
  cases k with
  | l =>
    obtain ⟨its, r, p, _⟩ := I.list h
    exact ⟨its, r, p.isList, p.lt⟩
  | t =>
    obtain ⟨its, r, p, _⟩ := I.tuple h
    obtain ⟨o, e, _⟩ := id p
    exact ⟨its, r, p, Heap.lt_size e⟩
theorem inv_sq_inj {k : Kd} (I : Inv X pins σ H s) (h : KSq X.K H a xs k) (h' : KSq X.K H a ys k) : xs = ys := by
  cases k with
  | l => exact I.list_inj h h'
  | t => exact I.tuple_inj h h'
end
theorem KSq.same {K : PySem.W.Frag} {H H' : Hp} {a : Addr} {xs : List V} {k : Kd} (e : Same H H') (h : KSq K H a xs k) : KSq K H' a xs k := by
  cases k with
  | l => exact SqL.same e h
  | t => exact SqT.same e h
def Itz2 (K : PySem.W.Frag) (k1 k2 : Kd) (a b : Addr) : It :=
  ⟨fun i H => ∃ (xs ys : List V) (x y : V), KSq K H a xs k1 ∧ KSq K H b ys k2 ∧ xs[i]? = some x ∧ ys[i]? = some y,
    fun i H v H' => ∃ T x y, v = .ref T ∧ H T = none ∧ H' = upd H T (.tup [x, y]) ∧ (∀ xs, KSq K H a xs k1 → xs[i]? = some x) ∧ ∀ ys, KSq K H b ys k2 → ys[i]? = some y,
    fun i H => ∃ xs ys : List V, KSq K H a xs k1 ∧ KSq K H b ys k2 ∧ i = min xs.length ys.length⟩
def zTn (k1 k2 : Kd) (z TI TO i1 i2 a b : Addr) (i : Nat) (h : Heap) : Prop := IsZip h z TI TO .none ∧ IsTupOf2 h TI (.ref i1) (.ref i2) ∧ (∃ a1 a2, IsTupOf2 h TO a1 a2) ∧ KIter h i1 a i k1 ∧ KIter h i2 b i k2
theorem turn_zip2 {P : Program} {w : World} {K : PySem.W.Frag} {elts : List Expr} {kk : Nat} {tpos : Pos} {k1 k2 : Kd} {a b : Addr} {N : Nat} (ha : a < N) (hb : b < N) :
    Turn P w K (.Tuple elts kk tpos) (Itz2 K k1 k2 a b) [N + 4, N + 2, N + 3, N, N + 1] (N + 4) (zTn k1 k2 (N + 4) (N + 2) (N + 3) N (N + 1) a b) where
  mem := by simp
  obj := fun i h st c hc => by
    obtain ⟨hz, hTI, ⟨x, y, hTO⟩, h1, h2⟩ := st
    simp only [List.mem_cons, List.not_mem_nil, or_false] at hc
    rcases hc with q | q | q | q | q
    · subst q; exact ⟨_, hz, fun v z => nomatch z⟩
    · subst q; exact ⟨_, hTI, fun v z => nomatch z⟩
    · subst q; exact ⟨_, hTO, fun v z => nomatch z⟩
    · exact q ▸ h1.there
    · exact q ▸ h2.there
  keep := fun i h h' st k => by
    obtain ⟨hz, hTI, ⟨x, y, hTO⟩, h1, h2⟩ := st
    exact ⟨k _ (by simp) _ hz, k _ (by simp) _ hTI, ⟨x, y, k _ (by simp) _ hTO⟩, h1.keep fun o q => k _ (by simp) o q, h2.keep fun o q => k _ (by simp) o q⟩
  item := by
    intro X hP hw hK hc i pins s σ H E I hf st hg
    subst hP hw hK
    obtain ⟨hz, hTI, hTO, h1, h2⟩ := st
    obtain ⟨xs, ys, x, y, hqx, hqy, hx, hy⟩ := hg
    obtain ⟨its, rv, p1, _⟩ := inv_sq I hqx
    obtain ⟨its2, rv2, p2, _⟩ := inv_sq I hqy
    obtain ⟨u, hu, ru⟩ := rv.get hx
    obtain ⟨u2, hu2, ru2⟩ := rv2.get hy
    have hne1 : a ≠ N := Nat.ne_of_lt ha
    have hne2 : b ≠ N + 1 := Nat.ne_of_lt (Nat.lt_succ_of_lt hb)
    have GN := GoesN.zip2 (prog := X.prog) (w := X.w) (A := X.A) (elts := elts) (x1 := kk) (pos := tpos) (zip_sep2 (N := N) (fp1 := [a]) (fp2 := [b]) (by simpa using ha) (by simpa using hb))
      (kDraws (prog := X.prog) (w := X.w) (A := X.A.in1) (I.ok.hd hc) N a hne1 its.toArray k1) (kDraws (prog := X.prog) (w := X.w) (A := X.A.in1) (I.ok.hd hc) (N + 1) b hne2 its2.toArray k2)
    have il1 : i < its.length := by
      rcases Nat.lt_or_ge i its.length with z | z
      · exact z
      · rw [List.getElem?_eq_none z] at hu; cases hu
    have il2 : i < its2.length := by
      rcases Nat.lt_or_ge i its2.length with z | z
      · exact z
      · rw [List.getElem?_eq_none z] at hu2; cases hu2
    refine GN.goes i s (fun v s2 => ∃ x H', Inv X pins σ H' s2 ∧ RelV x v ∧ (Itz2 X.K k1 k2 a b).yld i H x H' ∧ zTn k1 k2 (N + 4) (N + 2) (N + 3) N (N + 1) a b (i + 1) s2.heap ∧ ∀ b ∈ [N + 4, N + 2, N + 3, N, N + 1], H' b = none) E (by simp only [List.size_toArray]; omega) ⟨hz, hTI, hTO, ⟨h1, p1⟩, ⟨h2, p2⟩⟩ fun v h' tk hY st' hk htk => ?_
    obtain ⟨T, w1, w2, rfl, hT, e1, e2, hTt⟩ := hY
    have ew1 : w1 = u := by
      have : its[i]? = some w1 := by simpa using e1
      rw [hu] at this
      exact (Option.some.inj this).symm
    have ew2 : w2 = u2 := by
      have : its2[i]? = some w2 := by simpa using e2
      rw [hu2] at this
      exact (Option.some.inj this).symm
    subst ew1 ew2
    obtain ⟨hz', hTI', hTO', ⟨h1', _⟩, ⟨h2', _⟩⟩ := st'
    have new : ObjOk X.prog X.w (upd H T (.tup [x, y])) h' T (.tup [x, y]) := ⟨by show 2 ≤ sizeLine; decide, [w1, w2], .cons ru (.cons ru2 .nil), hTt⟩
    have I1 : Inv X pins σ (upd H T (.tup [x, y])) { s with heap := h', toks := tk } :=
      I.turnedNew (ch := [N + 4, N + 2, N + 3, N, N + 1]) (fun c o hb q => hk c o (fun z => hb (by
        simp only [List.mem_cons, List.not_mem_nil, or_false] at z ⊢
        rcases z with z | z | z | z
        · exact .inl z
        · exact .inr (.inr (.inl z))
        · exact .inr (.inr (.inr (.inl z)))
        · exact .inr (.inr (.inr (.inr z))))) q) hf hT new
    refine ⟨.ref T, _, I1, rfl, ⟨T, x, y, rfl, I.hok.fresh hT, rfl, fun l hl => by rw [inv_sq_inj I hl hqx]; exact hx, fun l hl => by rw [inv_sq_inj I hl hqy]; exact hy⟩, ⟨hz', hTI', hTO', h1', h2'⟩, fun c hcm => ?_⟩
    have hc1 := (hf c hcm).1
    by_cases e : c = T
    · subst e
      exfalso
      have : ∃ o, s.heap.get? c = some o := by
        simp only [List.mem_cons, List.not_mem_nil, or_false] at hcm
        rcases hcm with q | q | q | q | q
        · exact ⟨_, q ▸ hz⟩
        · exact ⟨_, q ▸ hTI⟩
        · obtain ⟨_, _, hTO⟩ := hTO; exact ⟨_, q ▸ hTO⟩
        · obtain ⟨o, z, _⟩ := h1.there; exact ⟨o, q ▸ z⟩
        · obtain ⟨o, z, _⟩ := h2.there; exact ⟨o, q ▸ z⟩
      obtain ⟨o, z⟩ := this
      exact absurd (Heap.lt_size z) (Nat.not_lt.mpr hT)
    · rw [upd_ne e]
      exact hc1
  done := by
    intro X hP hw hK hc i pins s σ H E I hf st hg
    subst hP hw hK
    obtain ⟨hz, hTI, hTO, h1, h2⟩ := st
    obtain ⟨xs, ys, hqx, hqy, hend⟩ := hg
    obtain ⟨its, rv, p1, _⟩ := inv_sq I hqx
    obtain ⟨its2, rv2, p2, _⟩ := inv_sq I hqy
    have hne1 : a ≠ N := Nat.ne_of_lt ha
    have hne2 : b ≠ N + 1 := Nat.ne_of_lt (Nat.lt_succ_of_lt hb)
    have GN := GoesN.zip2 (prog := X.prog) (w := X.w) (A := X.A) (elts := elts) (x1 := kk) (pos := tpos) (zip_sep2 (N := N) (fp1 := [a]) (fp2 := [b]) (by simpa using ha) (by simpa using hb))
      (kDraws (prog := X.prog) (w := X.w) (A := X.A.in1) (I.ok.hd hc) N a hne1 its.toArray k1) (kDraws (prog := X.prog) (w := X.w) (A := X.A.in1) (I.ok.hd hc) (N + 1) b hne2 its2.toArray k2)
    have ei : i = min its.toArray.size its2.toArray.size := by
      rw [List.size_toArray, List.size_toArray, ← rv.length, ← rv2.length]
      exact hend
    refine GN.stops s _ E (by rw [← ei]; exact ⟨hz, hTI, hTO, ⟨h1, p1⟩, ⟨h2, p2⟩⟩) fun h' tk hk htk => ?_
    exact I.turnedL (ch := [N + 4, N + 2, N + 3, N, N + 1]) (fun c o hb q => hk c o (fun z => hb (by
        simp only [List.mem_cons, List.not_mem_nil, or_false] at z ⊢
        rcases z with z | z | z | z
        · exact .inl z
        · exact .inr (.inr (.inl z))
        · exact .inr (.inr (.inr (.inl z)))
        · exact .inr (.inr (.inr (.inr z))))) q) hf
  self := fun A i s Q E st h => wpAny_pyIter_zip st.1 h
def iZip2 (K : PySem.W.Frag) (ta : TA) : TI := fun σ H R => ta σ H fun vs H1 => ∃ k1 k2 a b xs ys, vs = [.ref a, .ref b] ∧ KSq K H1 a xs k1 ∧ KSq K H1 b ys k2 ∧ R (Itz2 K k1 k2 a b) H1
theorem pi_zip2 {X : Cx} {e e2 : Expr} {ta : TA} {p pos tpos : Pos} {elts : List Expr} {kk : Nat} (hg : Gl X "zip") (hm : X.mg "zip" = none) (ha : PA X [e, e2] ta)
    (hs : starEach [e, e2] X.env = (false, eval e X.env) :: starEach [e2] X.env := by rfl) (hpl : (backTo pos (starEach [e2] X.env)).any (·.1) = false := by rfl) :
    PI X (.Tuple elts kk tpos) (.Call (.Name "zip" p) [e, e2] [] pos) (iZip2 X.K ta) := by
  refine ⟨fun pins s σ H R I h => Call_ (ld_blt I hg hm PyProof.Rows.boot_zip (PyProof.Rows.callWith_type1 (thn (ha.run pos pins s σ H _ I h) fun us s1 ⟨vs, H1, I1, r1, q1⟩ => ?_) hs hpl))⟩
  obtain ⟨k1, k2, a, b, xs, ys, rfl, hqx, hqy, q⟩ := q1
  obtain ⟨u1, u2, rfl, r, r'⟩ := vals2 r1
  cases r
  cases r'
  obtain ⟨its, rv, p1, la⟩ := inv_sq I1 hqx
  obtain ⟨its2, rv2, p2, lb⟩ := inv_sq I1 hqy
  refine zip_begins2 (kBegins a its.toArray k1) (kBegins b its2.toArray k2) p1 p2 fun h' hz hTI hTO g1 g2 hsz hk => wpAny_pyIter_zip hz ?_
  have I2 : Inv X pins σ H1 { s1 with heap := h' } := I1.kept (t' := s1.toks) hk
  refine ⟨_, _, _, Itz2 X.K k1 k2 a b, H1, rfl, I2, turn_zip2 (N := s1.heap.objs.size) la lb, ⟨hz, hTI, ⟨_, _, hTO⟩, KIter.of_new g1, KIter.of_new g2⟩, fun c hcm => ?_, q⟩
  have hle : s1.heap.objs.size ≤ c := by
    simp only [List.mem_cons, List.not_mem_nil, or_false] at hcm
    rcases hcm with z | z | z | z | z <;> rw [z] <;> first | exact Nat.le_refl _ | exact Nat.le_add_right _ _
  exact I1.fpOk hle (I1.hok.fresh hle)
def zipL : List D → List D → List D
  | x :: xs, y :: ys => .tup [x, y] :: zipL xs ys
  | _, _ => []
def seqD : D → Option (List D)
  | .lst ds => some ds
  | .tup ds => some ds
  | .tupL ds => some ds
  | _ => none
def zipD (x y : D) : Option (List D) := match seqD x, seqD y with
  | some xs, some ys => some (zipL xs ys)
  | _, _ => none
theorem zipL_len : ∀ (xs ys : List D), (zipL xs ys).length = min xs.length ys.length
  | [], _ => by simp [zipL]
  | _ :: _, [] => by simp [zipL]
  | x :: xs, y :: ys => by simp only [zipL, List.length_cons, zipL_len xs ys]; omega
theorem zipL_at : ∀ {xs ys : List D} {i : Nat} {d : D}, (zipL xs ys)[i]? = some d → ∃ x y, xs[i]? = some x ∧ ys[i]? = some y ∧ d = .tup [x, y]
  | [], _, _, _, h => by simp [zipL] at h
  | _ :: _, [], _, _, h => by simp [zipL] at h
  | x :: xs, y :: ys, 0, d, h => by simp [zipL] at h; exact ⟨x, y, rfl, rfl, h.symm⟩
  | x :: xs, y :: ys, i + 1, d, h => zipL_at (xs := xs) (ys := ys) (by simpa [zipL] using h)
theorem rep_seq {K : PySem.W.Frag} {F : Hp} {v : V} {d : D} {ds : List D} (r : Rep K F v d) (h : seqD d = some ds) : ∃ k a xs, v = .ref a ∧ KSq K F a xs k ∧ xs.length ≤ sizeLine ∧ Reps K F xs ds := by
  cases r with
  | lst h1 l1 r1 => cases h; exact ⟨.l, _, _, rfl, SqL.of h1, l1, r1⟩
  | tup h1 l1 r1 => cases h; exact ⟨.t, _, _, rfl, h1.sq, l1, r1⟩
  | tupL h1 _ l1 r1 => cases h; exact ⟨.t, _, _, rfl, sqT_frz h1, l1, r1⟩
  | _ => cases h
theorem walks_zip {K : PySem.W.Frag} {F : Hp} {a b : Addr} {xs ys : List V} {ds es : List D} {k1 k2 : Kd} (h1 : KSq K F a xs k1) (h2 : KSq K F b ys k2) (l1 : xs.length ≤ sizeLine) (r1 : Reps K F xs ds) (r2 : Reps K F ys es) : Walks K (Itz2 K k1 k2 a b) F (zipL ds es) := by
  refine ⟨by rw [zipL_len, ← r1.length]; omega, fun F1 H1 e1 e2 => ⟨fun i d q => ?_, ?_⟩⟩
  · obtain ⟨dx, dy, hx, hy, rfl⟩ := zipL_at q
    obtain ⟨v, hv, rv⟩ := r1.get hx
    obtain ⟨u, hu, ru⟩ := r2.get hy
    refine ⟨⟨xs, ys, v, u, (h1.same e1).same e2, (h2.same e1).same e2, hv, hu⟩, fun x H' y => ?_⟩
    obtain ⟨T, x1, x2, rfl, nT, rfl, f1, f2⟩ := y
    have ex1 := f1 xs ((h1.same e1).same e2)
    have ex2 := f2 ys ((h2.same e1).same e2)
    rw [hv] at ex1
    rw [hu] at ex2
    cases ex1
    cases ex2
    exact ⟨_, Ext.fresh e2 _ nT, new_tup e2 nT (by show 2 ≤ sizeLine; decide) (.cons (rv.mono e1) (.cons (ru.mono e1) .nil))⟩
  · refine ⟨xs, ys, (h1.same e1).same e2, (h2.same e1).same e2, ?_⟩
    rw [zipL_len, r1.length, r2.length]
theorem it_zip {X : Cx} {G : Gd} {W : WX} {ρ : Rho} {elts : List Expr} {kk : Nat} {tpos p pos : Pos} {a b : Expr} {ma mb : Rs D} (hg : Gl X "zip") (hm : X.mg "zip" = none) (ha : EV X G W ρ a ma) (hb : EV X G W ρ b mb)
    (hs : starEach [a, b] X.env = (false, eval a X.env) :: starEach [b] X.env := by rfl) (hs2 : starEach [b] X.env = (false, eval b X.env) :: starEach [] X.env := by rfl) (hpl : (backTo pos (starEach [b] X.env)).any (·.1) = false := by rfl) :
    IT X G W ρ (.Tuple elts kk tpos) (.Call (.Name "zip" p) [a, b] [] pos) (ma.bind fun x => mb.bind fun y => Rs.of (zipD x y)) := by
  obtain ⟨t, pe, q⟩ := ha
  obtain ⟨t2, pe2, q2⟩ := hb
  refine ⟨_, pi_zip2 hg hm (pa_cons pe (pa_cons pe2 pa_nil hs2) hs) hs hpl, fun F0 σ F H R hh hp => ?_⟩
  refine q F0 σ F H _ hh (hp.bind fun d v F' H' e1 r1 hp1 => ?_)
  refine q2 F0 σ F' H' _ (hh.more e1) (hp1.bind fun d2 v2 F2 H2 e2 r2 hp2 => ?_)
  obtain ⟨ds, hd, k⟩ := hp2.of
  unfold zipD at hd
  split at hd
  · rename_i xs ys hx hy
    cases hd
    obtain ⟨k1, a1, vs1, rfl, g1, l1, w1⟩ := rep_seq (r1.mono e2.ext) hx
    obtain ⟨k2, a2, vs2, rfl, g2, l2, w2⟩ := rep_seq r2 hy
    exact ⟨k1, k2, a1, a2, vs1, vs2, rfl, g1.same e2.sub, g2.same e2.sub, k _ F2 H2 (Ext.refl e2.sub) (walks_zip g1 g2 l1 w1 w2)⟩
  · cases hd
set_option maxHeartbeats 1000000 in
theorem meets_enumK {v : Value} {o : Obj} {Hp0 : Heap → Prop} (B : Begins v o Hp0) :
    Meets (Builtin.«enumerate.__new__» ⟨[.type "enumerate", v], []⟩) (fun _ R s => Hp0 s.heap ∧ R (.ok (.ret (.ref (s.heap.push o).objs.size))) { s with heap := (s.heap.push o).push { cls := .type "enumerate", data := .fields #[.none, .bool false, .ref s.heap.objs.size, rawInt 0, .none, .none] } }) :=
  .of_wp fun prog w A R s h => by
    obtain ⟨hp, g, d, tk, os⟩ := s
    obtain ⟨h1, h⟩ := h
    have hsub := sub_enumerate
    have q1 : ∀ {A' : Around} {E : Value → Shared → Prop} {Q : Value → Shared → Prop}, Q (.ref hp.objs.size) ⟨hp.push o, g, d, tk, os⟩ → wpAny (model prog w) A' (pyIter v) Q E ⟨hp, g, d, tk, os⟩ := fun q => B.iter prog w _ _ ⟨hp, g, d, tk, os⟩ _ h1 q
    wp_walk using q1
    refine wpAny_stack_any fun st => wpAny_pure ?_
    split
    · rename_i c _ _ _ _ _
      cases (c == Value.type "enumerate") <;> (wp_walk using q1; exact ⟨_, rfl, h⟩)
    · wp_walk using q1
      exact ⟨_, rfl, h⟩
theorem call_enumK {prog : Program} {w : World} {A : Around} {E : Value → Shared → Prop} {s : Shared} {v : Value} {o : Obj} {Hp0 : Heap → Prop} {Q : Value → Shared → Prop} (B : Begins v o Hp0) (h1 : Hp0 s.heap)
    (h : ∀ h', IsEnum h' (s.heap.objs.size + 1) s.heap.objs.size 0 .none → h'.get? s.heap.objs.size = some o → h'.objs.size = s.heap.objs.size + 2 → (∀ b o, s.heap.get? b = some o → h'.get? b = some o) → Q (.ref (s.heap.objs.size + 1)) { s with heap := h' }) :
    wpAny (model prog w) A (call (.type "enumerate") [v]) Q E s := by
  refine callType_new F.called_enumerate (by decide) (F.typeCall_enumerate_1 _) (F.newCall_enumerate_1 _) (fun obj => F.args_object_init_2 obj _) F.entry_enumerate_new (meets_enumK B) ⟨h1, ?_⟩
  have hz : (s.heap.push o).objs.size = s.heap.objs.size + 1 := Heap.size_push ..
  show _ ∧ _
  rw [hz]
  have g0 : ((s.heap.push o).push { cls := .type "enumerate", data := .fields #[.none, .bool false, .ref s.heap.objs.size, rawInt 0, .none, .none] }).get? (s.heap.objs.size + 1) = some { cls := .type "enumerate", data := .fields #[.none, .bool false, .ref s.heap.objs.size, rawInt 0, .none, .none] } := by
    rw [← hz]
    exact Heap.get?_push_size _ rfl
  refine ⟨⟨_, g0, rfl⟩, h _ g0 ?_ ?_ ?_⟩
  · exact Heap.get?_push_of_some _ (Heap.get?_push_size _ B.free)
  · rw [Heap.size_push, hz]
  · exact fun b o' e => Heap.get?_push_of_some _ (Heap.get?_push_of_some _ e)
def Ite2 (K : PySem.W.Frag) (k1 : Kd) (a : Addr) : It :=
  ⟨fun i H => ∃ (xs : List V) (x : V), KSq K H a xs k1 ∧ xs[i]? = some x,
    fun i H v H' => ∃ T x, v = .ref T ∧ H T = none ∧ H' = upd H T (.tup [.int (0 + (i : Int)), x]) ∧ ∀ xs, KSq K H a xs k1 → xs[i]? = some x,
    fun i H => ∃ xs : List V, KSq K H a xs k1 ∧ i = xs.length⟩
def eTn (k1 : Kd) (e it a : Addr) (i : Nat) (h : Heap) : Prop := (∃ old, IsEnum h e it (0 + (i : Int)) old) ∧ KIter h it a i k1
theorem turn_enum2 {P : Program} {w : World} {K : PySem.W.Frag} {elts : List Expr} {kk : Nat} {tpos : Pos} {k1 : Kd} {a : Addr} {N : Nat} (ha : a < N) :
    Turn P w K (.Tuple elts kk tpos) (Ite2 K k1 a) [N + 1, N] (N + 1) (eTn k1 (N + 1) N a) where
  mem := by simp
  obj := fun i h st c hc => by
    obtain ⟨⟨old, hz⟩, h1⟩ := st
    simp only [List.mem_cons, List.not_mem_nil, or_false] at hc
    rcases hc with q | q
    · subst q; exact ⟨_, hz, fun v z => nomatch z⟩
    · exact q ▸ h1.there
  keep := fun i h h' st k => by
    obtain ⟨⟨old, hz⟩, h1⟩ := st
    exact ⟨⟨old, k _ (by simp) _ hz⟩, h1.keep fun o q => k _ (by simp) o q⟩
  item := by
    intro X hP hw hK hc i pins s σ H E I hf st hg
    subst hP hw hK
    obtain ⟨hz, h1⟩ := st
    obtain ⟨xs, x, hqx, hx⟩ := hg
    obtain ⟨its, rv, p1, _⟩ := inv_sq I hqx
    obtain ⟨u, hu, ru⟩ := rv.get hx
    have hne1 : a ≠ N := Nat.ne_of_lt ha
    have hne2 : N + 1 ≠ a := fun z => by
      have : a < N := ha
      rw [← z] at this
      exact absurd this (Nat.not_lt.mpr (Nat.le_succ N))
    have GN := GoesN.enumFrom (prog := X.prog) (w := X.w) (A := X.A) (elts := elts) (x1 := kk) (pos := tpos) 0 (kDraws (prog := X.prog) (w := X.w) (A := X.A.in1) (I.ok.hd hc) N a hne1 its.toArray k1) (N + 1) (Nat.succ_ne_self N) (by
      simp only [List.mem_cons, List.not_mem_nil, or_false, not_or]
      exact ⟨Nat.succ_ne_self N, hne2⟩) (by simp)
    have il1 : i < its.length := by
      rcases Nat.lt_or_ge i its.length with z | z
      · exact z
      · rw [List.getElem?_eq_none z] at hu; cases hu
    refine GN.goes i s (fun v s2 => ∃ x H', Inv X pins σ H' s2 ∧ RelV x v ∧ (Ite2 X.K k1 a).yld i H x H' ∧ eTn k1 (N + 1) N a (i + 1) s2.heap ∧ ∀ b ∈ [N + 1, N], H' b = none) E (by simp only [List.size_toArray]; omega) ⟨hz, ⟨h1, p1⟩⟩ fun v h' tk hY st' hk htk => ?_
    obtain ⟨T, t0, w1, rfl, hT, e1, hTt⟩ := hY
    have ew1 : w1 = u := by
      have : its[i]? = some w1 := by simpa using e1
      rw [hu] at this
      exact (Option.some.inj this).symm
    subst ew1
    obtain ⟨hz', ⟨h1', _⟩⟩ := st'
    have new : ObjOk X.prog X.w (upd H T (.tup [.int (0 + (i : Int)), x])) h' T (.tup [.int (0 + (i : Int)), x]) := ⟨by show 2 ≤ sizeLine; decide, [.int (0 + (i : Int)) t0, w1], .cons ⟨t0, rfl⟩ (.cons ru .nil), hTt⟩
    have I1 : Inv X pins σ (upd H T (.tup [.int (0 + (i : Int)), x])) { s with heap := h', toks := tk } := I.turnedNew (ch := [N + 1, N]) (fun c o hb q => hk c o hb q) hf hT new
    refine ⟨.ref T, _, I1, rfl, ⟨T, x, rfl, I.hok.fresh hT, rfl, fun l hl => by rw [inv_sq_inj I hl hqx]; exact hx⟩, ⟨hz', h1'⟩, fun c hcm => ?_⟩
    have hc1 := (hf c hcm).1
    by_cases e : c = T
    · subst e
      exfalso
      have : ∃ o, s.heap.get? c = some o := by
        simp only [List.mem_cons, List.not_mem_nil, or_false] at hcm
        rcases hcm with q | q
        · obtain ⟨_, hz⟩ := hz; exact ⟨_, q ▸ hz⟩
        · obtain ⟨o, z, _⟩ := h1.there; exact ⟨o, q ▸ z⟩
      obtain ⟨o, z⟩ := this
      exact absurd (Heap.lt_size z) (Nat.not_lt.mpr hT)
    · rw [upd_ne e]
      exact hc1
  done := by
    intro X hP hw hK hc i pins s σ H E I hf st hg
    subst hP hw hK
    obtain ⟨hz, h1⟩ := st
    obtain ⟨xs, hqx, hend⟩ := hg
    obtain ⟨its, rv, p1, _⟩ := inv_sq I hqx
    have hne1 : a ≠ N := Nat.ne_of_lt ha
    have hne2 : N + 1 ≠ a := fun z => by
      have : a < N := ha
      rw [← z] at this
      exact absurd this (Nat.not_lt.mpr (Nat.le_succ N))
    have GN := GoesN.enumFrom (prog := X.prog) (w := X.w) (A := X.A) (elts := elts) (x1 := kk) (pos := tpos) 0 (kDraws (prog := X.prog) (w := X.w) (A := X.A.in1) (I.ok.hd hc) N a hne1 its.toArray k1) (N + 1) (Nat.succ_ne_self N) (by
      simp only [List.mem_cons, List.not_mem_nil, or_false, not_or]
      exact ⟨Nat.succ_ne_self N, hne2⟩) (by simp)
    have ei : i = its.toArray.size := by
      rw [List.size_toArray, ← rv.length]
      exact hend
    refine GN.stops s _ E (by rw [← ei]; exact ⟨hz, ⟨h1, p1⟩⟩) fun h' tk hk htk => I.turnedL (ch := [N + 1, N]) (fun c o hb q => hk c o hb q) hf
  self := fun A i s Q E st h => by
    obtain ⟨⟨old, hz⟩, _⟩ := st
    exact wpAny_pyIter_enum hz h
def iEnum2 (K : PySem.W.Frag) (ta : TA) : TI := fun σ H R => ta σ H fun vs H1 => ∃ k1 a xs, vs = [.ref a] ∧ KSq K H1 a xs k1 ∧ R (Ite2 K k1 a) H1
theorem pi_enum2 {X : Cx} {e : Expr} {ta : TA} {p pos tpos : Pos} {elts : List Expr} {kk : Nat} (hg : Gl X "enumerate") (hm : X.mg "enumerate" = none) (ha : PA X [e] ta)
    (hs : starEach [e] X.env = (false, eval e X.env) :: starEach [] X.env := by rfl) (hpl : (backTo pos (starEach [] X.env)).any (·.1) = false := by rfl) :
    PI X (.Tuple elts kk tpos) (.Call (.Name "enumerate" p) [e] [] pos) (iEnum2 X.K ta) := by
  refine ⟨fun pins s σ H R I h => Call_ (ld_blt I hg hm boot_enumerate (PyProof.Rows.callWith_type1 (thn (ha.run pos pins s σ H _ I h) fun us s1 ⟨vs, H1, I1, r1, q1⟩ => ?_) hs hpl))⟩
  obtain ⟨k1, a, xs, rfl, hqx, q⟩ := q1
  obtain ⟨u1, rfl, r⟩ := vals1 r1
  cases r
  obtain ⟨its, rv, p1, la⟩ := inv_sq I1 hqx
  refine call_enumK (kBegins a its.toArray k1) p1 fun h' hz g1 hsz hk => wpAny_pyIter_enum hz ?_
  have I2 : Inv X pins σ H1 { s1 with heap := h' } := I1.kept (t' := s1.toks) hk
  refine ⟨_, _, _, Ite2 X.K k1 a, H1, rfl, I2, turn_enum2 (N := s1.heap.objs.size) la, ⟨⟨_, hz⟩, KIter.of_new g1⟩, fun c hcm => ?_, q⟩
  have hle : s1.heap.objs.size ≤ c := by
    simp only [List.mem_cons, List.not_mem_nil, or_false] at hcm
    rcases hcm with z | z <;> rw [z] <;> first | exact Nat.le_refl _ | exact Nat.le_add_right _ _
  exact I1.fpOk hle (I1.hok.fresh hle)
def enumL : Nat → List D → List D
  | _, [] => []
  | i, x :: xs => .tup [.int (0 + (i : Int)), x] :: enumL (i + 1) xs
def enumD (x : D) : Option (List D) := (seqD x).map (enumL 0)
theorem enumL_len : ∀ (i : Nat) (xs : List D), (enumL i xs).length = xs.length
  | _, [] => rfl
  | i, x :: xs => by simp only [enumL, List.length_cons, enumL_len (i + 1) xs]
theorem enumL_at : ∀ {j : Nat} {xs : List D} {i : Nat} {d : D}, (enumL j xs)[i]? = some d → ∃ x, xs[i]? = some x ∧ d = .tup [.int (0 + ((j + i : Nat) : Int)), x]
  | _, [], _, _, h => by simp [enumL] at h
  | j, x :: xs, 0, d, h => by simp only [enumL, List.getElem?_cons_zero, Option.some.injEq] at h; exact ⟨x, rfl, h.symm⟩
  | j, x :: xs, i + 1, d, h => by
    obtain ⟨y, h1, h2⟩ := enumL_at (j := j + 1) (xs := xs) (i := i) (by simpa [enumL] using h)
    exact ⟨y, by simpa using h1, by rw [h2, show j + 1 + i = j + (i + 1) by omega]⟩
theorem walks_enum {K : PySem.W.Frag} {F : Hp} {a : Addr} {xs : List V} {ds : List D} {k1 : Kd} (h1 : KSq K F a xs k1) (l1 : xs.length ≤ sizeLine) (r1 : Reps K F xs ds) : Walks K (Ite2 K k1 a) F (enumL 0 ds) := by
  refine ⟨by rw [enumL_len, ← r1.length]; exact l1, fun F1 H1 e1 e2 => ⟨fun i d q => ?_, ?_⟩⟩
  · obtain ⟨dx, hx, rfl⟩ := enumL_at q
    obtain ⟨v, hv, rv⟩ := r1.get hx
    refine ⟨⟨xs, v, (h1.same e1).same e2, hv⟩, fun x H' y => ?_⟩
    obtain ⟨T, x1, rfl, nT, rfl, f1⟩ := y
    have ex1 := f1 xs ((h1.same e1).same e2)
    rw [hv] at ex1
    cases ex1
    rw [Nat.zero_add]
    exact ⟨_, Ext.fresh e2 _ nT, new_tup e2 nT (by show 2 ≤ sizeLine; decide) (.cons (.int _) (.cons (rv.mono e1) .nil))⟩
  · refine ⟨xs, (h1.same e1).same e2, ?_⟩
    rw [enumL_len, r1.length]
theorem it_enum {X : Cx} {G : Gd} {W : WX} {ρ : Rho} {elts : List Expr} {kk : Nat} {tpos p pos : Pos} {a : Expr} {ma : Rs D} (hg : Gl X "enumerate") (hm : X.mg "enumerate" = none) (ha : EV X G W ρ a ma)
    (hs : starEach [a] X.env = (false, eval a X.env) :: starEach [] X.env := by rfl) (hpl : (backTo pos (starEach [] X.env)).any (·.1) = false := by rfl) :
    IT X G W ρ (.Tuple elts kk tpos) (.Call (.Name "enumerate" p) [a] [] pos) (ma.bind fun x => Rs.of (enumD x)) := by
  obtain ⟨t, pe, q⟩ := ha
  refine ⟨_, pi_enum2 hg hm (pa_cons pe pa_nil hs) hs hpl, fun F0 σ F H R hh hp => ?_⟩
  refine q F0 σ F H _ hh (hp.bind fun d v F' H' e1 r1 hp1 => ?_)
  obtain ⟨ds, hd, k⟩ := hp1.of
  unfold enumD at hd
  cases hx : seqD d with
  | none => rw [hx] at hd; cases hd
  | some xs =>
    rw [hx] at hd
    cases hd
    obtain ⟨k1, a1, vs1, rfl, g1, l1, w1⟩ := rep_seq r1 hx
    exact ⟨k1, a1, vs1, rfl, g1.same e1.sub, k _ F' H' (Ext.refl e1.sub) (walks_enum g1 l1 w1)⟩
end VL
set_option Elab.async false
set_option linter.all false
set_option maxRecDepth 100000
set_option autoImplicit false
namespace VL
open PySem PySem.Spec L2
open PyProof.Rows hiding St
section
variable {X : Cx} {G : Gd} {W : WX} {ρ ρx : Rho} {a b c : Expr} {ma mb mc : Rs D} {pos p : Pos}
theorem tv_cmp {op : CmpOp} {r : R2} {f : D → D → Option D} {g : D → D → Option Bool} (ho : OpR X (compareOp op) r) (hf : R2ok X.K r f) (hg : Isb f g) (ha : EO X G W ρ a ma) (hb : EO X G W ρ b mb) (hm : behindInMarks op b = false) :
    TV X G W ρ (.Compare a [op] [b] pos) (ma.bind fun x => mb.bind fun y => Rs.of (g x y)) := by
  obtain ⟨ta, pa, qa⟩ := ha
  obtain ⟨tb, pb, qb⟩ := hb
  refine ⟨_, pt_cmpR ho pa pb hm, fun F0 σ F H Q hh hp => ?_⟩
  refine qa F0 σ F H _ hh (hp.bind fun dx x F1 H1 e1 r1 hp1 => ?_)
  refine qb F0 σ F1 H1 _ (hh.more e1) (hp1.bind fun dy y F2 H2 e2 r2 hp2 => ?_)
  obtain ⟨d, hd, k⟩ := hp2.of
  refine hf e2.sub (r1.more e2) r2 (by rw [hg, hd]; rfl) fun v F' H' e3 r3 => ?_
  cases r3
  exact ⟨d, rfl, k _ F' H' e3 rfl⟩
theorem ev_globC {x : Str} {v : V} {u : Value} {d : D} (hm : X.mg x = some u) (rv : RelV v u) (r : ∀ F, Rep X.K F v d) (hg : Gl X x := by rfl) (hd : (x == ("__debug__" : Str)) = false := by decide) : EV X G W ρ (.Name x pos) (.ok d) := ev_c (pe_glob hg hm rv hd) r
theorem ev_glob_int {x : Str} {i : Int} (hm : ∃ t, X.mg x = some (.int i t)) (hg : Gl X x := by rfl) (hd : (x == ("__debug__" : Str)) = false := by decide) : EV X G W ρ (.Name x pos) (.ok (.int i)) := by
  obtain ⟨t, h⟩ := hm
  exact ev_globC (v := .int i) h ⟨t, rfl⟩ (fun _ => .int i) hg hd
theorem reps_ints {K : PySem.W.Frag} {F : Hp} : ∀ is : List Int, Reps K F (is.map V.int) (is.map D.int)
  | [] => .nil
  | i :: r => .cons (.int i) (reps_ints r)
theorem ev_glob_tup {x : Str} {f : Addr} {is : List Int} (hT : ∀ H, SqT X.K H f (is.map V.int)) (hm : X.mg x = some (.ref f)) (hl : is.length ≤ sizeLine := by decide) (hg : Gl X x := by rfl) (hd : (x == ("__debug__" : Str)) = false := by decide) : EV X G W ρ (.Name x pos) (.ok (.tup (is.map D.int))) :=
  ev_globC hm (v := .ref f) rfl (fun F => .tup (.inr ⟨hT _, fun x hx => by obtain ⟨i, _, rfl⟩ := List.mem_map.mp hx; exact ⟨i, rfl⟩⟩) (by rw [List.length_map]; exact hl) (reps_ints is)) hg hd
end
def kindD : D → Option String
  | .non => some "NoneType"
  | .bl _ => some "bool"
  | .int _ => some "int"
  | .str _ => some "str"
  | .lst _ => some "list"
  | .tup _ => some "tuple"
  | .tupL _ => some "tuple"
  | _ => none
def isiK (k t : String) : Bool := k == t || (k == "bool" && t == "int")
def isiB (t : String) (d : D) : Option Bool := (kindD d).map fun k => isiK k t
def isiD (t : String) (d : D) : Option D := (isiB t d).map .bl
def isiD2 (t u : String) (d : D) : Option D := (kindD d).map fun k => .bl (isiK k t || isiK k u)
theorem sqT_ty {K : PySem.W.Frag} {H : Hp} {a : Addr} {xs : List V} (h : SqT K H a xs) : TyX K H (.ref a) (.type "tuple") := by
  rcases h with (h | ⟨o, h⟩) | ⟨o, its, n, hk, hc, _⟩
  · exact .base (.tup h)
  · exact .fTuple h
  · exact .kTuple hk hc
theorem RepH.ty {K : PySem.W.Frag} {F H : Hp} (s : Same F H) {v : V} {d : D} {k : String} (r : RepH K F H v d) (h : kindD d = some k) : TyX K H v (.type k) := by
  cases d with
  | non => cases h; rw [r.non]; exact .base .non
  | bl b => cases h; rw [r.bl]; exact .base (.bl b)
  | int i => cases h; rw [r.int]; exact .base (.int i)
  | str x => cases h; rw [r.str]; exact .base (.str x)
  | lst ds =>
    cases h
    obtain ⟨a, xs, rfl, ha, _, _⟩ := r.lst s
    exact .base (.lst ha)
  | tup ds =>
    cases h
    obtain ⟨a, xs, rfl, ha, _⟩ := r.tup s
    exact sqT_ty ha
  | tupL ds =>
    cases h
    obtain ⟨a, xs, rfl, ha, _⟩ := r.tupL s
    exact sqT_ty ha
  | _ => cases h
def KitT (t : String) : Prop := ∀ k ∈ ["NoneType", "bool", "int", "str", "list", "tuple"], kitB k t = some (isiK k t)
theorem kitT_int : KitT "int" := by unfold KitT; decide +kernel
theorem kitT_bool : KitT "bool" := by unfold KitT; decide +kernel
theorem kitT_str : KitT "str" := by unfold KitT; decide +kernel
theorem kitT_tuple : KitT "tuple" := by unfold KitT; decide +kernel
theorem kitT_list : KitT "list" := by unfold KitT; decide +kernel
theorem kind_mem {d : D} {k : String} (h : kindD d = some k) : k ∈ ["NoneType", "bool", "int", "str", "list", "tuple"] := by
  cases d <;> cases h <;> simp
section
variable {X : Cx} {G : Gd} {W : WX} {ρ ρx : Rho} {a b c : Expr} {ma mb mc : Rs D} {pos p p2 : Pos}
theorem ev_isi {t : String} {tn : Str} (hm : X.mg "isinstance" = none) (ht : X.mg tn = none) (hv : bootBuiltins tn = some (.type t)) (hk : KitT t) (ha : EO X G W ρ a ma) (hg : Gl X "isinstance" := by rfl) (hg2 : Gl X tn := by rfl) (hn : tn ≠ "__name__" := by decide) (hd : (tn == ("__debug__" : Str)) = false := by decide)
    (hs : starEach [a, .Name tn p2] X.env = (false, eval a X.env) :: starEach [.Name tn p2] X.env := by rfl) (hs2 : starEach [.Name tn p2] X.env = (false, eval (.Name tn p2) X.env) :: starEach [] X.env := by rfl) (hpl : (backTo pos (starEach [.Name tn p2] X.env)).any (·.1) = false := by rfl) :
    EV X G W ρ (.Call (.Name "isinstance" p) [a, .Name tn p2] [] pos) (ma.bind fun x => Rs.of (isiD t x)) := by
  obtain ⟨ta, pa, qa⟩ := ha
  refine ⟨_, pe_callB call_isi hg hm boot_isinstance (pa_cons pa (pa_cons (pe_bltn (v := .ty t) hg2 ht hv rfl hn hd) pa_nil hs2) hs) (by decide) (by decide) hs hpl, fun F0 σ F H Q hh hp => ?_⟩
  refine qa F0 σ F H _ hh (hp.bind fun dx x F1 H1 e1 r1 hp1 => ?_)
  obtain ⟨d, hd, k⟩ := hp1.of
  unfold isiD isiB at hd
  cases hx : kindD dx with
  | none => rw [hx] at hd; cases hd
  | some kd =>
    rw [hx] at hd
    cases hd
    exact ⟨x, .ty t, .type kd, .type t, _, rfl, .ty t, r1.ty e1.sub hx, kit_ty (hk kd (kind_mem hx)), k _ F1 H1 (Ext.refl e1.sub) (.bl _)⟩
theorem ev_isi2 {t u : String} {tn un : Str} {x1 : Nat} {p3 p4 : Pos} (hm : X.mg "isinstance" = none) (ht : X.mg tn = none) (hv : bootBuiltins tn = some (.type t)) (ht2 : X.mg un = none) (hv2 : bootBuiltins un = some (.type u)) (hk : KitT t) (hk2 : KitT u) (ha : EO X G W ρ a ma)
    (hg : Gl X "isinstance" := by rfl) (hg2 : Gl X tn := by rfl) (hg3 : Gl X un := by rfl) (hn : tn ≠ "__name__" := by decide) (hd : (tn == ("__debug__" : Str)) = false := by decide) (hn3 : un ≠ "__name__" := by decide) (hd3 : (un == ("__debug__" : Str)) = false := by decide)
    (hs : starEach [a, .Tuple [.Name tn p2, .Name un p3] x1 p4] X.env = (false, eval a X.env) :: starEach [.Tuple [.Name tn p2, .Name un p3] x1 p4] X.env := by rfl)
    (hs2 : starEach [.Tuple [.Name tn p2, .Name un p3] x1 p4] X.env = (false, eval (.Tuple [.Name tn p2, .Name un p3] x1 p4) X.env) :: starEach [] X.env := by rfl)
    (hs3 : starEach [.Name tn p2, .Name un p3] X.env = (false, eval (.Name tn p2) X.env) :: starEach [.Name un p3] X.env := by rfl) (hs4 : starEach [.Name un p3] X.env = (false, eval (.Name un p3) X.env) :: starEach [] X.env := by rfl)
    (hpl : (backTo pos (starEach [.Tuple [.Name tn p2, .Name un p3] x1 p4] X.env)).any (·.1) = false := by rfl) :
    EV X G W ρ (.Call (.Name "isinstance" p) [a, .Tuple [.Name tn p2, .Name un p3] x1 p4] [] pos) (ma.bind fun x => Rs.of (isiD2 t u x)) := by
  obtain ⟨ta, pa, qa⟩ := ha
  refine ⟨_, pe_callB call_isiT hg hm boot_isinstance (pa_cons pa (pa_cons (pe_tup (pa_cons (pe_bltn (v := .ty t) hg2 ht hv rfl hn hd) (pa_cons (pe_bltn (v := .ty u) hg3 ht2 hv2 rfl hn3 hd3) pa_nil hs4) hs3)) pa_nil hs2) hs) (by decide) (by decide) hs hpl, fun F0 σ F H Q hh hp => ?_⟩
  refine qa F0 σ F H _ hh (hp.bind fun dx x F1 H1 e1 r1 hp1 => ?_)
  obtain ⟨d, hd, k⟩ := hp1.of
  unfold isiD2 at hd
  cases hx : kindD dx with
  | none => rw [hx] at hd; cases hd
  | some kd =>
    rw [hx] at hd
    cases hd
    refine ⟨by show 2 ≤ sizeLine; decide, fun q hq => ?_⟩
    have e2 := Ext.loose e1.sub (.tup [.ty t, .ty u]) hq
    have k1 := kit_ty (K := X.K) (hk kd (kind_mem hx))
    have k2 := kit_ty (K := X.K) (hk2 kd (kind_mem hx))
    refine ⟨x, q, [.ty t, .ty u], .type kd, [.type t, .type u], _, rfl, upd_same, .cons (.ty t) (.cons (.ty u) .nil), (r1.more e2).ty e2.sub hx, ?_, k _ F1 _ e2 (.bl _)⟩
    refine kitAny_cons k1 (fun e => ?_) fun e => by rw [e]; rfl
    rw [e, Bool.false_or]
    exact kitAny_cons k2 (fun e => by rw [e]; rfl) fun e => e
end
section
variable {X : Cx} {G : Gd} {W : WX} {ρx ρ : Rho} {rest sts : List Stmt} {α β R : Type} {pn : α → Rho} {pl : β → Rho} {ι : R → Fl α β}
theorem bk_setV {i : Nat} {st : Stmt} {d : D} {m : Rs (Fl α β)} (ha : AS X G W ρ st i (.ok d)) (hr : BK X G W ρx (ρ.set i (some (.val d))) rest pn pl m) (hi : i < ρ.length := by exact Nat.le_of_ble_eq_true rfl) (wx : Wk ρ ρx := by first | exact Wk.nil | exact Wk.refl | (repeat (first | exact Wk.nil | apply Wk.keep | apply Wk.drop))) : BK X G W ρx ρ (st :: rest) pn pl m := by
  obtain ⟨te, p, q⟩ := ha
  intro F0 σ F H E hh hp
  refine any_cons p (q F0 σ F H _ hh fun v F' H' e1 r1 => ?_)
  exact hr F0 _ F' H' E ((hh.more e1).setV r1 hi) hp
theorem bi_setV {i : Nat} {st : Stmt} {d : D} {m : Rs R} (ha : AS X G W ρ st i (.ok d)) (hr : BI X G W ρx (ρ.set i (some (.val d))) rest pn pl ι m) (hi : i < ρ.length := by exact Nat.le_of_ble_eq_true rfl) (wx : Wk ρ ρx := by first | exact Wk.nil | exact Wk.refl | (repeat (first | exact Wk.nil | apply Wk.keep | apply Wk.drop))) : BI X G W ρx ρ (st :: rest) pn pl ι m := bk_setV ha hr hi wx
theorem bk_par {i j : Nat} {x y : Str} {a b : Expr} {px py pt : Pos} {kt k2 : Nat} {pt2 pos : Pos} {ma mb : Rs D} {f : D → D → Rs (Fl α β)} (calm : X.calm = true) (nd : X.N.Nodup) (ha : EV X G W ρ a ma) (hb : EV X G W ρ b mb)
    (hr : ∀ d e, BK X G W ρx ((ρ.set i (some (.val d))).set j (some (.val e))) rest pn pl (f d e)) (hi : X.N[i]? = some x := by rfl) (hj : X.N[j]? = some y := by rfl) (hij : i ≠ j := by decide) (hx : X.env.scope.names.lookup x = some .local := by rfl) (hy : X.env.scope.names.lookup y = some .local := by rfl)
    (hw : swappedStores [.Tuple [.Name x px, .Name y py] kt pt] (.Tuple [a, b] k2 pt2) X.env = pure (some [x, y]) := by rfl) (hs : swapsWithSole [.Tuple [.Name x px, .Name y py] kt pt] (.Tuple [a, b] k2 pt2) pos.line X.env = pure false := by rfl)
    (hsa : starEach [a, b] X.env = (false, eval a X.env) :: starEach [b] X.env := by rfl) (hsb : starEach [b] X.env = (false, eval b X.env) :: starEach [] X.env := by rfl) (hli : i < ρ.length := by exact Nat.le_of_ble_eq_true rfl) (hlj : j < ρ.length := by exact Nat.le_of_ble_eq_true rfl) (wx : Wk ρ ρx := by first | exact Wk.nil | exact Wk.refl | (repeat (first | exact Wk.nil | apply Wk.keep | apply Wk.drop))) :
    BK X G W ρx ρ (.Assign [.Tuple [.Name x px, .Name y py] kt pt] (.Tuple [a, b] k2 pt2) pos :: rest) pn pl (ma.bind fun d => mb.bind fun e => f d e) := by
  obtain ⟨ta, pa, qa⟩ := ha
  obtain ⟨tb, pb, qb⟩ := hb
  intro F0 σ F H E hh hp
  refine any_cons (ps_par calm nd hi hj hij hx hy (pa_cons pa (pa_cons pb pa_nil hsb) hsa) hw hs) ?_
  refine qa F0 σ F H _ hh (post_seq hh wx hp fun d v F1 H1 e1 r1 hp1 => ?_)
  refine qb F0 σ F1 H1 _ (hh.more e1) (post_seq (hh.more e1) wx hp1 fun e u F2 H2 e2 r2 hp2 => ?_)
  refine ⟨v, u, rfl, ?_⟩
  exact hr d e F0 _ F2 H2 E ((((hh.more e1).more e2).setV (r1.mono e2.ext) hli).setV r2 (by simpa using hlj)) hp2
theorem bi_par {i j : Nat} {x y : Str} {a b : Expr} {px py pt : Pos} {kt k2 : Nat} {pt2 pos : Pos} {ma mb : Rs D} {f : D → D → Rs R} (calm : X.calm = true) (nd : X.N.Nodup) (ha : EV X G W ρ a ma) (hb : EV X G W ρ b mb)
    (hr : ∀ d e, BI X G W ρx ((ρ.set i (some (.val d))).set j (some (.val e))) rest pn pl ι (f d e)) (hi : X.N[i]? = some x := by rfl) (hj : X.N[j]? = some y := by rfl) (hij : i ≠ j := by decide) (hx : X.env.scope.names.lookup x = some .local := by rfl) (hy : X.env.scope.names.lookup y = some .local := by rfl)
    (hw : swappedStores [.Tuple [.Name x px, .Name y py] kt pt] (.Tuple [a, b] k2 pt2) X.env = pure (some [x, y]) := by rfl) (hs : swapsWithSole [.Tuple [.Name x px, .Name y py] kt pt] (.Tuple [a, b] k2 pt2) pos.line X.env = pure false := by rfl)
    (hsa : starEach [a, b] X.env = (false, eval a X.env) :: starEach [b] X.env := by rfl) (hsb : starEach [b] X.env = (false, eval b X.env) :: starEach [] X.env := by rfl) (hli : i < ρ.length := by exact Nat.le_of_ble_eq_true rfl) (hlj : j < ρ.length := by exact Nat.le_of_ble_eq_true rfl) (wx : Wk ρ ρx := by first | exact Wk.nil | exact Wk.refl | (repeat (first | exact Wk.nil | apply Wk.keep | apply Wk.drop))) :
    BI X G W ρx ρ (.Assign [.Tuple [.Name x px, .Name y py] kt pt] (.Tuple [a, b] k2 pt2) pos :: rest) pn pl ι (ma.bind fun d => mb.bind fun e => f d e) := by
  unfold BI
  have z := bk_par (f := fun d e => (f d e).bind fun r => .ok (ι r)) (rest := rest) (pos := pos) (px := px) (py := py) (pt := pt) (kt := kt) (k2 := k2) (pt2 := pt2) calm nd ha hb hr hi hj hij hx hy hw hs hsa hsb hli hlj wx
  have e2 : ((ma.bind fun d => mb.bind fun e => f d e).bind fun r => (.ok (ι r) : Rs (Fl α β))) = ma.bind fun d => mb.bind fun e => (f d e).bind fun r => .ok (ι r) := by
    cases ma <;> simp only [Rs.bind_ok, Rs.bind_ex, Rs.bind_no, Rs.assoc]
  rw [e2]
  exact z
def listL : D → Option (List D)
  | .lst xs => some xs
  | .tup xs => some xs
  | .tupL xs => some xs
  | .scr xs => some xs
  | _ => none
theorem ef_list {a : Expr} {ma : Rs D} {p pos : Pos} (hm : X.mg "list" = none) (ha : EO X G W ρ a ma) (hg : Gl X "list" := by rfl) (hs : starEach [a] X.env = (false, eval a X.env) :: starEach [] X.env := by rfl) (hpl : (backTo pos (starEach [] X.env)).any (·.1) = false := by rfl) :
    EF X G W ρ (.Call (.Name "list" p) [a] [] pos) (ma.bind fun x => Rs.of (listL x)) := by
  obtain ⟨ta, pa, qa⟩ := ha
  refine ⟨_, pe_callTy call_list_of hg hm boot_list (pa_cons pa pa_nil hs) (by decide) (by decide) hs hpl, fun F0 σ F H Q hh hp => ?_⟩
  refine qa F0 σ F H _ hh ?_
  cases ma with
  | ex c fs => exact hp
  | no => exact hp
  | ok d =>
    intro v F1 H1 e1 r1
    obtain ⟨ds, hd, k⟩ := Post.of (o := listL d) hp
    have fin : ∀ {ys : List V}, ys.length ≤ sizeLine → Reps X.K F1 ys ds → ∀ l, H1 l = none → Q (.ref l) (upd H1 l (.lst ys)) := fun {ys} hl hr l hn =>
      k _ F1 _ (e1.trans (Ext.loose e1.sub _ hn)) ⟨l, rfl, e1.same.free hn, sub_none e1.sub hn, .lst upd_same hl hr⟩
    cases d with
    | lst xs =>
      cases hd
      obtain ⟨a, ys, rfl, h1, l1, w1⟩ := r1.lst e1.sub
      exact ⟨a, ys, rfl, .inl (SqL.of h1), fin l1 w1⟩
    | tup xs =>
      cases hd
      obtain ⟨a, ys, rfl, h1, l1, w1, _⟩ := r1.tup e1.sub
      exact ⟨a, ys, rfl, .inr h1, fin l1 w1⟩
    | tupL xs =>
      cases hd
      obtain ⟨a, ys, rfl, h1, l1, w1⟩ := r1.tupL e1.sub
      exact ⟨a, ys, rfl, .inr h1, fin l1 w1⟩
    | scr xs =>
      cases hd
      obtain ⟨a, ys, rfl, h1, l1, w1⟩ := r1.scr e1.sub
      exact ⟨a, ys, rfl, .inl h1, fin l1 w1⟩
    | _ => cases hd
theorem bi_as (ρ' : Rho) {m m' : Rs R} (h : BI X G W ρx ρ' sts pn pl ι m) (er : ρ = ρ') (e : m = m') : BI X G W ρx ρ sts pn pl ι m' := by
  subst er e
  exact h
theorem keeps_no {P : Program} {w : World} {K : PySem.W.Frag} {mg : Str → Option Value} {base : Heap} {x qual : Str} {params : Arguments} {body : List Stmt} {scope : Scope} {dvs : List V} {kws : List (Str × V)} {f : Addr} {fd : FuncData} {N ps : List Str} {k : Nat} {m : List D → Rs D}
    (Fd : FunD K x qual params body scope dvs kws f fd) (S : FnScope N ps scope) (hm : ∀ ds, m ds = .no) : Keeps P w K mg base (k + 1) f fd ps m := by
  refine Fd.ok S (fun vs H Q E h => h.1) (fun cdv A outer s H vs Q E hr h => ?_)
  obtain ⟨hl, F, ds, hs, hr1, hp⟩ := h
  rw [hm] at hp
  exact hp.elim
end
abbrev Kt := (β : Type) → (List D → Rs β) → Rs β
def AC (X : Cx) (G : Gd) (W : WX) (ρ : Rho) (es : List Expr) (κ : Kt) : Prop := ∃ ms, AV X G W ρ es ms ∧ ∀ (β : Type) (k : List D → Rs β), κ β k = ms.bind k
def OC (X : Cx) (G : Gd) (W : WX) (ρ : Rho) (es : List Expr) (κ : Kt) : Prop := ∃ ms, AO X G W ρ es ms ∧ ∀ (β : Type) (k : List D → Rs β), κ β k = ms.bind k
theorem cons_eq {m : Rs D} {ms : Rs (List D)} {κ : Kt} (h : ∀ (β : Type) (k : List D → Rs β), κ β k = ms.bind k) (β : Type) (k : List D → Rs β) :
    (m.bind fun x => κ β fun xs => k (x :: xs)) = (m.bind fun x => ms.bind fun xs => .ok (x :: xs)).bind k := by
  rw [Rs.assoc]
  cases m with
  | ok x =>
    simp only [Rs.bind_ok]
    rw [h, Rs.assoc]
    rfl
  | ex c fs => rfl
  | no => rfl
section
variable {X : Cx} {G : Gd} {W : WX} {ρ : Rho} {e : Expr} {es : List Expr} {m : Rs D} {κ : Kt} {pos p : Pos}
theorem ac_nil : AC X G W ρ [] (fun β k => k []) := ⟨_, av_nil, fun _ _ => rfl⟩
theorem ac_cons (ha : EV X G W ρ e m) (hr : AC X G W ρ es κ) (hs : starEach (e :: es) X.env = (false, eval e X.env) :: starEach es X.env := by rfl) : AC X G W ρ (e :: es) (fun β k => m.bind fun x => κ β fun xs => k (x :: xs)) := by
  obtain ⟨ms, h1, h2⟩ := hr
  exact ⟨_, av_cons ha h1 hs, cons_eq h2⟩
theorem oc_nil : OC X G W ρ [] (fun β k => k []) := ⟨_, ao_nil, fun _ _ => rfl⟩
theorem oc_cons (ha : EO X G W ρ e m) (hr : OC X G W ρ es κ) (hs : starEach (e :: es) X.env = (false, eval e X.env) :: starEach es X.env := by rfl) : OC X G W ρ (e :: es) (fun β k => m.bind fun x => κ β fun xs => k (x :: xs)) := by
  obtain ⟨ms, h1, h2⟩ := hr
  exact ⟨_, ao_cons ha h1 hs, cons_eq h2⟩
theorem ev_tupC {x1} (h : AC X G W ρ es κ) (hl : Nat.ble es.length sizeLine = true := by rfl) : EV X G W ρ (.Tuple es x1 pos) (κ D fun xs => .ok (.tup xs)) := by
  obtain ⟨ms, h1, h2⟩ := h
  rw [h2]
  exact ev_tupM h1 (Nat.le_of_ble_eq_true hl)
theorem ev_lstC (h : AC X G W ρ es κ) (hl : Nat.ble es.length sizeLine = true := by rfl) : EV X G W ρ (.List es pos) (κ D fun xs => .ok (.lst xs)) := by
  obtain ⟨ms, h1, h2⟩ := h
  rw [h2]
  exact ev_lstM h1 (Nat.le_of_ble_eq_true hl)
theorem ef_lstC (h : AC X G W ρ es κ) (hl : Nat.ble es.length sizeLine = true := by rfl) : EF X G W ρ (.List es pos) (κ (List D) fun xs => .ok xs) := by
  obtain ⟨ms, h1, h2⟩ := h
  rw [h2, Rs.bind_id]
  exact ef_lstM h1 (Nat.le_of_ble_eq_true hl)
theorem ev_callC {k : Nat} {f : Addr} {fd : FuncData} {ps : List Str} {m : List D → Rs D} {x : Str} (tk : L2N.Takes X W) (Fk : Keeps X.prog X.w X.K X.mg X.base k f fd ps m) (hr : Room k X.A) (hm : X.mg x = some (.ref f)) (hk : PySem.W.keepIn X.K (.ref f) = true)
    (hb : Binds X.K fd ps []) (ha : AC X G W ρ (e :: es) κ) (hln : (e :: es).length = ps.length := by rfl) (hg : Gl X x := by rfl) (hdb : (x == ("__debug__" : Str)) = false := by decide) (he : starEach (e :: es) X.env = (false, eval e X.env) :: starEach es X.env := by rfl)
    (hpl : (backTo pos (starEach es X.env)).any (·.1) = false := by rfl) : EV X G W ρ (.Call (.Name x p) (e :: es) [] pos) (κ D m) := by
  obtain ⟨ms, h1, h2⟩ := ha
  rw [h2]
  exact ev_call tk Fk hr hm hk hb h1 hln hg hdb he hpl
theorem ev_callBC {id : String} {x : Str} {r : List V → Hp → VK → Prop} {f : List D → Option D} (hc : CallR X (.builtin id) r) (hf : RCok X.K r f) (hm : X.mg x = none) (hv : bootBuiltins x = some (.builtin id)) (ha : OC X G W ρ (e :: es) κ) (hg : Gl X x := by rfl) (hn : x ≠ "__name__" := by decide)
    (hdb : (x == ("__debug__" : Str)) = false := by decide) (he : starEach (e :: es) X.env = (false, eval e X.env) :: starEach es X.env := by rfl) (hpl : (backTo pos (starEach es X.env)).any (·.1) = false := by rfl) : EV X G W ρ (.Call (.Name x p) (e :: es) [] pos) (κ D fun ds => Rs.of (f ds)) := by
  obtain ⟨ms, h1, h2⟩ := ha
  rw [h2]
  exact ev_callB hc hf hm hv h1 hg hn hdb he hpl
theorem ev_callTyC {id : String} {x : Str} {r : List V → Hp → VK → Prop} {f : List D → Option D} (hc : CallR X (.type id) r) (hf : RCok X.K r f) (hm : X.mg x = none) (hv : bootBuiltins x = some (.type id)) (ha : OC X G W ρ (e :: es) κ) (hg : Gl X x := by rfl) (hn : x ≠ "__name__" := by decide)
    (hdb : (x == ("__debug__" : Str)) = false := by decide) (he : starEach (e :: es) X.env = (false, eval e X.env) :: starEach es X.env := by rfl) (hpl : (backTo pos (starEach es X.env)).any (·.1) = false := by rfl) : EV X G W ρ (.Call (.Name x p) (e :: es) [] pos) (κ D fun ds => Rs.of (f ds)) := by
  obtain ⟨ms, h1, h2⟩ := ha
  rw [h2]
  exact ev_callTy hc hf hm hv h1 hg hn hdb he hpl
end
end VL
set_option Elab.async false
set_option linter.all false
set_option maxRecDepth 100000
set_option autoImplicit false
namespace VL
open PySem PySem.Spec L2
open PyProof.Rows hiding St
structure ExtB (b : Addr) (F H F' H' : Hp) : Prop where
  same : ∀ a o, a ≠ b → H a = some o → H' a = some o
  there : ∃ o, H' b = some o ∧ nT o
  sub : Same F' H'
  ext : Same F F'
  new : ∀ a o, F' a = some o → F a = some o ∨ Nw H a o
theorem Ext.toB {b : Addr} {F H F' H' : Hp} {o : HO} (e : Ext F H F' H') (h : H b = some o) (t : nT o) : ExtB b F H F' H' := ⟨fun a o _ q => e.same a o q, ⟨o, e.same _ _ h, t⟩, e.sub, e.ext, e.new⟩
theorem ExtB.trans {b : Addr} {F H F1 H1 F2 H2 : Hp} (x : ExtB b F H F1 H1) (y : ExtB b F1 H1 F2 H2) : ExtB b F H F2 H2 :=
  ⟨fun a o n q => y.same a o n (x.same a o n q), y.there, y.sub, x.ext.trans y.ext, fun a o q => by
    rcases y.new a o q with z | z
    · exact x.new a o z
    · refine .inr ?_
      by_cases e : a = b
      · subst e
        obtain ⟨o2, q2, nt_⟩ := x.there
        exact (z.not q2 nt_).elim
      · exact z.back fun o' q3 => x.same a o' e q3⟩
theorem ExtB.stays {b : Addr} {F H F' H' : Hp} {p : Addr} {o : HO} (e : ExtB b F H F' H') (hf : F p = none) (h : H p = some o) (t : nT o) : F' p = none := by
  cases q : F' p with
  | none => rfl
  | some u =>
    rcases e.new p u q with z | z
    · rw [hf] at z
      cases z
    · exact (z.not h t).elim
theorem Own.moreB {K : PySem.W.Frag} {b : Addr} {F H F' H' : Hp} {a : Addr} {d : D} (e : ExtB b F H F' H') (n : a ≠ b) (h : Own K F H a d) : Own K F' H' a d := by
  obtain ⟨o, q, nt_⟩ := h.there
  exact h.move e.ext ((e.same _ _ n q).trans q.symm)
theorem Holds.moreB {K : PySem.W.Frag} {G : Gd} {ρ : Rho} {σ : St} {F H F' H' : Hp} {i : Nat} {l : Bool} {d d' : D} {b : Addr} (h : Holds K G ρ σ F H) (hi : ρ[i]? = some (some (.own l d))) (hb : σ[i]? = some (some (.ref b))) (e : ExtB b F H F' H') (ho : Own K F' H' b d') :
    Holds K G (ρ.set i (some (.own l d'))) σ F' H' := by
  obtain ⟨b', h1, hf, h0, hw⟩ := h.own i l d hi
  rw [hb] at h1
  cases h1
  obtain ⟨ob, hob, nt_⟩ := hw.there
  have il : i < ρ.length := by
    rcases Nat.lt_or_ge i ρ.length with z | z
    · exact z
    · rw [List.getElem?_eq_none z] at hi
      cases hi
  have nb : ∀ a o, G.H0 a = some o → a ∉ G.bs → a ≠ b := fun a o q n z => by
    subst z
    cases l with
    | true =>
      rw [h0.1] at q
      cases q
    | false => exact n h0
  refine ⟨⟨e.sub, fun a o q n => e.same a o (nb a o q n) (h.base a o q n), fun a ha => ?_, h.ext.trans e.ext, fun a o q => ?_⟩, fun j x q => ?_, fun j m x q => ?_, fun j k l1 l2 d1 d2 a n q1 q2 s1 s2 => ?_, by simpa using h.len⟩
  · by_cases z : a = b
    · subst z
      exact e.there
    · obtain ⟨o, q, t⟩ := h.bsT a ha
      exact ⟨o, e.same a o z q, t⟩
  · rcases e.new a o q with z | z
    · exact h.new a o z
    · exact .inr (h.toGnd.nwG z)
  · rcases set_at q with ⟨rfl, z⟩ | ⟨n, z⟩
    · cases z
    · obtain ⟨v, g1, g2⟩ := h.val j x z
      exact ⟨v, g1, g2.mono e.ext⟩
  · rcases set_at q with ⟨rfl, z⟩ | ⟨n, z⟩
    · cases z
      exact ⟨b, hb, e.stays hf hob nt_, h0, ho⟩
    · obtain ⟨a, g1, g2, g3, g4⟩ := h.own j m x z
      have ne : a ≠ b := fun z' => by
        subst z'
        exact h.sep i j _ _ _ _ a n hi z hb g1
      obtain ⟨oa, hoa, nt_⟩ := g4.there
      exact ⟨a, g1, e.stays g2 hoa nt_, g3, g4.moreB e ne⟩
  · rcases set_at q1 with ⟨rfl, z⟩ | ⟨n1, z1⟩
    · rcases set_at q2 with ⟨rfl, z2⟩ | ⟨n2, z2⟩
      · exact n rfl
      · exact h.sep _ _ _ _ _ _ a n hi z2 s1 s2
    · rcases set_at q2 with ⟨rfl, z2⟩ | ⟨n2, z2⟩
      · exact h.sep _ _ _ _ _ _ a n z1 hi s1 s2
      · exact h.sep j k l1 l2 d1 d2 a n z1 z2 s1 s2
def PostB {α β : Type} (K : PySem.W.Frag) (Rl : Hp → α → β → Prop) (b : Addr) (F H : Hp) (Q : α → Hp → Prop) : Rs (β × List D) → Prop
  | .ok r => ∀ v F' H', ExtB b F H F' H' → Rl F' v r.1 → Own K F' H' b (.lst r.2) → Q v H'
  | _ => False
theorem PostB.more {α β : Type} {K : PySem.W.Frag} {Rl : Hp → α → β → Prop} {b : Addr} {F H F' H' : Hp} {Q : α → Hp → Prop} {m : Rs (β × List D)} (h : PostB K Rl b F H Q m) (e : ExtB b F H F' H') : PostB K Rl b F' H' Q m := by
  cases m with
  | ok d => exact fun v F2 H2 e2 r => h v F2 H2 (e.trans e2) r
  | ex c fs => exact h
  | no => exact h
theorem PostB.bind {α β γ δ : Type} {K : PySem.W.Frag} {R1 : Hp → α → β → Prop} {R2 : Hp → γ → δ → Prop} {b : Addr} {F H : Hp} {Q1 : α → Hp → Prop} {Q : γ → Hp → Prop} {m : Rs (β × List D)} {f : β × List D → Rs (δ × List D)}
    (h : PostB K R2 b F H Q (m.bind f)) (k : ∀ r v F' H', ExtB b F H F' H' → R1 F' v r.1 → Own K F' H' b (.lst r.2) → PostB K R2 b F' H' Q (f r) → Q1 v H') : PostB K R1 b F H Q1 m := by
  cases m with
  | ok d => exact fun v F2 H2 e2 r o => k d v F2 H2 e2 r o (PostB.more h e2)
  | ex c fs => exact h
  | no => exact h
abbrev RFb (K : PySem.W.Frag) : Hp → V → D → Prop := fun F v d => Rep K F v d
abbrev RLb (K : PySem.W.Frag) : Hp → List V → List D → Prop := fun F v d => Reps K F v d
abbrev RBb : Hp → Bool → Bool → Prop := fun _ b c => b = c
abbrev At (ρ : Rho) (i : Nat) (l : Bool) (s : List D) : Prop := ρ[i]? = some (some (.own l (.lst s)))
def EB (X : Cx) (G : Gd) (ρ : Rho) (i : Nat) (e : Expr) (m : Rs (D × List D)) : Prop :=
  ∀ F0 σ F H Q b, Holds X.K (G.at F0) ρ σ F H → σ[i]? = some (some (.ref b)) → PostB X.K (RFb X.K) b F H Q m → ∃ t, PE X e t ∧ t σ H Q
def AB (X : Cx) (G : Gd) (ρ : Rho) (i : Nat) (es : List Expr) (m : Rs (List D × List D)) : Prop :=
  (∀ r, m = .ok r → r.1.length = es.length) ∧ ∀ F0 σ F H Q b, Holds X.K (G.at F0) ρ σ F H → σ[i]? = some (some (.ref b)) → PostB X.K (RLb X.K) b F H Q m → ∃ t, PA X es t ∧ t σ H Q
def TB (X : Cx) (G : Gd) (ρ : Rho) (i : Nat) (e : Expr) (m : Rs (Bool × List D)) : Prop :=
  ∀ F0 σ F H Q b, Holds X.K (G.at F0) ρ σ F H → σ[i]? = some (some (.ref b)) → PostB X.K RBb b F H Q m → ∃ t, PT X e t ∧ t σ H Q
def tAnyE (X : Cx) (e : Expr) : TE := fun σ H Q => ∃ t, PE X e t ∧ t σ H Q
theorem pe_any {X : Cx} {e : Expr} : PE X e (tAnyE X e) := ⟨fun pins s σ H Q I ⟨_, p, h⟩ => p.run pins s σ H Q I h⟩
def tAnyA (X : Cx) (es : List Expr) : TA := fun σ H Q => ∃ t, PA X es t ∧ t σ H Q
theorem pa_any {X : Cx} {es : List Expr} : PA X es (tAnyA X es) := ⟨fun pos pins s σ H Q I ⟨_, p, h⟩ => p.run pos pins s σ H Q I h⟩
section
variable {X : Cx} {G : Gd} {ρ : Rho} {i : Nat} {l : Bool} {s : List D} {e a b c : Expr} {es : List Expr} {pos p : Pos}
theorem post_toB {α β : Type} {K : PySem.W.Frag} {Rl : Hp → Hp → α → β → Prop} {Rb : Hp → α → β → Prop} {σ : St} {F0 F H : Hp} {bx : Addr} {Q : α → Hp → Prop} {m : Rs β} (hR : ∀ F H v d, Rl F H v d → Rb F v d) (hi : At ρ i l s) (hh : Holds K (G.at F0) ρ σ F H) (hb : σ[i]? = some (some (.ref bx)))
    (h : PostB K Rb bx F H Q (m.bind fun d => .ok (d, s))) : Post K Rl (fun c d H => W0 c d σ H) F H Q m := by
  cases m with
  | ok d =>
    intro v F' H' e1 r1
    obtain ⟨b', h1, hf, h0, hw⟩ := hh.own i l _ hi
    rw [hb] at h1
    cases h1
    obtain ⟨o, ho, nt_⟩ := hw.there
    exact h v F' H' (e1.toB ho nt_) (hR _ _ _ _ r1) (hw.ext e1)
  | ex c fs => exact h.elim
  | no => exact h.elim
theorem eb_pure {m : Rs D} (he : EV X G W0 ρ e m) (hi : At ρ i l s := by rfl) : EB X G ρ i e (m.bind fun d => .ok (d, s)) := by
  obtain ⟨t, p, q⟩ := he
  intro F0 σ F H Q b hh hb hp
  exact ⟨t, p, q F0 σ F H Q hh (post_toB (fun _ _ _ _ r => r) hi hh hb hp)⟩
theorem bin_B {r : R2} {f : D → D → Option D} {ma : Rs (D × List D)} {mb : List D → Rs (D × List D)} (hf : R2ok X.K r f) (ha : EB X G ρ i a ma) (hb : ∀ s', EB X G (ρ.set i (some (.own l (.lst s')))) i b (mb s')) (hi : At ρ i l s)
    {F0 : Hp} {σ : St} {F H : Hp} {Q : VK} {bx : Addr} (hh : Holds X.K (G.at F0) ρ σ F H) (hbx : σ[i]? = some (some (.ref bx))) (hp : PostB X.K (RFb X.K) bx F H Q (ma.bind fun u => (mb u.2).bind fun v => (Rs.of (f u.1 v.1)).bind fun d => .ok (d, v.2))) :
    tAnyE X a σ H fun x H1 => tAnyE X b σ H1 fun y H2 => r x y H2 Q := by
  refine ha F0 σ F H _ bx hh hbx (hp.bind fun u x F1 H1 e1 r1 o1 hp1 => ?_)
  refine hb u.2 F0 σ F1 H1 _ bx (hh.moreB hi hbx e1 o1) hbx (hp1.bind fun v y F2 H2 e2 r2 o2 hp2 => ?_)
  cases hd : f u.1 v.1 with
  | none => rw [hd] at hp2; exact hp2.elim
  | some d =>
    rw [hd] at hp2
    obtain ⟨ob, hob, nt_⟩ := o2.there
    exact hf e2.sub (.inl (r1.mono e2.ext)) (.inl r2) hd fun w F3 H3 e3 r3 => hp2 w F3 H3 (e3.toB hob nt_) r3 (o2.ext e3)
theorem eb_bin {op : Operator} {r : R2} {f : D → D → Option D} {ma : Rs (D × List D)} {mb : List D → Rs (D × List D)} (ho : OpR X (binaryOp op) r) (hf : R2ok X.K r f) (ha : EB X G ρ i a ma) (hb : ∀ s', EB X G (ρ.set i (some (.own l (.lst s')))) i b (mb s')) (hi : At ρ i l s := by rfl) :
    EB X G ρ i (.BinOp a op b pos) (ma.bind fun u => (mb u.2).bind fun v => (Rs.of (f u.1 v.1)).bind fun d => .ok (d, v.2)) := fun F0 σ F H Q bx hh hbx hp => ⟨_, pe_op ho pe_any pe_any, bin_B hf ha hb hi hh hbx hp⟩
def TWB (X : Cx) (G : Gd) (ρ : Rho) (i : Nat) (e : Expr) (m : Rs (Bool × List D)) : Prop :=
  ∀ F0 σ F H Q b, Holds X.K (G.at F0) ρ σ F H → σ[i]? = some (some (.ref b)) → PostB X.K RBb b F H Q m → ∃ t, PW X e t ∧ t σ H Q
theorem TWB.tb {m : Rs (Bool × List D)} (h : TWB X G ρ i a m) : TB X G ρ i a m := fun F0 σ F H Q b hh hb hp => by
  obtain ⟨t, p, q⟩ := h F0 σ F H Q b hh hb hp
  exact ⟨t, p.pt, q⟩
theorem ab_nil (hi : At ρ i l s := by rfl) : AB X G ρ i [] (.ok ([], s)) := ⟨fun r h => by cases h; rfl, fun F0 σ F H Q b hh hb hp => by
  obtain ⟨b', h1, hf, h0, hw⟩ := hh.own i l _ hi
  rw [hb] at h1
  cases h1
  obtain ⟨o, ho, nt_⟩ := hw.there
  exact ⟨_, pa_nil, hp [] F H ((Ext.refl hh.sub).toB ho nt_) .nil hw⟩⟩
theorem ab_cons {m : Rs (D × List D)} {ms : List D → Rs (List D × List D)} (ha : EB X G ρ i e m) (hr : ∀ s', AB X G (ρ.set i (some (.own l (.lst s')))) i es (ms s')) (hs : starEach (e :: es) X.env = (false, eval e X.env) :: starEach es X.env := by rfl) (hi : At ρ i l s := by rfl) :
    AB X G ρ i (e :: es) (m.bind fun u => (ms u.2).bind fun v => .ok (u.1 :: v.1, v.2)) := by
  refine ⟨fun r h => ?_, fun F0 σ F H Q bx hh hbx hp => ⟨_, pa_cons pe_any pa_any hs, ?_⟩⟩
  · cases m with
    | ok u =>
      simp only [Rs.bind_ok] at h
      cases hm : ms u.2 with
      | ok v =>
        rw [hm] at h
        cases h
        exact congrArg (· + 1) ((hr u.2).1 v hm)
      | ex c fs => rw [hm] at h; cases h
      | no => rw [hm] at h; cases h
    | ex c fs => cases h
    | no => cases h
  · refine ha F0 σ F H _ bx hh hbx (hp.bind fun u x F1 H1 e1 r1 o1 hp1 => ?_)
    refine (hr u.2).2 F0 σ F1 H1 _ bx (hh.moreB hi hbx e1 o1) hbx (hp1.bind fun v y F2 H2 e2 r2 o2 hp2 => ?_)
    obtain ⟨ob, hob, nt_⟩ := o2.there
    exact hp2 _ F2 H2 ((Ext.refl e2.sub).toB hob nt_) (.cons (r1.mono e2.ext) r2) o2
theorem eb_tup {x1} {ms : Rs (List D × List D)} (h : AB X G ρ i es ms) (hl : Nat.ble es.length sizeLine = true := by rfl) : EB X G ρ i (.Tuple es x1 pos) (ms.bind fun v => .ok (.tup v.1, v.2)) := by
  intro F0 σ F H Q bx hh hbx hp
  refine ⟨_, pe_tup pa_any, h.2 F0 σ F H _ bx hh hbx ?_⟩
  cases ms with
  | ex c fs => exact hp
  | no => exact hp
  | ok v =>
    intro xs F1 H1 e1 r1 o1
    obtain ⟨ob, hob, nt_⟩ := o1.there
    have l2 : xs.length ≤ sizeLine := by
      rw [Reps.length r1, h.1 v rfl]
      exact Nat.le_of_ble_eq_true hl
    exact ⟨l2, fun q hn => hp _ _ _ (e1.trans ((Ext.fresh e1.sub _ hn).toB hob nt_)) (new_tup e1.sub hn l2 r1) (o1.ext (Ext.fresh e1.sub _ hn))⟩
theorem reps_h {K : PySem.W.Frag} {F H : Hp} : ∀ {vs : List V} {ds : List D}, Reps K F vs ds → RepHs K F H vs ds
  | _, _, .nil => .nil
  | _, _, .cons h r => .cons (.inl h) (reps_h r)
theorem eb_callTy {id : String} {x : Str} {r : List V → Hp → VK → Prop} {f : List D → Option D} {ms : Rs (List D × List D)} (hc : CallR X (.type id) r) (hf : RCok X.K r f) (hm : X.mg x = none) (hv : bootBuiltins x = some (.type id)) (ha : AB X G ρ i (e :: es) ms) (hg : Gl X x := by rfl) (hn : x ≠ "__name__" := by decide)
    (hdb : (x == ("__debug__" : Str)) = false := by decide) (he : starEach (e :: es) X.env = (false, eval e X.env) :: starEach es X.env := by rfl) (hpl : (backTo pos (starEach es X.env)).any (·.1) = false := by rfl) : EB X G ρ i (.Call (.Name x p) (e :: es) [] pos) (ms.bind fun v => (Rs.of (f v.1)).bind fun d => .ok (d, v.2)) := by
  intro F0 σ F H Q bx hh hbx hp
  refine ⟨_, pe_callTy hc hg hm hv pa_any hn hdb he hpl, ha.2 F0 σ F H _ bx hh hbx (hp.bind fun u xs F1 H1 e1 r1 o1 hp1 => ?_)⟩
  cases hd : f u.1 with
  | none => rw [hd] at hp1; exact hp1.elim
  | some d =>
    rw [hd] at hp1
    obtain ⟨ob, hob, nt_⟩ := o1.there
    exact hf e1.sub (reps_h r1) hd fun w F3 H3 e3 r3 => hp1 w F3 H3 (e3.toB hob nt_) r3 (o1.ext e3)
theorem eb_own {k : Nat} {f : Addr} {fd : FuncData} {ps : List Str} {m : List D → Rs D} {x : Str} {ms : Rs (List D × List D)} (Fk : Keeps X.prog X.w X.K X.mg X.base k f fd ps m) (hr : Room k X.A) (hm : X.mg x = some (.ref f)) (hk : PySem.W.keepIn X.K (.ref f) = true)
    (hb : Binds X.K fd ps []) (ha : AB X G ρ i (e :: es) ms) (hln : (e :: es).length = ps.length := by rfl) (hg : Gl X x := by rfl) (hdb : (x == ("__debug__" : Str)) = false := by decide) (he : starEach (e :: es) X.env = (false, eval e X.env) :: starEach es X.env := by rfl)
    (hpl : (backTo pos (starEach es X.env)).any (·.1) = false := by rfl) : EB X G ρ i (.Call (.Name x p) (e :: es) [] pos) (ms.bind fun v => (m v.1).bind fun d => .ok (d, v.2)) := by
  intro F0 σ F H Q bx hh hbx hp
  refine ⟨_, pe_callSD (E := WE W0) Fk hr hg hm hk hb .nil (fun σ => L2N.passAt takes0N σ) pa_any hdb he hpl, ha.2 F0 σ F H _ bx hh hbx ?_⟩
  cases ms with
  | ex c fs => exact hp
  | no => exact hp
  | ok v =>
    intro vs F' H' e1 r1 o1
    show spM X.K ps.length m (vs ++ []) H' Q _
    rw [List.append_nil]
    refine ⟨(Reps.length r1).trans ((ha.1 v rfl).trans hln), F', v.1, e1.sub, r1, ?_⟩
    simp only [Rs.bind_ok] at hp
    obtain ⟨ob, hob, nt_⟩ := o1.there
    cases hm : m v.1 with
    | ex c fs => rw [hm] at hp; exact hp.elim
    | no => rw [hm] at hp; exact hp.elim
    | ok d =>
      rw [hm] at hp
      exact fun w F2 H2 e2 r2 => hp w F2 H2 (e1.trans (e2.toB hob nt_)) r2 (o1.ext e2)
end
end VL
set_option Elab.async false
set_option linter.all false
set_option maxRecDepth 100000
set_option autoImplicit false
namespace VL
open PySem PySem.Spec L2
open PyProof.Rows hiding St
def spIO (K : PySem.W.Frag) (n : Nat) (m : List D → List D → Rs (D × List D)) : Sp := fun vs H Q _ => vs.length = n ∧ ∃ b ws F ds s, vs = .ref b :: ws ∧ Same F H ∧ F b = none ∧ Own K F H b (.lst s) ∧ Reps K F ws ds ∧ PostB K (RFb K) b F H Q (m s ds)
abbrev KeepsIO (P : Program) (w : World) (K : PySem.W.Frag) (mg : Str → Option Value) (base : Heap) (k : Nat) (f : Addr) (fd : FuncData) (ps : List Str) (m : List D → List D → Rs (D × List D)) : Prop := FnOk P w K mg base (L2N.CX P w) k f fd ps (spIO K ps.length m)
section
variable {X : Cx} {G : Gd} {ρ : Rho} {i : Nat} {l : Bool} {s : List D} {e a b c : Expr} {es : List Expr} {pos p p2 : Pos}
theorem eb_io {k : Nat} {f : Addr} {fd : FuncData} {ps : List Str} {m : List D → List D → Rs (D × List D)} {x bn : Str} {ms : Rs (List D × List D)} (Fk : KeepsIO X.prog X.w X.K X.mg X.base k f fd ps m) (hr : Room k X.A) (hm : X.mg x = some (.ref f)) (hk : PySem.W.keepIn X.K (.ref f) = true)
    (hb : Binds X.K fd ps []) (hv : PE X (.Name bn p2) (tVar i)) (ha : AB X G ρ i es ms) (hi : At ρ i l s := by rfl) (hln : es.length + 1 = ps.length := by rfl) (hg : Gl X x := by rfl) (hdb : (x == ("__debug__" : Str)) = false := by decide) (he : starEach (.Name bn p2 :: es) X.env = (false, eval (.Name bn p2) X.env) :: starEach es X.env := by rfl)
    (hpl : (backTo pos (starEach es X.env)).any (·.1) = false := by rfl) : EB X G ρ i (.Call (.Name x p) (.Name bn p2 :: es) [] pos) (ms.bind fun v => m v.2 v.1) := by
  intro F0 σ F H Q bx hh hbx hp
  refine ⟨_, pe_callSD (E := WE W0) Fk hr hg hm hk hb .nil (fun σ => L2N.passAt takes0N σ) (pa_cons hv pa_any he) hdb he hpl, _, hbx, ha.2 F0 σ F H _ bx hh hbx ?_⟩
  cases ms with
  | ex c fs => exact hp
  | no => exact hp
  | ok v =>
    intro ws F' H' e1 r1 o1
    show spIO X.K ps.length m (.ref bx :: ws ++ []) H' Q _
    rw [List.append_nil]
    obtain ⟨b', h1, hf, h0, hw⟩ := hh.own i l _ hi
    rw [hbx] at h1
    cases h1
    obtain ⟨o, ho, nt_⟩ := hw.there
    refine ⟨by rw [List.length_cons, Reps.length r1, ha.1 v rfl]; exact hln, bx, ws, F', v.1, v.2, rfl, e1.sub, e1.stays hf ho nt_, o1, r1, PostB.more (m := m v.2 v.1) hp e1⟩
end
section
variable {X : Cx} {G : Gd} {W : WX} {ρx ρ : Rho} {rest sts : List Stmt} {α β R : Type} {pn : α → Rho} {pl : β → Rho} {ι : R → Fl α β} {i : Nat} {l : Bool} {s : List D}
theorem postS_noX {γ : Type} {F0 : Hp} {E : Ends} {m : Rs γ} {f : γ → Rs (Fl α β)} (h : PostS X.K (G.at F0) W ρx pn pl E (m.noX.bind f)) : ∃ r, m = .ok r ∧ PostS X.K (G.at F0) W ρx pn pl E (f r) := by
  cases m with
  | ok r => exact ⟨r, rfl, h⟩
  | ex c fs => exact h.elim
  | no => exact h.elim
theorem box_at {F0 : Hp} {σ : St} {F H : Hp} (hh : Holds X.K (G.at F0) ρ σ F H) (hi : At ρ i l s) : ∃ b, σ[i]? = some (some (.ref b)) := by
  obtain ⟨b, h1, _⟩ := hh.own i l _ hi
  exact ⟨b, h1⟩
abbrev ioI {α β : Type} : D × List D → Fl α β := fun p => .rt p.1 [.lst p.2]
theorem bk_retB {e : Expr} {pos : Pos} {b : Addr} {m : Rs (D × List D)} (he : EB X G ρ i e m) (hi : At ρ i false s := by rfl) (hb : G.bs = [b] := by rfl) : BI X G W ρx ρ (.Return (some e) pos :: rest) pn pl ioI m.noX := by
  intro F0 σ F H E hh hp
  have hp' : PostS X.K (G.at F0) W ρx pn pl E (m.noX.bind fun r => (.ok (ioI r) : Rs (Fl α β))) := hp
  obtain ⟨r, rfl, hp2⟩ := postS_noX hp'
  obtain ⟨b', hb'⟩ := box_at hh hi
  refine any_cons (ps_ret pe_any) (he F0 σ F H _ b' hh hb' fun v F' H' e1 r1 o1 => ?_)
  have hh1 := hh.moreB hi hb' e1 o1
  have hi2 : (ρ.set i (some (.own false (.lst r.2))))[i]? = some (some (Cl.own false (.lst r.2))) := by
    rw [List.getElem?_set_self]
    rcases Nat.lt_or_ge i ρ.length with z | z
    · exact z
    · have hi' : ρ[i]? = _ := hi
      rw [List.getElem?_eq_none z] at hi'
      cases hi'
  obtain ⟨a, g1, g2, g3, g4⟩ := hh1.own i false _ hi2
  refine hp2 v F' H' hh1.toGnd r1 ?_
  have g3' : a ∈ G.bs := g3
  show OwnsL X.K F' H' G.bs _
  rw [hb] at g3' ⊢
  cases List.mem_singleton.mp g3'
  refine ⟨rfl, fun j a' q' => ?_⟩
  cases j with
  | zero =>
    cases q'
    exact ⟨g2, _, rfl, g4⟩
  | succ j => simp at q'
theorem bi_retP {e : Expr} {pos : Pos} {b : Addr} {m : Rs D} (he : EV X G W ρ e m) (hi : At ρ i false s := by rfl) (hb : G.bs = [b] := by rfl) (wx : Wk ρ ρx := by first | exact Wk.nil | exact Wk.refl | (repeat (first | exact Wk.nil | apply Wk.keep | apply Wk.drop))) : BI X G W ρx ρ (.Return (some e) pos :: rest) pn pl ioI (m.bind fun d => .ok (d, s)) := by
  unfold BI
  rw [Rs.assoc]
  exact bk_retIO (i := i) (b := b) (s := .lst s) he hi hb wx
theorem bi_ifrI {c : Expr} {a : List Stmt} {pos : Pos} {tc : Rs Bool} {ma mr : Rs R} (ι' : R → Fl Empty β) (hι : ∀ r, (ι' r).lift = ι r) (hc : TV X G W ρ c tc) (ha : BI X G W ρx ρ a pEmp pl ι' ma) (hr : BI X G W ρx ρ rest pn pl ι mr) (wx : Wk ρ ρx := by first | exact Wk.nil | exact Wk.refl | (repeat (first | exact Wk.nil | apply Wk.keep | apply Wk.drop))) :
    BI X G W ρx ρ (.If c a [] pos :: rest) pn pl ι (tc.bind fun k => if k then ma else mr) := by
  unfold BI
  have z := bk_ifr hc ha hr wx (pos := pos)
  have e2 : ((tc.bind fun k => if k then ma else mr).bind fun r => (.ok (ι r) : Rs (Fl α β))) = tc.bind fun k => if k then liftF (ma.bind fun r => .ok (ι' r)) else (mr.bind fun r => .ok (ι r)) := by
    cases tc with
    | ok k =>
      cases k with
      | true =>
        cases ma with
        | ok r => simp only [liftF, Rs.bind_ok, if_true, hι]
        | ex c fs => rfl
        | no => rfl
      | false => rfl
    | ex c fs => rfl
    | no => rfl
  rw [e2]
  exact z
end
theorem keeps_io {P : Program} {w : World} {K : PySem.W.Frag} {mg : Str → Option Value} {base : Heap} {x qual : Str} {params : Arguments} {body : List Stmt} {scope : Scope} {dvs : List V} {kws : List (Str × V)} {f : Addr} {fd : FuncData} {N ps : List Str} {k : Nat} {m : List D → List D → Rs (D × List D)}
    (Fd : FunD K x qual params body scope dvs kws f fd) (S : FnScope N ps scope)
    (hb : ∀ (cdv : Value) (A : Around) (outer : List Env) (s : Shared) (H : Hp) (E : XK) (F : Hp) (b : Addr) (s0 ds : List D), ds.length + 1 = ps.length → Room k (A.deeper (envOfC qual scope s.heap.objs.size f cdv)) →
      BI (cxOf (L2N.CX P w) P w K mg base N qual scope f cdv A outer s H E) ⟨F, H, [b]⟩ (fun c d _ H => E c d H) [] (some (Cl.own false (.lst s0)) :: ds.map (fun d => some (Cl.val d)) ++ List.replicate (N.length - (ds.length + 1)) none) body (fun _ : Unit => []) (fun _ : Unit => []) ioI ((m s0 ds).noX)) :
    KeepsIO P w K mg base (k + 1) f fd ps m := by
  refine Fd.ok S (fun vs H Q E h => h.1) (fun cdv A outer s H vs Q E hr h => ?_)
  obtain ⟨hl, b, ws, F, ds, s0, rfl, hs, hFb, hob, hr1, hp⟩ := h
  have hlen : ds.length + 1 = ps.length := by rw [← hr1.length]; exact hl
  have hbk := hb cdv A outer s H E F b s0 ds hlen hr
  obtain ⟨ob, hobh, nt_⟩ := hob.there
  have at0 : ∀ (i : Nat) (c : Cl), (some (Cl.own false (.lst s0)) :: ds.map (fun d => some (Cl.val d)) ++ List.replicate (N.length - (ds.length + 1)) none)[i]? = some (some c) → (i = 0 ∧ c = .own false (.lst s0)) ∨ ∃ j d, i = j + 1 ∧ ds[j]? = some d ∧ c = .val d := fun i c q => by
    cases i with
    | zero => exact .inl ⟨rfl, by simpa using q.symm⟩
    | succ j =>
      obtain ⟨d, h1, h2⟩ := rho_start (ds := ds) (n := N.length - (ds.length + 1)) (i := j) (c := c) (by simpa using q)
      exact .inr ⟨j, d, rfl, h1, h2⟩
  refine hbk F (L2.start N (.ref b :: ws)) F H _ ⟨⟨hs, fun a o q _ => q, fun a q => ?_, Same.refl F, fun a o q => .inl q⟩, fun i d q => ?_, fun i l d q => ?_, fun i j l m' d e a n q q2 => ?_, ?_⟩ ?_
  · have : a = b := by simpa [Gd.at] using q
    subst this
    exact ⟨_, hobh, nt_⟩
  · rcases at0 i _ q with ⟨_, z⟩ | ⟨j, d', rfl, h1, h2⟩
    · cases z
    · cases h2
      obtain ⟨v, g1, g2⟩ := hr1.get h1
      refine ⟨v, ?_, g2⟩
      unfold L2.start
      rw [List.getElem?_append_left (by
        rw [List.length_map, List.length_cons]
        rcases Nat.lt_or_ge j ws.length with z | z
        · omega
        · rw [List.getElem?_eq_none z] at g1; cases g1), List.getElem?_map, List.getElem?_cons_succ, g1]
      rfl
  · rcases at0 i _ q with ⟨rfl, z⟩ | ⟨j, d', rfl, h1, h2⟩
    · cases z
      exact ⟨b, rfl, hFb, by simp [OwnAt, Gd.at], hob⟩
    · cases h2
  · rcases at0 i _ q with ⟨rfl, z⟩ | ⟨_, d', rfl, h1, h2⟩
    · rcases at0 j _ q2 with ⟨rfl, z2⟩ | ⟨_, d', rfl, h1, h2⟩
      · exact absurd rfl n
      · cases h2
    · cases h2
  · unfold L2.start
    simp only [List.length_append, List.length_map, List.length_cons, List.length_replicate]
    rw [hr1.length]
    exact Nat.le_refl _
  · cases hm : m s0 ds with
    | ex c fs => rw [hm] at hp; exact hp.elim
    | no => rw [hm] at hp; exact hp.elim
    | ok r =>
      rw [hm] at hp
      refine fun v F' H' g rv ow => ?_
      obtain ⟨_, ow⟩ := ow
      obtain ⟨f1, d, hd, ho⟩ := ow 0 b rfl
      cases hd
      obtain ⟨o', ho', nt_⟩ := ho.there
      refine hp v F' H' ⟨fun a o n q => g.base a o q (by simpa [Gd.at] using n), ⟨o', ho', nt_⟩, g.sub, g.ext, fun a o q => ?_⟩ rv ho
      rcases g.new a o q with z | z
      · exact .inl z
      · rcases z with z | z
        · exact .inr (.inl z.1)
        · exact .inr (.inr ⟨z.1, z.2.1⟩)
end VL
set_option Elab.async false
set_option linter.all false
set_option maxRecDepth 100000
set_option autoImplicit false
namespace VL
open PySem PySem.Spec L2
open PyProof.Rows hiding St
def PostN (K : PySem.W.Frag) (b : Addr) (F H : Hp) (Q : VK) : Rs (List D × List D) → Prop
  | .ok r => ∀ a F' H', ExtB b F H F' H' → H a = none → F' a = none → Own K F' H' a (.lst r.1) → Own K F' H' b (.lst r.2) → Q (.ref a) H'
  | _ => False
def tAnyI (X : Cx) (tg iter : Expr) : TI := fun σ H R => ∃ w, PI X tg iter w ∧ w σ H R
theorem pi_any {X : Cx} {tg iter : Expr} : PI X tg iter (tAnyI X tg iter) := ⟨fun pins s σ H R I ⟨_, p, h⟩ => p.run pins s σ H R I h⟩
def IB (X : Cx) (G : Gd) (ρ : Rho) (i : Nat) (tg iter : Expr) (m : Rs (List D × List D)) : Prop :=
  ∀ F0 σ F H R b, Holds X.K (G.at F0) ρ σ F H → σ[i]? = some (some (.ref b)) → PostB X.K (fun F' J ds => Walks X.K J F' ds) b F H R m → tAnyI X tg iter σ H R
def compBM {γ : Type} (u : D → Option γ) (fc : γ → List D → Rs (Bool × List D)) (fe : γ → List D → Rs (D × List D)) : List D → List D → Rs (List D × List D)
  | [], s => .ok ([], s)
  | d :: ds, s => (Rs.of (u d)).bind fun y => (fc y s).noX.bind fun b => if b.1 then (fe y b.2).noX.bind fun e => (compBM u fc fe ds e.2).bind fun es => .ok (e.1 :: es.1, es.2) else compBM u fc fe ds b.2
def TBs (X : Cx) (G : Gd) (ρ : Rho) (i : Nat) (ifs : List Expr) (m : Rs (Bool × List D)) : Prop :=
  ∀ F0 σ F H Q b, Holds X.K (G.at F0) ρ σ F H → σ[i]? = some (some (.ref b)) → PostB X.K RBb b F H Q m → ∃ t, PTs X ifs t ∧ t σ H Q
section
variable {X : Cx} {G : Gd} {ρ : Rho} {i : Nat} {l : Bool} {s : List D} {tg e a b c : Expr} {es : List Expr} {pos p p2 : Pos}
theorem tbs_nil (hi : At ρ i l s := by rfl) : TBs X G ρ i [] (.ok (true, s)) := fun F0 σ F H Q b hh hb hp => by
  obtain ⟨b', h1, hf, h0, hw⟩ := hh.own i l _ hi
  rw [hb] at h1
  cases h1
  obtain ⟨o, ho, nt_⟩ := hw.there
  exact ⟨_, pts_nil, hp true F H ((Ext.refl hh.sub).toB ho nt_) rfl hw⟩
theorem ib_pure {m : Rs (List D)} (h : IT X G W0 ρ tg e m) (hi : At ρ i l s := by rfl) : IB X G ρ i tg e (m.bind fun ds => .ok (ds, s)) := by
  obtain ⟨w, p, q⟩ := h
  intro F0 σ F H R b hh hb hp
  exact ⟨w, p, q F0 σ F H R hh (post_toB (fun _ _ _ _ r => r) hi hh hb hp)⟩
theorem PostB.noX {α β γ δ : Type} {K : PySem.W.Frag} {R1 : Hp → α → β → Prop} {b : Addr} {F H : Hp} {Q1 : α → Hp → Prop} {m : Rs (β × List D)} (h : ∀ r, m = .ok r → ∀ v F' H', ExtB b F H F' H' → R1 F' v r.1 → Own K F' H' b (.lst r.2) → Q1 v H') (hn : m.noX ≠ .no) : PostB K R1 b F H Q1 m := by
  cases m with
  | ok d => exact h d rfl
  | ex c fs => exact absurd rfl hn
  | no => exact absurd rfl hn
theorem ExtB.beside {b : Addr} {F1 H1 F H : Hp} {p : Addr} {o : HO} (e : ExtB b F1 H1 F H) (h1 : H1 p = none) (hf : F p = none) (n : p ≠ b) : ExtB b F1 H1 F (upd H p o) :=
  ⟨fun c x nb q => by
    rw [upd_ne (ne_of_none q h1)]
    exact e.same _ _ nb q, by
    obtain ⟨o', q, nt_⟩ := e.there
    exact ⟨o', by rw [upd_ne (Ne.symm n)]; exact q, nt_⟩, fun c x q => by
    have n : c ≠ p := fun n => by
      subst n
      rw [hf] at q
      cases q
    rw [upd_ne n]
    exact e.sub _ _ q, e.ext, e.new⟩
theorem holds_box {K : PySem.W.Frag} {σ : St} {F0 F H : Hp} {bx : Addr} (hh : Holds K (G.at F0) ρ σ F H) (hi : At ρ i l s) (hb : σ[i]? = some (some (.ref bx))) : F bx = none ∧ Own K F H bx (.lst s) := by
  obtain ⟨b', h1, hf, h0, hw⟩ := hh.own i l _ hi
  rw [hb] at h1
  cases h1
  exact ⟨hf, hw⟩
theorem at_set {ρ : Rho} {i : Nat} {l : Bool} {s s' : List D} (h : At ρ i l s) : At (ρ.set i (some (.own l (.lst s')))) i l s' := by
  show (ρ.set i _)[i]? = _
  rw [List.getElem?_set_self]
  rcases Nat.lt_or_ge i ρ.length with z | z
  · exact z
  · have h' : ρ[i]? = _ := h
    rw [List.getElem?_eq_none z] at h'
    cases h'
theorem lc_readB {γ : Type} {u : D → Option γ} {p : γ → List D → Rho} {is vs : List Nat} {iter elt : Expr} {ifs : List Expr} {scope : Scope} {mi : Rs (List D × List D)} {fc : γ → List D → Rs (Bool × List D)} {fe : γ → List D → Rs (D × List D)}
    (hi : At ρ i l s) (hiv : i ∉ vs) (qI : IB X G ρ i tg iter mi) (his : ∀ j ∈ is, j ∈ vs)
    (ht : ∀ s H C cl fp s', TT1 (XB X scope s H C cl fp) G tg (rWipe (ρ.set i (some (.own l (.lst s')))) vs) is u (fun y => p y s')) (hc : ∀ s H C cl fp y s', TBs (XB X scope s H C cl fp) G (p y s') i ifs (fc y s')) (he : ∀ s H C cl fp y s', EB (XB X scope s H C cl fp) G (p y s') i elt (fe y s'))
    (hpi : ∀ y s', At (p y s') i l s') (hps : ∀ y s' s'', (p y s').set i (some (.own l (.lst s''))) = p y s'')
    {F0 : Hp} {σ : St} {F H : Hp} {Q : VK} {bx : Addr} (hh : Holds X.K (G.at F0) ρ σ F H) (hbx : σ[i]? = some (some (.ref bx))) (hp : PostN X.K bx F H Q (mi.bind fun it => compBM u fc fe it.1 it.2)) :
    tLc (tAnyI X tg iter) (gAll X scope tg) (ttAll X scope ifs) (teAll X scope elt) vs σ H Q := by
  refine qI F0 σ F H _ bx hh hbx ?_
  cases mi with
  | ex c fs => exact hp
  | no => exact hp
  | ok it =>
  obtain ⟨items, s1⟩ := it
  have hp : PostN X.K bx F H Q (compBM u fc fe items s1) := hp
  intro J F1 H1 e1 hw ob1 D0 hD
  have hh1 := hh.moreB hi hbx e1 ob1
  have nD : D0 ≠ bx := fun z => by
    subst z
    obtain ⟨o, q, nt_⟩ := e1.there
    rw [hD] at q
    cases q
  have hDH : H D0 = none := by
    cases q : H D0 with
    | none => rfl
    | some o => rw [e1.same _ _ nD q] at hD; cases hD
  have h0 := hh1.toGnd.free0 hD
  have hno1 := fun j l e q => hh1.notOwn hD j l e q
  have hno : ∀ (s2 : List D) (j : Nat) (l' : Bool) (e : D), (ρ.set i (some (.own l (.lst s2))))[j]? = some (some (.own l' e)) → σ[j]? ≠ some (some (.ref D0)) := fun s2 j l' e q => by
    rcases set_at q with ⟨rfl, z⟩ | ⟨n, z⟩
    · rw [hbx]
      intro h
      cases h
      exact nD rfl
    · refine hno1 j l' e ?_
      show (ρ.set i _)[j]? = _
      rw [List.getElem?_set_ne n]
      exact z
  have hFD : F1 D0 = none := sub_none e1.sub hD
  refine ⟨fun k m H2 => m = items.length - k ∧ k ≤ items.length ∧ ∃ F2 acc s2, Holds X.K (G.at F0) (ρ.set i (some (.own l (.lst s2)))) σ F2 H2 ∧ ExtB bx F1 H1 F2 H2 ∧ F2 D0 = none ∧ Own X.K F2 H2 D0 (.lst acc) ∧ acc.length ≤ k ∧
      PostN X.K bx F H Q ((compBM u fc fe (items.drop k) s2).bind fun es => .ok (acc ++ es.1, es.2)), ⟨items.length, by simp, Nat.zero_le _, F1, [], s1, hh1.free hFD h0 (hno s1), ?_, hFD, .lst upd_same (Nat.zero_le _) .nil, Nat.zero_le _, ?_⟩, ?_⟩
  · obtain ⟨o, q, nt_⟩ := e1.there
    exact ExtB.beside ((Ext.refl e1.sub).toB q nt_) hD hFD nD
  · have e : ((compBM u fc fe (items.drop 0) s1).bind fun es => (.ok ([] ++ es.1, es.2) : Rs (List D × List D))) = compBM u fc fe items s1 := by
      rw [List.drop_zero]
      cases compBM u fc fe items s1 <;> rfl
    rw [e]
    exact hp
  · rintro k m H2 ⟨rfl, hil, F2, acc, s2, hh2, x2, f2, o2, la, hp2⟩
    obtain ⟨wgo, wstop⟩ := hw.2 F2 H2 x2.ext hh2.sub
    by_cases hlt : k < items.length
    · have hg : items[k]? = some items[k] := List.getElem?_eq_getElem hlt
      obtain ⟨g1, g2⟩ := wgo k _ hg
      rw [List.drop_eq_getElem_cons hlt] at hp2
      refine .inr ⟨g1, fun H' => ∃ F' acc' s', Holds X.K (G.at F0) (ρ.set i (some (.own l (.lst s')))) σ F' H' ∧ ExtB bx F1 H1 F' H' ∧ F' D0 = none ∧ Own X.K F' H' D0 (.lst acc') ∧ acc'.length ≤ k + 1 ∧ PostN X.K bx F H Q ((compBM u fc fe (items.drop (k + 1)) s').bind fun es => .ok (acc' ++ es.1, es.2)),
        fun H' ⟨F', acc', s', q1, q2, q3, q4, q5, q6⟩ => ⟨items.length - (k + 1), by omega, rfl, hlt, F', acc', s', q1, q2, q3, q4, q5, q6⟩, fun x H' y => ?_⟩
      obtain ⟨F3, e3, r3⟩ := g2 x H' y
      have hh3 := hh2.more e3
      have o3 := o2.ext e3
      obtain ⟨xs2, q2', _, _⟩ := o2.asL
      have f3 := e3.stays f2 q2' (fun _ z => nomatch z)
      have x3 : ExtB bx F1 H1 F3 H' := by
        obtain ⟨o, q, nt_⟩ := x2.there
        exact x2.trans (e3.toB q nt_)
      simp only [compBM] at hp2
      cases hu : u items[k] with
      | none =>
        rw [hu] at hp2
        exact hp2.elim
      | some y =>
        rw [hu] at hp2
        simp only [Rs.of_some, Rs.bind_ok] at hp2
        intro s' H0' C' cl' fp'
        refine ht s' H0' C' cl' fp' s2 F0 _ F3 H' x _ y _ (hh3.wipe vs) r3 hu fun σ4 w4 hh4 => ⟨?_, ?_⟩
        · rw [w4 vs his]
          exact wipe_wipe fun i hi => hi
        have hb4 : σ4[i]? = some (some (.ref bx)) := by
          have z1 := wipe_get (σ := σ4) hiv
          rw [w4 vs his, wipe_wipe fun i hi => hi, wipe_get hiv] at z1
          rw [← z1]
          exact hbx
        intro s5 H05 C5 cl5 fp5
        refine hc s5 H05 C5 cl5 fp5 y s2 F0 σ4 F3 H' _ bx hh4 hb4 (PostB.noX (γ := Unit) (δ := Unit) (fun rb hb v F4 H4 e4 rv ob4 => ?_) fun hn => ?_)
        · obtain ⟨bb, s4⟩ := rb
          have rv' : v = bb := rv
          subst rv'
          rw [hb] at hp2
          simp only [Rs.noX_ok, Rs.bind_ok] at hp2
          have hh4' : Holds X.K (G.at F0) (ρ.set i (some (.own l (.lst s4)))) σ F4 H4 := by
            have z := hh3.moreB (at_set hi) hbx e4 ob4
            rw [List.set_set] at z
            exact z
          have o4 := o3.moreB e4 nD
          obtain ⟨xs3, q3', _, _⟩ := o3.asL
          have f4 := e4.stays f3 q3' (fun _ z => nomatch z)
          cases v with
          | true =>
            refine iteT ?_
            intro s6 H06 C6 cl6 fp6
            have hh44 : Holds X.K (G.at F0) (p y s4) σ4 F4 H4 := by
              have z := hh4.moreB (hpi y s2) hb4 e4 ob4
              have z2 := hps y s2 s4
              rw [z2] at z
              exact z
            refine he s6 H06 C6 cl6 fp6 y s4 F0 σ4 F4 H4 _ bx hh44 hb4 (PostB.noX (γ := Unit) (δ := Unit) (fun rd hd v F5 H5 e5 r5 ob5 => ?_) fun hn => ?_)
            · obtain ⟨d, s5'⟩ := rd
              simp only [if_true] at hp2
              rw [hd] at hp2
              simp only [Rs.noX_ok, Rs.bind_ok] at hp2
              have hh5 : Holds X.K (G.at F0) (ρ.set i (some (.own l (.lst s5')))) σ F5 H5 := by
                have z := hh4'.moreB (at_set hi) hbx e5 ob5
                rw [List.set_set] at z
                exact z
              have o5 := o4.moreB e5 nD
              obtain ⟨xs4, q4', _, _⟩ := o4.asL
              have f5 := e5.stays f4 q4' (fun _ z => nomatch z)
              obtain ⟨xs5, q5', l5, r5'⟩ := o5.asL
              have lx : xs5.length < sizeLine := by
                rw [r5'.length]
                have hw1 : items.length ≤ sizeLine := hw.1
                omega
              refine ⟨xs5, q5', lx, F5, acc ++ [d], s5', hh5.free f5 h0 (hno s5'), ExtB.beside (x3.trans (e4.trans e5)) hD f5 nD, f5, .lst upd_same ?_ (r5'.append (.one r5)), ?_, ?_⟩
              · rw [List.length_append, List.length_singleton]
                exact lx
              · rw [List.length_append, List.length_singleton]
                omega
              · have e : ((compBM u fc fe (items.drop (k + 1)) s5').bind fun es => (.ok (acc ++ [d] ++ es.1, es.2) : Rs (List D × List D))) = (((compBM u fc fe (items.drop (k + 1)) s5').bind fun es => (.ok (d :: es.1, es.2) : Rs (List D × List D))).bind fun es => .ok (acc ++ es.1, es.2)) := by
                  cases compBM u fc fe (items.drop (k + 1)) s5' with
                  | ok es => simp
                  | ex _ _ => rfl
                  | no => rfl
                rw [e]
                exact hp2
            · simp only [if_true] at hp2
              rw [hn] at hp2
              exact hp2.elim
          | false =>
            refine iteF ⟨F4, acc, s4, hh4', x3.trans e4, f4, o4, by omega, ?_⟩
            simpa using hp2
        · rw [hn] at hp2
          exact hp2.elim
    · have ei : k = items.length := by omega
      subst ei
      rw [List.drop_length] at hp2
      simp only [compBM, Rs.bind_ok, List.append_nil] at hp2
      exact .inl ⟨wstop, hp2 D0 F2 H2 (e1.trans x2) hDH f2 o2 (holds_box hh2 (at_set hi) hbx).2⟩
def EFB (X : Cx) (G : Gd) (ρ : Rho) (i : Nat) (e : Expr) (m : Rs (List D × List D)) : Prop :=
  ∀ F0 σ F H Q b, Holds X.K (G.at F0) ρ σ F H → σ[i]? = some (some (.ref b)) → PostN X.K b F H Q m → ∃ t, PE X e t ∧ t σ H Q
theorem EFB.eb {m : Rs (List D × List D)} (h : EFB X G ρ i e m) : EB X G ρ i e (m.bind fun v => .ok (.lst v.1, v.2)) := by
  intro F0 σ F H Q b hh hb hp
  refine h F0 σ F H Q b hh hb ?_
  cases m with
  | ex c fs => exact hp
  | no => exact hp
  | ok r =>
    intro a F' H' e1 hn hf ho hob
    obtain ⟨o, ha, hr⟩ := ho.rep rfl e1.sub hf
    refine hp _ (upd F' a o) H' ⟨e1.same, e1.there, fun c x q => ?_, e1.ext.trans (same_upd hf), fun c x q => ?_⟩ hr (hob.move (same_upd hf) rfl)
    · by_cases e : c = a
      · subst e
        rw [upd_same] at q
        cases q
        exact ha
      · rw [upd_ne e] at q
        exact e1.sub _ _ q
    · by_cases e : c = a
      · subst e
        exact .inr (.inl hn)
      · rw [upd_ne e] at q
        exact e1.new _ _ q
theorem efb_comp {γ : Type} {u : D → Option γ} {p : γ → List D → Rho} {is : List Nat} {own : List (Str × Nat)} {iter elt : Expr} {ifs : List Expr} {scope : Scope} {mi : Rs (List D × List D)} {fc : γ → List D → Rs (Bool × List D)} {fe : γ → List D → Rs (D × List D)}
    (calm : X.calm = true) (nd : X.N.Nodup) (qI : IB X G ρ i tg iter mi) (ok : BlkOk X.N X.env.scope scope own) (his : ∀ j ∈ is, j ∈ own.map (·.2)) (hiv : i ∉ own.map (·.2))
    (ht : ∀ s H C cl fp s', TT1 (XB X scope s H C cl fp) G tg (rWipe (ρ.set i (some (.own l (.lst s')))) (own.map (·.2))) is u (fun y => p y s')) (hc : ∀ s H C cl fp y s', TBs (XB X scope s H C cl fp) G (p y s') i ifs (fc y s')) (he : ∀ s H C cl fp y s', EB (XB X scope s H C cl fp) G (p y s') i elt (fe y s'))
    (hi : At ρ i l s := by rfl) (hpi : ∀ y s', At (p y s') i l s' := by intro _ _; rfl) (hps : ∀ y s' s'', (p y s').set i (some (.own l (.lst s''))) = p y s'' := by intro _ _ _; rfl)
    (hs : ∀ x, foldedSetIterable iter X.env x = pure x := by intro _; rfl) : EFB X G ρ i (.ListComp elt [⟨tg, iter, ifs, 0⟩] scope pos) (mi.bind fun it => compBM u fc fe it.1 it.2) :=
  fun F0 σ F H Q b hh hb hp => ⟨_, pe_lc calm nd pi_any ok hgAll htAll heAll hs, lc_readB hi hiv qI his ht hc he hpi hps hh hb hp⟩
def AFB (X : Cx) (G : Gd) (ρ : Rho) (i : Nat) (st : Stmt) (j : Nat) (m : Rs (List D × List D)) : Prop :=
  ∀ F0 σ F H Q b, Holds X.K (G.at F0) ρ σ F H → σ[i]? = some (some (.ref b)) → PostN X.K b F H Q m → ∃ te, PS X st (tAsg te (gName j)) ∧ te σ H Q
def ASB (X : Cx) (G : Gd) (ρ : Rho) (i : Nat) (st : Stmt) (j : Nat) (m : Rs (D × List D)) : Prop :=
  ∀ F0 σ F H Q b, Holds X.K (G.at F0) ρ σ F H → σ[i]? = some (some (.ref b)) → PostB X.K (RFb X.K) b F H Q m → ∃ te, PS X st (tAsg te (gName j)) ∧ te σ H Q
theorem asb_eb {j : Nat} {x : Str} {pos' : Pos} {m : Rs (D × List D)} (nd : X.N.Nodup) (h : EB X G ρ i e m) (hj : X.N[j]? = some x := by rfl) (hx : Loc X.env.scope x := by first | exact Or.inl rfl | exact Or.inr rfl) (hs : swapsWith e (some (.Name x pos')) pos.line X.env = pure false := by rfl)
    (hf : X.fn x = true ∨ X.env.scope.names.lookup x = some .local := by first | exact .inl rfl | exact .inr rfl) : ASB X G ρ i (.Assign [.Name x pos'] e pos) j m := fun F0 σ F H Q b hh hb hp => by
  obtain ⟨t, p, q⟩ := h F0 σ F H Q b hh hb hp
  exact ⟨t, ps_set nd hj hx p hs hf, q⟩
theorem afb_efb {j : Nat} {x : Str} {pos' : Pos} {m : Rs (List D × List D)} (nd : X.N.Nodup) (h : EFB X G ρ i e m) (hj : X.N[j]? = some x := by rfl) (hx : Loc X.env.scope x := by first | exact Or.inl rfl | exact Or.inr rfl) (hs : swapsWith e (some (.Name x pos')) pos.line X.env = pure false := by rfl)
    (hf : X.fn x = true ∨ X.env.scope.names.lookup x = some .local := by first | exact .inl rfl | exact .inr rfl) : AFB X G ρ i (.Assign [.Name x pos'] e pos) j m := fun F0 σ F H Q b hh hb hp => by
  obtain ⟨t, p, q⟩ := h F0 σ F H Q b hh hb hp
  exact ⟨t, ps_set nd hj hx p hs hf, q⟩
end
section
variable {X : Cx} {G : Gd} {W : WX} {ρx ρ : Rho} {rest sts : List Stmt} {α β R : Type} {pn : α → Rho} {pl : β → Rho} {ι : R → Fl α β} {i : Nat} {l : Bool} {s : List D}
theorem bi_setS {j : Nat} {st : Stmt} {m : Rs (D × List D)} {f : D → List D → Rs R} (he : ASB X G ρ i st j m) (hr : ∀ d s', BI X G W ρx ((ρ.set i (some (.own l (.lst s')))).set j (some (.val d))) rest pn pl ι (f d s')) (hi : At ρ i l s := by rfl) (hl : j < ρ.length := by exact Nat.le_of_ble_eq_true rfl) :
    BI X G W ρx ρ (st :: rest) pn pl ι (m.noX.bind fun u => f u.1 u.2) := by
  intro F0 σ F H E hh hp
  rw [Rs.assoc] at hp
  obtain ⟨r, rfl, hp⟩ := postS_noX hp
  obtain ⟨b, hb⟩ := box_at hh hi
  obtain ⟨te, p, q⟩ := he F0 σ F H (fun v H' => gName j v σ H' (fun σ' H' => tAny X rest E σ' H')) b hh hb fun v F' H' e1 r1 o1 => hr r.1 r.2 F0 _ F' H' E ((hh.moreB hi hb e1 o1).setV r1 (by rw [List.length_set]; exact hl)) hp
  exact any_cons p q
theorem bi_ownS {j : Nat} {st : Stmt} {m : Rs (List D × List D)} {f : List D → List D → Rs R} (he : AFB X G ρ i st j m) (hr : ∀ d s', BI X G W ρx ((ρ.set i (some (.own l (.lst s')))).set j (some (.own true (.lst d)))) rest pn pl ι (f d s')) (hi : At ρ i l s := by rfl) (hl : j < ρ.length := by exact Nat.le_of_ble_eq_true rfl) :
    BI X G W ρx ρ (st :: rest) pn pl ι (m.noX.bind fun u => f u.1 u.2) := by
  intro F0 σ F H E hh hp
  rw [Rs.assoc] at hp
  obtain ⟨r, rfl, hp⟩ := postS_noX hp
  obtain ⟨b, hb⟩ := box_at hh hi
  obtain ⟨te, p, q⟩ := he F0 σ F H (fun v H' => gName j v σ H' (fun σ' H' => tAny X rest E σ' H')) b hh hb fun a F' H' e1 hn hf ho hob => by
    have hh1 := hh.moreB hi hb e1 hob
    obtain ⟨hfb, hwb⟩ := holds_box hh hi hb
    obtain ⟨ob, hob2, nt_⟩ := hwb.there
    have nab : a ≠ b := fun z => by
      subst z
      rw [hn] at hob2
      cases hob2
    refine hr r.1 r.2 F0 _ F' H' E (hh1.setO ho hf (hh.toGnd.free0 hn) ?_ (by rw [List.length_set]; exact hl)) hp
    intro k l' e qk sk
    rcases set_at qk with ⟨rfl, z⟩ | ⟨n, z⟩
    · rw [hb] at sk
      cases sk
      exact nab rfl
    · exact hh.notOwn hn k l' e z sk
  exact any_cons p q
end
end VL
set_option Elab.async false
set_option linter.all false
set_option maxRecDepth 100000
set_option autoImplicit false
namespace VL
open PySem PySem.Spec L2
open PyProof.Rows hiding St
section
variable {X : Cx} {G : Gd} {W : WX} {ρ : Rho} {e : Expr} {es : List Expr} {m : Rs D} {κ : Kt} {pos p : Pos}
theorem RepHs.append {K : PySem.W.Frag} {F H : Hp} : ∀ {vs ws : List V} {ds es : List D}, RepHs K F H vs ds → RepHs K F H ws es → RepHs K F H (vs ++ ws) (ds ++ es)
  | _, _, _, _, .nil, h => h
  | _, _, _, _, .cons a r, h => .cons a (RepHs.append r h)
end
section
variable {X : Cx} {CX : CXT} {k n : Nat} {f : Addr} {fd : FuncData} {ps ks : List Str} {sp : Sp} {E : L2.St → XK} {x : Str} {p pos : Pos} {e : Expr} {es : List Expr} {kws : List Keyword} {t tk : TA} {g : List Value → List Value → List Value} {gV : List V → List V → List V}
theorem run_fnKS {pins : List (Addr × Obj)} {σ : L2.St} {H : Hp} {s : Shared} {Q : VK} {us ws : List Value} {vs zs : List V} (F : FnOk X.prog X.w X.K X.mg X.base CX k f fd ps sp) (hr : Room k X.A) (hb : KBn X.K fd ps n ks g gV) (hx : PassesAt CX X σ (E σ))
    (I : Inv X pins σ H s) (r : Vals vs us) (rz : Vals zs ws) (l1 : vs.length = n) (l2 : zs.length = ks.length) (h : sp (gV vs zs) H Q (E σ)) : wpAny (model X.prog X.w) X.A (call (.ref f) us (ks.zip ws)) (EP X pins σ Q) X.xe s := by
  have r2 := hb.rel r rz
  refine wpAny_call (codeAny_mono (F.run X.A X.stack s H ⟨us, ks.zip ws⟩ (g us ws) (gV vs zs) Q (E σ) hr I.env0 (hb.to s us ws I.kIn (r.length.symm.trans l1) (rz.length.symm.trans l2)) r2 h) fun r s' hq => ?_)
  cases r with
  | error e => exact hx pins H s e s' I hq
  | ok fl =>
    cases fl with
    | ret u => exact I.after hq
    | next => exact False.elim hq
    | brk => exact False.elim hq
    | cont => exact False.elim hq
def tCallKS (n m : Nat) (sp : Sp) (gV : List V → List V → List V) (E : L2.St → XK) (t tk : TA) : TE := fun σ H Q => t σ H fun vs H1 => tk σ H1 fun zs H2 => vs.length = n ∧ zs.length = m ∧ sp (gV vs zs) H2 Q (E σ)
theorem pe_callKS0 (F : FnOk X.prog X.w X.K X.mg X.base CX k f fd ps sp) (hr : Room k X.A) (hg : Gl X x) (hm : X.mg x = some (.ref f)) (hk : PySem.W.keepIn X.K (.ref f) = true) (hb : KBn X.K fd ps 0 ks g gV) (hx : ∀ σ, PassesAt CX X σ (E σ))
    (hkw : PK X kws tk) (hall : (backToKw pos (keywordEach kws X.env)).all (·.1.isSome) = true := by rfl) (hks : (backToKw pos (keywordEach kws X.env)).filterMap (·.1) = ks := by rfl)
    (hdb : (x == ("__debug__" : Str)) = false := by decide)
    (hpl : ((backTo pos (starEach [] X.env)).any (·.1) || (backToKw pos (keywordEach kws X.env)).any (·.1.isNone)) = false := by rfl) :
    PE X (.Call (.Name x p) [] kws pos) (tCallKS 0 ks.length sp gV E tNil tk) := by
  refine ⟨fun pins s σ H Q I h => ?_⟩
  refine wpAny_Call_Name_kw (ld_glob I hg hm ?_ hdb)
  refine PySem.W.callWith_KW0 (h₀ := X.base) I.ok.mod.kin hk hall (thn (hkw.run pos pins s σ H _ I h) fun ws s2 ⟨zs, H2, I2, rz, l1, l2, q2⟩ => ⟨I2.kIn, ?_⟩) hpl
  rw [hks]
  exact run_fnKS (us := []) F hr hb (hx σ) I2 .nil rz l1 l2 q2
end
def gOf {α : Type} (is : List Nat) (us ws : List α) : List α := us ++ is.filterMap (ws[·]?)
theorem vals_pick {zs : List V} {ws : List Value} (h : Vals zs ws) : ∀ is : List Nat, Vals (is.filterMap (zs[·]?)) (is.filterMap (ws[·]?))
  | [] => .nil
  | i :: is => by
    rw [List.filterMap_cons, List.filterMap_cons]
    cases hz : zs[i]? with
    | none =>
      rw [h.none_of hz]
      exact vals_pick h is
    | some z =>
      obtain ⟨u, hu, r⟩ := h.get hz
      rw [hu]
      exact .cons r (vals_pick h is)
theorem reps_pick {K : PySem.W.Frag} {F : Hp} {zs : List V} {ws : List D} (h : Reps K F zs ws) : ∀ is : List Nat, Reps K F (is.filterMap (zs[·]?)) (is.filterMap (ws[·]?))
  | [] => .nil
  | i :: is => by
    rw [List.filterMap_cons, List.filterMap_cons]
    cases hz : zs[i]? with
    | none =>
      have : ws[i]? = none := by
        cases hw : ws[i]? with
        | none => rfl
        | some d =>
          obtain ⟨v, h1, _⟩ := h.get hw
          rw [hz] at h1
          cases h1
      rw [this]
      exact reps_pick h is
    | some z =>
      obtain ⟨u, hu, r⟩ := h.getV hz
      rw [hu]
      exact .cons r (reps_pick h is)
theorem kbN {K : PySem.W.Frag} {x qual : Str} {params : Arguments} {body : List Stmt} {scope : Scope} {kws : List (Str × V)} {f : Addr} {fd : FuncData} {ps : List Str} (F : FunD K x qual params body scope [] kws f fd) (n : Nat) (ks : List Str) (is : List Nat)
    (h : ∀ (kV doc pm : Value) (an : Option Addr) (cdv ct : Value) (us ws : List Value), us.length = n → ws.length = ks.length → bindArgs (PySem.W.fnOf x qual params body scope .none kV doc pm an cdv ct) ⟨us, ks.zip ws⟩ = pure (ps.zip (gOf is us ws))) : KBn K fd ps n ks (gOf is) (gOf is) := by
  obtain ⟨oc, od, dV, kV, doc, pm, an, cdv, ct, osl, rfl, lk, hcd, hD, hK⟩ := F.ex
  rcases hD with ⟨_, rfl⟩ | ⟨e, _⟩
  · exact ⟨fun s us ws _ h1 h2 => .of_eq (h kV doc pm an cdv ct us ws h1 h2), fun r1 r2 => r1.append (vals_pick r2 is)⟩
  · exact absurd rfl e
def KV (X : Cx) (G : Gd) (W : WX) (ρ : Rho) (kws : List Keyword) (m : Rs (List D)) : Prop :=
  (∀ r, m = .ok r → r.length = kws.length) ∧ ∃ t, PK X kws t ∧ ∀ F0 σ F H Q, Holds X.K (G.at F0) ρ σ F H → Post X.K (RL X.K) (fun c d H => W c d σ H) F H Q m → t σ H Q
def KC (X : Cx) (G : Gd) (W : WX) (ρ : Rho) (kws : List Keyword) (κ : Kt) : Prop := ∃ ms, KV X G W ρ kws ms ∧ ∀ (β : Type) (k : List D → Rs β), κ β k = ms.bind k
section
variable {X : Cx} {G : Gd} {W : WX} {ρ : Rho} {e : Expr} {es : List Expr} {m : Rs D} {κ κ' : Kt} {pos p kpos : Pos} {kws : List Keyword} {nm : Option Str}
theorem kc_nil : KC X G W ρ [] (fun β k => k []) := ⟨.ok [], ⟨fun r h => by cases h; rfl, _, pk_nil, fun F0 σ F H Q hh hp => hp [] F H (Ext.refl hh.sub) .nil⟩, fun _ _ => rfl⟩
theorem kc_cons (ha : EV X G W ρ e m) (hr : KC X G W ρ kws κ) : KC X G W ρ (⟨nm, e, kpos⟩ :: kws) (fun β k => m.bind fun x => κ β fun xs => k (x :: xs)) := by
  obtain ⟨ms, ⟨hl, t, pt, qt⟩, h2⟩ := hr
  obtain ⟨te, pe, qe⟩ := ha
  refine ⟨_, ⟨fun r h => ?_, _, pk_cons pe pt, fun F0 σ F H Q hh hp => ?_⟩, cons_eq h2⟩
  · cases m with
    | ok x =>
      cases ms with
      | ok xs =>
        cases h
        exact congrArg (· + 1) (hl xs rfl)
      | ex c fs => cases h
      | no => cases h
    | ex c fs => cases h
    | no => cases h
  · refine qe F0 σ F H _ hh (hp.bind fun d v F1 H1 e1 r1 hp1 => ?_)
    refine qt F0 σ F1 H1 _ (hh.more e1) (hp1.bind fun ds vs F2 H2 e2 r2 hp2 => ?_)
    exact hp2 _ F2 H2 (Ext.refl e2.sub) (.cons (r1.mono e2.ext) r2)
theorem ev_callK0 {k : Nat} {f : Addr} {fd : FuncData} {ps ks : List Str} {is : List Nat} {m : List D → Rs D} {x : Str} (tk : L2N.Takes X W) (Fk : Keeps X.prog X.w X.K X.mg X.base k f fd ps m) (hr : Room k X.A) (hm : X.mg x = some (.ref f)) (hk : PySem.W.keepIn X.K (.ref f) = true)
    (hb : KBn X.K fd ps 0 ks (gOf is) (gOf is)) (ha : KC X G W ρ kws κ) (hp : ∀ zs : List D, zs.length = ks.length → (gOf is [] zs).length = ps.length) (hln : kws.length = ks.length := by rfl)
    (hall : (backToKw pos (keywordEach kws X.env)).all (·.1.isSome) = true := by rfl) (hks : (backToKw pos (keywordEach kws X.env)).filterMap (·.1) = ks := by rfl) (hg : Gl X x := by rfl) (hdb : (x == ("__debug__" : Str)) = false := by decide)
    (hpl : ((backTo pos (starEach [] X.env)).any (·.1) || (backToKw pos (keywordEach kws X.env)).any (·.1.isNone)) = false := by rfl) : EV X G W ρ (.Call (.Name x p) [] kws pos) (κ D fun zs => m (gOf is [] zs)) := by
  obtain ⟨ms, ⟨hl, t, pt, qt⟩, h2⟩ := ha
  rw [h2]
  refine ⟨_, pe_callKS0 (E := WE W) Fk hr hg hm hk hb (fun σ => L2N.passAt tk σ) pt hall hks hdb hpl, fun F0 σ F H Q hh hq => ?_⟩
  refine qt F0 σ F H _ hh ?_
  cases ms with
  | ex c fs => exact hq
  | no => exact hq
  | ok ds =>
    intro vs F' H' e1 r1
    have l1 : ds.length = ks.length := (hl ds rfl).trans hln
    have r2 : Reps X.K F' (gOf is [] vs) (gOf is [] ds) := (Reps.nil).append (reps_pick r1 is)
    exact ⟨rfl, (Reps.length r1).trans l1, (Reps.length r2).trans (hp ds l1), F', _, e1.sub, r2, Post.more (m := m (gOf is [] ds)) hq e1⟩
end
end VL
set_option Elab.async false
set_option linter.all false
set_option maxRecDepth 100000
set_option autoImplicit false
namespace VL
open PySem PySem.Spec L2
open PyProof.Rows hiding St
def spF (K : PySem.W.Frag) (n : Nat) (m : List D → Rs (List D)) : Sp := fun vs H Q E => vs.length = n ∧ ∃ F ds, Same F H ∧ Reps K F vs ds ∧ Post K (RN K H) E F H Q (m ds).noX
abbrev KeepsF (P : Program) (w : World) (K : PySem.W.Frag) (mg : Str → Option Value) (base : Heap) (k : Nat) (f : Addr) (fd : FuncData) (ps : List Str) (m : List D → Rs (List D)) : Prop := FnOk P w K mg base (L2N.CX P w) k f fd ps (spF K ps.length m)
def PostR (K : PySem.W.Frag) (G : Gd) (W : WX) (E : Ends) : Rs (List D) → Prop
  | .ok r => ∀ a F H, Gnd K G F H → G.H0 a = none → F a = none → Own K F H a (.lst r) → E.rt (.ref a) H
  | _ => False
def BN (X : Cx) (G : Gd) (W : WX) (ρ : Rho) (sts : List Stmt) (m : Rs (List D)) : Prop :=
  ∀ F0 σ F H E, Holds X.K (G.at F0) ρ σ F H → PostR X.K (G.at F0) W E m → tAny X sts E σ H
section
variable {X : Cx} {G : Gd} {ρ : Rho} {rest : List Stmt} {e : Expr} {pos : Pos}
theorem bn_set {i : Nat} {st : Stmt} {m : Rs D} {f : D → Rs (List D)} (ha : AS X G W0 ρ st i m) (hr : ∀ d, BN X G W0 (ρ.set i (some (.val d))) rest (f d)) (hi : i < ρ.length := by exact Nat.le_of_ble_eq_true rfl) : BN X G W0 ρ (st :: rest) (m.bind f) := by
  obtain ⟨te, p, q⟩ := ha
  intro F0 σ F H E hh hp
  refine any_cons p (q F0 σ F H _ hh ?_)
  cases m with
  | ok d => exact fun v F' H' e1 r1 => hr d F0 _ F' H' E ((hh.more e1).setV r1 hi) hp
  | ex c fs => exact hp.elim
  | no => exact hp.elim
theorem bn_ret {m : Rs (List D)} (he : EF X G W0 ρ e m) : BN X G W0 ρ (.Return (some e) pos :: rest) m := by
  obtain ⟨te, p, q⟩ := he
  intro F0 σ F H E hh hp
  refine any_cons (ps_ret p) (q F0 σ F H _ hh ?_)
  cases m with
  | ok r =>
    intro v F' H' e1 r1
    obtain ⟨a, rfl, hn, hf, ho⟩ := r1
    exact hp a F' H' (hh.toGnd.more e1) (hh.toGnd.free0 hn).1 hf ho
  | ex c fs => exact hp.elim
  | no => exact hp.elim
theorem bn_as (ρ' : Rho) {sts : List Stmt} {m m' : Rs (List D)} (h : BN X G W0 ρ' sts m) (er : ρ = ρ') (e : m = m') : BN X G W0 ρ sts m' := by
  subst er e
  exact h
end
theorem holds_start {K : PySem.W.Frag} {F H : Hp} {N : List Str} {vs : List V} {ds : List D} (hs : Same F H) (hr1 : Reps K F vs ds) : Holds K (Gd.at ⟨F, H, []⟩ F) (ds.map (fun d => some (Cl.val d)) ++ List.replicate (N.length - ds.length) none) (L2.start N vs) F H := by
  refine ⟨⟨hs, fun a o q _ => q, fun a q => by simp [Gd.at] at q, Same.refl F, fun a o q => .inl q⟩, fun i d q => ?_, fun i l d q => ?_, fun i j l m' d e a n q => ?_, ?_⟩
  · obtain ⟨d', h1, h2⟩ := rho_start q
    cases h2
    obtain ⟨v, g1, g2⟩ := hr1.get h1
    refine ⟨v, ?_, g2⟩
    unfold L2.start
    rw [List.getElem?_append_left (by
      rw [List.length_map]
      rcases Nat.lt_or_ge i vs.length with z | z
      · exact z
      · rw [List.getElem?_eq_none z] at g1; cases g1), List.getElem?_map, g1]
    rfl
  · obtain ⟨d', h1, h2⟩ := rho_start q
    cases h2
  · obtain ⟨d', h1, h2⟩ := rho_start q
    cases h2
  · unfold L2.start
    rw [List.length_append, List.length_append, List.length_map, List.length_map, List.length_replicate, List.length_replicate, hr1.length]
    exact Nat.le_refl _
theorem keeps_new {P : Program} {w : World} {K : PySem.W.Frag} {mg : Str → Option Value} {base : Heap} {x qual : Str} {params : Arguments} {body : List Stmt} {scope : Scope} {dvs : List V} {kws : List (Str × V)} {f : Addr} {fd : FuncData} {N ps : List Str} {k : Nat} {m : List D → Rs (List D)}
    (Fd : FunD K x qual params body scope dvs kws f fd) (S : FnScope N ps scope)
    (hb : ∀ (cdv : Value) (A : Around) (outer : List Env) (s : Shared) (H : Hp) (E : XK) (F : Hp) (ds : List D), ds.length = ps.length → Room k (A.deeper (envOfC qual scope s.heap.objs.size f cdv)) →
      BN (cxOf (L2N.CX P w) P w K mg base N qual scope f cdv A outer s H E) ⟨F, H, []⟩ W0 (ds.map (fun d => some (Cl.val d)) ++ List.replicate (N.length - ds.length) none) body (m ds)) :
    KeepsF P w K mg base (k + 1) f fd ps m := by
  refine Fd.ok S (fun vs H Q E h => h.1) (fun cdv A outer s H vs Q E hr h => ?_)
  obtain ⟨hl, F, ds, hs, hr1, hp⟩ := h
  refine hb cdv A outer s H E F ds (hr1.length.symm.trans hl) hr F (start N vs) F H _ (holds_start hs hr1) ?_
  cases hm : m ds with
  | ok r =>
    rw [hm] at hp
    exact fun a F' H' g h0 hf ho => hp _ F' H' (gnd_ext g) ⟨a, rfl, h0, hf, ho⟩
  | ex c fs => rw [hm] at hp; exact hp.elim
  | no => rw [hm] at hp; exact hp.elim
section
variable {X : Cx} {G : Gd} {W : WX} {ρ : Rho} {e : Expr} {es : List Expr} {κ : Kt} {pos p : Pos}
theorem ef_callC {k : Nat} {f : Addr} {fd : FuncData} {ps : List Str} {m : List D → Rs (List D)} {x : Str} (Fk : KeepsF X.prog X.w X.K X.mg X.base k f fd ps m) (hr : Room k X.A) (hm : X.mg x = some (.ref f)) (hk : PySem.W.keepIn X.K (.ref f) = true)
    (hb : Binds X.K fd ps []) (ha : AC X G W ρ (e :: es) κ) (hln : (e :: es).length = ps.length := by rfl) (hg : Gl X x := by rfl) (hdb : (x == ("__debug__" : Str)) = false := by decide) (he : starEach (e :: es) X.env = (false, eval e X.env) :: starEach es X.env := by rfl)
    (hpl : (backTo pos (starEach es X.env)).any (·.1) = false := by rfl) : EF X G W ρ (.Call (.Name x p) (e :: es) [] pos) (κ (List D) fun ds => (m ds).noX) := by
  obtain ⟨ms, ⟨ln, t, pa, qa⟩, h2⟩ := ha
  rw [h2]
  refine ⟨_, pe_callSD (E := WE W0) Fk hr hg hm hk hb .nil (fun σ => L2N.passAt takes0N σ) pa hdb he hpl, fun F0 σ F H Q hh hp => ?_⟩
  refine qa F0 σ F H _ hh ?_
  cases ms with
  | ex c fs => exact hp
  | no => exact hp
  | ok ds =>
    intro vs F' H' e1 r1
    show spF X.K ps.length m (vs ++ []) H' Q _
    rw [List.append_nil]
    refine ⟨(Reps.length r1).trans ((ln ds rfl).trans hln), F', ds, e1.sub, r1, ?_⟩
    have hp' : Post X.K (RN X.K H) (fun c d H => W c d σ H) F H Q (m ds).noX := hp
    cases hmd : m ds with
    | ok r =>
      rw [hmd] at hp'
      refine fun v F2 H2 e2 r2 => hp' v F2 H2 (e1.trans e2) ?_
      obtain ⟨a, h1, h2, h3, h4⟩ := r2
      exact ⟨a, h1, e1.same.free h2, h3, h4⟩
    | ex c fs => rw [hmd] at hp'; exact hp'.elim
    | no => rw [hmd] at hp'; exact hp'.elim
theorem ev_box {k : Nat} {f : Addr} {fd : FuncData} {ps : List Str} {m : List D → List D → Rs (D × List D)} {x : Str} {mb : Rs (List D)} (Fk : KeepsIO X.prog X.w X.K X.mg X.base k f fd ps m) (hr : Room k X.A) (hm : X.mg x = some (.ref f)) (hk : PySem.W.keepIn X.K (.ref f) = true)
    (hb : Binds X.K fd ps []) (he0 : EF X G W ρ e mb) (ha : AC X G W ρ es κ) (hln : es.length + 1 = ps.length := by rfl) (hg : Gl X x := by rfl) (hdb : (x == ("__debug__" : Str)) = false := by decide) (he : starEach (e :: es) X.env = (false, eval e X.env) :: starEach es X.env := by rfl)
    (hpl : (backTo pos (starEach es X.env)).any (·.1) = false := by rfl) : EV X G W ρ (.Call (.Name x p) (e :: es) [] pos) (mb.bind fun s => κ D fun ds => (m s ds).noX.bind fun u => .ok u.1) := by
  obtain ⟨ms, ⟨ln, t, pa, qa⟩, h2⟩ := ha
  obtain ⟨te, pe, qe⟩ := he0
  refine ⟨_, pe_callSD (E := WE W0) Fk hr hg hm hk hb .nil (fun σ => L2N.passAt takes0N σ) (pa_cons pe pa he) hdb he hpl, fun F0 σ F H Q hh hp => ?_⟩
  refine qe F0 σ F H _ hh ?_
  cases mb with
  | ex c fs => exact hp
  | no => exact hp
  | ok s =>
    have hp : Post X.K (RF X.K) (fun c d H => W c d σ H) F H Q (κ D fun ds => (m s ds).noX.bind fun u => .ok u.1) := hp
    rw [h2] at hp
    rintro v F1 H1 e1 ⟨a, rfl, hn, hf, ho⟩
    refine qa F0 σ F1 H1 _ (hh.more e1) ?_
    cases ms with
    | ex c fs => exact Post.more hp e1
    | no => exact hp
    | ok ds =>
      intro vs F' H' e2 r1
      show spIO X.K ps.length m (.ref a :: vs ++ []) H' Q _
      rw [List.append_nil]
      obtain ⟨o, hob, nt_⟩ := ho.there
      refine ⟨by rw [List.length_cons, Reps.length r1, ln ds rfl]; exact hln, a, vs, F', ds, s, rfl, e2.sub, e2.stays hf hob nt_, ho.ext e2, r1, ?_⟩
      cases hmd : m s ds with
      | ex c fs => simp only [Rs.bind_ok, hmd] at hp; exact hp.elim
      | no => simp only [Rs.bind_ok, hmd] at hp; exact hp.elim
      | ok r =>
        simp only [Rs.bind_ok, hmd, Rs.noX_ok] at hp
        intro w F3 H3 e3 r3 o3
        refine hp w F3 H3 ⟨fun b x q => ?_, e3.sub, (e1.ext.trans e2.ext).trans e3.ext, fun b x q => ?_⟩ r3
        · have nb : b ≠ a := ne_of_none q hn
          exact e3.same _ _ nb (e2.same _ _ (e1.same _ _ q))
        · rcases e3.new b x q with z | z
          · exact (e1.trans e2).new b x z
          · exact .inr (z.back fun o' q2 => e2.same _ _ (e1.same _ _ q2))
end
def Fl.toIO {ε β' : Type} (f : ε → Rs (D × List D)) : Fl ε β' → Rs (D × List D)
  | .nx z => f z
  | .rt d [.lst s] => .ok (d, s)
  | _ => .no
section
variable {X : Cx} {G : Gd} {W : WX} {ρx ρ : Rho} {rest sts : List Stmt} {α β R : Type} {pn : α → Rho} {pl : β → Rho} {ι : R → Fl α β} {i : Nat} {l : Bool} {s : List D}
theorem bi_forIO {ε γ : Type} {post : ε → Rho} {u : D → Option γ} {p : ε → γ → Rho} {is : List Nat} {tg iter : Expr} {body : List Stmt} {pos : Pos} {mi : Rs (List D)} {fb : ε → γ → Rs (Fl ε ε)} {z0 : ε} {f : ε → Rs (D × List D)} {b : Addr}
    (po : PassesOwn (model X.prog X.w) X.A X.env X.xe) (calm : X.calm = true) (hbs : G.bs = [b]) (hi : IT X G W ρ tg iter mi) (h0 : Wk ρ (post z0)) (ht : ∀ z, TT1 X G tg (post z) is u (p z)) (hb : ∀ z y, BK X G W ρx (p z y) body post post (fb z y))
    (hr : ∀ z, BI X G W ρx (post z) rest pn pl ioI (f z)) (wx : Wk ρ ρx := by first | exact Wk.nil | exact Wk.refl | (repeat (first | exact Wk.nil | apply Wk.keep | apply Wk.drop))) (hs : ∀ x, foldedSetIterable iter X.env x = pure x := by intro _; rfl) :
    BI X G W ρx ρ (.For tg iter body [] pos :: rest) pn pl ioI (mi.bind fun items => (loopM (β := β) (fun z d => (Rs.of (u d)).bind (fb z)) items z0).bind (Fl.toIO f)) := by
  unfold BI
  have z := bk_for (pos := pos) po calm hi h0 ht hb hr wx hs
  intro F0 σ F H E hh hp
  refine z F0 σ F H E hh ?_
  cases mi with
  | ex c fs => exact hp
  | no => exact hp
  | ok items =>
    simp only [Rs.bind_ok] at hp ⊢
    cases hl : loopM (β := β) (fun z d => (Rs.of (u d)).bind (fb z)) items z0 with
    | ex c fs => rw [hl] at hp; exact hp
    | no => rw [hl] at hp; exact hp
    | ok fl =>
      rw [hl] at hp
      cases fl with
      | nx z => exact hp
      | bk y => exact hp.elim
      | ct y => exact hp.elim
      | rt d s =>
        simp only [Rs.bind_ok] at hp
        unfold Fl.toIO at hp
        split at hp
        · rename_i h; cases h
        · rename_i h; cases h; exact hp
        · exact hp.elim
end
end VL
set_option Elab.async false
set_option linter.all false
set_option maxRecDepth 100000
set_option autoImplicit false
namespace VL
open PySem PySem.Spec L2
open PyProof.Rows hiding St
def CellOk (K : PySem.W.Frag) (Hs F H : Hp) (o : Bool) (v : V) (d : D) : Prop := match o with
  | false => Rep K F v d
  | true => ∃ a, v = .ref a ∧ Hs a = none ∧ F a = none ∧ Own K F H a d
def clOf : Bool → D → Cl
  | false, d => .val d
  | true, d => .own true d
theorem CellOk.more {K : PySem.W.Frag} {Hs F H F' H' : Hp} {o : Bool} {v : V} {d : D} (e : Ext F H F' H') (h : CellOk K Hs F H o v d) : CellOk K Hs F' H' o v d := by
  cases o with
  | false => exact Rep.mono e.ext h
  | true =>
    obtain ⟨a, h1, h2, h3, h4⟩ := h
    obtain ⟨u, hu, nt_⟩ := h4.there
    exact ⟨a, h1, h2, e.stays h3 hu nt_, h4.ext e⟩
theorem CellOk.moreB {K : PySem.W.Frag} {Hs F H F' H' : Hp} {o : Bool} {v : V} {d : D} {b : Addr} (e : ExtB b F H F' H') (hb : Hs b ≠ none) (h : CellOk K Hs F H o v d) : CellOk K Hs F' H' o v d := by
  cases o with
  | false => exact Rep.mono e.ext h
  | true =>
    obtain ⟨a, h1, h2, h3, h4⟩ := h
    obtain ⟨u, hu, nt_⟩ := h4.there
    have n : a ≠ b := fun z => by subst z; exact hb h2
    exact ⟨a, h1, h2, e.stays h3 hu nt_, h4.moreB e n⟩
theorem Holds.setC {K : PySem.W.Frag} {G : Gd} {ρ : Rho} {σ : St} {Hs F H : Hp} {i : Nat} {o : Bool} {v : V} {d : D} (hh : Holds K G ρ σ F H) (c : CellOk K Hs F H o v d)
    (h0 : ∀ a, v = .ref a → Hs a = none → OwnAt G a true ∧ ∀ (j : Nat) (m : Bool) (e : D), ρ[j]? = some (some (.own m e)) → σ[j]? ≠ some (some (.ref a))) (hi : i < ρ.length) : Holds K G (ρ.set i (some (clOf o d))) (σ.set i (some v)) F H := by
  cases o with
  | false => exact hh.setV c hi
  | true =>
    obtain ⟨a, rfl, h2, h3, h4⟩ := c
    obtain ⟨g1, g2⟩ := h0 a rfl h2
    exact hh.setO h4 h3 g1 g2 hi
theorem Holds.setC2 {K : PySem.W.Frag} {G : Gd} {ρ0 ρ : Rho} {σ : St} {Fs Hs Hm F H : Hp} {i j : Nat} {o1 o2 : Bool} {v1 v2 : V} {d1 d2 : D} (hh0 : Holds K G ρ0 σ Fs Hs) (hρ : ∀ (k : Nat) (m : Bool) (e : D), ρ[k]? = some (some (.own m e)) → ∃ m' e', ρ0[k]? = some (some (.own m' e')))
    (hh : Holds K G ρ σ F H) (c1 : CellOk K Hs F H o1 v1 d1) (c2 : CellOk K Hm F H o2 v2 d2) (hsm : ∀ a, Hm a = none → Hs a = none) (hm : o1 = true → ∀ a, v1 = .ref a → Hm a ≠ none) (hij : i ≠ j) (hi : i < ρ.length) (hj : j < ρ.length) :
    Holds K G ((ρ.set i (some (clOf o1 d1))).set j (some (clOf o2 d2))) ((σ.set i (some v1)).set j (some v2)) F H := by
  have fr : ∀ a, Hs a = none → OwnAt G a true ∧ ∀ (j : Nat) (m : Bool) (e : D), ρ[j]? = some (some (.own m e)) → σ[j]? ≠ some (some (.ref a)) := fun a ha =>
    ⟨hh0.toGnd.free0 ha, fun k m e q => by
      obtain ⟨m', e', q'⟩ := hρ k m e q
      exact hh0.notOwn ha k m' e' q'⟩
  refine (hh.setC c1 (fun a _ ha => fr a ha) hi).setC c2 (fun a ea ha => ?_) (by rw [List.length_set]; exact hj)
  obtain ⟨g1, g2⟩ := fr a (hsm a ha)
  refine ⟨g1, fun k m e q => ?_⟩
  rcases set_at q with ⟨rfl, z⟩ | ⟨n, z⟩
  · rw [List.getElem?_set_self (by have := hh.len; omega)]
    intro q2
    cases q2
    cases o1 with
    | false => cases z
    | true => exact hm rfl a rfl ha
  · rw [List.getElem?_set_ne n]
    exact g2 k m e z
def EC (X : Cx) (G : Gd) (W : WX) (ρ : Rho) (o : Bool) (e : Expr) {γ : Type} (wr : γ → D) (m : Rs γ) : Prop :=
  ∃ t, PE X e t ∧ ∀ F0 σ F H Q, Holds X.K (G.at F0) ρ σ F H → Post X.K (fun F' H' v g => CellOk X.K H F' H' o v (wr g)) (fun c d H => W c d σ H) F H Q m → t σ H Q
section
variable {X : Cx} {G : Gd} {W : WX} {ρ : Rho} {i : Nat} {l : Bool} {s : List D} {e a b c : Expr} {es : List Expr} {pos p p2 : Pos}
theorem EV.ec {m : Rs D} (h : EV X G W ρ e m) : EC X G W ρ false e (fun d => d) m := h
theorem EF.ec {m : Rs (List D)} (h : EF X G W ρ e m) : EC X G W ρ true e .lst m := h
def ECB (X : Cx) (G : Gd) (ρ : Rho) (i : Nat) (o : Bool) (e : Expr) {γ : Type} (wr : γ → D) (m : Rs (γ × List D)) : Prop :=
  ∀ F0 σ F H (Q : VK) b, Holds X.K (G.at F0) ρ σ F H → σ[i]? = some (some (.ref b)) → (∃ r, m = .ok r ∧ ∀ v F' H', ExtB b F H F' H' → CellOk X.K H F' H' o v (wr r.1) → Own X.K F' H' b (.lst r.2) → Q v H') → ∃ t, PE X e t ∧ t σ H Q
theorem EB.ecb {m : Rs (D × List D)} (h : EB X G ρ i e m) : ECB X G ρ i false e (fun d => d) m := fun F0 σ F H Q b hh hb ⟨r, hm, hq⟩ => by
  subst hm
  exact h F0 σ F H Q b hh hb hq
theorem EFB.ecb {m : Rs (List D × List D)} (h : EFB X G ρ i e m) : ECB X G ρ i true e .lst m := fun F0 σ F H Q b hh hb ⟨r, hm, hq⟩ => by
  subst hm
  exact h F0 σ F H Q b hh hb fun a F' H' e1 h1 h2 h3 h4 => hq _ F' H' e1 ⟨a, rfl, h1, h2, h3⟩ h4
theorem EC.ecb {o : Bool} {γ : Type} {wr : γ → D} {m : Rs γ} (h : EC X G W0 ρ o e wr m) (hi : At ρ i l s := by rfl) : ECB X G ρ i o e wr (m.bind fun g => .ok (g, s)) := fun F0 σ F H Q b hh hb ⟨r, hm, hq⟩ => by
  obtain ⟨t, p, q⟩ := h
  refine ⟨t, p, q F0 σ F H Q hh ?_⟩
  cases m with
  | ok g =>
    cases hm
    intro v F' H' e1 r1
    obtain ⟨hf, hw⟩ := holds_box hh hi hb
    obtain ⟨o', ho, nt_⟩ := hw.there
    exact hq v F' H' (e1.toB ho nt_) r1 (hw.ext e1)
  | ex c fs => cases hm
  | no => cases hm
end
section
variable {X : Cx} {G : Gd} {W : WX} {ρx ρ : Rho} {rest sts : List Stmt} {α β R : Type} {pn : α → Rho} {pl : β → Rho} {ι : R → Fl α β} {i : Nat} {l : Bool} {s : List D}
theorem bi_parC {γ δ : Type} {o1 o2 : Bool} {w1 : γ → D} {w2 : δ → D} {i j : Nat} {x y : Str} {a b : Expr} {px py pt : Pos} {kt k2 : Nat} {pt2 pos : Pos} {ma : Rs γ} {mb : Rs δ} {f : γ → δ → Rs R} (calm : X.calm = true) (nd : X.N.Nodup) (ha : EC X G W ρ o1 a w1 ma) (hb : EC X G W ρ o2 b w2 mb)
    (hr : ∀ d e, BI X G W ρx ((ρ.set i (some (clOf o1 (w1 d)))).set j (some (clOf o2 (w2 e)))) rest pn pl ι (f d e)) (hi : X.N[i]? = some x := by rfl) (hj : X.N[j]? = some y := by rfl) (hij : i ≠ j := by decide) (hx : X.env.scope.names.lookup x = some .local := by rfl) (hy : X.env.scope.names.lookup y = some .local := by rfl)
    (hw : swappedStores [.Tuple [.Name x px, .Name y py] kt pt] (.Tuple [a, b] k2 pt2) X.env = pure (some [x, y]) := by rfl) (hs : swapsWithSole [.Tuple [.Name x px, .Name y py] kt pt] (.Tuple [a, b] k2 pt2) pos.line X.env = pure false := by rfl)
    (hsa : starEach [a, b] X.env = (false, eval a X.env) :: starEach [b] X.env := by rfl) (hsb : starEach [b] X.env = (false, eval b X.env) :: starEach [] X.env := by rfl) (hli : i < ρ.length := by exact Nat.le_of_ble_eq_true rfl) (hlj : j < ρ.length := by exact Nat.le_of_ble_eq_true rfl) (wx : Wk ρ ρx := by first | exact Wk.nil | exact Wk.refl | (repeat (first | exact Wk.nil | apply Wk.keep | apply Wk.drop))) :
    BI X G W ρx ρ (.Assign [.Tuple [.Name x px, .Name y py] kt pt] (.Tuple [a, b] k2 pt2) pos :: rest) pn pl ι (ma.bind fun d => mb.bind fun e => f d e) := by
  obtain ⟨ta, pa, qa⟩ := ha
  obtain ⟨tb, pb, qb⟩ := hb
  intro F0 σ F H E hh hp
  have e2 : ((ma.bind fun d => mb.bind fun e => f d e).bind fun r => (.ok (ι r) : Rs (Fl α β))) = ma.bind fun d => mb.bind fun e => (f d e).bind fun r => .ok (ι r) := by
    cases ma <;> simp only [Rs.bind_ok, Rs.bind_ex, Rs.bind_no, Rs.assoc]
  rw [e2] at hp
  refine any_cons (ps_par calm nd hi hj hij hx hy (pa_cons pa (pa_cons pb pa_nil hsb) hsa) hw hs) ?_
  refine qa F0 σ F H _ hh (post_seq hh wx hp fun d v F1 H1 e1 r1 hp1 => ?_)
  refine qb F0 σ F1 H1 _ (hh.more e1) (post_seq (hh.more e1) wx hp1 fun e u F2 H2 e2 r2 hp2 => ?_)
  refine ⟨v, u, rfl, ?_⟩
  refine hr d e F0 _ F2 H2 E (Holds.setC2 hh (fun k m e q => ⟨m, e, q⟩) ((hh.more e1).more e2) (CellOk.more e2 r1) r2 (fun a ha => e1.same.free ha) (fun ho a ea hn => ?_) hij hli hlj) hp2
  subst ho
  obtain ⟨a', ea', _, _, h4⟩ := r1
  rw [ea] at ea'
  cases ea'
  obtain ⟨o', ho', nt_⟩ := h4.there
  rw [hn] at ho'
  cases ho'
theorem bk_of {m : Rs (Fl α β)} (h : BI X G W ρx ρ sts pn pl (fun r : Fl α β => r) m) : BK X G W ρx ρ sts pn pl m := by
  unfold BI at h
  rw [Rs.bind_id] at h
  exact h
end
def unL2 : D → Option (D × D)
  | .tup [a, b] => some (a, b)
  | .lst [a, b] => some (a, b)
  | _ => none
section
variable {X : Cx} {G : Gd} {W : WX} {ρx ρ : Rho} {rest sts : List Stmt} {α β R : Type} {pn : α → Rho} {pl : β → Rho} {ι : R → Fl α β} {i : Nat} {l : Bool} {s : List D}
theorem tg_or {X : Cx} {tg : Expr} {v : V} {σ : St} {H : Hp} {Q : St → Hp → Prop} {g : TG} (p : PG X tg g) (h : g v σ H Q) : tAnyG X tg v σ H Q := ⟨g, p, h⟩
theorem tl_2 {i j k : Nat} {a b : Expr} {pos : Pos} (hc : X.calm = true) (ha : PG X a (gName i)) (hb : PG X b (gName j)) (hl : i < ρ.length := by exact Nat.le_of_ble_eq_true rfl) (hl2 : j < ρ.length := by exact Nat.le_of_ble_eq_true rfl)
    (h1 : (assignEach [a, b] X.env).map (·.2) = assign a X.env :: (assignEach [b] X.env).map (·.2) := by rfl) (h2 : (assignEach [b] X.env).map (·.2) = assign b X.env :: (assignEach [] X.env).map (·.2) := by rfl)
    (hn : (assignEach [a, b] X.env).length = 2 := by rfl) (hst : (assignEach [a, b] X.env).findIdx? (·.1) = none := by rfl) :
    TT1 X G (.Tuple [a, b] k pos) ρ [i, j] unL2 (fun z => (ρ.set i (some (.val z.1))).set j (some (.val z.2))) := by
  intro F0 σ F H v d z Q hh r e kk
  have fin : ∀ {v1 v2 : V}, Rep X.K F v1 z.1 → Rep X.K F v2 z.2 → (gCons (gName i) (gCons (gName j) gNil)) [v1, v2] σ H Q := fun {v1 v2} r1 r2 =>
    ⟨_, _, rfl, _, _, rfl, rfl, kk _ (fun vs hv => (wipe_set (hv j (by simp))).trans (wipe_set (hv i (by simp)))) ((hh.setV r1 hl).setV r2 (by simpa using hl2))⟩
  unfold unL2 at e
  split at e
  · cases e
    cases r with
    | tup h l r =>
      cases r with
      | cons r1 r =>
        cases r with
        | cons r2 r =>
          cases r
          exact tg_or (pg_tup hc (pgs_cons ha (pgs_cons hb pgs_nil h2) h1) hn hst) ⟨_, _, rfl, SqT.same hh.sub h.sq, rfl, fin r1 r2⟩
  · cases e
    cases r with
    | lst h l r =>
      cases r with
      | cons r1 r =>
        cases r with
        | cons r2 r =>
          cases r
          exact tg_or (pg_lst hc (pgs_cons ha (pgs_cons hb pgs_nil h2) h1) hn hst) ⟨_, _, rfl, SqL.of (hh.sub _ _ h), rfl, fin r1 r2⟩
  · cases e
theorem bi_unp {γ : Type} {u : D → Option γ} {p : γ → Rho} {is : List Nat} {tg e : Expr} {pos : Pos} {m : Rs D} {f : γ → Rs R} (he : EV X G W ρ e m) (ht : TT1 X G tg ρ is u p) (hr : ∀ z, BI X G W ρx (p z) rest pn pl ι (f z))
    (hs : swapsWithSole [tg] e pos.line X.env = pure false := by rfl) (hw : swappedStores [tg] e X.env = pure none := by rfl) (h1 : (assignEach [tg] X.env).map (·.2) = [assign tg X.env] := by rfl) (wx : Wk ρ ρx := by first | exact Wk.nil | exact Wk.refl | (repeat (first | exact Wk.nil | apply Wk.keep | apply Wk.drop))) :
    BI X G W ρx ρ (.Assign [tg] e pos :: rest) pn pl ι (m.bind fun d => (Rs.of (u d)).bind f) := by
  obtain ⟨te, pe, qe⟩ := he
  intro F0 σ F H E hh hp
  rw [Rs.assoc] at hp
  refine any_cons (ps_asg pe pg_any hs hw h1) ?_
  refine qe F0 σ F H _ hh (post_seq hh wx hp fun d v F1 H1 e1 r1 hp1 => ?_)
  cases hu : u d with
  | none => rw [hu] at hp1; exact hp1.elim
  | some z =>
    rw [hu] at hp1
    exact ht F0 σ F1 H1 v d z _ (hh.more e1) r1 hu fun σ' _ hh2 => hr z F0 σ' F1 H1 E hh2 hp1
theorem bi_unpB {γ : Type} {u : D → Option γ} {p : γ → List D → Rho} {is : List Nat} {tg e : Expr} {pos : Pos} {m : Rs (D × List D)} {f : γ → List D → Rs R} (he : EB X G ρ i e m) (ht : ∀ s', TT1 X G tg (ρ.set i (some (.own l (.lst s')))) is u (fun z => p z s')) (hr : ∀ z s', BI X G W ρx (p z s') rest pn pl ι (f z s')) (hi : At ρ i l s := by rfl)
    (hs : swapsWithSole [tg] e pos.line X.env = pure false := by rfl) (hw : swappedStores [tg] e X.env = pure none := by rfl) (h1 : (assignEach [tg] X.env).map (·.2) = [assign tg X.env] := by rfl) :
    BI X G W ρx ρ (.Assign [tg] e pos :: rest) pn pl ι (m.noX.bind fun w => (Rs.of (u w.1)).bind fun z => f z w.2) := by
  intro F0 σ F H E hh hp
  rw [Rs.assoc] at hp
  obtain ⟨r, hm, hp1⟩ := postS_noX hp
  clear hp
  subst hm
  obtain ⟨bx, hbx⟩ := box_at hh hi
  refine any_cons (ps_asg pe_any pg_any hs hw h1) ?_
  refine he F0 σ F H _ bx hh hbx fun v F1 H1 e1 r1 o1 => ?_
  cases hu : u r.1 with
  | none => rw [hu] at hp1; exact hp1.elim
  | some z =>
    rw [hu] at hp1
    exact ht r.2 F0 σ F1 H1 v r.1 z _ (hh.moreB hi hbx e1 o1) r1 hu fun σ' _ hh2 => hr z r.2 F0 σ' F1 H1 E hh2 hp1
end
end VL
set_option Elab.async false
set_option linter.all false
set_option maxRecDepth 100000
set_option autoImplicit false
namespace VL
open PySem PySem.Spec L2
open PyProof.Rows hiding St
section
variable {X : Cx} {G : Gd} {W : WX} {ρ : Rho} {e : Expr} {es : List Expr} {m : Rs D} {κ : Kt} {pos p apos : Pos}
structure Prp (K : PySem.W.Frag) (C : Addr) (f : Str) (g : Addr) : Prop where
  ex : ∃ p : Addr, PySem.W.findIn K (.ref C) f = some (some (.ref p)) ∧ PySem.W.specialIn K (.ref p) "__get__" = some (some (.builtin "property.__get__")) ∧ PySem.W.takesIn K (.ref p) = some true ∧ ∃ rest, PySem.W.recIn K p "property" = some (.ref g :: rest)
structure SMet (K : PySem.W.Frag) (C : Addr) (m : Str) (g : Addr) : Prop where
  rd : ClX.CRead K C (.type "type")
  ex : ∃ p : Addr, PySem.W.findCls K (.ref C) (.type "type") m = some (.get (.builtin "staticmethod.__get__") (.ref p) .none (.ref C)) ∧ ∃ rest, PySem.W.recIn K p "staticmethod" = some (.ref g :: rest)
  kp : PySem.W.keepIn K (.ref g) = true
end
end VL
set_option Elab.async false
set_option linter.all false
set_option maxRecDepth 100000
set_option autoImplicit false
namespace VL
open PySem PySem.Spec L2
open PyProof.Rows hiding St
end VL
set_option Elab.async false
set_option linter.all false
set_option maxRecDepth 100000
set_option autoImplicit false
namespace VL
open PySem PySem.Spec L2
open PyProof.Rows hiding St
structure Ini3 (X : Cx) (sn f y z : Str) (i j : Nat) (e1 e2 : Expr) (spos apos ypos zpos tpos tpos2 lpos pos : Pos) (kt k2 : Nat) : Prop where
  calm : X.calm = true
  vs : PE X (.Name sn spos) (tVar 0)
  gy : PG X (.Name y ypos) (gName i)
  gz : PG X (.Name z zpos) (gName j)
  sole : swapsWithSole [.Tuple [.Attribute (.Name sn spos) f apos, .Name y ypos, .Name z zpos] kt tpos] (.Tuple [e1, e2, .List [] lpos] k2 tpos2) pos.line X.env = pure false
  stores : swappedStores [.Tuple [.Attribute (.Name sn spos) f apos, .Name y ypos, .Name z zpos] kt tpos] (.Tuple [e1, e2, .List [] lpos] k2 tpos2) X.env = pure none
  s1 : starEach [e1, e2, .List [] lpos] X.env = (false, eval e1 X.env) :: starEach [e2, .List [] lpos] X.env
  s2 : starEach [e2, .List [] lpos] X.env = (false, eval e2 X.env) :: starEach [.List [] lpos] X.env
  s3 : starEach [.List [] lpos] X.env = (false, eval (.List [] lpos) X.env) :: starEach [] X.env
  a0 : (assignEach [.Tuple [.Attribute (.Name sn spos) f apos, .Name y ypos, .Name z zpos] kt tpos] X.env).map (·.2) = [assign (.Tuple [.Attribute (.Name sn spos) f apos, .Name y ypos, .Name z zpos] kt tpos) X.env]
  a1 : (assignEach [.Attribute (.Name sn spos) f apos, .Name y ypos, .Name z zpos] X.env).map (·.2) = assign (.Attribute (.Name sn spos) f apos) X.env :: (assignEach [.Name y ypos, .Name z zpos] X.env).map (·.2)
  a2 : (assignEach [.Name y ypos, .Name z zpos] X.env).map (·.2) = assign (.Name y ypos) X.env :: (assignEach [.Name z zpos] X.env).map (·.2)
  a3 : (assignEach [.Name z zpos] X.env).map (·.2) = assign (.Name z zpos) X.env :: (assignEach [] X.env).map (·.2)
  an : (assignEach [.Attribute (.Name sn spos) f apos, .Name y ypos, .Name z zpos] X.env).length = 3
  ast : (assignEach [.Attribute (.Name sn spos) f apos, .Name y ypos, .Name z zpos] X.env).findIdx? (·.1) = none
end VL
set_option Elab.async false
set_option linter.all false
set_option maxRecDepth 100000
set_option autoImplicit false
namespace VL
open PySem PySem.Spec L2
open PyProof.Rows hiding St
end VL
set_option Elab.async false
set_option linter.all false
set_option maxRecDepth 100000
set_option autoImplicit false
namespace VL
open PySem PySem.Spec L2
open PyProof.Rows hiding St
mutual
theorem dataLt_ltP : ∀ (x y : PyData), PySem.W.alike x y = true → cmpP x y = true → PySem.W.dataLt x y = ltP x y
  | .int i, .int j, _, _ => by rw [PySem.W.dataLt_int]; simp only [ltP]
  | .str x, .str y, _, _ => by rw [PySem.W.dataLt_str]; simp only [ltP]
  | .tuple xs, .tuple ys, h, c => by
    rw [PySem.W.dataLt_tuple]
    simp only [ltP]
    exact dataLts_ltP xs ys (by simpa only [PySem.W.alike] using h) (by simpa only [cmpP] using c)
  | .none, _, _, c => by simp [cmpP] at c
  | .bool _, _, _, c => by simp [cmpP] at c
  | .list _, _, _, c => by simp [cmpP] at c
  | .dict _, _, _, c => by simp [cmpP] at c
  | .int _, .none, _, c | .int _, .bool _, _, c | .int _, .str _, _, c | .int _, .list _, _, c | .int _, .tuple _, _, c | .int _, .dict _, _, c => by simp [cmpP] at c
  | .str _, .none, _, c | .str _, .bool _, _, c | .str _, .int _, _, c | .str _, .list _, _, c | .str _, .tuple _, _, c | .str _, .dict _, _, c => by simp [cmpP] at c
  | .tuple _, .none, _, c | .tuple _, .bool _, _, c | .tuple _, .int _, _, c | .tuple _, .list _, _, c | .tuple _, .str _, _, c | .tuple _, .dict _, _, c => by simp [cmpP] at c
theorem dataLts_ltP : ∀ (xs ys : List PyData), PySem.W.alikeAll xs ys = true → cmpPs xs ys = true → PyProof.Rows.lexLt PyProof.Rows.itemOrd (PySem.W.keyToksAll xs) (PySem.W.keyToksAll ys) = ltPs xs ys
  | [], [], _, _ => by simp only [ltPs]; rfl
  | [], y :: ys, _, _ => by
    simp only [ltPs]
    rw [PySem.W.keyToksAll, PySem.W.keyToksAll, PyProof.Rows.lex_diff (O := PyProof.Rows.itemOrd) (by simp)]
    rfl
  | x :: xs, [], _, _ => by
    simp only [ltPs]
    rw [PySem.W.keyToksAll, PySem.W.keyToksAll, PyProof.Rows.lex_diff (O := PyProof.Rows.itemOrd) (by simp)]
    rfl
  | x :: xs, y :: ys, h, c => by
    obtain ⟨h1, h2⟩ := PySem.W.alike_all_cons h
    simp only [cmpPs, Bool.and_eq_true, Bool.or_eq_true] at c
    simp only [ltPs]
    cases e : PyData.eqv x y with
    | true => rw [PySem.W.dataLt_all_yes h1 e, if_pos rfl]; exact dataLts_ltP xs ys h2 c.2
    | false =>
      rw [PySem.W.dataLt_all_no h1 e, if_neg (by simp)]
      exact dataLt_ltP x y h1 (c.1.resolve_left (by simp [e]))
end
def minI : List Int → Option Int
  | [] => none
  | i :: is => some (is.foldl (fun a b => if b < a then b else a) i)
def minD : List D → Option D
  | [.int i, .int j] => some (.int (if j < i then j else i))
  | [.lst ds] => ((intsD ds).bind minI).map .int
  | _ => none
end VL
set_option Elab.async false
set_option linter.all false
set_option maxRecDepth 100000
set_option autoImplicit false
namespace VL
open PySem PySem.Spec L2
open PyProof.Rows hiding St
section
variable {X : Cx} {G : Gd} {W : WX} {ρ : Rho} {o e a b : Expr} {es : List Expr} {m mo me : Rs D} {κ : Kt} {pos p apos : Pos}
theorem ef_or {ma mb : Rs (List D)} (ha : EF X G W ρ a ma) (hb : EF X G W ρ b mb) : EF X G W ρ (.BoolOp .Or [a, b] pos) (ma.bind fun l => if l.isEmpty then mb else .ok l) := by
  obtain ⟨ta, pa, qa⟩ := ha
  obtain ⟨tb, pb, qb⟩ := hb
  refine ⟨_, pe_orT pa (pe_one pb), fun F0 σ F H Q hh hp => qa F0 σ F H _ hh ?_⟩
  cases ma with
  | ex c fs => exact hp
  | no => exact hp
  | ok l =>
    rintro v F1 H1 e1 ⟨ad, rfl, hn, hf, ho⟩
    obtain ⟨xs, h1, h2, h3⟩ := ho.asL
    refine ⟨!xs.isEmpty, .inl ⟨xs, SqL.of h1, rfl⟩, ?_⟩
    have el : xs.isEmpty = l.isEmpty := by
      cases h3 <;> rfl
    rw [el]
    simp only [Rs.bind_ok] at hp
    cases he : l.isEmpty with
    | true =>
      rw [he, if_pos rfl] at hp
      refine iteF (qb F0 σ F1 H1 Q (hh.more e1) ?_)
      cases mb with
      | ex c fs => exact Post.more hp e1
      | no => exact hp
      | ok r =>
        rintro v F2 H2 e2 ⟨a2, rfl, hn2, hf2, ho2⟩
        exact hp _ F2 H2 (e1.trans e2) ⟨a2, rfl, e1.same.free hn2, hf2, ho2⟩
    | false =>
      rw [he] at hp
      exact iteT (hp _ F1 H1 e1 ⟨ad, rfl, hn, hf, ho⟩)
end
end VL
set_option Elab.async false
set_option linter.all false
set_option maxRecDepth 100000
set_option autoImplicit false
namespace VL
open PySem PySem.Spec L2
open PyProof.Rows hiding St
abbrev KtB := (β : Type) → (List D → List D → Rs β) → Rs β
def BC (X : Cx) (G : Gd) (ρ : Rho) (i : Nat) (es : List Expr) (κ : KtB) : Prop := ∃ ms, AB X G ρ i es ms ∧ ∀ (β : Type) (k : List D → List D → Rs β), κ β k = ms.bind fun v => k v.1 v.2
section
variable {X : Cx} {G : Gd} {ρ : Rho} {i : Nat} {l : Bool} {s : List D} {e : Expr} {es : List Expr} {pos p p2 : Pos} {m : Rs (D × List D)} {κ : KtB} {κ' : List D → KtB}
theorem bc_nil (hi : At ρ i l s := by rfl) : BC X G ρ i [] (fun β k => k [] s) := ⟨_, ab_nil hi, fun _ _ => rfl⟩
theorem bc_cons (ha : EB X G ρ i e m) (hr : ∀ s', BC X G (ρ.set i (some (.own l (.lst s')))) i es (κ' s')) (hs : starEach (e :: es) X.env = (false, eval e X.env) :: starEach es X.env := by rfl) (hi : At ρ i l s := by rfl) :
    BC X G ρ i (e :: es) (fun β k => m.bind fun u => κ' u.2 β fun xs s' => k (u.1 :: xs) s') := by
  have ch := fun s' => (hr s').choose_spec
  refine ⟨_, ab_cons (ms := fun s' => (hr s').choose) ha (fun s' => (ch s').1) hs hi, fun β k => ?_⟩
  rw [Rs.assoc]
  cases m with
  | ok u =>
    show κ' u.2 β (fun xs s' => k (u.1 :: xs) s') = _
    rw [(ch u.2).2, Rs.bind_ok, Rs.assoc]
    rfl
  | ex c fs => rfl
  | no => rfl
theorem eb_tupC {x1} (h : BC X G ρ i es κ) (hl : Nat.ble es.length sizeLine = true := by rfl) : EB X G ρ i (.Tuple es x1 pos) (κ _ fun xs s' => .ok (.tup xs, s')) := by
  obtain ⟨ms, h1, h2⟩ := h
  rw [h2]
  exact eb_tup h1 hl
theorem eb_callTyC {id : String} {x : Str} {r : List V → Hp → VK → Prop} {f : List D → Option D} (hc : CallR X (.type id) r) (hf : RCok X.K r f) (hm : X.mg x = none) (hv : bootBuiltins x = some (.type id)) (ha : BC X G ρ i (e :: es) κ) (hg : Gl X x := by rfl) (hn : x ≠ "__name__" := by decide)
    (hdb : (x == ("__debug__" : Str)) = false := by decide) (he : starEach (e :: es) X.env = (false, eval e X.env) :: starEach es X.env := by rfl) (hpl : (backTo pos (starEach es X.env)).any (·.1) = false := by rfl) : EB X G ρ i (.Call (.Name x p) (e :: es) [] pos) (κ _ fun xs s' => (Rs.of (f xs)).bind fun d => .ok (d, s')) := by
  obtain ⟨ms, h1, h2⟩ := ha
  rw [h2]
  exact eb_callTy hc hf hm hv h1 hg hn hdb he hpl
theorem eb_ownC {k : Nat} {f : Addr} {fd : FuncData} {ps : List Str} {mf : List D → Rs D} {x : Str} (Fk : Keeps X.prog X.w X.K X.mg X.base k f fd ps mf) (hr : Room k X.A) (hm : X.mg x = some (.ref f)) (hk : PySem.W.keepIn X.K (.ref f) = true)
    (hb : Binds X.K fd ps []) (ha : BC X G ρ i (e :: es) κ) (hln : (e :: es).length = ps.length := by rfl) (hg : Gl X x := by rfl) (hdb : (x == ("__debug__" : Str)) = false := by decide) (he : starEach (e :: es) X.env = (false, eval e X.env) :: starEach es X.env := by rfl)
    (hpl : (backTo pos (starEach es X.env)).any (·.1) = false := by rfl) : EB X G ρ i (.Call (.Name x p) (e :: es) [] pos) (κ _ fun xs s' => (mf xs).bind fun d => .ok (d, s')) := by
  obtain ⟨ms, h1, h2⟩ := ha
  rw [h2]
  exact eb_own Fk hr hm hk hb h1 hln hg hdb he hpl
theorem eb_ioC {k : Nat} {f : Addr} {fd : FuncData} {ps : List Str} {mf : List D → List D → Rs (D × List D)} {x bn : Str} (Fk : KeepsIO X.prog X.w X.K X.mg X.base k f fd ps mf) (hr : Room k X.A) (hm : X.mg x = some (.ref f)) (hk : PySem.W.keepIn X.K (.ref f) = true)
    (hb : Binds X.K fd ps []) (hv : PE X (.Name bn p2) (tVar i)) (ha : BC X G ρ i es κ) (hi : At ρ i l s := by rfl) (hln : es.length + 1 = ps.length := by rfl) (hg : Gl X x := by rfl) (hdb : (x == ("__debug__" : Str)) = false := by decide) (he : starEach (.Name bn p2 :: es) X.env = (false, eval (.Name bn p2) X.env) :: starEach es X.env := by rfl)
    (hpl : (backTo pos (starEach es X.env)).any (·.1) = false := by rfl) : EB X G ρ i (.Call (.Name x p) (.Name bn p2 :: es) [] pos) (κ _ fun xs s' => mf s' xs) := by
  obtain ⟨ms, h1, h2⟩ := ha
  rw [h2]
  exact eb_io Fk hr hm hk hb hv h1 hi hln hg hdb he hpl
end
end VL
set_option Elab.async false
set_option linter.all false
set_option maxRecDepth 100000
set_option autoImplicit false
namespace VL
open PySem PySem.Spec L2
open PyProof.Rows hiding St
section
variable {X : Cx} {G : Gd} {W : WX} {ρx ρ : Rho} {rest sts : List Stmt} {α β R : Type} {pn : α → Rho} {pl : β → Rho} {ι : R → Fl α β} {i : Nat} {l : Bool} {s : List D}
theorem bi_nox {m : Rs R} (h : BI X G W ρx ρ sts pn pl ι m) : BI X G W ρx ρ sts pn pl ι m.noX := by
  cases m with
  | ok r => exact h
  | ex c fs => exact fun F0 σ F H E hh hp => hp.elim
  | no => exact h
end
end VL
namespace VL
open PySem PySem.Spec L2
open PyProof.Rows hiding St
theorem eb_val {X : Cx} {G : Gd} {ρ : Rho} {i : Nat} {l : Bool} {s : List D} {e : Expr} {d : D} (he : EV X G W0 ρ e (.ok d)) (hi : At ρ i l s := by rfl) : EB X G ρ i e (.ok (d, s)) := eb_pure he hi
end VL
namespace VL
open PySem PySem.Spec L2
open PyProof.Rows hiding St
end VL
namespace VL
open PySem PySem.Spec L2
open PyProof.Rows hiding St
end VL
set_option Elab.async false
set_option linter.all false
set_option maxRecDepth 100000
set_option autoImplicit false
namespace VL
open PySem PySem.Spec L2
open PyProof.Rows hiding St
section
variable {X : Cx} {G : Gd} {W : WX} {ρ : Rho} {e a b : Expr} {es : List Expr} {m ma mb : Rs D} {κ : Kt} {pos p : Pos} {d x y : D}
theorem ac_consV (ha : EV X G W ρ e (.ok d)) (hr : AC X G W ρ es κ) (hs : starEach (e :: es) X.env = (false, eval e X.env) :: starEach es X.env := by rfl) : AC X G W ρ (e :: es) (fun β k => κ β fun xs => k (d :: xs)) := ac_cons ha hr hs
theorem oc_consV (ha : EO X G W ρ e (.ok d)) (hr : OC X G W ρ es κ) (hs : starEach (e :: es) X.env = (false, eval e X.env) :: starEach es X.env := by rfl) : OC X G W ρ (e :: es) (fun β k => κ β fun xs => k (d :: xs)) := oc_cons ha hr hs
theorem kc_consV {nm : Option Str} {kpos : Pos} {kws : List Keyword} (ha : EV X G W ρ e (.ok d)) (hr : KC X G W ρ kws κ) : KC X G W ρ (⟨nm, e, kpos⟩ :: kws) (fun β k => κ β fun xs => k (d :: xs)) := kc_cons ha hr
theorem ev_bin2 {op : Operator} {r : R2} {f : D → D → Option D} (ho : OpR X (binaryOp op) r) (hf : R2ok X.K r f) (ha : EO X G W ρ a (.ok x)) (hb : EO X G W ρ b (.ok y)) : EV X G W ρ (.BinOp a op b pos) (Rs.of (f x y)) := ev_bin ho hf ha hb
theorem ev_binL {op : Operator} {r : R2} {f : D → D → Option D} (ho : OpR X (binaryOp op) r) (hf : R2ok X.K r f) (ha : EO X G W ρ a (.ok x)) (hb : EO X G W ρ b mb) : EV X G W ρ (.BinOp a op b pos) (mb.bind fun y => Rs.of (f x y)) := ev_bin ho hf ha hb
theorem ev_binR {op : Operator} {r : R2} {f : D → D → Option D} (ho : OpR X (binaryOp op) r) (hf : R2ok X.K r f) (ha : EO X G W ρ a ma) (hb : EO X G W ρ b (.ok y)) : EV X G W ρ (.BinOp a op b pos) (ma.bind fun x => Rs.of (f x y)) := ev_bin ho hf ha hb
theorem ev_cmp2 {op : CmpOp} {r : R2} {f : D → D → Option D} (ho : OpR X (compareOp op) r) (hf : R2ok X.K r f) (ha : EO X G W ρ a (.ok x)) (hb : EO X G W ρ b (.ok y)) (hm : behindInMarks op b = false) : EV X G W ρ (.Compare a [op] [b] pos) (Rs.of (f x y)) := ev_cmp ho hf ha hb hm
theorem ev_cmpR {op : CmpOp} {r : R2} {f : D → D → Option D} (ho : OpR X (compareOp op) r) (hf : R2ok X.K r f) (ha : EO X G W ρ a ma) (hb : EO X G W ρ b (.ok y)) (hm : behindInMarks op b = false) : EV X G W ρ (.Compare a [op] [b] pos) (ma.bind fun x => Rs.of (f x y)) := ev_cmp ho hf ha hb hm
theorem ev_ix2 {r : R2} {f : D → D → Option D} (ho : IxR X r) (hf : R2ok X.K r f) (ha : EO X G W ρ a (.ok x)) (hb : EO X G W ρ b (.ok y)) (hm : PlainIx b) : EV X G W ρ (.Subscript a b pos) (Rs.of (f x y)) := ev_ix ho hf ha hb hm
theorem ev_ixL {r : R2} {f : D → D → Option D} (ho : IxR X r) (hf : R2ok X.K r f) (ha : EO X G W ρ a (.ok x)) (hb : EO X G W ρ b mb) (hm : PlainIx b) : EV X G W ρ (.Subscript a b pos) (mb.bind fun y => Rs.of (f x y)) := ev_ix ho hf ha hb hm
theorem ev_ixR {r : R2} {f : D → D → Option D} (ho : IxR X r) (hf : R2ok X.K r f) (ha : EO X G W ρ a ma) (hb : EO X G W ρ b (.ok y)) (hm : PlainIx b) : EV X G W ρ (.Subscript a b pos) (ma.bind fun x => Rs.of (f x y)) := ev_ix ho hf ha hb hm
theorem tv_cmp2 {op : CmpOp} {r : R2} {f : D → D → Option D} {g : D → D → Option Bool} (ho : OpR X (compareOp op) r) (hf : R2ok X.K r f) (hg : Isb f g) (ha : EO X G W ρ a (.ok x)) (hb : EO X G W ρ b (.ok y)) (hm : behindInMarks op b = false) : TV X G W ρ (.Compare a [op] [b] pos) (Rs.of (g x y)) := tv_cmp ho hf hg ha hb hm
theorem tv_cmpL {op : CmpOp} {r : R2} {f : D → D → Option D} {g : D → D → Option Bool} (ho : OpR X (compareOp op) r) (hf : R2ok X.K r f) (hg : Isb f g) (ha : EO X G W ρ a (.ok x)) (hb : EO X G W ρ b mb) (hm : behindInMarks op b = false) : TV X G W ρ (.Compare a [op] [b] pos) (mb.bind fun y => Rs.of (g x y)) := tv_cmp ho hf hg ha hb hm
theorem tv_cmpR {op : CmpOp} {r : R2} {f : D → D → Option D} {g : D → D → Option Bool} (ho : OpR X (compareOp op) r) (hf : R2ok X.K r f) (hg : Isb f g) (ha : EO X G W ρ a ma) (hb : EO X G W ρ b (.ok y)) (hm : behindInMarks op b = false) : TV X G W ρ (.Compare a [op] [b] pos) (ma.bind fun x => Rs.of (g x y)) := tv_cmp ho hf hg ha hb hm
theorem it_seqV {tg e : Expr} (h : EV X G W ρ e (.ok d)) : IT X G W ρ tg e (Rs.of (itemsD d)) := it_seq h
theorem bi_at {R : Type} {ρx : Rho} {sts : List Stmt} {α β : Type} {pn : α → Rho} {pl : β → Rho} {ι : R → Fl α β} (ρ' : Rho) {m : Rs R} (h : BI X G W ρx ρ' sts pn pl ι m) (er : ρ = ρ' := by rfl) : BI X G W ρx ρ sts pn pl ι m := by
  subst er
  exact h
end
end VL
set_option Elab.async false
set_option linter.all false
set_option maxRecDepth 100000
set_option autoImplicit false
namespace VL
open PySem PySem.Spec L2
open PyProof.Rows hiding St
abbrev FrB := PySem.W.Frag → Bool
structure DefA where
  ad : PySem.W.Frag → Addr
  nm : Str
  ql : Str
  pr : Arguments
  bd : List Stmt
  sc : Scope
  df : List He.Dv
def DefA.told (d : DefA) : He.FnW := some (d.nm, d.ql, d.pr, .stmts d.bd, d.sc, mainGlobals, [], builtinsNs)
def DefA.dv (K : PySem.W.Frag) (d : DefA) : List V := d.df.map (He.Dv.v K)
def fnA (K : PySem.W.Frag) (a : Addr) : He.FnW := match K.lookup a with
  | some ⟨_, _, .func q, _⟩ => some (q.name, q.qualname, q.params, q.body, q.scope, q.globals, q.closure, q.builtins)
  | _ => none
def DefA.fine (K : PySem.W.Frag) (d : DefA) : Bool := PySem.W.keepIn K (.ref (d.ad K)) && (match K.lookup (d.ad K) with
  | some ⟨_, _, .func q, _⟩ => PySem.W.codeIn K q.code d.ql && He.dflB K q.defaults (d.dv K)
  | _ => false)
theorem DefA.fun_ {K : PySem.W.Frag} {d : DefA} (e : fnA K (d.ad K) = d.told) (c : d.fine K = true) : ∃ fd, FunD K d.nm d.ql d.pr d.bd d.sc (d.dv K) [] (d.ad K) fd := by
  obtain ⟨kp, c2⟩ := He.ba c
  unfold fnA at e
  cases z : K.lookup (d.ad K) with
  | none =>
    rw [z] at c2
    cases c2
  | some o =>
    obtain ⟨o1, o2, o3, o4⟩ := o
    rw [z] at c2 e
    cases o3 with
    | func q =>
      obtain ⟨q1, q2, q3, q4, q5, q6, q7, q8, q9, q10, q11, q12, q13, q14, q15⟩ := q
      have e2 : (some (q1, q2, q3, q4, q5, q6, q7, q15) : He.FnW) = d.told := e
      simp only [DefA.told, Option.some.injEq, Prod.mk.injEq] at e2
      obtain ⟨h1, h2, h3, h4, h5, h6, h7, h8⟩ := e2
      subst h1 h2 h3 h4 h5 h6 h7 h8
      have c3 : (PySem.W.codeIn K q13 d.ql && He.dflB K q8 (d.dv K)) = true := c2
      obtain ⟨k1, k2⟩ := He.ba c3
      exact ⟨_, ⟨o1, o2, q8, q9, q10, q11, q12, q13, q14, o4, rfl, z, k1, He.dflB_ok k2, .inl rfl⟩, kp⟩
    | _ => cases c2
abbrev AlV : Type := Bool × List He.FnW
def obsV (fs : List FrB) (fn : List DefA) (K : PySem.W.Frag) : AlV := ((fs.all fun f => f K) && fn.all fun d => d.fine K, fn.map fun d => fnA K (d.ad K))
def valV (fn : List DefA) : AlV := (true, fn.map DefA.told)
def SaysV (fs : List FrB) (fn : List DefA) (K : PySem.W.Frag) : Prop := obsV fs fn K = valV fn
def obsVG (n : Nat) (fs : List FrB) (fn : List DefA) (g : Addr → Option Obj) : AlV := obsV fs fn (He.frG g (PySem.cStatics :: He.asD g n))
def hookV (n : Nat) (fs : List FrB) (fn : List DefA) : PySem.W.Hook where
  α := AlV
  obs := fun z => obsVG n fs fn z.heap.get?
  val := fun _ => valV fn
  says := fun _ z => ∃ K : PySem.W.Frag, K.In z ∧ SaysV fs fn K
  of := fun _ _ e => ⟨_, He.frG_in, e⟩
  keeps := fun _ _ _ ⟨K, hK, c⟩ k => ⟨K, hK.keeps k, c⟩
theorem obsVG_eq {n : Nat} {fs : List FrB} {fn : List DefA} {g : Addr → Option Obj} {z : Shared} (h : ∀ a, g a = z.heap.get? a) : obsVG n fs fn g = (hookV n fs fn).obs z := by
  rw [show g = z.heap.get? from funext h] <;> rfl
section
variable {fs : List FrB} {fn : List DefA} {K : PySem.W.Frag}
theorem SaysV.fact (c : SaysV fs fn K) (i : Nat) {f : FrB} (h : fs[i]? = some f := by rfl) : f K = true :=
  List.all_eq_true.mp (He.ba (congrArg (fun z : AlV => z.1) c)).1 f (List.mem_of_getElem? h)
theorem SaysV.fn_ (c : SaysV fs fn K) (i : Nat) {d : DefA} (h : fn[i]? = some d := by rfl) : ∃ fd, FunD K d.nm d.ql d.pr d.bd d.sc (d.dv K) [] (d.ad K) fd := by
  have e : fn.map (fun d => fnA K (d.ad K)) = fn.map DefA.told := congrArg (fun z : AlV => z.2) c
  have e2 : (fn.map fun d => fnA K (d.ad K))[i]? = (fn.map DefA.told)[i]? := by rw [e]
  rw [List.getElem?_map, List.getElem?_map, h] at e2
  exact DefA.fun_ (Option.some.inj e2) (List.all_eq_true.mp (He.ba (congrArg (fun z : AlV => z.1) c)).2 d (List.mem_of_getElem? h))
end
def gloB (x : Str) : FrB := fun K => (He.Fa.glo x).ok K
def freeB (x : Str) : FrB := fun K => (He.Fa.free x).ok K
def gintB (x : Str) (i : Int) : FrB := fun K => (He.Fa.int x i).ok K
def gtupB (x : Str) (is : List Int) : FrB := fun K => He.tupB K x (is.map He.Dv.int)
theorem gtupB_ok {x : Str} {is : List Int} {K : PySem.W.Frag} (h : gtupB x is K = true) (H : Hp) : SqT K H (He.ga K x) (is.map V.int) := by
  have z := He.tupB_ok h H
  rw [List.map_map] at z
  exact z
end VL
namespace VL
open PySem PySem.Spec PyProof.Rows L2
theorem walk_ofV {l : PySem.W.OpenLaw} {n k : Nat} {q : Program} {loose : List Str} {XP : (Str → Option Value) → Heap → Prop} {YP : World → Heap → Prop} {d : DefRec} {CX : World → CXT} {x : Str}
    (hn : l.most = some n) (hn2 : n ≤ sizeLine) (hdf : d.params.defaults = []) (hr : Room k callerA)
    (F : ∀ (w : World) (mg : Str → Option Value) (fa : Addr) (z : Heap), YP w z → z.Ns mainGlobals mg → mg d.name = some (.ref fa) →
      ∃ (K : PySem.W.Frag) (fd : FuncData) (sp : Sp), K.In z ∧ (∀ (s : Shared) (u : Value), BindsTo s fd ⟨[u], []⟩ [(x, u)]) ∧
        (∀ (H : Hp) (a : Addr) (ns : List Int), ns.length ≤ n → (∀ i ∈ ns, Builtin.Int.intBits i ≤ 1048576) → Only H → SqL K H a (ns.map V.int) → sp [.ref a] H (fun v _ => v = .bl true) fun _ _ _ => False) ∧
        ∀ base : Heap, K.In base → base.Ns mainGlobals mg → FnOk l.prog w K mg base (CX w) k fa fd [x] sp)
    (hCX : ∀ (w : World) (H : Hp) (s : Shared) (e : Value) (s' : Shared), CX w [] H s (fun _ _ _ => False) e s' → False) :
    PySem.W.WalkO q loose XP YP l.row.toRowW d [] (fun f vs => PySem.call f vs) := by
  refine Att.attach_callB hn hdf fun w s₀ s₁ mg mb fa o pm cd doc a vs ns G Y ho hd hcd hmg hobj hints hlen hbits hg => ?_
  obtain ⟨K, fd, sp, KX, hb, hsp, hF⟩ := F w mg fa _ Y G.T.g hmg
  exact law_call KX G.T.g G.T.b G.T.builtins G.T.nolimit hg hobj hints (Nat.le_trans hlen hn2) hr hF hb (fun H hO hS => hsp H a ns hlen hbits hO hS) fun H e s' => hCX w H s₁ e s'
theorem cx_no {P : Program} (w : World) (H : Hp) (s : Shared) (e : Value) (s' : Shared) (h : L2N.CX P w [] H s (fun _ _ _ => False) e s') : False := by
  obtain ⟨_, _, _, _, _, _, _, _, _, _, _, _, z⟩ := h
  exact z
theorem end_ok {K : PySem.W.Frag} {H : Hp} {a : Addr} {ns : List Int} {m : D → Rs D} (hl : ns.length ≤ 63) (hS : SqL K H a (ns.map V.int)) (h : m (.scr (ns.map .int)) = .ok (.bl true)) :
    spM K 1 (fun ds => match ds with | [x] => m x | _ => .no) [.ref a] H (fun v _ => v = .bl true) fun _ _ _ => False := by
  refine ⟨rfl, H, [.scr (ns.map .int)], Same.refl H, .one (.scr hS (by rw [List.length_map]; exact Nat.le_trans hl (by decide)) (reps_ints ns)), ?_⟩
  show Post K (RF K) _ H H _ (m (.scr (ns.map .int)))
  rw [h]
  intro v F' H' e r
  cases r
  rfl
end VL
set_option Elab.async false
set_option linter.all false
set_option maxRecDepth 100000
set_option autoImplicit false
namespace VL
open PySem PySem.Spec L2
open PyProof.Rows hiding St
end VL
set_option Elab.async false
set_option linter.all false
set_option maxRecDepth 100000
set_option autoImplicit false
namespace VL
open PySem PySem.Spec L2
open PyProof.Rows hiding St
end VL
set_option Elab.async false
set_option linter.all false
set_option maxRecDepth 100000
set_option autoImplicit false
namespace VL
open PySem PySem.Spec L2
open PyProof.Rows hiding St
end VL
set_option Elab.async false
set_option linter.all false
set_option maxRecDepth 100000
set_option autoImplicit false
namespace VL
open PySem PySem.Spec L2
open PyProof.Rows hiding St
theorem xO_at {P : Program} {w : World} {H : Hp} {h : Heap} {a : Addr} {cls : Value} {d : Option Addr} (hok : HOk P w H h) (e : H a = some (xO cls d a)) : ∃ (oe : Obj) (vs : Array Value), h.get? a = some oe ∧ L2N.Zn cls d oe ∧ oe.data = .fields vs := (hok a _ e).1
def goneE (i : Nat) (D : Ends) : Ends := { nx := fun σ H => D.nx (σ.set i none) H, rt := D.rt, bk := fun σ H => D.bk (σ.set i none) H, ct := fun σ H => D.ct (σ.set i none) H }
def wX (K : PySem.W.Frag) (Wout : WX) (D : Ends) : List (Value × Nat × (Addr → TS)) → WX
  | [] => Wout
  | (c, i, ts) :: r => fun cls d σ H => ∃ b, PySem.W.exmOne K cls c = some b ∧ (b = true → ∀ a, H a = none → ts a (goneE i D) (σ.set i (some (.ref a))) (upd H a (xO cls d a))) ∧ (b = false → wX K Wout D r cls d σ H)
inductive HdX (X : Cx) : List ExceptHandler → List (Value × Nat × (Addr → TS)) → Prop
  | nil : HdX X [] []
  | cons {x n : Str} {c : Value} {i : Nat} {ts : Addr → TS} {b₀ : Stmt} {su : List Stmt} {np hp : Pos} {hds : List ExceptHandler} {l : List (Value × Nat × (Addr → TS))} (hc : Names X x c) (hi : X.N[i]? = some n) (hln : X.env.kindOf n = some .local)
      (hsu : ∀ (a : Addr) (pn : List (Addr × Obj)), PSs (X.suite a pn) (b₀ :: su) (ts a)) (r : HdX X hds l) : HdX X (.ExceptHandler (some (.Name x np)) (some n) (b₀ :: su) hp :: hds) ((c, i, ts) :: l)
end VL
set_option Elab.async false
set_option linter.all false
set_option maxRecDepth 100000
set_option autoImplicit false
namespace VL
open PySem PySem.Spec L2
open PyProof.Rows hiding St
section
variable {prog : Program} {w : World} {A : Around} {E : Value → Shared → Prop} {s : Shared} {z TI TO i1 i2 l1 l2 S : Addr} {xs ys : Array Value} {h h' : Heap} {i : Nat}
structure ZlSt (h : Heap) (z TI TO i1 i2 l1 l2 S : Addr) (xs ys : Array Value) (i : Nat) : Prop where
  ti : PySem.IsPair h TI (.ref i1) (.ref i2)
  a1 : h.IsListIter i1 l1 i
  a2 : h.IsListIter i2 l2 i
  b1 : h.IsList l1 xs
  b2 : h.IsList l2 ys
  zz : (IsZip h z TI TO .none ∧ ∃ a b, PySem.IsPair h TO a b) ∨ ∃ T f oT, IsZipHeld h z TI TO T f ∧ h.get? T = some oT ∧ T ≠ z ∧ T ≠ i1 ∧ T ≠ i2 ∧ T ≠ S
theorem ZlSt.keep (x : ZlSt h z TI TO i1 i2 l1 l2 S xs ys i) (hk : ∀ b o, b ≠ S → h.get? b = some o → h'.get? b = some o) (off : S ∉ [z, TI, TO, i1, i2, l1, l2]) : ZlSt h' z TI TO i1 i2 l1 l2 S xs ys i := by
  simp only [List.mem_cons, List.not_mem_nil, or_false, not_or] at off
  obtain ⟨n1, n2, n3, n4, n5, n6, n7⟩ := off
  refine ⟨hk _ _ (Ne.symm n2) x.ti, x.a1.at fun o e => hk _ o (Ne.symm n4) e, x.a2.at fun o e => hk _ o (Ne.symm n5) e, x.b1.at fun o e => hk _ o (Ne.symm n6) e, x.b2.at fun o e => hk _ o (Ne.symm n7) e, ?_⟩
  rcases x.zz with ⟨q, a, b, q2⟩ | ⟨T, f, oT, q, q2, r1, r2, r3, r4⟩
  · exact .inl ⟨hk _ _ (Ne.symm n1) q, a, b, hk _ _ (Ne.symm n3) q2⟩
  · exact .inr ⟨T, f, oT, hk _ _ (Ne.symm n1) q, hk _ _ r4 q2, r1, r2, r3, r4⟩
structure ZlG (lo : Nat) (xs ys : Array Value) (h : Heap) (as : List Addr) : Prop where
  rise : as.Pairwise (· < ·)
  above : ∀ a ∈ as, lo ≤ a
  pairs : ∀ (j : Nat) (a : Addr), as[j]? = some a → ∃ x y, xs[j]? = some x ∧ ys[j]? = some y ∧ PySem.IsPair h a x y
theorem ZlG.there {lo : Nat} {as : List Addr} (g : ZlG lo xs ys h as) {a : Addr} (ha : a ∈ as) : a < h.objs.size := by
  obtain ⟨j, hj⟩ := List.mem_iff_getElem?.mp ha
  obtain ⟨_, _, _, _, e⟩ := g.pairs j a hj
  exact Heap.lt_size e
end
end VL
set_option Elab.async false
set_option linter.all false
set_option maxRecDepth 100000
set_option autoImplicit false
namespace VL
open PySem PySem.Spec L2
open PyProof.Rows hiding St
end VL
set_option Elab.async false
set_option linter.all false
set_option maxRecDepth 100000
set_option autoImplicit false
namespace VL
open PySem PySem.Spec L2
open PyProof.Rows hiding St
end VL
set_option Elab.async false
set_option linter.all false
set_option maxRecDepth 100000
set_option autoImplicit false
namespace VL
open PySem PySem.Spec L2
open PyProof.Rows hiding St
end VL
set_option Elab.async false
set_option linter.all false
set_option maxRecDepth 100000
set_option autoImplicit false
namespace VL
open PySem PySem.Spec L2 HotX
open PyProof.Rows hiding St
def HotH (a : Addr) (F : Hp) : Prop := ∃ (cls : Value) (d : Option Addr), F a = some (xO cls d a)
theorem HotH.at {X : Cx} {pins : List (Addr × Obj)} {σ : L2.St} {H : Hp} {s : Shared} {a : Addr} (h : HotH a H) (hA : X.A.handled = some (.ref a)) (I : Inv X pins σ H s) : HotAt X.A a s.heap := by
  obtain ⟨cls, d, e⟩ := h
  obtain ⟨oe, vs, he, hz, hd⟩ := xO_at I.hok e
  exact ⟨hA, oe, vs, he, hd, hz.2.2 vs hd⟩
section
variable {X : Cx} {G : Gd} {W : WX} {ρx ρ : Rho} {rest sts : List Stmt} {α β R : Type} {pn : α → Rho} {pl : β → Rho} {ι : R → Fl α β}
def BKh (X : Cx) (a : Addr) (G : Gd) (W : WX) (ρx ρ : Rho) (sts : List Stmt) (pn : α → Rho) (pl : β → Rho) (m : Rs (Fl α β)) : Prop :=
  ∀ F0 σ F H E, HotH a F → Holds X.K (G.at F0) ρ σ F H → PostS X.K (G.at F0) W ρx pn pl E m → tAny X sts E σ H
theorem BK.h {a : Addr} {m : Rs (Fl α β)} (h : BK X G W ρx ρ sts pn pl m) : BKh X a G W ρx ρ sts pn pl m := fun F0 σ F H E _ hh hp => h F0 σ F H E hh hp
def BIh (X : Cx) (a : Addr) (G : Gd) (W : WX) (ρx ρ : Rho) (sts : List Stmt) (pn : α → Rho) (pl : β → Rho) (ι : R → Fl α β) (m : Rs R) : Prop := BKh X a G W ρx ρ sts pn pl (m.bind fun r => .ok (ι r))
theorem BI.h {a : Addr} {m : Rs R} (h : BI X G W ρx ρ sts pn pl ι m) : BIh X a G W ρx ρ sts pn pl ι m := BK.h h
end
end VL
set_option Elab.async false
set_option linter.all false
set_option maxRecDepth 100000
set_option autoImplicit false
namespace VL
open PySem PySem.Spec L2
open PyProof.Rows hiding St
def catchM {γ : Type} : List ((Str → Option Bool) × (Str → List (Str × D) → Rs γ)) → Str → List (Str × D) → Rs γ
  | [], c, fs => .ex c fs
  | (mt, ms) :: r, c, fs => match mt c with
    | some true => ms c fs
    | some false => catchM r c fs
    | none => .no
theorem gone_set {K : PySem.W.Frag} {G : Gd} {ρ : Rho} {σ : L2.St} {F H : Hp} {i : Nat} (h : Holds K G ρ σ F H) (hi : ∀ c, ρ[i]? ≠ some (some c)) : Holds K G ρ (σ.set i none) F H := by
  have e : ∀ j c, ρ[j]? = some (some c) → (σ.set i none)[j]? = σ[j]? := fun j c q => by
    rw [List.getElem?_set_ne]
    intro z
    subst z
    exact hi c q
  exact ⟨h.toGnd, fun j d q => by rw [e j _ q]; exact h.val j d q, fun j l d q => by rw [e j _ q]; exact h.own j l d q, fun j k l m d f a n q q2 s1 s2 => h.sep j k l m d f a n q q2 (by rw [← e j _ q]; exact s1) (by rw [← e k _ q2]; exact s2), by rw [List.length_set]; exact h.len⟩
section
variable {X : Cx} {G : Gd} {W : WX} {ρx ρb ρ : Rho} {α β γ : Type} {pn : α → Rho} {pl : β → Rho} {p1 : γ → Rho}
inductive Cls (X : Cx) (G : Gd) (W : WX) (ρx ρb : Rho) (p1 : γ → Rho) (pl : β → Rho) : List ExceptHandler → List ((Str → Option Bool) × (Str → List (Str × D) → Rs (Fl γ β))) → Prop
  | nil : Cls X G W ρx ρb p1 pl [] []
  | cons {x n : Str} {c : Value} {i : Nat} {b₀ : Stmt} {su : List Stmt} {np hp : Pos} {hds : List ExceptHandler} {mt : Str → Option Bool} {ms : Str → List (Str × D) → Rs (Fl γ β)} {l : List ((Str → Option Bool) × (Str → List (Str × D) → Rs (Fl γ β)))}
      (hc : Names X x c) (hi : X.N[i]? = some n) (hln : X.env.kindOf n = some .local) (hib : i < ρb.length) (hp1 : ∀ z cc, (p1 z)[i]? ≠ some (some cc)) (hpl : ∀ z cc, (pl z)[i]? ≠ some (some cc)) (hmt : ∀ cc b, mt cc = some b → PySem.W.exmOne X.K (.ref (He.ga X.K cc)) c = some b)
      (hs : ∀ (a : Addr) (qn : List (Addr × Obj)) (cc : Str) (fs : List (Str × D)), BKh (X.suite a qn) a G W ρx (ρb.set i (some (.val (.exn cc fs)))) (b₀ :: su) p1 pl (ms cc fs)) (r : Cls X G W ρx ρb p1 pl hds l) :
      Cls X G W ρx ρb p1 pl (.ExceptHandler (some (.Name x np)) (some n) (b₀ :: su) hp :: hds) ((mt, ms) :: l)
theorem Cls.reads {hds : List ExceptHandler} {l : List ((Str → Option Bool) × (Str → List (Str × D) → Rs (Fl γ β)))} (h : Cls X G W ρx ρb p1 pl hds l) : ∃ l2 : List (Value × Nat × (Addr → TS)), HdX X hds l2 ∧
    ∀ (F0 : Hp) (D0 : Ends) (c : Str) (fs : List (Str × D)) (dd : Addr) (σ : L2.St) (F H : Hp), Holds X.K (G.at F0) ρb σ F H → XRep X.K F dd fs → PostS X.K (G.at F0) W ρx p1 pl D0 (catchM l c fs) →
      (∀ σ' F' H', Holds X.K (G.at F0) ρb σ' F' H' → Holds X.K (G.at F0) ρx σ' F' H') → wX X.K W D0 l2 (.ref (He.ga X.K c)) (some dd) σ H := by
  induction h with
  | nil => exact ⟨[], .nil, fun F0 D0 c fs dd σ F H hh hx hp wk => hp dd σ F H (wk _ _ _ hh) hx⟩
  | @cons x n c i b₀ su np hp hds mt ms l hc hi hln hib hp1 hpl hmt hs r ih =>
    obtain ⟨l2, h2, k2⟩ := ih
    refine ⟨(c, i, fun a E σ H => ∀ (qn : List (Addr × Obj)), tAny (X.suite a qn) (b₀ :: su) E σ H) :: l2, .cons hc hi hln (fun a qn => ⟨fun pins s σ H E I h => (h qn).elim fun _ z => z.1.run pins s σ H E I z.2⟩) h2, ?_⟩
    intro F0 D0 cc fs dd σ F H hh hx hpo wk
    unfold catchM at hpo
    cases hm : mt cc with
    | none => rw [hm] at hpo; exact hpo.elim
    | some b =>
      rw [hm] at hpo
      refine ⟨b, hmt cc b hm, fun hb => ?_, fun hb => ?_⟩
      · subst hb
        intro a na qn
        have e2 := Ext.fresh hh.sub (xO (.ref (He.ga X.K cc)) (some dd) a) na
        obtain ⟨vs, x1, x2, x3⟩ := hx
        have hr : Rep X.K (upd F a (xO (.ref (He.ga X.K cc)) (some dd) a)) (.ref a) (.exn cc fs) := .exn upd_same (e2.ext _ _ x1) x2 (x3.mono e2.ext)
        refine hs a qn cc fs F0 _ _ _ _ (show HotH a (upd F a (xO (.ref (He.ga X.K cc)) (some dd) a)) from ⟨_, _, upd_same⟩) ((hh.more e2).setV hr hib) ?_
        cases hq : ms cc fs with
        | no => rw [hq] at hpo; exact hpo
        | ex c2 f2 => rw [hq] at hpo; exact hpo
        | ok fl =>
          rw [hq] at hpo
          cases fl with
          | nx z => exact fun σ' F' H' h' => hpo _ F' H' (gone_set h' (hp1 z))
          | bk y => exact fun σ' F' H' h' => hpo _ F' H' (gone_set h' (hpl y))
          | ct y => exact fun σ' F' H' h' => hpo _ F' H' (gone_set h' (hpl y))
          | rt d s => exact hpo
      · subst hb
        exact k2 F0 D0 cc fs dd σ F H hh hx hpo wk
end
end VL
set_option Elab.async false
set_option linter.all false
set_option maxRecDepth 100000
set_option autoImplicit false
namespace VL
open PySem PySem.Spec L2
open PyProof.Rows hiding St
structure ExI (K : PySem.W.Frag) (C : Addr) : Prop where
  cl : (PySem.W.clsIn K C).isSome = true
  ga : PySem.W.findIn K (.ref C) "__getattribute__" = some (some (.builtin "BaseException.__getattribute__"))
  gg : PySem.W.findIn K (.ref C) "__getattr__" = some none
  sb : PySem.W.subIn K (.ref C) (.type "BaseException") = some true
  ca : PySem.W.findIn K (.ref C) "__class__" = some (some (.builtin "object.__class__"))
  sp : PySem.W.specialIn K (.builtin "object.__class__") "__get__" = some (some (.builtin "getset_descriptor.__get__"))
  tk : PySem.W.takesIn K (.builtin "object.__class__") = some true
  mr : PySem.W.mroIn K C (.type "object") = some true
theorem all_cons {α : Type} {p : α → Prop} {a : α} {l : List α} (h : p a) (t : ∀ x ∈ l, p x) : ∀ x ∈ a :: l, p x := List.forall_mem_cons.mpr ⟨h, t⟩
section
variable {X : Cx} {G : Gd} {W : WX} {ρx ρ : Rho} {rest sts : List Stmt} {α β R : Type} {pn : α → Rho} {pl : β → Rho} {ι : R → Fl α β}
inductive ClsI (X : Cx) (G : Gd) (W : WX) (ρx ρb : Rho) {γ : Type} (p1 : γ → Rho) (pl : β → Rho) : List ExceptHandler → List ((Str → Option Bool) × (Str → List (Str × D) → Rs γ)) → Prop
  | nil : ClsI X G W ρx ρb p1 pl [] []
  | cons {x n : Str} {c : Value} {i : Nat} {b₀ : Stmt} {su : List Stmt} {np hp : Pos} {hds : List ExceptHandler} {mt : Str → Option Bool} {ms : Str → List (Str × D) → Rs γ} {l : List ((Str → Option Bool) × (Str → List (Str × D) → Rs γ))}
      (hc : Names X x c) (hi : X.N[i]? = some n) (hln : X.env.kindOf n = some .local) (hib : i < ρb.length) (hp1 : ∀ z cc, (p1 z)[i]? ≠ some (some cc)) (hpl : ∀ z cc, (pl z)[i]? ≠ some (some cc)) (hmt : ∀ cc b, mt cc = some b → PySem.W.exmOne X.K (.ref (He.ga X.K cc)) c = some b)
      (hs : ∀ (a : Addr) (qn : List (Addr × Obj)) (cc : Str) (fs : List (Str × D)), BIh (X.suite a qn) a G W ρx (ρb.set i (some (.val (.exn cc fs)))) (b₀ :: su) p1 pl Fl.nx (ms cc fs)) (r : ClsI X G W ρx ρb p1 pl hds l) :
      ClsI X G W ρx ρb p1 pl (.ExceptHandler (some (.Name x np)) (some n) (b₀ :: su) hp :: hds) ((mt, ms) :: l)
theorem ClsI.cls {ρb : Rho} {γ : Type} {p1 : γ → Rho} {hds : List ExceptHandler} {l : List ((Str → Option Bool) × (Str → List (Str × D) → Rs γ))} (h : ClsI X G W ρx ρb p1 pl hds l) : Cls X G W ρx ρb p1 pl hds (l.map fun x => (x.1, fun c fs => (x.2 c fs).bind fun r => .ok (.nx r))) := by
  induction h with
  | nil => exact .nil
  | cons hc hi hln hib hp1 hpl hmt hs r ih => exact .cons hc hi hln hib hp1 hpl hmt hs ih
end
end VL
set_option Elab.async false
set_option linter.all false
set_option maxRecDepth 100000
set_option autoImplicit false
namespace VL
open PySem PySem.Spec L2
open PyProof.Rows hiding St
end VL
set_option Elab.async false
set_option linter.all false
set_option maxRecDepth 100000
set_option autoImplicit false
namespace VL
open PySem PySem.Spec L2
open PyProof.Rows hiding St
noncomputable abbrev endE (r : PySem.W.OpenRow) (M : Nat) (w : World) (os : OsState) : Option PySem.W.SharedT := HandSHeadRun.endF (HandSHeadRun.stepQ (HandSHeadRun.denQ HandSHeadRun.tabQ) r.prog w) M r.prog w os
theorem run_of {r : PySem.W.OpenRow} {q : Program} {n : Nat} {fs : List FrB} {fn : List DefA} {M : Nat} {loose : List PySem.Str} {w : World}
    (hA : ∀ os, (endE r M w os).map (fun s => (HandSHeadRun.looksF r.prog (PySem.W.boot_heap w.params) s.abs, HandSHeadRun.seenQ q loose (importedModules r.prog.main.body) (fun s => PySem.W.xlAt q [] s && PySem.W.recOk r.toRowW.records s) s.abs)) = some (true, PySem.W.openGood q loose))
    (hB : ∀ os, (endE r M w os).map (fun s => obsVG n fs fn (HandSHeadRun.getT s)) = some (valV fn)) : HandSHeadRun.RunEq r q (hookV n fs fn) (fun s => obsVG n fs fn (HandSHeadRun.getT s)) M loose w := fun os => by
  have a := hA os
  have b := hB os
  unfold endE at a b
  revert a b
  generalize HandSHeadRun.endF (HandSHeadRun.stepQ (HandSHeadRun.denQ HandSHeadRun.tabQ) r.prog w) M r.prog w os = E
  intro a b
  cases E with
  | none => cases a
  | some s =>
    have e1 := Option.some.inj a
    have e2 := Option.some.inj b
    have e3 := congrArg Prod.fst e1
    have e4 := congrArg Prod.snd e1
    simp only at e3 e4
    rw [Option.map_some]
    congr 1
    rw [e3, e4]
    exact congrArg _ (congrArg _ e2)
end VL
set_option Elab.async false
set_option linter.all false
set_option maxRecDepth 100000
set_option autoImplicit false
namespace VL
open PySem PySem.Spec L2
open PyProof.Rows hiding St
structure OwnEq (K : PySem.W.Frag) (C g : Addr) : Prop where
  at_ : PySem.W.findIn K (.ref C) "__eq__" = some (some (.ref g))
  fn : PySem.W.isFn K (.ref g) = true
  nf : PySem.W.notFirst K C (.ref C) = true
structure OwnM (K : PySem.W.Frag) (C g : Addr) (nm : Str) : Prop where
  at_ : PySem.W.findIn K (.ref C) nm = some (some (.ref g))
  fn : PySem.W.isFn K (.ref g) = true
structure OwnNe (K : PySem.W.Frag) (C : Addr) : Prop where
  at_ : PySem.W.findIn K (.ref C) "__ne__" = some (some (.builtin "object.__ne__"))
  mo : PySem.W.mroIn K C (.type "object") = some true
structure OwnIs (K : PySem.W.Frag) (C : Addr) : Prop where
  si : SlX.SIsi K C
  kt : PySem.W.kitOne K (.ref C) (.ref C) = some true
end VL
set_option Elab.async false
set_option linter.all false
set_option maxRecDepth 100000
set_option maxHeartbeats 0
set_option autoImplicit false
namespace LW
open PySem PySem.Spec L2 VL
open PyProof.Rows hiding St
def top (i : Nat) : Stmt := PySem.Challenge.pw_allgather_k30_the_worth_of_a_table.main.body.getD i (.Pass ⟨0, 0, 0, 0⟩)
def sub (st : Stmt) (j : Nat) : Stmt := (C8.clsBody st).getD j (.Pass ⟨0, 0, 0, 0⟩)
def fac0 : List FrB := [freeB "abs", freeB "all", freeB "bool", freeB "enumerate", freeB "int", freeB "isinstance", freeB "len", freeB "list", freeB "min", freeB "range", freeB "str", freeB "sum", freeB "tuple", freeB "zip", gloB "NONE", gtupB "NONE" [0, 1], gintB "PAIR" 2, gloB "WHOLE", gtupB "WHOLE" [1, 1], gloB "is_number", gloB "is_count", gloB "tupled", gloB "common_part", gloB "fraction", gloB "plus", gloB "minus", gloB "times", gloB "is_less", gloB "lesser", gloB "greater", gloB "total", gloB "is_amount", gloB "is_row_of", gloB "are_weights", gloB "common_bottom", gloB "entering", gloB "leaving", gloB "pivoted", gloB "shares", gloB "best_mixture", gloB "worth", gloB "best_columns", gloB "best_rows", gloB "columns_worth", gloB "rows_worth", gloB "is_best_columns", gloB "is_best_rows", gloB "_law_box", gloB "_law_take", gloB "_law_cells", gloB "_law_same", gloB "_law_lists", gloB "_law_part", gloB "_law_ratio", gloB "_law_sum", gloB "_law_less", gloB "_law_by", gloB "_law_least", gloB "_law_most", gloB "_law_is_part", gloB "_law_are_weights", gloB "_law_sums", gloB "_law_across", gloB "_law_entry", gloB "_law_grid", gloB "_law_shares", gloB "_law_shown", gloB "_law_case_right", gloB "_law_by_hand_right", gloB "_law_right", gloB "law"]
def fac : List FrB := fac0
def df_is_number : DefA := ⟨fun K => (He.ga K "is_number"), "is_number", "is_number", defArgs (top 1), defBody (top 1), defScope (top 1), []⟩
def df_is_count : DefA := ⟨fun K => (He.ga K "is_count"), "is_count", "is_count", defArgs (top 2), defBody (top 2), defScope (top 2), []⟩
def df_tupled : DefA := ⟨fun K => (He.ga K "tupled"), "tupled", "tupled", defArgs (top 3), defBody (top 3), defScope (top 3), []⟩
def df_common_part : DefA := ⟨fun K => (He.ga K "common_part"), "common_part", "common_part", defArgs (top 8), defBody (top 8), defScope (top 8), []⟩
def df_fraction : DefA := ⟨fun K => (He.ga K "fraction"), "fraction", "fraction", defArgs (top 9), defBody (top 9), defScope (top 9), []⟩
def df_plus : DefA := ⟨fun K => (He.ga K "plus"), "plus", "plus", defArgs (top 10), defBody (top 10), defScope (top 10), []⟩
def df_minus : DefA := ⟨fun K => (He.ga K "minus"), "minus", "minus", defArgs (top 11), defBody (top 11), defScope (top 11), []⟩
def df_times : DefA := ⟨fun K => (He.ga K "times"), "times", "times", defArgs (top 12), defBody (top 12), defScope (top 12), []⟩
def df_is_less : DefA := ⟨fun K => (He.ga K "is_less"), "is_less", "is_less", defArgs (top 13), defBody (top 13), defScope (top 13), []⟩
def df_lesser : DefA := ⟨fun K => (He.ga K "lesser"), "lesser", "lesser", defArgs (top 14), defBody (top 14), defScope (top 14), []⟩
def df_greater : DefA := ⟨fun K => (He.ga K "greater"), "greater", "greater", defArgs (top 15), defBody (top 15), defScope (top 15), []⟩
def df_total : DefA := ⟨fun K => (He.ga K "total"), "total", "total", defArgs (top 16), defBody (top 16), defScope (top 16), []⟩
def df_is_amount : DefA := ⟨fun K => (He.ga K "is_amount"), "is_amount", "is_amount", defArgs (top 17), defBody (top 17), defScope (top 17), []⟩
def df_is_row_of : DefA := ⟨fun K => (He.ga K "is_row_of"), "is_row_of", "is_row_of", defArgs (top 19), defBody (top 19), defScope (top 19), []⟩
def df_are_weights : DefA := ⟨fun K => (He.ga K "are_weights"), "are_weights", "are_weights", defArgs (top 20), defBody (top 20), defScope (top 20), []⟩
def df_common_bottom : DefA := ⟨fun K => (He.ga K "common_bottom"), "common_bottom", "common_bottom", defArgs (top 21), defBody (top 21), defScope (top 21), []⟩
def df_entering : DefA := ⟨fun K => (He.ga K "entering"), "entering", "entering", defArgs (top 22), defBody (top 22), defScope (top 22), []⟩
def df_leaving : DefA := ⟨fun K => (He.ga K "leaving"), "leaving", "leaving", defArgs (top 23), defBody (top 23), defScope (top 23), []⟩
def df_pivoted : DefA := ⟨fun K => (He.ga K "pivoted"), "pivoted", "pivoted", defArgs (top 24), defBody (top 24), defScope (top 24), []⟩
def df_shares : DefA := ⟨fun K => (He.ga K "shares"), "shares", "shares", defArgs (top 26), defBody (top 26), defScope (top 26), []⟩
def df_best_mixture : DefA := ⟨fun K => (He.ga K "best_mixture"), "best_mixture", "best_mixture", defArgs (top 25), defBody (top 25), defScope (top 25), []⟩
def df_worth : DefA := ⟨fun K => (He.ga K "worth"), "worth", "worth", defArgs (top 27), defBody (top 27), defScope (top 27), []⟩
def df_best_columns : DefA := ⟨fun K => (He.ga K "best_columns"), "best_columns", "best_columns", defArgs (top 28), defBody (top 28), defScope (top 28), []⟩
def df_best_rows : DefA := ⟨fun K => (He.ga K "best_rows"), "best_rows", "best_rows", defArgs (top 29), defBody (top 29), defScope (top 29), []⟩
def df_columns_worth : DefA := ⟨fun K => (He.ga K "columns_worth"), "columns_worth", "columns_worth", defArgs (top 30), defBody (top 30), defScope (top 30), []⟩
def df_rows_worth : DefA := ⟨fun K => (He.ga K "rows_worth"), "rows_worth", "rows_worth", defArgs (top 31), defBody (top 31), defScope (top 31), []⟩
def df_is_best_columns : DefA := ⟨fun K => (He.ga K "is_best_columns"), "is_best_columns", "is_best_columns", defArgs (top 32), defBody (top 32), defScope (top 32), []⟩
def df_is_best_rows : DefA := ⟨fun K => (He.ga K "is_best_rows"), "is_best_rows", "is_best_rows", defArgs (top 33), defBody (top 33), defScope (top 33), []⟩
def df_law_box : DefA := ⟨fun K => (He.ga K "_law_box"), "_law_box", "_law_box", defArgs (top 35), defBody (top 35), defScope (top 35), []⟩
def df_law_take : DefA := ⟨fun K => (He.ga K "_law_take"), "_law_take", "_law_take", defArgs (top 36), defBody (top 36), defScope (top 36), []⟩
def df_law_cells : DefA := ⟨fun K => (He.ga K "_law_cells"), "_law_cells", "_law_cells", defArgs (top 37), defBody (top 37), defScope (top 37), []⟩
def df_law_same : DefA := ⟨fun K => (He.ga K "_law_same"), "_law_same", "_law_same", defArgs (top 38), defBody (top 38), defScope (top 38), []⟩
def df_law_lists : DefA := ⟨fun K => (He.ga K "_law_lists"), "_law_lists", "_law_lists", defArgs (top 39), defBody (top 39), defScope (top 39), []⟩
def df_law_part : DefA := ⟨fun K => (He.ga K "_law_part"), "_law_part", "_law_part", defArgs (top 41), defBody (top 41), defScope (top 41), []⟩
def df_law_ratio : DefA := ⟨fun K => (He.ga K "_law_ratio"), "_law_ratio", "_law_ratio", defArgs (top 40), defBody (top 40), defScope (top 40), []⟩
def df_law_sum : DefA := ⟨fun K => (He.ga K "_law_sum"), "_law_sum", "_law_sum", defArgs (top 42), defBody (top 42), defScope (top 42), []⟩
def df_law_less : DefA := ⟨fun K => (He.ga K "_law_less"), "_law_less", "_law_less", defArgs (top 43), defBody (top 43), defScope (top 43), []⟩
def df_law_by : DefA := ⟨fun K => (He.ga K "_law_by"), "_law_by", "_law_by", defArgs (top 44), defBody (top 44), defScope (top 44), []⟩
def df_law_least : DefA := ⟨fun K => (He.ga K "_law_least"), "_law_least", "_law_least", defArgs (top 45), defBody (top 45), defScope (top 45), []⟩
def df_law_most : DefA := ⟨fun K => (He.ga K "_law_most"), "_law_most", "_law_most", defArgs (top 46), defBody (top 46), defScope (top 46), []⟩
def df_law_is_part : DefA := ⟨fun K => (He.ga K "_law_is_part"), "_law_is_part", "_law_is_part", defArgs (top 47), defBody (top 47), defScope (top 47), []⟩
def df_law_are_weights : DefA := ⟨fun K => (He.ga K "_law_are_weights"), "_law_are_weights", "_law_are_weights", defArgs (top 48), defBody (top 48), defScope (top 48), []⟩
def df_law_sums : DefA := ⟨fun K => (He.ga K "_law_sums"), "_law_sums", "_law_sums", defArgs (top 49), defBody (top 49), defScope (top 49), []⟩
def df_law_across : DefA := ⟨fun K => (He.ga K "_law_across"), "_law_across", "_law_across", defArgs (top 50), defBody (top 50), defScope (top 50), []⟩
def df_law_entry : DefA := ⟨fun K => (He.ga K "_law_entry"), "_law_entry", "_law_entry", defArgs (top 51), defBody (top 51), defScope (top 51), []⟩
def df_law_grid : DefA := ⟨fun K => (He.ga K "_law_grid"), "_law_grid", "_law_grid", defArgs (top 52), defBody (top 52), defScope (top 52), []⟩
def df_law_shares : DefA := ⟨fun K => (He.ga K "_law_shares"), "_law_shares", "_law_shares", defArgs (top 53), defBody (top 53), defScope (top 53), []⟩
def df_law_shown : DefA := ⟨fun K => (He.ga K "_law_shown"), "_law_shown", "_law_shown", defArgs (top 54), defBody (top 54), defScope (top 54), []⟩
def df_law_case_right : DefA := ⟨fun K => (He.ga K "_law_case_right"), "_law_case_right", "_law_case_right", defArgs (top 55), defBody (top 55), defScope (top 55), []⟩
def df_law_by_hand_right : DefA := ⟨fun K => (He.ga K "_law_by_hand_right"), "_law_by_hand_right", "_law_by_hand_right", defArgs (top 56), defBody (top 56), defScope (top 56), []⟩
def df_law_right : DefA := ⟨fun K => (He.ga K "_law_right"), "_law_right", "_law_right", defArgs (top 57), defBody (top 57), defScope (top 57), []⟩
def df_law : DefA := ⟨fun K => (He.ga K "law"), "law", "law", defArgs (top 58), defBody (top 58), defScope (top 58), []⟩
def fns0 : List DefA := [df_is_number, df_is_count, df_tupled, df_common_part, df_fraction, df_plus, df_minus, df_times, df_is_less, df_lesser, df_greater, df_total, df_is_amount, df_is_row_of, df_are_weights, df_common_bottom, df_entering, df_leaving, df_pivoted, df_shares, df_best_mixture, df_worth, df_best_columns, df_best_rows, df_columns_worth, df_rows_worth, df_is_best_columns, df_is_best_rows, df_law_box, df_law_take, df_law_cells, df_law_same, df_law_lists, df_law_part, df_law_ratio, df_law_sum, df_law_less, df_law_by, df_law_least, df_law_most, df_law_is_part, df_law_are_weights, df_law_sums, df_law_across, df_law_entry, df_law_grid, df_law_shares, df_law_shown, df_law_case_right, df_law_by_hand_right, df_law_right, df_law]
def fns : List DefA := fns0
abbrev R : PySem.W.OpenRow := PySem.W.OpenLaw.row PySem.Challenge.rw_allgather_k30_the_worth_of_a_table
abbrev hk : PySem.W.Hook := hookV 5 fac fns
def ob (s : PySem.W.SharedT) : AlV := obsVG 5 fac fns (HandSHeadRun.getT s)
theorem ob_eq (s : PySem.W.SharedT) : ob s = hk.obs s.abs := obsVG_eq (HandSHeadRun.getT_eq s)
def lo0 : List PySem.Str := ["is_number", "is_count", "tupled", "NONE", "WHOLE", "PAIR", "common_part", "fraction", "plus", "minus", "times", "is_less", "lesser", "greater", "total", "is_amount", "is_row_of", "are_weights", "common_bottom", "entering", "leaving", "pivoted", "best_mixture", "shares", "worth", "best_columns", "best_rows", "columns_worth", "rows_worth", "is_best_columns"]
def lo1 : List PySem.Str := ["is_best_rows", "_law_box", "_law_take", "_law_cells", "_law_same", "_law_lists", "_law_ratio", "_law_part", "_law_sum", "_law_less", "_law_by", "_law_least", "_law_most", "_law_is_part", "_law_are_weights", "_law_sums", "_law_across", "_law_entry", "_law_grid", "_law_shares", "_law_shown", "_law_case_right", "_law_by_hand_right", "_law_right"]
def lo : List PySem.Str := lo0 ++ lo1
theorem runB0 (w : World) (os : OsState) : (endE R 20000 w os).map (fun s => obsVG 5 fac0 fns0 (HandSHeadRun.getT s)) = some (valV fns0) := by kernel_rfl
theorem runA (w : World) (os : OsState) : (endE R 20000 w os).map (fun s => (HandSHeadRun.looksF R.prog (PySem.W.boot_heap w.params) s.abs, HandSHeadRun.seenQ (PySem.W.view R.prog [58]) lo (importedModules R.prog.main.body) (fun s => PySem.W.xlAt (PySem.W.view R.prog [58]) [] s && PySem.W.recOk R.toRowW.records s) s.abs)) = some (true, PySem.W.openGood (PySem.W.view R.prog [58]) lo) := by kernel_rfl
theorem run (w : World) : HandSHeadRun.RunEq R (PySem.W.view R.prog [58]) hk ob 20000 lo w := run_of (fs := fac) (fn := fns) (fun os => runA w os) fun os => (runB0 w os)
end LW
set_option Elab.async false
set_option linter.all false
set_option maxRecDepth 100000
set_option autoImplicit false
namespace VL
open PySem PySem.Spec L2
open PyProof.Rows hiding St
def catL : D → D → Option (List D)
  | .lst xs, .lst ys => if xs.length + ys.length ≤ sizeLine then some (xs ++ ys) else none
  | _, _ => none
theorem ef_cat {X : Cx} {G : Gd} {W : WX} {ρ : Rho} {a b : Expr} {ma mb : Rs D} {pos : Pos} (ha : EO X G W ρ a ma) (hb : EO X G W ρ b mb) : EF X G W ρ (.BinOp a .Add b pos) (ma.bind fun x => mb.bind fun y => Rs.of (catL x y)) := by
  obtain ⟨ta, pa, qa⟩ := ha
  obtain ⟨tb, pb, qb⟩ := hb
  refine ⟨_, pe_op op_cat pa pb, fun F0 σ F H Q hh hp => ?_⟩
  refine qa F0 σ F H _ hh (hp.bind fun dx x F1 H1 e1 r1 hp1 => ?_)
  refine qb F0 σ F1 H1 _ (hh.more e1) (hp1.bind fun dy y F2 H2 e2 r2 hp2 => ?_)
  obtain ⟨d, hd, k⟩ := hp2.of
  unfold catL at hd
  split at hd
  · split at hd
    · cases hd
      obtain ⟨a', xs, rfl, ha', la, ra⟩ := (r1.more e2).lst e2.sub
      obtain ⟨b', ys, rfl, hb', lb, rb⟩ := r2.lst e2.sub
      have l2 : xs.length + ys.length ≤ sizeLine := by rw [ra.length, rb.length]; assumption
      refine ⟨a', b', xs, ys, rfl, rfl, ha', hb', l2, fun p hn => k _ F2 _ (Ext.loose e2.sub _ hn) ⟨p, rfl, e1.same.free (e2.same.free hn), sub_none e2.sub hn, .lst upd_same (by rw [List.length_append]; exact l2) (ra.append rb)⟩⟩
    · cases hd
  · cases hd
inductive Cells (K : PySem.W.Frag) (F H : Hp) : Hp → List (Bool × D) → List V → Prop
  | nil {Hk : Hp} : Cells K F H Hk [] []
  | cons {Hk Hn : Hp} {o : Bool} {v : V} {d : D} {ps : List (Bool × D)} {vs : List V} : CellOk K Hk F H o v d → (∀ a, Hn a = none → Hk a = none) → (o = true → ∀ a, v = .ref a → Hn a ≠ none) → Cells K F H Hn ps vs → Cells K F H Hk ((o, d) :: ps) (v :: vs)
theorem Cells.more {K : PySem.W.Frag} {F H F' H' Hk : Hp} {ps : List (Bool × D)} {vs : List V} (e : Ext F H F' H') (h : Cells K F H Hk ps vs) : Cells K F' H' Hk ps vs := by
  induction h with
  | nil => exact .nil
  | cons c n1 n2 _ ih => exact .cons (c.more e) n1 n2 ih
def setR : Rho → List Nat → List (Bool × D) → Rho
  | ρ, i :: is, p :: ps => setR (ρ.set i (some (clOf p.1 p.2))) is ps
  | ρ, _, _ => ρ
def setS : L2.St → List Nat → List V → L2.St
  | σ, i :: is, v :: vs => setS (σ.set i (some v)) is vs
  | σ, _, _ => σ
theorem Holds.setCs {K : PySem.W.Frag} {G : Gd} {F H : Hp} : ∀ {ps : List (Bool × D)} {vs : List V} {Hk : Hp} {ρ : Rho} {σ : L2.St} {is : List Nat}, Cells K F H Hk ps vs → Holds K G ρ σ F H →
    (∀ a, Hk a = none → OwnAt G a true ∧ ∀ (j : Nat) (m : Bool) (e : D), ρ[j]? = some (some (.own m e)) → σ[j]? ≠ some (some (.ref a))) → (∀ i ∈ is, i < ρ.length) → Holds K G (setR ρ is ps) (setS σ is vs) F H
  | _, _, _, _, _, is, .nil, hh, _, _ => by cases is <;> exact hh
  | _, _, _, _, _, [], .cons _ _ _ _, hh, _, _ => hh
  | (o, d) :: ps, v :: vs, Hk, ρ, σ, i :: is, .cons c n1 n2 r, hh, hf, hi => by
    have hil : i < ρ.length := hi i List.mem_cons_self
    refine Holds.setCs (ρ := ρ.set i (some (clOf o d))) (σ := σ.set i (some v)) (is := is) r (hh.setC c (fun a _ ha => hf a ha) hil) (fun a ha => ?_) (fun j hj => by rw [List.length_set]; exact hi j (List.mem_cons_of_mem _ hj))
    obtain ⟨g1, g2⟩ := hf a (n1 a ha)
    refine ⟨g1, fun k m e q => ?_⟩
    rcases set_at q with ⟨rfl, z⟩ | ⟨n, z⟩
    · rw [List.getElem?_set_self (by have := hh.len; omega)]
      intro q2
      cases q2
      cases o with
      | false => cases z
      | true => exact n2 rfl a rfl ha
    · rw [List.getElem?_set_ne n]
      exact g2 k m e z
theorem cell_there {K : PySem.W.Frag} {Hs F H : Hp} {o : Bool} {v : V} {d : D} (c : CellOk K Hs F H o v d) (ho : o = true) : ∀ a, v = .ref a → H a ≠ none := fun a ea hn => by
  subst ho
  obtain ⟨a', ea', _, _, h4⟩ := c
  rw [ea] at ea'
  cases ea'
  obtain ⟨o', ho', nt_⟩ := h4.there
  rw [hn] at ho'
  cases ho'
theorem free_of {K : PySem.W.Frag} {G : Gd} {ρ : Rho} {σ : L2.St} {F H : Hp} (hh : Holds K G ρ σ F H) : ∀ a, H a = none → OwnAt G a true ∧ ∀ (j : Nat) (m : Bool) (e : D), ρ[j]? = some (some (.own m e)) → σ[j]? ≠ some (some (.ref a)) :=
  fun a ha => ⟨hh.toGnd.free0 ha, fun k m e q => hh.notOwn ha k m e q⟩
section
variable {X : Cx} {G : Gd} {W : WX} {ρx ρ : Rho} {rest sts : List Stmt} {α β R : Type} {pn : α → Rho} {pl : β → Rho} {ι : R → Fl α β} {i : Nat} {l : Bool} {s : List D}
theorem bi_dsp2 {γ1 : Type} {o1 : Bool} {w1 : γ1 → D} {i1 : Nat} {e1 : Expr} {ma1 : Rs γ1} {γ2 : Type} {o2 : Bool} {w2 : γ2 → D} {i2 : Nat} {e2 : Expr} {ma2 : Rs γ2} {a1 a2 : Expr} {kt k2 : Nat} {pt pt2 pos : Pos} {f : γ1 → γ2 → Rs R} (calm : X.calm = true)
    (hg1 : PG X a1 (gName i1)) (hg2 : PG X a2 (gName i2))
    (h1 : EC X G W ρ o1 e1 w1 ma1) (h2 : EC X G W ρ o2 e2 w2 ma2)
    (hr : ∀ d1 d2, BI X G W ρx ((ρ.set i1 (some (clOf o1 (w1 d1)))).set i2 (some (clOf o2 (w2 d2)))) rest pn pl ι (f d1 d2))
    (hw : swappedStores [.Tuple [a1, a2] kt pt] (.Tuple [e1, e2] k2 pt2) X.env = pure none := by rfl) (hs : swapsWithSole [.Tuple [a1, a2] kt pt] (.Tuple [e1, e2] k2 pt2) pos.line X.env = pure false := by rfl)
    (hs1 : starEach [e1, e2] X.env = (false, eval e1 X.env) :: starEach [e2] X.env := by rfl)
    (hs2 : starEach [e2] X.env = (false, eval e2 X.env) :: starEach [] X.env := by rfl)
    (ht : (assignEach [.Tuple [a1, a2] kt pt] X.env).map (·.2) = [assign (.Tuple [a1, a2] kt pt) X.env] := by rfl) (hn : (assignEach [a1, a2] X.env).length = 2 := by rfl) (hst : (assignEach [a1, a2] X.env).findIdx? (·.1) = none := by rfl)
    (hq1 : (assignEach [a1, a2] X.env).map (·.2) = assign a1 X.env :: (assignEach [a2] X.env).map (·.2) := by rfl)
    (hq2 : (assignEach [a2] X.env).map (·.2) = assign a2 X.env :: (assignEach [] X.env).map (·.2) := by rfl)
    (hl1 : i1 < ρ.length := by exact Nat.le_of_ble_eq_true rfl) (hl2 : i2 < ρ.length := by exact Nat.le_of_ble_eq_true rfl) (wx : Wk ρ ρx := by first | exact Wk.nil | exact Wk.refl | (repeat (first | exact Wk.nil | apply Wk.keep | apply Wk.drop))) :
    BI X G W ρx ρ (.Assign [.Tuple [a1, a2] kt pt] (.Tuple [e1, e2] k2 pt2) pos :: rest) pn pl ι (ma1.bind fun d1 => ma2.bind fun d2 => f d1 d2) := by
  obtain ⟨t1, p1, q1⟩ := h1
  obtain ⟨t2, p2, q2⟩ := h2
  intro F0 σ F H E hh hp
  have e2 : ((ma1.bind fun d1 => ma2.bind fun d2 => f d1 d2).bind fun r => (.ok (ι r) : Rs (Fl α β))) = ma1.bind fun d1 => ma2.bind fun d2 => (f d1 d2).bind fun r => .ok (ι r) := by
    simp only [Rs.assoc]
  rw [e2] at hp
  refine any_cons (ps_asg (pe_tup (pa_cons p1 (pa_cons p2 pa_nil hs2) hs1)) (pg_tup calm (pgs_cons hg1 (pgs_cons hg2 pgs_nil hq2) hq1) hn hst) hs hw ht) ?_
  refine q1 F0 σ F H _ hh (post_seq hh wx hp fun d1 v1 F1 H1 x1_ r1 hp1 => ?_)
  refine q2 F0 σ F1 H1 _ (hh.more x1_) (post_seq (hh.more x1_) wx hp1 fun d2 v2 F2 H2 x2_ r2 hp2 => ?_)
  refine ⟨by show 2 ≤ sizeLine; decide, fun p hn0 => ?_⟩
  have e3 : Ext F2 H2 F2 (upd H2 p (.tup [v1, v2])) := Ext.loose x2_.sub _ hn0
  refine ⟨p, [v1, v2], rfl, .inl (.inl upd_same), rfl, ?_⟩
  refine ⟨_, _, rfl, _, _, rfl, rfl, ?_⟩
  exact hr d1 d2 F0 _ F2 _ E (Holds.setCs (is := [i1, i2]) (Cells.more e3 (Cells.cons (Hn := H1) (CellOk.more x2_ r1) (fun a ha => x1_.same.free ha) (fun ho => cell_there r1 ho) (Cells.cons (Hn := H2) r2 (fun a ha => x2_.same.free ha) (fun ho => cell_there r2 ho) (Cells.nil (Hk := H2))))) (((hh.more x1_).more x2_).more e3) (free_of hh) (fun j hj => by simp only [List.mem_cons, List.not_mem_nil, or_false] at hj; rcases hj with rfl | rfl <;> assumption)) hp2
theorem bi_pard3 {γ1 : Type} {o1 : Bool} {w1 : γ1 → D} {i1 : Nat} {e1 : Expr} {ma1 : Rs γ1} {γ2 : Type} {o2 : Bool} {w2 : γ2 → D} {i2 : Nat} {e2 : Expr} {ma2 : Rs γ2} {γ3 : Type} {o3 : Bool} {w3 : γ3 → D} {i3 : Nat} {e3 : Expr} {ma3 : Rs γ3} {x1 : Str} {px1 : Pos} {x2 : Str} {px2 : Pos} {x3 : Str} {px3 : Pos} {kt k2 : Nat} {pt pt2 pos : Pos} {f : γ1 → γ2 → γ3 → Rs R} (calm : X.calm = true) (nd : X.N.Nodup)
    (h1 : EC X G W ρ o1 e1 w1 ma1) (h2 : EC X G W ρ o2 e2 w2 ma2) (h3 : EC X G W ρ o3 e3 w3 ma3)
    (hr : ∀ d1 d2 d3, BI X G W ρx (((ρ.set i1 (some (clOf o1 (w1 d1)))).set i2 (some (clOf o2 (w2 d2)))).set i3 (some (clOf o3 (w3 d3)))) rest pn pl ι (f d1 d2 d3))
    (hi1 : X.N[i1]? = some x1 := by rfl) (hi2 : X.N[i2]? = some x2 := by rfl) (hi3 : X.N[i3]? = some x3 := by rfl)
    (hij12 : i1 ≠ i2 := by decide) (hij13 : i1 ≠ i3 := by decide) (hij23 : i2 ≠ i3 := by decide)
    (hx1 : X.env.scope.names.lookup x1 = some .local := by rfl) (hx2 : X.env.scope.names.lookup x2 = some .local := by rfl) (hx3 : X.env.scope.names.lookup x3 = some .local := by rfl)
    (hw : swappedStores [.Tuple [.Name x1 px1, .Name x2 px2, .Name x3 px3] kt pt] (.Tuple [e1, e2, e3] k2 pt2) X.env = pure (some [x1, x2, x3]) := by rfl) (hs : swapsWithSole [.Tuple [.Name x1 px1, .Name x2 px2, .Name x3 px3] kt pt] (.Tuple [e1, e2, e3] k2 pt2) pos.line X.env = pure false := by rfl)
    (hs1 : starEach [e1, e2, e3] X.env = (false, eval e1 X.env) :: starEach [e2, e3] X.env := by rfl)
    (hs2 : starEach [e2, e3] X.env = (false, eval e2 X.env) :: starEach [e3] X.env := by rfl)
    (hs3 : starEach [e3] X.env = (false, eval e3 X.env) :: starEach [] X.env := by rfl)
    (hl1 : i1 < ρ.length := by exact Nat.le_of_ble_eq_true rfl) (hl2 : i2 < ρ.length := by exact Nat.le_of_ble_eq_true rfl) (hl3 : i3 < ρ.length := by exact Nat.le_of_ble_eq_true rfl) (wx : Wk ρ ρx := by first | exact Wk.nil | exact Wk.refl | (repeat (first | exact Wk.nil | apply Wk.keep | apply Wk.drop))) :
    BI X G W ρx ρ (.Assign [.Tuple [.Name x1 px1, .Name x2 px2, .Name x3 px3] kt pt] (.Tuple [e1, e2, e3] k2 pt2) pos :: rest) pn pl ι (ma1.bind fun d1 => ma2.bind fun d2 => ma3.bind fun d3 => f d1 d2 d3) := by
  obtain ⟨t1, p1, q1⟩ := h1
  obtain ⟨t2, p2, q2⟩ := h2
  obtain ⟨t3, p3, q3⟩ := h3
  intro F0 σ F H E hh hp
  have e2 : ((ma1.bind fun d1 => ma2.bind fun d2 => ma3.bind fun d3 => f d1 d2 d3).bind fun r => (.ok (ι r) : Rs (Fl α β))) = ma1.bind fun d1 => ma2.bind fun d2 => ma3.bind fun d3 => (f d1 d2 d3).bind fun r => .ok (ι r) := by
    simp only [Rs.assoc]
  rw [e2] at hp
  refine any_cons (ps_par3 calm nd hi1 hi2 hi3 hij12 hij13 hij23 hx1 hx2 hx3 (pa_cons p1 (pa_cons p2 (pa_cons p3 pa_nil hs3) hs2) hs1) hw hs) ?_
  refine q1 F0 σ F H _ hh (post_seq hh wx hp fun d1 v1 F1 H1 x1_ r1 hp1 => ?_)
  refine q2 F0 σ F1 H1 _ (hh.more x1_) (post_seq (hh.more x1_) wx hp1 fun d2 v2 F2 H2 x2_ r2 hp2 => ?_)
  refine q3 F0 σ F2 H2 _ ((hh.more x1_).more x2_) (post_seq ((hh.more x1_).more x2_) wx hp2 fun d3 v3 F3 H3 x3_ r3 hp3 => ?_)
  refine ⟨v1, v2, v3, rfl, ?_⟩
  exact hr d1 d2 d3 F0 _ F3 H3 E (Holds.setCs (is := [i1, i2, i3]) (Cells.cons (Hn := H1) (CellOk.more x3_ (CellOk.more x2_ r1)) (fun a ha => x1_.same.free ha) (fun ho => cell_there r1 ho) (Cells.cons (Hn := H2) (CellOk.more x3_ r2) (fun a ha => x2_.same.free ha) (fun ho => cell_there r2 ho) (Cells.cons (Hn := H3) r3 (fun a ha => x3_.same.free ha) (fun ho => cell_there r3 ho) (Cells.nil (Hk := H3))))) (((hh.more x1_).more x2_).more x3_) (free_of hh) (fun j hj => by simp only [List.mem_cons, List.not_mem_nil, or_false] at hj; rcases hj with rfl | rfl | rfl <;> assumption)) hp3
end
end VL
set_option Elab.async false
set_option linter.all false
set_option maxRecDepth 100000
set_option autoImplicit false
namespace VL
open PySem PySem.Spec L2
open PyProof.Rows hiding St
def look {κ : Type} [DecidableEq κ] (es : List (κ × D)) (k : κ) : Option D := (es.find? fun p => decide (p.1 = k)).map (·.2)
def OptR (K : PySem.W.Frag) (F : Hp) : Option D → Option V → Prop
  | none, none => True
  | some d, some v => Rep K F v d
  | _, _ => False
theorem OptR.isSome {K : PySem.W.Frag} {F : Hp} {r : Option D} {o : Option V} (h : OptR K F r o) : o.isSome = r.isSome := by
  cases r <;> cases o <;> first | rfl | exact h.elim
end VL
set_option Elab.async false
set_option linter.all false
set_option maxRecDepth 100000
set_option autoImplicit false
namespace VL
open PySem PySem.Spec L2
open PyProof.Rows hiding St
end VL
set_option Elab.async false
set_option linter.all false
set_option maxRecDepth 100000
set_option autoImplicit false
namespace VL
open PySem PySem.Spec L2
open PyProof.Rows hiding St
end VL
set_option Elab.async false
set_option linter.all false
set_option maxRecDepth 100000
set_option autoImplicit false
namespace VL
open PySem PySem.Spec L2
open PyProof.Rows hiding St
end VL
set_option Elab.async false
set_option linter.all false
set_option maxRecDepth 100000
set_option autoImplicit false
namespace VL
open PySem PySem.Spec L2
open PyProof.Rows hiding St
section
variable {X : Cx} {G : Gd} {W : WX} {ρ : Rho}
def tLk (t : TE) : TE := fun σ H Q => t σ H fun v H1 => Q v H1 ∨ ∃ a u, v = .ref a ∧ H1 a = some u ∧ Mut (some u) ∧ ∀ od, Q v (upd H1 a (.frz od u))
theorem pe_lk {e : Expr} {t : TE} (h : PE X e t) : PE X e (tLk t) := by
  refine ⟨fun pins s σ H Q I hw => thn (h.run pins s σ H _ I hw) fun uv s1 ⟨x, H1, I1, rx, q⟩ => ?_⟩
  rcases q with q | ⟨a, u, ex, h1, mu, q⟩
  · exact ⟨x, H1, I1, rx, q⟩
  · obtain ⟨od, I2⟩ := I1.lock h1 mu
    exact ⟨x, _, I2, rx, q od⟩
theorem EC.ev {e : Expr} {m : Rs D} (h : EC X G W ρ true e (fun d => d) m) : EV X G W ρ e m := by
  obtain ⟨t, p, q⟩ := h
  refine ⟨_, pe_lk p, fun F0 σ F H Q hh hp => q F0 σ F H _ hh ?_⟩
  cases m with
  | ex c fs => exact hp
  | no => exact hp
  | ok d =>
    intro v F' H' e1 r1
    obtain ⟨a, rfl, hn, hf, ho⟩ := r1
    have nw : ∀ (o : HO) (b : Addr) (x : HO), upd F' a o b = some x → F b = some x ∨ Nw H b x := fun o b x y => by
      by_cases z : b = a
      · subst z
        exact .inr (.inl hn)
      · rw [upd_ne z] at y
        exact e1.new _ _ y
    cases hd : d.frzd with
    | true =>
      obtain ⟨o, ha, hr⟩ := ho.rep hd e1.sub hf
      refine .inl (hp _ (upd F' a o) H' ⟨e1.same, fun b x y => ?_, e1.ext.trans (same_upd hf), nw o⟩ hr)
      by_cases z : b = a
      · subst z
        rw [upd_same] at y
        cases y
        exact ha
      · rw [upd_ne z] at y
        exact e1.sub _ _ y
    | false =>
      have key : ∃ u, H' a = some u ∧ Mut (some u) ∧ ∀ od, Rep X.K (upd F' a (.frz od u)) (.ref a) d := by
        cases ho with
        | lst _ _ _ => cases hd
        | obj _ _ _ => cases hd
        | dT h l r => exact ⟨_, h, True.intro, fun od => .dT upd_same l (r.mono (same_upd hf))⟩
        | dK h l r => exact ⟨_, h, True.intro, fun od => .dK upd_same l (r.mono (same_upd hf))⟩
        | dN h l k r => exact ⟨_, h, True.intro, fun od => .dN upd_same l (k.mono (same_upd hf)) (r.mono (same_upd hf))⟩
      obtain ⟨u, hu, mu, hr⟩ := key
      refine .inr ⟨a, u, rfl, hu, mu, fun od => hp _ (upd F' a (.frz od u)) (upd H' a (.frz od u)) ⟨fun b x y => ?_, sub_upd e1.sub a _, e1.ext.trans (same_upd hf), nw _⟩ (hr od)⟩
      rw [upd_ne (ne_of_none y hn)]
      exact e1.same _ _ y
end
end VL
namespace VL
open PySem PySem.Spec L2
open PyProof.Rows hiding St
theorem PE.or {X : Cx} {e : Expr} {t1 t2 : TE} (h1 : PE X e t1) (h2 : PE X e t2) : PE X e (fun σ H Q => t1 σ H Q ∨ t2 σ H Q) := ⟨fun pins s σ H Q I h => by
  rcases h with h | h
  · exact h1.run pins s σ H Q I h
  · exact h2.run pins s σ H Q I h⟩
end VL
set_option Elab.async false
set_option linter.all false
set_option maxRecDepth 100000
set_option autoImplicit false
namespace VL
open PySem PySem.Spec L2
open PyProof.Rows hiding St
section
variable {X : Cx} {G : Gd} {W : WX} {ρx ρ : Rho} {rest sts : List Stmt} {α β R : Type} {pn : α → Rho} {pl : β → Rho} {ι : R → Fl α β}
theorem PS.or {st : Stmt} {t1 t2 : TS} (h1 : PS X st t1) (h2 : PS X st t2) : PS X st (fun D σ H => t1 D σ H ∨ t2 D σ H) := ⟨fun pins s σ H Q I h => by
  rcases h with h | h
  · exact h1.run pins s σ H Q I h
  · exact h2.run pins s σ H Q I h⟩
end
end VL
set_option Elab.async false
set_option linter.all false
set_option maxRecDepth 100000
set_option autoImplicit false
namespace VL
open PySem PySem.Spec L2
open PyProof.Rows hiding St
end VL
set_option Elab.async false
set_option linter.all false
set_option maxRecDepth 100000
set_option autoImplicit false
namespace VL
open PySem PySem.Spec L2
open PyProof.Rows hiding St
def compI {γ : Type} (u : D → Option γ) (fc : γ → Rs Bool) (fl : γ → Rs (List D)) : List D → Rs (List D)
  | [] => .ok []
  | d :: ds => (Rs.of (u d)).bind fun y => (fc y).noX.bind fun b => if b then (fl y).noX.bind fun e => (compI u fc fl ds).bind fun es => .ok (e ++ es) else compI u fc fl ds
theorem compI_nx {γ : Type} {u : D → Option γ} {fc : γ → Rs Bool} {fl : γ → Rs (List D)} : ∀ (ds : List D) (c : Str) (fs : List (Str × D)), compI u fc fl ds ≠ .ex c fs
  | [], c, fs => fun h => by cases h
  | d :: ds, c, fs => fun h => by
    have ih := compI_nx (u := u) (fc := fc) (fl := fl) ds
    simp only [compI] at h
    cases hu : u d with
    | none =>
      rw [hu] at h
      cases h
    | some y =>
      rw [hu] at h
      simp only [Rs.of_some, Rs.bind_ok] at h
      cases hb : fc y with
      | no =>
        rw [hb] at h
        cases h
      | ex _ _ =>
        rw [hb] at h
        cases h
      | ok b =>
        rw [hb] at h
        simp only [Rs.noX_ok, Rs.bind_ok] at h
        cases b with
        | false =>
          simp only [Bool.false_eq_true, if_false] at h
          exact ih c fs h
        | true =>
          simp only [if_true] at h
          cases he : fl y with
          | no =>
            rw [he] at h
            cases h
          | ex _ _ =>
            rw [he] at h
            cases h
          | ok e =>
            rw [he] at h
            simp only [Rs.noX_ok, Rs.bind_ok] at h
            cases hr : compI u fc fl ds with
            | ok es =>
              rw [hr] at h
              cases h
            | ex c' fs' => exact ih c' fs' hr
            | no =>
              rw [hr] at h
              cases h
def OwnB (ρ0 : Rho) (vs : List Nat) (ρ : Rho) : Prop := ∀ (j : Nat) (l : Bool) (e : D), ρ[j]? = some (some (.own l e)) → j ∉ vs ∧ ρ0[j]? = some (some (.own l e))
theorem OwnB.wipe {ρ : Rho} {vs : List Nat} : OwnB ρ vs (rWipe ρ vs) := fun j l e h => rWipe_at h
theorem OwnB.val {ρ0 ρ : Rho} {vs : List Nat} {i : Nat} {d : D} (h : OwnB ρ0 vs ρ) : OwnB ρ0 vs (ρ.set i (some (.val d))) := fun j l e q => by
  rcases set_at q with ⟨_, z⟩ | ⟨_, z⟩
  · cases z
  · exact h j l e z
section
variable {X : Cx} {G : Gd} {W : WX} {ρ : Rho}
abbrev iAll (X : Cx) (scope : Scope) (tg it : Expr) : TI := fun σ H R => ∀ s H0 C cl fp, tAnyI (XB X scope s H0 C cl fp) tg it σ H R
theorem hiAll {scope : Scope} {tg it : Expr} (s : Shared) (H : Hp) (C : Addr) (cl : List (Str × Addr)) (fp : List Addr) : PI (XB X scope s H C cl fp) tg it (iAll X scope tg it) :=
  ⟨fun pins s1 σ H1 R I h => by
    obtain ⟨w, p, q⟩ := h s H C cl fp
    exact p.run pins s1 σ H1 R I q⟩
theorem lc2_read {γ δ : Type} {u : D → Option γ} {p : γ → Rho} {is vs : List Nat} {u1 : D → Option δ} {p1 : γ → δ → Rho} {is1 vs1 : List Nat} {tg elt tg1 iter1 : Expr} {ifs ifs1 : List Expr} {scope : Scope} {wi : TI} {mi : Rs (List D)} {fc : γ → Rs Bool} {mi1 : γ → Rs (List D)} {fc1 : γ → δ → Rs Bool} {fe : γ → δ → Rs D}
    (qI : ∀ F0 σ F H R, Holds X.K (G.at F0) ρ σ F H → Post X.K (fun F' _ J ds => Walks X.K J F' ds) (fun c d H => W c d σ H) F H R mi → wi σ H R) (his : ∀ i ∈ is, i ∈ vs) (his1 : ∀ i ∈ is1, i ∈ vs1)
    (ht : ∀ s H C cl fp, TT1 (XB X scope s H C cl fp) G tg (rWipe ρ vs) is u p) (ho : ∀ y, OwnB ρ vs (p y)) (hc : ∀ s H C cl fp y, TVs (XB X scope s H C cl fp) G W0 (p y) ifs (fc y))
    (hi1 : ∀ s H C cl fp y, IT (XB X scope s H C cl fp) G W0 (p y) tg1 iter1 (mi1 y)) (ht1 : ∀ s H C cl fp y, TT1 (XB X scope s H C cl fp) G tg1 (rWipe (p y) vs1) is1 u1 (p1 y))
    (hc1 : ∀ s H C cl fp y z, TVs (XB X scope s H C cl fp) G W0 (p1 y z) ifs1 (fc1 y z)) (he : ∀ s H C cl fp y z, EV (XB X scope s H C cl fp) G W0 (p1 y z) elt (fe y z))
    {F0 : Hp} {σ : St} {F H : Hp} {Q : VK} (hh : Holds X.K (G.at F0) ρ σ F H)
    (hp : Post X.K (RN X.K H) (fun c d H => W c d σ H) F H Q (mi.bind fun items => (compI u fc (fun y => (mi1 y).bind fun l => compM u1 (fc1 y) (fe y) l) items).bind fun es => Rs.of (lenR es))) :
    tLc2 wi (gAll X scope tg) (ttAll X scope ifs) (iAll X scope tg1 iter1) (gAll X scope tg1) (ttAll X scope ifs1) (teAll X scope elt) vs vs1 σ H Q := by
  refine qI F0 σ F H _ hh ?_
  cases mi with
  | ex c fs => exact hp
  | no => exact hp
  | ok items =>
  generalize hfl : (fun y => (mi1 y).bind fun l => compM u1 (fc1 y) (fe y) l) = fl at hp
  intro J F1 H1 e1 hw D0 hD
  have hh1 := hh.more e1
  have hDH : H D0 = none := e1.same.free hD
  have h0 := hh1.toGnd.free0 hD
  have hno := fun j l e q => hh1.notOwn hD j l e q
  have hFD : F1 D0 = none := sub_none e1.sub hD
  refine ⟨fun i m H2 => m = items.length - i ∧ i ≤ items.length ∧ ∃ F2 acc, Holds X.K (G.at F0) ρ σ F2 H2 ∧ Ext F1 H1 F2 H2 ∧ F2 D0 = none ∧ Own X.K F2 H2 D0 (.lst acc) ∧
      Post X.K (RN X.K H) (fun c d H => W c d σ H) F H Q ((compI u fc fl (items.drop i)).bind fun es => Rs.of (lenR (acc ++ es))), ⟨items.length, by simp, Nat.zero_le _, F1, [], hh1.free hFD h0 hno, Ext.beside (Ext.refl e1.sub) hD hFD, hFD, .lst upd_same (Nat.zero_le _) .nil, ?_⟩, ?_⟩
  · rw [List.drop_zero]
    exact hp
  · rintro i m H2 ⟨rfl, hil, F2, acc, hh2, x2, f2, o2, hp2⟩
    obtain ⟨wgo, wstop⟩ := hw.2 F2 H2 x2.ext hh2.sub
    by_cases hlt : i < items.length
    · have hg : items[i]? = some items[i] := List.getElem?_eq_getElem hlt
      obtain ⟨g1, g2⟩ := wgo i _ hg
      rw [List.drop_eq_getElem_cons hlt] at hp2
      refine .inr ⟨g1, fun H' => ∃ F' acc', Holds X.K (G.at F0) ρ σ F' H' ∧ Ext F1 H1 F' H' ∧ F' D0 = none ∧ Own X.K F' H' D0 (.lst acc') ∧ Post X.K (RN X.K H) (fun c d H => W c d σ H) F H Q ((compI u fc fl (items.drop (i + 1))).bind fun es => Rs.of (lenR (acc' ++ es))),
        fun H' ⟨F', acc', q1, q2, q3, q4, q6⟩ => ⟨items.length - (i + 1), by omega, rfl, hlt, F', acc', q1, q2, q3, q4, q6⟩, fun x H' y => ?_⟩
      obtain ⟨F3, e3, r3⟩ := g2 x H' y
      have hh3 := hh2.more e3
      have o3 := o2.ext e3
      obtain ⟨xs2, q2', _, _⟩ := o2.asL
      have f3 := e3.stays f2 q2' (fun _ z => nomatch z)
      simp only [compI] at hp2
      generalize hC : compI u fc fl (items.drop (i + 1)) = mC at hp2 ⊢
      cases hu : u items[i] with
      | none =>
        rw [hu] at hp2
        exact hp2.elim
      | some y =>
        rw [hu] at hp2
        simp only [Rs.of_some, Rs.bind_ok] at hp2
        intro s' H0' C' cl' fp'
        refine ht s' H0' C' cl' fp' F0 _ F3 H' x _ y _ (hh3.wipe vs) r3 hu fun σ4 w4 hh4 => ?_
        have w4' : L2.wipe σ4 vs = L2.wipe σ vs := by
          rw [w4 vs his]
          exact wipe_wipe fun i hi => hi
        have hnoy : ∀ (j : Nat) (l : Bool) (e : D), (p y)[j]? = some (some (.own l e)) → σ4[j]? ≠ some (some (.ref D0)) := fun j l e q => by
          obtain ⟨n1, q1⟩ := ho y j l e q
          have e1 := wipe_get (σ := σ4) n1
          rw [w4', wipe_get n1] at e1
          rw [← e1]
          exact hno j l e q1
        refine ⟨w4', ?_⟩
        intro s5 H05 C5 cl5 fp5
        obtain ⟨t5, p5, q5⟩ := hc s5 H05 C5 cl5 fp5 y
        refine ⟨t5, p5, q5 F0 σ4 F3 H' _ hh4 (post_noX (fun b hb v F4 H4 e4 rb => ?_) fun hn => ?_)⟩
        · cases rb
          rw [hb] at hp2
          simp only [Rs.noX_ok, Rs.bind_ok] at hp2
          have hh4' := hh3.more e4
          have hh4y := hh4.more e4
          have o4 := o3.ext e4
          obtain ⟨xs3, q3', _, _⟩ := o3.asL
          have f4 := e4.stays f3 q3' (fun _ z => nomatch z)
          cases b with
          | true =>
            refine iteT ?_
            simp only [if_true] at hp2
            rw [← hfl] at hp2
            have hp2 : Post X.K (RN X.K H) (fun c d H => W c d σ H) F H Q ((((mi1 y).bind fun l => compM u1 (fc1 y) (fe y) l).noX.bind fun e => mC.bind fun es => (Rs.ok (e ++ es) : Rs (List D))).bind fun es => Rs.of (lenR (acc ++ es))) := hp2
            intro s6 H06 C6 cl6 fp6
            obtain ⟨wi6, p6, q6⟩ := hi1 s6 H06 C6 cl6 fp6 y
            refine ⟨wi6, p6, q6 F0 σ4 F4 H4 _ hh4y (post_noX (fun ds hd J1 F5 H5 e5 hw1 => ?_) fun hn => ?_)⟩
            · rw [hd] at hp2
              simp only [Rs.bind_ok] at hp2
              have o5 := o4.ext e5
              obtain ⟨xs4, q4', _, _⟩ := o4.asL
              have f5 := e5.stays f4 q4' (fun _ z => nomatch z)
              refine ⟨fun j k H6 => k = ds.length - j ∧ j ≤ ds.length ∧ ∃ F6 acc6, Holds X.K (G.at F0) ρ σ F6 H6 ∧ Holds X.K (G.at F0) (p y) σ4 F6 H6 ∧ Ext F1 H1 F6 H6 ∧ Same F5 F6 ∧ F6 D0 = none ∧ Own X.K F6 H6 D0 (.lst acc6) ∧
                Post X.K (RN X.K H) (fun c d H => W c d σ H) F H Q ((compM u1 (fc1 y) (fe y) (ds.drop j)).noX.bind fun e => mC.bind fun es => Rs.of (lenR (acc6 ++ (e ++ es)))), ⟨ds.length, by simp, Nat.zero_le _, F5, acc, hh4'.more e5, hh4y.more e5, x2.trans (e3.trans (e4.trans e5)), Same.refl F5, f5, o5, ?_⟩, ?_⟩
              · rw [List.drop_zero]
                have ea : (((compM u1 (fc1 y) (fe y) ds).noX.bind fun e => mC.bind fun es => (.ok (e ++ es) : Rs (List D))).bind fun es => Rs.of (lenR (acc ++ es))) = ((compM u1 (fc1 y) (fe y) ds).noX.bind fun e => mC.bind fun es => Rs.of (lenR (acc ++ (e ++ es)))) := by
                  cases compM u1 (fc1 y) (fe y) ds with
                  | ok e => cases mC <;> rfl
                  | ex _ _ => rfl
                  | no => rfl
                rw [← ea]
                exact hp2
              · rintro j k H6 ⟨rfl, hjl, F6, acc6, k1, k2, k3, k3', k4, k5, k6⟩
                obtain ⟨wgo1, wstop1⟩ := hw1.2 F6 H6 k3' k1.sub
                by_cases hltj : j < ds.length
                · have hgj : ds[j]? = some ds[j] := List.getElem?_eq_getElem hltj
                  obtain ⟨g1j, g2j⟩ := wgo1 j _ hgj
                  rw [List.drop_eq_getElem_cons hltj] at k6
                  refine .inr ⟨g1j, fun H7 => ∃ F7 acc7, Holds X.K (G.at F0) ρ σ F7 H7 ∧ Holds X.K (G.at F0) (p y) σ4 F7 H7 ∧ Ext F1 H1 F7 H7 ∧ Same F5 F7 ∧ F7 D0 = none ∧ Own X.K F7 H7 D0 (.lst acc7) ∧
                    Post X.K (RN X.K H) (fun c d H => W c d σ H) F H Q ((compM u1 (fc1 y) (fe y) (ds.drop (j + 1))).noX.bind fun e => mC.bind fun es => Rs.of (lenR (acc7 ++ (e ++ es)))),
                    fun H7 ⟨F7, acc7, z1, z2, z3, z4, z5, z6, z7⟩ => ⟨ds.length - (j + 1), by omega, rfl, hltj, F7, acc7, z1, z2, z3, z4, z5, z6, z7⟩, fun x7 H7 y7 => ?_⟩
                  obtain ⟨F7, e7, r7⟩ := g2j x7 H7 y7
                  have hh7 := k1.more e7
                  have hh7y := k2.more e7
                  have o7 := k5.ext e7
                  obtain ⟨xs6, q6', _, _⟩ := k5.asL
                  have f7 := e7.stays k4 q6' (fun _ z => nomatch z)
                  simp only [compM] at k6
                  cases hu1 : u1 ds[j] with
                  | none =>
                    rw [hu1] at k6
                    exact k6.elim
                  | some z =>
                    rw [hu1] at k6
                    simp only [Rs.of_some, Rs.bind_ok] at k6
                    intro s8 H08 C8 cl8 fp8
                    refine ht1 s8 H08 C8 cl8 fp8 y F0 _ F7 H7 x7 _ z _ (hh7y.wipe vs1) r7 hu1 fun σ8 w8 hh8 => ⟨?_, ?_⟩
                    · rw [w8 vs1 his1]
                      exact wipe_wipe fun i hi => hi
                    intro s9 H09 C9 cl9 fp9
                    obtain ⟨t9, p9, q9⟩ := hc1 s9 H09 C9 cl9 fp9 y z
                    refine ⟨t9, p9, q9 F0 σ8 F7 H7 _ hh8 (post_noX (fun b9 hb9 v9 F9 H9 e9 rb9 => ?_) fun hn => ?_)⟩
                    · cases rb9
                      rw [hb9] at k6
                      simp only [Rs.noX_ok, Rs.bind_ok] at k6
                      have hh9 := hh7.more e9
                      have hh9y := hh7y.more e9
                      have hh9z := hh8.more e9
                      have o9 := o7.ext e9
                      obtain ⟨xs7, q7', _, _⟩ := o7.asL
                      have f9 := e9.stays f7 q7' (fun _ z => nomatch z)
                      cases b9 with
                      | true =>
                        refine iteT ?_
                        simp only [if_true] at k6
                        intro s10 H010 C10 cl10 fp10
                        obtain ⟨t10, p10, q10⟩ := he s10 H010 C10 cl10 fp10 y z
                        refine ⟨t10, p10, q10 F0 σ8 F9 H9 _ hh9z (post_noX (fun d hd10 v10 F10 H10 e10 r10 => ?_) fun hn => ?_)⟩
                        · rw [hd10] at k6
                          simp only [Rs.noX_ok, Rs.bind_ok] at k6
                          have hh10 := hh9.more e10
                          have hh10y := hh9y.more e10
                          have o10 := o9.ext e10
                          obtain ⟨xs9, q9', _, _⟩ := o9.asL
                          have f10 := e10.stays f9 q9' (fun _ z => nomatch z)
                          obtain ⟨xs10, q10', l10, r10'⟩ := o10.asL
                          have ea : (((compM u1 (fc1 y) (fe y) (ds.drop (j + 1))).bind fun es => (.ok (d :: es) : Rs (List D))).noX.bind fun e => mC.bind fun es => Rs.of (lenR (acc6 ++ (e ++ es)))) = ((compM u1 (fc1 y) (fe y) (ds.drop (j + 1))).noX.bind fun e => mC.bind fun es => Rs.of (lenR (acc6 ++ [d] ++ (e ++ es)))) := by
                            cases compM u1 (fc1 y) (fe y) (ds.drop (j + 1)) with
                            | ok e =>
                              cases mC with
                              | ok es => simp [List.append_assoc]
                              | ex _ _ => rfl
                              | no => rfl
                            | ex _ _ => rfl
                            | no => rfl
                          rw [ea] at k6
                          have lx : xs10.length < sizeLine := by
                            rw [r10'.length]
                            cases hM : compM u1 (fc1 y) (fe y) (ds.drop (j + 1)) with
                            | ok e =>
                              cases hmC : mC with
                              | ok es =>
                                rw [hM, hmC] at k6
                                simp only [Rs.noX_ok, Rs.bind_ok] at k6
                                obtain ⟨ds', hds, _⟩ := Post.of k6
                                have := (lenR_some hds).1
                                simp only [List.length_append, List.length_singleton] at this
                                omega
                              | ex c fs =>
                                exact absurd (hC.trans hmC) (compI_nx _ c fs)
                              | no =>
                                rw [hM, hmC] at k6
                                exact k6.elim
                            | ex _ _ =>
                              rw [hM] at k6
                              exact k6.elim
                            | no =>
                              rw [hM] at k6
                              exact k6.elim
                          refine ⟨xs10, q10', lx, F10, acc6 ++ [d], hh10.free f10 h0 hno, hh10y.free f10 h0 hnoy, Ext.beside (k3.trans (e7.trans (e9.trans e10))) hD f10, k3'.trans (e7.ext.trans (e9.ext.trans e10.ext)), f10, .lst upd_same ?_ (r10'.append (.one r10)), k6⟩
                          rw [List.length_append, List.length_singleton]
                          exact lx
                        · rw [hn] at k6
                          exact k6.elim
                      | false =>
                        refine iteF ⟨F9, acc6, hh9, hh9y, k3.trans (e7.trans e9), k3'.trans (e7.ext.trans e9.ext), f9, o9, ?_⟩
                        simpa using k6
                    · rw [hn] at k6
                      exact k6.elim
                · have ej : j = ds.length := by omega
                  subst ej
                  rw [List.drop_length] at k6
                  simp only [compM, Rs.noX_ok, Rs.bind_ok, List.nil_append] at k6
                  exact .inl ⟨wstop1, F6, acc6, k1, k3, k4, k5, k6⟩
            · cases hm : mi1 y with
              | ok ds =>
                rw [hm] at hn
                cases hn
              | ex _ _ =>
                rw [hm] at hp2
                exact hp2.elim
              | no =>
                rw [hm] at hp2
                exact hp2.elim
          | false =>
            refine iteF ⟨F4, acc, hh4', x2.trans (e3.trans e4), f4, o4, ?_⟩
            simpa using hp2
        · rw [hn] at hp2
          exact hp2.elim
    · have ei : i = items.length := by omega
      subst ei
      rw [List.drop_length] at hp2
      simp only [compI, Rs.bind_ok, List.append_nil] at hp2
      obtain ⟨ds', hds, kk⟩ := Post.of hp2
      obtain ⟨_, rfl⟩ := lenR_some hds
      exact .inl ⟨wstop, kk (.ref D0) F2 H2 (e1.trans x2) ⟨D0, rfl, hDH, f2, o2⟩⟩
theorem ef_comp2 {γ δ : Type} {u : D → Option γ} {p : γ → Rho} {is : List Nat} {own : List (Str × Nat)} {u1 : D → Option δ} {p1 : γ → δ → Rho} {is1 : List Nat} {tg iter elt tg1 iter1 : Expr} {ifs ifs1 : List Expr} {scope : Scope} {pos : Pos} {mi : Rs (List D)} {fc : γ → Rs Bool} {mi1 : γ → Rs (List D)} {fc1 : γ → δ → Rs Bool} {fe : γ → δ → Rs D}
    (calm : X.calm = true) (nd : X.N.Nodup) (hi : IT X G W ρ tg iter mi) (ok : BlkOk X.N X.env.scope scope own) (his : ∀ i ∈ is, i ∈ own.map (·.2)) (his1 : ∀ i ∈ is1, i ∈ own.map (·.2))
    (ht : ∀ s H C cl fp, TT1 (XB X scope s H C cl fp) G tg (rWipe ρ (own.map (·.2))) is u p) (hc : ∀ s H C cl fp y, TVs (XB X scope s H C cl fp) G W0 (p y) ifs (fc y))
    (hi1 : ∀ s H C cl fp y, IT (XB X scope s H C cl fp) G W0 (p y) tg1 iter1 (mi1 y)) (ht1 : ∀ s H C cl fp y, TT1 (XB X scope s H C cl fp) G tg1 (rWipe (p y) is1) is1 u1 (p1 y))
    (hc1 : ∀ s H C cl fp y z, TVs (XB X scope s H C cl fp) G W0 (p1 y z) ifs1 (fc1 y z)) (he : ∀ s H C cl fp y z, EV (XB X scope s H C cl fp) G W0 (p1 y z) elt (fe y z)) (ho : ∀ y, OwnB ρ (own.map (·.2)) (p y))
    (hs : ∀ x, foldedSetIterable iter X.env x = pure x := by intro _; rfl) (hs1 : ∀ env x, foldedSetIterable iter1 env x = pure x := by intro _ _; rfl) :
    EF X G W ρ (.ListComp elt [⟨tg, iter, ifs, 0⟩, ⟨tg1, iter1, ifs1, 0⟩] scope pos) (mi.bind fun items => (compI u fc (fun y => (mi1 y).bind fun l => compM u1 (fc1 y) (fe y) l) items).bind fun es => Rs.of (lenR es)) := by
  obtain ⟨wi, pI, qI⟩ := hi
  exact ⟨_, pe_lc2 calm nd pI ok his1 hgAll htAll hiAll hgAll htAll heAll hs hs1, fun F0 σ F H Q hh hp => lc2_read qI his (fun i h => h) ht ho hc hi1 ht1 hc1 he hh hp⟩
theorem EV.to {e : Expr} {m : Rs D} (m' : Rs D) (h : EV X G W ρ e m) (q : m = m') : EV X G W ρ e m' := q ▸ h
end
end VL
set_option Elab.async false
set_option linter.all false
set_option maxRecDepth 100000
set_option autoImplicit false
set_option maxHeartbeats 2000001
namespace PySem
namespace VX
open Builtin Builtin.ObjectAttr PySem.W PySem.Calls PyProof.Rows PySem.HandSPX
end VX
end PySem
namespace VL
open PySem PySem.Spec L2
open PyProof.Rows hiding St
end VL
set_option Elab.async false
set_option linter.all false
set_option maxRecDepth 100000
set_option autoImplicit false
set_option maxHeartbeats 1000000
namespace VL
open PySem PySem.Spec L2
open PyProof.Rows hiding St
end VL
set_option Elab.async false
set_option linter.all false
set_option maxRecDepth 100000
set_option autoImplicit false
set_option maxHeartbeats 1000000
namespace VL
open PySem PySem.Spec L2
open PyProof.Rows hiding St
theorem dpAll_at {K : PySem.W.Frag} {H : Hp} : ∀ {xs : List V} {ds : List PyData} {i : Nat} {x : V}, DpAll K H xs ds → xs[i]? = some x → ∃ d, ds[i]? = some d ∧ Dp K H x d
  | _, _, _, _, .nil, h => by simp at h
  | _, _, 0, _, .cons h _, e => ⟨_, rfl, by simp at e; exact e ▸ h⟩
  | _, _, i + 1, _, .cons _ r, e => by
    obtain ⟨d, h1, h2⟩ := dpAll_at (i := i) r (by simpa using e)
    exact ⟨d, by simpa using h1, h2⟩
theorem lay_mem : ∀ {ds : List PyData} {d : PyData}, PyData.canLayAll0 ds = true → d ∈ ds → d.canLay0 = true
  | [], _, _, h => by simp at h
  | x :: xs, d, l, h => by
    simp only [PyData.canLayAll0, Bool.and_eq_true] at l
    rcases List.mem_cons.mp h with rfl | h
    · exact l.1
    · exact lay_mem l.2 h
theorem minD_mem (y : PyData) : ∀ ys : List PyData, PySem.W.minD y ys ∈ y :: ys := by
  intro ys
  unfold PySem.W.minD
  induction ys generalizing y with
  | nil => simp
  | cons z zs ih =>
    rw [List.foldl_cons]
    have h := ih (if PySem.W.dataLt z y then z else y)
    rcases List.mem_cons.mp h with h | h
    · rw [h]
      split <;> simp
    · exact List.mem_cons_of_mem _ (List.mem_cons_of_mem _ h)
theorem vals_getU : ∀ {xs : List V} {us : List Value} {i : Nat} {u : Value}, Vals xs us → us[i]? = some u → ∃ x, xs[i]? = some x ∧ RelV x u
  | _, _, _, _, .nil, e => by simp at e
  | _, _, 0, _, .cons r _, e => ⟨_, rfl, by simp at e; exact e ▸ r⟩
  | _, _, i + 1, _, .cons _ t, e => by
    obtain ⟨x, h1, h2⟩ := vals_getU (i := i) t (by simpa using e)
    exact ⟨x, by simpa using h1, h2⟩
end VL
set_option Elab.async false
set_option linter.all false
set_option maxRecDepth 100000
set_option autoImplicit false
namespace VL
open PySem PySem.Spec L2
open PyProof.Rows hiding St
end VL
set_option Elab.async false
set_option linter.all false
set_option maxRecDepth 100000
set_option autoImplicit false
set_option maxHeartbeats 2000001
namespace PySem
namespace VX
open Builtin PySem.W PySem.Calls PyProof.Rows
end VX
end PySem
set_option Elab.async false
set_option linter.all false
set_option maxRecDepth 100000
set_option autoImplicit false
set_option maxHeartbeats 2000001
namespace VL
open PySem PySem.Spec L2
open PyProof.Rows hiding St
end VL
set_option Elab.async false
set_option linter.all false
set_option maxRecDepth 100000
set_option autoImplicit false
set_option maxHeartbeats 2000001
namespace VL
open PySem PySem.Spec L2
open PyProof.Rows hiding St
end VL
set_option Elab.async false
set_option linter.all false
set_option maxRecDepth 100000
set_option autoImplicit false
set_option maxHeartbeats 1000000
namespace VL
open PySem PySem.Spec L2
open PyProof.Rows hiding St
end VL
set_option Elab.async false
set_option linter.all false
set_option maxRecDepth 100000
set_option autoImplicit false
set_option maxHeartbeats 2000001
namespace VL
open PySem PySem.Spec L2
open PyProof.Rows hiding St
end VL
set_option Elab.async false
set_option linter.all false
set_option maxRecDepth 100000
set_option autoImplicit false
set_option maxHeartbeats 2000001
namespace VL
open PySem PySem.Spec L2
open PyProof.Rows hiding St
def isI : D → Bool
  | .int _ => true
  | _ => false
mutual
def D.noL : D → Bool
  | .non => true
  | .bl _ => true
  | .int _ => true
  | .str _ => true
  | .tup xs => noLs xs
  | .dT kvs => kvs.all fun p => isI p.2
  | .dK kvs => kvs.all fun p => isI p.2
  | _ => false
def noLs : List D → Bool
  | [] => true
  | d :: ds => d.noL && noLs ds
end
def lentD (d : D) : Option D := if d.noL then some d else none
theorem isI_reps {κ : Type} {K : PySem.W.Frag} {F F' : Hp} : ∀ {vs : List V} {es : List (κ × D)}, (es.all fun p => isI p.2) = true → Reps K F vs (es.map (·.2)) → Reps K F' vs (es.map (·.2))
  | _, [], _, .nil => .nil
  | _, (k, d) :: es, h, .cons r rs => by
    simp only [List.all_cons, Bool.and_eq_true] at h
    refine .cons ?_ (isI_reps h.2 rs)
    cases d with
    | int i => cases r; exact .int i
    | _ => cases h.1
mutual
theorem Rep.lent {K : PySem.W.Frag} {F F' : Hp} (e : ∀ a o, F a = some o → (∀ xs, o ≠ .lst xs) → F' a = some o) : ∀ {v : V} {d : D}, d.noL = true → Rep K F v d → Rep K F' v d
  | _, _, _, .non => .non
  | _, _, _, .bl b => .bl b
  | _, _, _, .int i => .int i
  | _, _, _, .str x => .str x
  | _, _, h, .lst _ _ _ => by simp [D.noL] at h
  | _, _, h, .scr _ _ _ => by simp [D.noL] at h
  | _, _, h, .tup ht l r => .tup (ht.elim (fun z => .inl (e _ _ z fun _ q => nomatch q)) .inr) l (Reps.lent e (by simpa [D.noL] using h) r)
  | _, _, h, .obj _ _ _ => by simp [D.noL] at h
  | _, _, h, .dT h1 h2 r => .dT (e _ _ h1 fun _ q => nomatch q) h2 (isI_reps (by simpa [D.noL] using h) r)
  | _, _, h, .dK h1 h2 r => .dK (e _ _ h1 fun _ q => nomatch q) h2 (isI_reps (by simpa [D.noL] using h) r)
  | _, _, h, .exn _ _ _ _ => by simp [D.noL] at h
  | _, _, h, .dN _ _ _ _ => by simp [D.noL] at h
  | _, _, h, .tupL _ _ _ _ => by simp [D.noL] at h
theorem Reps.lent {K : PySem.W.Frag} {F F' : Hp} (e : ∀ a o, F a = some o → (∀ xs, o ≠ .lst xs) → F' a = some o) : ∀ {vs : List V} {ds : List D}, noLs ds = true → Reps K F vs ds → Reps K F' vs ds
  | _, _, _, .nil => .nil
  | _, _, h, .cons r rs => by
    simp only [noLs, Bool.and_eq_true] at h
    exact .cons (Rep.lent e h.1 r) (Reps.lent e h.2 rs)
end
def RepL (K : PySem.W.Frag) (F H : Hp) (v : V) (d : D) : Prop := Rep K F v d ∨ ∃ a ds, v = .ref a ∧ d = .lst ds ∧ Own K F H a (.lst ds)
theorem RepL.more {K : PySem.W.Frag} {F H F' H' : Hp} {v : V} {d : D} (h : RepL K F H v d) (e : Ext F H F' H') : RepL K F' H' v d := by
  rcases h with h | ⟨a, ds, e1, e2, h⟩
  · exact .inl (h.mono e.ext)
  · exact .inr ⟨a, ds, e1, e2, h.ext e⟩
inductive RepLs (K : PySem.W.Frag) (F H : Hp) : List V → List D → Prop
  | nil : RepLs K F H [] []
  | cons {v : V} {vs : List V} {d : D} {ds : List D} : RepL K F H v d → RepLs K F H vs ds → RepLs K F H (v :: vs) (d :: ds)
theorem RepLs.more {K : PySem.W.Frag} {F H F' H' : Hp} (e : Ext F H F' H') : ∀ {vs : List V} {ds : List D}, RepLs K F H vs ds → RepLs K F' H' vs ds
  | _, _, .nil => .nil
  | _, _, .cons h r => .cons (h.more e) (RepLs.more e r)
def frL (F H : Hp) : Hp := fun a => match F a with
  | some o => some o
  | none => match H a with
    | some (.lst xs) => some (.lst xs)
    | _ => none
theorem frL_F {F H : Hp} {a : Addr} {o : HO} (h : F a = some o) : frL F H a = some o := by simp [frL, h]
theorem frL_L {F H : Hp} {a : Addr} {xs : List V} (s : Same F H) (h : H a = some (.lst xs)) : frL F H a = some (.lst xs) := by
  cases q : F a with
  | none => simp [frL, q, h]
  | some o =>
    have := s _ _ q
    rw [h] at this
    cases this
    exact frL_F q
theorem frL_sub {F H : Hp} (s : Same F H) : Same (frL F H) H := fun a o h => by
  unfold frL at h
  split at h
  · rename_i o' q
    cases h
    exact s _ _ q
  · split at h
    · rename_i xs q
      cases h
      exact q
    · cases h
theorem RepLs.frz {K : PySem.W.Frag} {F H : Hp} (s : Same F H) : ∀ {vs : List V} {ds : List D}, RepLs K F H vs ds → Reps K (frL F H) vs ds
  | _, _, .nil => .nil
  | _, _, .cons h r => by
    refine .cons ?_ (RepLs.frz s r)
    rcases h with h | ⟨a, ds, rfl, rfl, h⟩
    · exact h.mono fun a o z => frL_F z
    · cases h with
      | lst h1 l r => exact .lst (frL_L s h1) l (r.mono fun a o z => frL_F z)
theorem RepLs.length {K : PySem.W.Frag} {F H : Hp} : ∀ {vs : List V} {ds : List D}, RepLs K F H vs ds → vs.length = ds.length
  | _, _, .nil => rfl
  | _, _, .cons _ r => congrArg (· + 1) (RepLs.length r)
open Classical in
theorem unlend {K : PySem.W.Frag} {F H F2 H2 : Hp} {v : V} {d : D} (s : Same F H) (e : Ext (frL F H) H F2 H2) (r : Rep K F2 v d) (hd : d.noL = true) : ∃ F', Ext F H F' H2 ∧ Rep K F' v d := by
  refine ⟨fun a => if F a = none ∧ (∃ xs, H a = some (.lst xs)) then none else F2 a, ⟨e.same, fun a o h => ?_, fun a o h => ?_, fun a o h => ?_⟩, r.lent (fun a o h n => ?_) hd⟩
  · have h : (if F a = none ∧ (∃ xs, H a = some (.lst xs)) then none else F2 a) = some o := h
    split at h
    · cases h
    · exact e.sub _ _ h
  · show (if _ then none else F2 a) = some o
    rw [if_neg (fun z => by rw [z.1] at h; cases h)]
    exact e.ext _ _ (frL_F h)
  · have h : (if F a = none ∧ (∃ xs, H a = some (.lst xs)) then none else F2 a) = some o := h
    split at h
    · cases h
    · rename_i nn
      rcases e.new _ _ h with z | z
      · unfold frL at z
        split at z
        · rename_i o' q
          cases z
          exact .inl q
        · rename_i q
          split at z
          · rename_i xs q2
            exact absurd ⟨q, xs, q2⟩ nn
          · cases z
      · exact .inr z
  · show (if _ then none else F2 a) = some o
    rw [if_neg fun z => ?_]
    · exact h
    · obtain ⟨z1, xs, z2⟩ := z
      have := e.ext _ _ (frL_L s z2)
      rw [h] at this
      cases this
      exact n _ rfl
def OL (X : Cx) (G : Gd) (W : WX) (ρ : Rho) (es : List Expr) (κ : Kt) : Prop :=
  ∃ ms, (∃ t, PA X es t ∧ ∀ F0 σ F H Q, Holds X.K (G.at F0) ρ σ F H → Post X.K (RepLs X.K) (fun c d H => W c d σ H) F H Q ms → t σ H Q) ∧ (∀ ds, ms = .ok ds → ds.length = es.length) ∧ ∀ (β : Type) (k : List D → Rs β), κ β k = ms.bind k
section
variable {X : Cx} {G : Gd} {W : WX} {ρ : Rho} {e : Expr} {es : List Expr} {m : Rs D} {κ : Kt} {pos p : Pos} {d : D}
theorem ol_nil : OL X G W ρ [] (fun β k => k []) := ⟨.ok [], ⟨_, pa_nil, fun F0 σ F H Q hh hp => hp [] F H (Ext.refl hh.sub) .nil⟩, fun ds h => by cases h; rfl, fun _ _ => rfl⟩
theorem ol_gen {R : Hp → Hp → V → D → Prop} (hR : ∀ F H v d, R F H v d → RepL X.K F H v d) (ha : ∃ t, PE X e t ∧ ∀ F0 σ F H Q, Holds X.K (G.at F0) ρ σ F H → Post X.K R (fun c d H => W c d σ H) F H Q m → t σ H Q) (hr : OL X G W ρ es κ) (hs : starEach (e :: es) X.env = (false, eval e X.env) :: starEach es X.env) :
    OL X G W ρ (e :: es) (fun β k => m.bind fun x => κ β fun xs => k (x :: xs)) := by
  obtain ⟨ta, pa, qa⟩ := ha
  obtain ⟨ms, ⟨tb, pb, qb⟩, ln, h2⟩ := hr
  refine ⟨m.bind fun x => ms.bind fun xs => .ok (x :: xs), ⟨_, pa_cons pa pb hs, fun F0 σ F H Q hh hp => ?_⟩, fun ds h => ?_, cons_eq h2⟩
  · refine qa F0 σ F H _ hh (hp.bind fun dx x F1 H1 e1 r1 hp1 => ?_)
    refine qb F0 σ F1 H1 _ (hh.more e1) (hp1.bind fun dy y F2 H2 e2 r2 hp2 => ?_)
    exact hp2 _ F2 H2 (Ext.refl e2.sub) (.cons ((hR _ _ _ _ r1).more e2) r2)
  · cases m with
    | ok x =>
      cases ms with
      | ok xs =>
        cases h
        exact congrArg (· + 1) (ln xs rfl)
      | ex c fs => cases h
      | no => cases h
    | ex c fs => cases h
    | no => cases h
theorem ol_cons (ha : EV X G W ρ e m) (hr : OL X G W ρ es κ) (hs : starEach (e :: es) X.env = (false, eval e X.env) :: starEach es X.env := by rfl) : OL X G W ρ (e :: es) (fun β k => m.bind fun x => κ β fun xs => k (x :: xs)) :=
  ol_gen (R := RF X.K) (fun F H v d h => .inl h) ha hr hs
theorem ol_consV (ha : EV X G W ρ e (.ok d)) (hr : OL X G W ρ es κ) (hs : starEach (e :: es) X.env = (false, eval e X.env) :: starEach es X.env := by rfl) : OL X G W ρ (e :: es) (fun β k => κ β fun xs => k (d :: xs)) := ol_cons ha hr hs
theorem ol_own {ds : List D} (ha : EO X G W ρ e (.ok (.lst ds))) (hr : OL X G W ρ es κ) (hs : starEach (e :: es) X.env = (false, eval e X.env) :: starEach es X.env := by rfl) : OL X G W ρ (e :: es) (fun β k => κ β fun xs => k (.lst ds :: xs)) := by
  obtain ⟨t, p, q⟩ := ha
  refine ol_gen (m := .ok (.lst ds)) (R := fun F H v d => RepH X.K F H v d ∧ d = .lst ds) (fun F H v d h => ?_) ⟨t, p, fun F0 σ F H Q hh hp => q F0 σ F H Q hh fun v F' H' e1 r => hp v F' H' e1 ⟨r, rfl⟩⟩ hr hs
  obtain ⟨h, rfl⟩ := h
  rcases h with h | ⟨a, rfl, h⟩
  · exact .inl h
  · exact .inr ⟨a, ds, rfl, rfl, h⟩
theorem ev_callL {k : Nat} {f : Addr} {fd : FuncData} {ps : List Str} {mf : List D → Rs D} {x : Str} (tk : L2N.Takes X W) (Fk : Keeps X.prog X.w X.K X.mg X.base k f fd ps mf) (hr : Room k X.A) (hm : X.mg x = some (.ref f)) (hk : PySem.W.keepIn X.K (.ref f) = true)
    (hb : Binds X.K fd ps []) (ha : OL X G W ρ (e :: es) κ) (hln : (e :: es).length = ps.length := by rfl) (hg : Gl X x := by rfl) (hdb : (x == ("__debug__" : Str)) = false := by decide) (he : starEach (e :: es) X.env = (false, eval e X.env) :: starEach es X.env := by rfl)
    (hpl : (backTo pos (starEach es X.env)).any (·.1) = false := by rfl) : EV X G W ρ (.Call (.Name x p) (e :: es) [] pos) (κ D fun ds => (mf ds).noX.bind fun d => Rs.of (lentD d)) := by
  obtain ⟨ms, ⟨t, pa, qa⟩, ln, h2⟩ := ha
  rw [h2]
  refine ⟨_, pe_callSD (E := WE W) Fk hr hg hm hk hb .nil (fun σ => L2N.passAt tk σ) pa hdb he hpl, fun F0 σ F H Q hh hp => ?_⟩
  refine qa F0 σ F H _ hh ?_
  cases ms with
  | ex c fs => exact hp
  | no => exact hp
  | ok ds =>
    intro vs F' H' e1 r1
    show spM X.K ps.length mf (vs ++ []) H' Q _
    rw [List.append_nil]
    refine ⟨r1.length.trans ((ln ds rfl).trans hln), frL F' H', ds, frL_sub e1.sub, r1.frz e1.sub, ?_⟩
    simp only [Rs.bind_ok] at hp
    cases hq : mf ds with
    | ex c fs =>
      rw [hq] at hp
      exact hp.elim
    | no =>
      rw [hq] at hp
      exact hp.elim
    | ok d =>
      rw [hq] at hp
      simp only [Rs.noX_ok, Rs.bind_ok] at hp
      intro v F2 H2 e2 r2
      obtain ⟨d', hd', kk⟩ := Post.of hp
      unfold lentD at hd'
      split at hd'
      · rename_i hl
        cases hd'
        obtain ⟨F3, e3, r3⟩ := unlend e1.sub e2 r2 hl
        exact kk v F3 H2 (e1.trans e3) r3
      · cases hd'
end
end VL
set_option Elab.async false
set_option linter.all false
set_option maxRecDepth 100000
set_option autoImplicit false
set_option maxHeartbeats 2000001
namespace VL
open PySem PySem.Spec L2
open PyProof.Rows hiding St
end VL
set_option Elab.async false
set_option linter.all false
set_option maxRecDepth 100000
set_option autoImplicit false
set_option maxHeartbeats 2000001
namespace VL
open PySem PySem.Spec L2
open PyProof.Rows hiding St
section
variable {X : Cx} {pins : List (Addr × Obj)} {σ : L2.St} {F H : Hp} {s : Shared}
mutual
theorem nested_of (I : L2.Inv X pins σ H s) (sm : Same F H) : ∀ (k : NestedKey) {v : V} {u : Value}, Rep X.K F v (nkD k) → RelV v u → NestedIs s.heap k u
  | .none, v, u, r, ru => by
    rw [nkD] at r
    cases r
    cases (show u = Value.none from ru)
    exact .none
  | .num i, v, u, r, ru => by
    rw [nkD] at r
    cases r
    obtain ⟨t, rfl⟩ := ru
    exact .int i t
  | .text x, v, u, r, ru => by
    rw [nkD] at r
    cases r
    obtain ⟨t, rfl⟩ := ru
    exact .text x t
  | .tup ks, v, u, r, ru => by
    rw [nkD] at r
    cases r with
    | tup ht l r =>
      rename_i a xs
      cases (show u = Value.ref a from ru)
      obtain ⟨its, rv, ⟨o, ho, hc, n, hd⟩, _⟩ := I.tuple (SqT.same sm ht.sq)
      exact .tup ho hc hd (by simpa using nesteds_of I sm ks r rv)
theorem nesteds_of (I : L2.Inv X pins σ H s) (sm : Same F H) : ∀ (ks : List NestedKey) {vs : List V} {us : List Value}, Reps X.K F vs (nkDs ks) → Vals vs us → NestedAll s.heap ks us
  | [], vs, us, r, ru => by
    rw [nkDs] at r
    cases r
    cases ru
    exact .nil
  | k :: ks, vs, us, r, ru => by
    rw [nkDs] at r
    cases r with
    | cons r1 r2 =>
      cases ru with
      | cons u1 u2 => exact .cons (nested_of I sm k r1 u1) (nesteds_of I sm ks r2 u2)
end
end
def NK (X : Cx) (H : Hp) (b : Addr) (k : NestedKey) : Prop := ∀ (pins : List (Addr × Obj)) (σ : L2.St) (s : Shared), L2.Inv X pins σ H s → NestedIs s.heap k (.ref b)
theorem NK.of {X : Cx} {F H : Hp} {b : Addr} {k : NestedKey} (sm : Same F H) (r : Rep X.K F (.ref b) (nkD k)) : NK X H b k := fun pins σ s I => nested_of I sm k r rfl
abbrev Ys := List (NestedKey × Addr × V)
abbrev NT : Ys → List (NestedKey × Addr × Value) → Prop := Paired fun p q => p.1 = q.1 ∧ p.2.1 = q.2.1 ∧ RelV p.2.2 q.2.2
def getY (ys : Ys) (k : NestedKey) : Option V := (ys.find? fun p => decide (p.1 = k)).map (·.2.2)
theorem NT.any {ys : Ys} {xs : List (NestedKey × Addr × Value)} (r : NT ys xs) (k : NestedKey) : (ys.any fun p => decide (p.1 = k)) = (atKey xs k).isSome := by
  induction r with
  | nil => rfl
  | @cons p q ps qs h t ih =>
    by_cases e : p.1 = k
    · have e' : q.1 = k := h.1.symm.trans e
      simp [atKey, List.find?_cons, e, e']
    · have e' : ¬ q.1 = k := fun z => e (h.1.trans z)
      have b : atKey (q :: qs) k = atKey qs k := by simp [atKey, List.find?_cons, e']
      rw [List.any_cons, b, ← ih]
      simp [e]
theorem NT.get {ys : Ys} {xs : List (NestedKey × Addr × Value)} (r : NT ys xs) (k : NestedKey) : RelO (getY ys k) ((atKey xs k).map (·.2)) := by
  induction r with
  | nil => exact True.intro
  | @cons p q ps qs h t ih =>
    obtain ⟨h1, _, h2⟩ := h
    by_cases e : p.1 = k
    · have e' : q.1 = k := h1.symm.trans e
      have a : getY (p :: ps) k = some p.2.2 := by simp [getY, List.find?_cons, e]
      have b : atKey (q :: qs) k = some q.2 := by simp [atKey, List.find?_cons, e']
      rw [a, b]; exact h2
    · have e' : ¬ q.1 = k := fun z => e (h1.trans z)
      have a : getY (p :: ps) k = getY ps k := by simp [getY, List.find?_cons, e]
      have b : atKey (q :: qs) k = atKey qs k := by simp [atKey, List.find?_cons, e']
      rw [a, b]; exact ih
theorem NT.repl {ys : Ys} {xs : List (NestedKey × Addr × Value)} (r : NT ys xs) (k : NestedKey) {v : V} {u : Value} (rv : RelV v u) : NT (ys.map fun p => if p.1 = k then (p.1, p.2.1, v) else p) (xs.map (putAt k u)) := by
  induction r with
  | nil => exact .nil
  | @cons p q ps qs h t ih =>
    rw [List.map_cons, List.map_cons]
    refine .cons ?_ ih
    obtain ⟨h1, h2, h3⟩ := h
    unfold putAt
    by_cases e : p.1 = k
    · rw [if_pos e, if_pos (h1.symm.trans e)]; exact ⟨h1, h2, rv⟩
    · rw [if_neg e, if_neg (fun z => e (h1.trans z))]; exact ⟨h1, h2, h3⟩
theorem NT.len {ys : Ys} {xs : List (NestedKey × Addr × Value)} (r : NT ys xs) : ys.length = xs.length := Paired.length r
inductive YE (K : PySem.W.Frag) (F : Hp) : Ys → List (NestedKey × D) → Prop
  | nil : YE K F [] []
  | cons {k : NestedKey} {q : Addr} {v : V} {d : D} {ys : Ys} {es : List (NestedKey × D)} : Rep K F (.ref q) (nkD k) → Rep K F v d → YE K F ys es → YE K F ((k, q, v) :: ys) ((k, d) :: es)
section
variable {K : PySem.W.Frag} {F : Hp}
theorem YE.len : ∀ {ys : Ys} {es : List (NestedKey × D)}, YE K F ys es → ys.length = es.length
  | _, _, .nil => rfl
  | _, _, .cons _ _ r => congrArg (· + 1) r.len
theorem YE.at : ∀ {ys : Ys} {es : List (NestedKey × D)} {i : Nat} {p : NestedKey × D}, YE K F ys es → es[i]? = some p → ∃ q v, ys[i]? = some (p.1, q, v) ∧ Rep K F (.ref q) (nkD p.1) ∧ Rep K F v p.2
  | _, _, _, _, .nil, h => by simp at h
  | _, _, 0, _, .cons a b _, h => by
    simp only [List.getElem?_cons_zero, Option.some.injEq] at h
    subst h
    exact ⟨_, _, rfl, a, b⟩
  | _, _, i + 1, _, .cons _ _ r, h => by
    simp only [List.getElem?_cons_succ] at h ⊢
    exact r.at h
theorem YE.get {k : NestedKey} : ∀ {ys : Ys} {es : List (NestedKey × D)}, YE K F ys es → (look es k = none ∧ getY ys k = none) ∨ ∃ d v, look es k = some d ∧ getY ys k = some v ∧ Rep K F v d
  | _, _, .nil => .inl ⟨rfl, rfl⟩
  | _, _, .cons (k := k2) (d := d) (v := v) a b r => by
    unfold look getY
    rw [List.find?_cons, List.find?_cons]
    by_cases e : k2 = k
    · simp only [e, decide_true]
      exact .inr ⟨d, v, rfl, rfl, b⟩
    · simp only [e, decide_false]
      exact r.get
theorem YE.repl {k : NestedKey} {v : V} {d : D} (rv : Rep K F v d) : ∀ {ys : Ys} {es : List (NestedKey × D)}, YE K F ys es → YE K F (ys.map (fun p => if p.1 = k then (p.1, p.2.1, v) else p)) (es.map (fun p => if p.1 = k then (p.1, d) else p)) ∧ (ys.any fun p => decide (p.1 = k)) = es.any fun p => decide (p.1 = k)
  | _, _, .nil => ⟨.nil, rfl⟩
  | _, _, .cons (k := k2) a b r => by
    obtain ⟨i1, i2⟩ := r.repl (k := k) rv
    simp only [List.map_cons, List.any_cons, i2, and_true]
    by_cases e : k2 = k
    · rw [if_pos e, if_pos e]; exact .cons a rv i1
    · rw [if_neg e, if_neg e]; exact .cons a b i1
end
end VL
set_option Elab.async false
set_option linter.all false
set_option maxRecDepth 100000
set_option autoImplicit false
set_option maxHeartbeats 2000001
namespace VL
open PySem PySem.Spec L2
open PyProof.Rows hiding St
end VL
set_option Elab.async false
set_option linter.all false
set_option maxRecDepth 100000
set_option autoImplicit false
set_option maxHeartbeats 2000001
namespace VL
open PySem PySem.Spec L2
open PyProof.Rows hiding St
end VL
set_option Elab.async false
set_option linter.all false
set_option maxRecDepth 100000
set_option autoImplicit false
set_option maxHeartbeats 2000001
namespace VL
open PySem PySem.Spec L2
open PyProof.Rows hiding St
end VL
set_option Elab.async false
set_option linter.all false
set_option maxRecDepth 100000
set_option autoImplicit false
namespace VL
open PySem PySem.Spec L2
open PyProof.Rows hiding St
end VL
set_option Elab.async false
set_option linter.all false
set_option maxRecDepth 100000
set_option autoImplicit false
namespace VL
open PySem PySem.Spec L2
open PyProof.Rows hiding St
end VL
set_option Elab.async false
set_option linter.all false
set_option maxRecDepth 100000
set_option autoImplicit false
namespace VL
open PySem PySem.Spec L2
open PyProof.Rows hiding St
end VL
set_option Elab.async false
set_option linter.all false
set_option maxRecDepth 100000
set_option autoImplicit false
namespace VL
open PySem PySem.Spec L2
open PyProof.Rows hiding St
section
variable {X : Cx} {G : Gd} {W : WX} {ρx ρ : Rho} {rest sts : List Stmt} {α β R : Type} {pn : α → Rho} {pl : β → Rho} {ι : R → Fl α β}
theorem BI.to {m m' : Rs R} (q : m = m') (h : BI X G W ρx ρ sts pn pl ι m) : BI X G W ρx ρ sts pn pl ι m' := q ▸ h
end
end VL
set_option Elab.async false
set_option linter.all false
set_option maxRecDepth 100000
set_option autoImplicit false
namespace VL
open PySem PySem.Spec L2
open PyProof.Rows hiding St
def iaddD : D → D → Option D
  | .int i, .int j => some (.int (i + j))
  | _, _ => none
@[simp] theorem iaddD_int (i j : Int) : iaddD (.int i) (.int j) = some (.int (i + j)) := rfl
end VL
set_option Elab.async false
set_option linter.all false
set_option maxRecDepth 100000
set_option autoImplicit false
namespace VL
open PySem PySem.Spec L2
open PyProof.Rows hiding St
end VL
set_option Elab.async false
set_option linter.all false
set_option maxRecDepth 100000
set_option autoImplicit false
namespace VL
open PySem PySem.Spec L2
open PyProof.Rows hiding St
section
variable {X : Cx} {G : Gd} {W : WX} {ρ : Rho} {n : Nat}
structure FnIs (X : Cx) (n : Nat) (x : Str) (m : List D → Rs D) (f : Addr) : Prop where
  mg : X.mg x = some (.ref f)
  gl : Gl X x
  nd : (x == ("__debug__" : Str)) = false
  kp : PySem.W.keepIn X.K (.ref f) = true
  ex : ∃ (k : Nat) (fd : FuncData) (ps : List Str), Keeps X.prog X.w X.K X.mg X.base k f fd ps m ∧ Room k X.A ∧ Binds X.K fd ps [] ∧ n = ps.length
inductive FnsAre (X : Cx) (n : Nat) : List Expr → List (List D → Rs D) → List Addr → Prop
  | nil : FnsAre X n [] [] []
  | cons {x : Str} {p : Pos} {es : List Expr} {m : List D → Rs D} {ms : List (List D → Rs D)} {f : Addr} {fs : List Addr} (h : FnIs X n x m f) (r : FnsAre X n es ms fs) : FnsAre X n (.Name x p :: es) (m :: ms) (f :: fs)
theorem FnsAre.pa {es : List Expr} {ms : List (List D → Rs D)} {fs : List Addr} (h : FnsAre X n es ms fs) : ∃ t, PA X es t ∧ ∀ σ H Q, Q (fs.map V.ref) H → t σ H Q := by
  induction h with
  | nil => exact ⟨_, pa_nil, fun _ _ _ q => q⟩
  | cons h r ih =>
    obtain ⟨t, p, k⟩ := ih
    exact ⟨_, pa_cons (pe_glob (v := .ref _) h.gl h.mg rfl h.nd) p, fun σ H Q q => k σ H _ q⟩
theorem FnsAre.len {es : List Expr} {ms : List (List D → Rs D)} {fs : List Addr} (h : FnsAre X n es ms fs) : ms.length = fs.length ∧ es.length = fs.length := by
  induction h with
  | nil => exact ⟨rfl, rfl⟩
  | cons _ _ ih => exact ⟨congrArg Nat.succ ih.1, congrArg Nat.succ ih.2⟩
theorem FnsAre.at {es : List Expr} {ms : List (List D → Rs D)} {fs : List Addr} (h : FnsAre X n es ms fs) : ∀ {j : Nat} {m : List D → Rs D}, ms[j]? = some m → ∃ x f, fs[j]? = some f ∧ FnIs X n x m f := by
  induction h with
  | nil => intro j m e; cases e
  | cons h r ih =>
    intro j m e
    cases j with
    | zero => cases e; exact ⟨_, _, rfl, h⟩
    | succ j => exact ih e
end
end VL
set_option Elab.async false
set_option linter.all false
set_option maxRecDepth 100000
set_option autoImplicit false
namespace VL
open PySem PySem.Spec L2
open PyProof.Rows hiding St
end VL
set_option Elab.async false
set_option linter.all false
set_option maxRecDepth 100000
set_option autoImplicit false
set_option maxHeartbeats 2000000
namespace VL
open PySem PySem.Spec L2
open PyProof.Rows hiding St
section
variable {P : Program} {w : World}
abbrev NKd (P : Program) (w : World) : HeapKind P w NestedKey := nestedKind P w
abbrev hN (w : World) (p : Addr × NestedKey) : Int := p.2.hash w
abbrev rowN (w : World) (p : Addr × NestedKey) : Int × Value := (hN w p, Value.ref p.1)
structure SetN (P : Program) (w : World) (h : Heap) (a : Addr) (L : List (Addr × NestedKey)) (es : Array (Int × Value)) (ep : Nat) (t : SetTable) : Prop where
  ob : ∃ o, h.get? a = some o ∧ o.ExactSet ∧ o.data = .set es ep t
  rows : es.toList = L.map (rowN w)
  tab : TabOk t (L.map (hN w))
  nd : (L.map Prod.snd).Nodup
  tup : ∀ p ∈ L, (NKd P w).is h p.2 p.1
  led : w.params.followText "set-order" = true ∨ t.led = true
  room : L.length * 5 < t.mask * 3
  few : L.length ≤ 70
variable {A : Around} {E : Value → Shared → Prop} {s : Shared} {a : Addr} {L : List (Addr × NestedKey)} {es : Array (Int × Value)} {ep : Nat} {t : SetTable}
end
end VL
set_option Elab.async false
set_option linter.all false
set_option maxRecDepth 100000
set_option autoImplicit false
set_option maxHeartbeats 2000000
namespace VL
open PySem PySem.Spec L2
open PyProof.Rows hiding St
end VL
set_option Elab.async false
set_option linter.all false
set_option maxRecDepth 100000
set_option autoImplicit false
set_option maxHeartbeats 3200000
namespace VL
open PySem PySem.Spec L2
open PyProof.Rows hiding St
abbrev AK := Addr × NestedKey
structure HasN (ks : List AK) (i : Nat) (L : List AK) : Prop where
  sub : ∀ p ∈ L, p ∈ ks.take i
  all : ∀ p ∈ ks.take i, p.2 ∈ L.map Prod.snd
  len : L.length ≤ i
theorem take_snoc {α : Type} {l : List α} {i : Nat} {x : α} (h : l[i]? = some x) : l.take (i + 1) = l.take i ++ [x] := by
  rw [List.take_succ, h, Option.toList_some]
theorem HasN.next {ks L L' : List AK} {i : Nat} {x : AK} (g : HasN ks i L) (h : ks[i]? = some x) (c1 : x.2 ∈ L.map Prod.snd → L' = L) (c2 : x.2 ∉ L.map Prod.snd → L'.Perm (x :: L)) : HasN ks (i + 1) L' := by
  have et := take_snoc h
  by_cases c : x.2 ∈ L.map Prod.snd
  · rw [c1 c]
    refine ⟨fun p hp => by rw [et]; exact List.mem_append_left _ (g.sub p hp), fun p hp => ?_, Nat.le_succ_of_le g.len⟩
    rw [et] at hp
    rcases List.mem_append.mp hp with z | z
    · exact g.all p z
    · rw [List.mem_singleton.mp z]; exact c
  · have pm := c2 c
    refine ⟨fun p hp => ?_, fun p hp => ?_, by rw [pm.length_eq]; exact Nat.succ_le_succ g.len⟩
    · rw [et]
      rcases List.mem_cons.mp (pm.mem_iff.mp hp) with rfl | z
      · exact List.mem_append_right _ List.mem_cons_self
      · exact List.mem_append_left _ (g.sub p z)
    · rw [(pm.map _).mem_iff]
      rw [et] at hp
      rcases List.mem_append.mp hp with z | z
      · exact List.mem_cons_of_mem _ (g.all p z)
      · rw [List.mem_singleton.mp z]; exact List.mem_cons_self
section
variable {P : Program} {w : World} {A : Around} {E : Value → Shared → Prop} {s : Shared}
theorem SetN.keep {h h' : Heap} {a : Addr} {L : List AK} {es : Array (Int × Value)} {ep : Nat} {t : SetTable} (R : SetN P w h a L es ep t) (ha : ∀ o, h.get? a = some o → h'.get? a = some o) (ht : ∀ p ∈ L, (NKd P w).is h' p.2 p.1) : SetN P w h' a L es ep t :=
  ⟨R.ob.elim fun o z => ⟨o, ha o z.1, z.2⟩, R.rows, R.tab, R.nd, ht, R.led, R.room, R.few⟩
end
end VL
set_option Elab.async false
set_option linter.all false
set_option maxRecDepth 100000
set_option autoImplicit false
set_option maxHeartbeats 3200000
namespace VL
open PySem PySem.Spec L2
open PyProof.Rows hiding St
structure SetS (w : World) (h : Heap) (a : Addr) (L : List AK) : Prop where
  ex : ∃ (es : Array (Int × Value)) (ep : Nat) (t : SetTable), (∃ o, h.get? a = some o ∧ o.ExactSet ∧ o.data = .set es ep t) ∧ es.toList = L.map (rowN w) ∧ TabOk t (L.map (hN w)) ∧ (w.params.followText "set-order" = true ∨ t.led = true) ∧ L.length * 5 < t.mask * 3
end VL
set_option Elab.async false
set_option linter.all false
set_option maxRecDepth 100000
set_option autoImplicit false
namespace VL
open PySem PySem.Spec L2
open PyProof.Rows hiding St
end VL
set_option Elab.async false
set_option linter.all false
set_option maxRecDepth 100000
set_option autoImplicit false
namespace VL
open PySem PySem.Spec L2
open PyProof.Rows hiding St
end VL
set_option Elab.async false
set_option linter.all false
set_option maxRecDepth 100000
set_option autoImplicit false
namespace VL
open PySem PySem.Spec L2
open PyProof.Rows hiding St
end VL
set_option Elab.async false
set_option linter.all false
set_option maxRecDepth 100000
set_option autoImplicit false
namespace VL
open PySem PySem.Spec L2
open PyProof.Rows hiding St
section
variable {X : Cx} {G : Gd} {W : WX} {ρ : Rho} {e o : Expr} {es : List Expr} {m mo : Rs D} {κ : Kt} {d : D} {apos pos p : Pos} {kws : List Keyword}
def EVT (X : Cx) (G : Gd) (W : WX) (ρ : Rho) (e : Expr) (m : Rs D) : Prop := ∃ t, PET X e t ∧ ∀ F0 σ F H Q, Holds X.K (G.at F0) ρ σ F H → Post X.K (RF X.K) (fun c d H => W c d σ H) F H Q m → t σ H Q
theorem EV.tk (h : EV X G W ρ e m) : EVT X G W ρ e m := by
  obtain ⟨t, pt, qt⟩ := h
  exact ⟨t, fun pins s σ H Q _ I q => pt.run pins s σ H Q I q, qt⟩
end
end VL
set_option Elab.async false
set_option linter.all false
set_option maxRecDepth 100000
set_option autoImplicit false
namespace VL
open PySem PySem.Spec L2
open PyProof.Rows hiding St
end VL
set_option Elab.async false
set_option linter.all false
set_option maxRecDepth 100000
set_option autoImplicit false
set_option maxHeartbeats 3200000
namespace VL
open PySem PySem.Spec L2
open PyProof.Rows hiding St
open PySem.Froz (SD sObj TxOk addTx tailTx add_x add_ok is_str get_upd)
section
variable {P : Program} {w : World}
structure TxS (P : Program) (w : World) (D : SD) (l : List Str) : Prop where
  ok : TxOk P w D l
  nd : l.Nodup
  vals : ∃ us, us.Perm (D.1.toList.map (·.2)) ∧ Vals (l.map V.str) us
  ris : Ris D.2.2.place.toList
  led : w.params.followText "set-order" = true ∨ D.2.2.led = true
theorem TxS.nil : TxS P w (#[], 0, .fresh 0 0 (!w.params.followText "set-order")) [] := by
  refine ⟨TxOk.nil rfl, List.nodup_nil, ⟨[], .refl _, .nil⟩, List.Pairwise.nil, ?_⟩
  show _ ∨ (!w.params.followText "set-order") = true
  cases w.params.followText "set-order"
  · exact .inr rfl
  · exact .inl rfl
variable {A : Around} {E : Value → Shared → Prop} {s : Shared}
structure HasT (ks : List Str) (i : Nat) (l : List Str) : Prop where
  mem : ∀ x, x ∈ l ↔ x ∈ ks.take i
  len : l.length ≤ i
theorem HasT.next {ks l : List Str} {i : Nat} {x : Str} (g : HasT ks i l) (h : ks[i]? = some x) (hx : x ∈ l) : HasT ks (i + 1) l := by
  refine ⟨fun y => ?_, Nat.le_succ_of_le g.len⟩
  rw [take_snoc h, List.mem_append, List.mem_singleton, g.mem y]
  exact ⟨.inl, fun z => z.elim id fun e => by subst e; exact (g.mem y).mp hx⟩
end
end VL
set_option Elab.async false
set_option linter.all false
set_option maxRecDepth 100000
set_option autoImplicit false
namespace VL
open PySem PySem.Spec L2
open PyProof.Rows hiding St
end VL
set_option Elab.async false
set_option linter.all false
set_option maxRecDepth 100000
set_option autoImplicit false
namespace VL
open PySem PySem.Spec L2
open PyProof.Rows hiding St
end VL
set_option Elab.async false
set_option linter.all false
set_option maxRecDepth 100000
set_option autoImplicit false
namespace VL
open PySem PySem.Spec L2
open PyProof.Rows hiding St
open SlX (Slt)
end VL
set_option Elab.async false
set_option linter.all false
set_option maxRecDepth 100000
set_option autoImplicit false
namespace VL
open PySem PySem.Spec L2
open PyProof.Rows hiding St
def len0 : D → Option D
  | .int i => if 0 ≤ i ∧ i < 2 ^ 63 then some (.int i) else none
  | _ => none
theorem EF.to {X : Cx} {G : Gd} {W : WX} {ρ : Rho} {e : Expr} {m : Rs (List D)} (m' : Rs (List D)) (h : EF X G W ρ e m) (q : m = m') : EF X G W ρ e m' := q ▸ h
end VL
set_option Elab.async false
set_option linter.all false
set_option maxRecDepth 100000
set_option autoImplicit false
namespace VL
open PySem PySem.Spec L2
open PyProof.Rows hiding St
end VL
set_option Elab.async false
set_option linter.all false
set_option maxRecDepth 100000
set_option autoImplicit false
namespace VL
open PySem PySem.Spec L2
open PyProof.Rows hiding St
end VL
set_option Elab.async false
set_option linter.all false
set_option maxRecDepth 100000
set_option autoImplicit false
namespace VL
open PySem PySem.Spec L2
open PyProof.Rows hiding St
section
variable {prog : Program} {w : World} {A : Around} {E : Value → Shared → Prop} {s : Shared} {z TI TO i1 i2 l1 l2 S : Addr} {xs ys : Array Value} {h h' : Heap} {i : Nat}
structure ZlStT (h : Heap) (z TI TO i1 i2 l1 l2 S : Addr) (xs ys : Array Value) (i : Nat) : Prop where
  ti : PySem.IsPair h TI (.ref i1) (.ref i2)
  a1 : h.IsTupleIter i1 l1 i
  a2 : h.IsTupleIter i2 l2 i
  b1 : h.IsTuple l1 xs
  b2 : h.IsTuple l2 ys
  zz : (IsZip h z TI TO .none ∧ ∃ a b, PySem.IsPair h TO a b) ∨ ∃ T f oT, IsZipHeld h z TI TO T f ∧ h.get? T = some oT ∧ T ≠ z ∧ T ≠ i1 ∧ T ≠ i2 ∧ T ≠ S
theorem ZlStT.keep (x : ZlStT h z TI TO i1 i2 l1 l2 S xs ys i) (hk : ∀ b o, b ≠ S → h.get? b = some o → h'.get? b = some o) (off : S ∉ [z, TI, TO, i1, i2, l1, l2]) : ZlStT h' z TI TO i1 i2 l1 l2 S xs ys i := by
  simp only [List.mem_cons, List.not_mem_nil, or_false, not_or] at off
  obtain ⟨n1, n2, n3, n4, n5, n6, n7⟩ := off
  refine ⟨hk _ _ (Ne.symm n2) x.ti, x.a1.at fun o e => hk _ o (Ne.symm n4) e, x.a2.at fun o e => hk _ o (Ne.symm n5) e, x.b1.at fun o e => hk _ o (Ne.symm n6) e, x.b2.at fun o e => hk _ o (Ne.symm n7) e, ?_⟩
  rcases x.zz with ⟨q, a, b, q2⟩ | ⟨T, f, oT, q, q2, r1, r2, r3, r4⟩
  · exact .inl ⟨hk _ _ (Ne.symm n1) q, a, b, hk _ _ (Ne.symm n3) q2⟩
  · exact .inr ⟨T, f, oT, hk _ _ (Ne.symm n1) q, hk _ _ r4 q2, r1, r2, r3, r4⟩
end
end VL
set_option Elab.async false
set_option linter.all false
set_option maxRecDepth 100000
set_option autoImplicit false
set_option maxHeartbeats 1000000
namespace VL
open PySem PySem.Spec L2
open PyProof.Rows hiding St
structure Since (s s' : Shared) : Prop where
  old : ∀ b o, s.heap.get? b = some o → s'.heap.get? b = some o
  gens : s'.gens = s.gens
  drawn : s'.drawn = s.drawn
  os : s'.os = s.os
end VL
set_option Elab.async false
set_option linter.all false
set_option maxRecDepth 100000
set_option autoImplicit false
set_option maxHeartbeats 1000000
namespace VL
open PySem PySem.Spec L2
open PyProof.Rows hiding St
theorem reps_rg {K : PySem.W.Frag} {F : Hp} (a : Int) : ∀ l : List Nat, Reps K F (l.map fun i => V.int (a + (i : Nat))) (l.map fun (i : Nat) => D.int (a + (i : Int)))
  | [] => .nil
  | x :: l => .cons (.int _) (reps_rg a l)
theorem reps_rgV {K : PySem.W.Frag} {F : Hp} (a b : Int) : Reps K F (rgV a b) (rangeL a (b - a).toNat) := reps_rg a _
section
variable {X : Cx} {G : Gd} {W : WX} {ρ : Rho} {e a b : Expr} {ma mb : Rs D} {p p2 pos pos2 : Pos}
theorem ef_listrg1 (hc : X.calm = true) (hgl : Gl X "list") (hml : X.mg "list" = none) (hg : Gl X "range") (hm : X.mg "range" = none) (ha : EV X G W ρ a ma) (hs : starEach [a] X.env = (false, eval a X.env) :: starEach [] X.env := by rfl)
    (hs3 : starEach [.Call (.Name "range" p2) [a] [] pos2] X.env = (false, eval (.Call (.Name "range" p2) [a] [] pos2) X.env) :: starEach [] X.env := by rfl) :
    EF X G W ρ (.Call (.Name "list" p) [.Call (.Name "range" p2) [a] [] pos2] [] pos) (ma.bind fun x => Rs.of (rangeD x)) := by
  obtain ⟨t, pe, q⟩ := ha
  refine ⟨_, pe_listRg hc hgl hml (prg_1 hg hm pe hs) hs3, fun F0 σ F H Q hh hp => ?_⟩
  refine q F0 σ F H _ hh ?_
  cases ma with
  | ex c fs => exact hp
  | no => exact hp
  | ok d =>
    intro v F1 H1 e1 r1
    obtain ⟨ds, hd, k⟩ := Post.of (o := rangeD d) hp
    cases d with
    | int n =>
      cases r1
      simp only [rangeD] at hd
      split at hd
      · rename_i hn
        cases hd
        have e0 : (n - 0).toNat = n.toNat := by omega
        have rr := reps_rgV (K := X.K) (F := F1) 0 n
        rw [e0] at rr
        exact ⟨n, rfl, ⟨by omega, by omega, by omega, by omega, by omega⟩, fun l hn2 => k _ F1 _ (e1.trans (Ext.loose e1.sub _ hn2)) ⟨l, rfl, e1.same.free hn2, sub_none e1.sub hn2, .lst upd_same (by rw [rgV_length, sizeLine_eq]; omega) rr⟩⟩
      · cases hd
    | _ => cases hd
theorem ef_listrg2 (hc : X.calm = true) (hgl : Gl X "list") (hml : X.mg "list" = none) (hg : Gl X "range") (hm : X.mg "range" = none) (ha : EV X G W ρ a ma) (hb : EV X G W ρ b mb) (hs : starEach [a, b] X.env = (false, eval a X.env) :: starEach [b] X.env := by rfl) (hs2 : starEach [b] X.env = (false, eval b X.env) :: starEach [] X.env := by rfl)
    (hpl : (backTo pos2 (starEach [b] X.env)).any (·.1) = false := by rfl)
    (hs3 : starEach [.Call (.Name "range" p2) [a, b] [] pos2] X.env = (false, eval (.Call (.Name "range" p2) [a, b] [] pos2) X.env) :: starEach [] X.env := by rfl) :
    EF X G W ρ (.Call (.Name "list" p) [.Call (.Name "range" p2) [a, b] [] pos2] [] pos) (ma.bind fun x => mb.bind fun y => Rs.of (rangeD2 x y)) := by
  obtain ⟨t, pe, q⟩ := ha
  obtain ⟨t2, pe2, q2⟩ := hb
  refine ⟨_, pe_listRg hc hgl hml (prg_2 hg hm pe pe2 hs hs2 hpl) hs3, fun F0 σ F H Q hh hp => ?_⟩
  refine q F0 σ F H _ hh (hp.bind fun d v F1 H1 e1 r1 hp1 => ?_)
  refine q2 F0 σ F1 H1 _ (hh.more e1) (hp1.bind fun d2 v2 F2 H2 e2 r2 hp2 => ?_)
  obtain ⟨ds, hd, k⟩ := hp2.of
  cases d with
  | int i =>
    cases d2 with
    | int j =>
      cases r1
      cases r2
      simp only [rangeD2] at hd
      split at hd
      · rename_i hn
        cases hd
        have rr := reps_rgV (K := X.K) (F := F2) i j
        exact ⟨i, j, rfl, rfl, ⟨by omega, by omega, by omega, by omega, by omega⟩, fun l hn2 => k _ F2 _ (Ext.loose e2.sub _ hn2) ⟨l, rfl, e1.same.free (e2.same.free hn2), sub_none e2.sub hn2, .lst upd_same (by rw [rgV_length, sizeLine_eq]; omega) rr⟩⟩
      · cases hd
    | _ => cases hd
  | _ => cases hd
end
end VL
set_option Elab.async false
set_option linter.all false
set_option maxRecDepth 100000
set_option autoImplicit false
set_option maxHeartbeats 1000000
namespace VL
open PySem PySem.Spec L2
open PyProof.Rows hiding St
section
variable {X : Cx} {G : Gd} {W : WX} {ρx ρ : Rho} {rest : List Stmt} {α β R : Type} {pn : α → Rho} {pl : β → Rho} {ι : R → Fl α β}
theorem bi_swap3 {i0 i1 i2 j1 j2 : Nat} {a0 : Expr} {x1 x2 y1 y2 : Str} {q1 q2 r1 r2 s1 s2 : Pos} {l1 l2 : Bool} {c1 c2 : List D} {n1 n2 : D} {e0 e1 e2 : Expr} {m0 m1 m2 : Rs D} {kt k2 : Nat} {pt pt2 pos : Pos} {f : D → List D → List D → Rs R} (calm : X.calm = true)
    (hg0 : PG X a0 (gName i0)) (hv1 : PE X (.Name x1 q1) (tVar i1)) (hv2 : PE X (.Name x2 q2) (tVar i2)) (hw1 : PE X (.Name y1 r1) (tVar j1)) (hw2 : PE X (.Name y2 r2) (tVar j2))
    (h0 : EV X G W ρ e0 m0) (h1 : EV X G W ρ e1 m1) (h2 : EV X G W ρ e2 m2)
    (hr : ∀ d c1' c2', BI X G W ρx (((ρ.set i0 (some (.val d))).set i1 (some (.own l1 (.lst c1')))).set i2 (some (.own l2 (.lst c2')))) rest pn pl ι (f d c1' c2'))
    (hi1 : ρ[i1]? = some (some (.own l1 (.lst c1))) := by rfl) (hi2 : ρ[i2]? = some (some (.own l2 (.lst c2))) := by rfl) (hj1 : ρ[j1]? = some (some (.val n1)) := by rfl) (hj2 : ρ[j2]? = some (some (.val n2)) := by rfl)
    (n01 : i0 ≠ i1 := by decide) (n02 : i0 ≠ i2 := by decide) (n12 : i1 ≠ i2 := by decide) (m01 : i0 ≠ j1 := by decide) (m02 : i0 ≠ j2 := by decide) (m12 : i1 ≠ j2 := by decide)
    (hw : swappedStores [.Tuple [a0, .Subscript (.Name x1 q1) (.Name y1 r1) s1, .Subscript (.Name x2 q2) (.Name y2 r2) s2] kt pt] (.Tuple [e0, e1, e2] k2 pt2) X.env = pure none := by rfl) (hs : swapsWithSole [.Tuple [a0, .Subscript (.Name x1 q1) (.Name y1 r1) s1, .Subscript (.Name x2 q2) (.Name y2 r2) s2] kt pt] (.Tuple [e0, e1, e2] k2 pt2) pos.line X.env = pure false := by rfl)
    (hs1 : starEach [e0, e1, e2] X.env = (false, eval e0 X.env) :: starEach [e1, e2] X.env := by rfl)
    (hs2 : starEach [e1, e2] X.env = (false, eval e1 X.env) :: starEach [e2] X.env := by rfl)
    (hs3 : starEach [e2] X.env = (false, eval e2 X.env) :: starEach [] X.env := by rfl)
    (ht : (assignEach [.Tuple [a0, .Subscript (.Name x1 q1) (.Name y1 r1) s1, .Subscript (.Name x2 q2) (.Name y2 r2) s2] kt pt] X.env).map (·.2) = [assign (.Tuple [a0, .Subscript (.Name x1 q1) (.Name y1 r1) s1, .Subscript (.Name x2 q2) (.Name y2 r2) s2] kt pt) X.env] := by rfl)
    (hn : (assignEach [a0, .Subscript (.Name x1 q1) (.Name y1 r1) s1, .Subscript (.Name x2 q2) (.Name y2 r2) s2] X.env).length = 3 := by rfl) (hst : (assignEach [a0, .Subscript (.Name x1 q1) (.Name y1 r1) s1, .Subscript (.Name x2 q2) (.Name y2 r2) s2] X.env).findIdx? (·.1) = none := by rfl)
    (hq1 : (assignEach [a0, .Subscript (.Name x1 q1) (.Name y1 r1) s1, .Subscript (.Name x2 q2) (.Name y2 r2) s2] X.env).map (·.2) = assign a0 X.env :: (assignEach [.Subscript (.Name x1 q1) (.Name y1 r1) s1, .Subscript (.Name x2 q2) (.Name y2 r2) s2] X.env).map (·.2) := by rfl)
    (hq2 : (assignEach [.Subscript (.Name x1 q1) (.Name y1 r1) s1, .Subscript (.Name x2 q2) (.Name y2 r2) s2] X.env).map (·.2) = assign (.Subscript (.Name x1 q1) (.Name y1 r1) s1) X.env :: (assignEach [.Subscript (.Name x2 q2) (.Name y2 r2) s2] X.env).map (·.2) := by rfl)
    (hq3 : (assignEach [.Subscript (.Name x2 q2) (.Name y2 r2) s2] X.env).map (·.2) = assign (.Subscript (.Name x2 q2) (.Name y2 r2) s2) X.env :: (assignEach [] X.env).map (·.2) := by rfl)
    (hA1 : ∀ v, assign (.Subscript (.Name x1 q1) (.Name y1 r1) s1) X.env v = (do
      let ov ← holding [v] (eval (.Name x1 q1) X.env); let iv ← holding [v, ov] (eval (.Name y1 r1) X.env); standAt s1; holding [v, ov, iv] (setItem ov iv v); release [v, ov, iv] []) := by intro _; rfl)
    (hA2 : ∀ v, assign (.Subscript (.Name x2 q2) (.Name y2 r2) s2) X.env v = (do
      let ov ← holding [v] (eval (.Name x2 q2) X.env); let iv ← holding [v, ov] (eval (.Name y2 r2) X.env); standAt s2; holding [v, ov, iv] (setItem ov iv v); release [v, ov, iv] []) := by intro _; rfl)
    (hl0 : i0 < ρ.length := by exact Nat.le_of_ble_eq_true rfl) (wx : Wk ρ ρx := by first | exact Wk.nil | exact Wk.refl | (repeat (first | exact Wk.nil | apply Wk.keep | apply Wk.drop))) :
    BI X G W ρx ρ (.Assign [.Tuple [a0, .Subscript (.Name x1 q1) (.Name y1 r1) s1, .Subscript (.Name x2 q2) (.Name y2 r2) s2] kt pt] (.Tuple [e0, e1, e2] k2 pt2) pos :: rest) pn pl ι (m0.bind fun d0 => m1.bind fun d1 => m2.bind fun d2 => (Rs.of (setL c1 n1 d1)).bind fun c1' => (Rs.of (setL c2 n2 d2)).bind fun c2' => f d0 c1' c2') := by
  obtain ⟨t0, p0, k0⟩ := h0
  obtain ⟨t1, p1, k1⟩ := h1
  obtain ⟨t2, p2, k2⟩ := h2
  intro F0 σ F H E hh hp
  have e2 : ((m0.bind fun d0 => m1.bind fun d1 => m2.bind fun d2 => (Rs.of (setL c1 n1 d1)).bind fun c1' => (Rs.of (setL c2 n2 d2)).bind fun c2' => f d0 c1' c2').bind fun r => (.ok (ι r) : Rs (Fl α β))) = m0.bind fun d0 => m1.bind fun d1 => m2.bind fun d2 => (Rs.of (setL c1 n1 d1)).bind fun c1' => (Rs.of (setL c2 n2 d2)).bind fun c2' => (f d0 c1' c2').bind fun r => .ok (ι r) := by
    simp only [Rs.assoc]
  rw [e2] at hp
  refine any_cons (ps_asg (pe_tup (pa_cons p0 (pa_cons p1 (pa_cons p2 pa_nil hs3) hs2) hs1)) (pg_tup calm (pgs_cons hg0 (pgs_cons (pg_sub hv1 hw1 set_list hA1) (pgs_cons (pg_sub hv2 hw2 set_list hA2) pgs_nil hq3) hq2) hq1) hn hst) hs hw ht) ?_
  refine k0 F0 σ F H _ hh (post_seq hh wx hp fun d0 v0 F1 H1 x1_ r1 hp1 => ?_)
  refine k1 F0 σ F1 H1 _ (hh.more x1_) (post_seq (hh.more x1_) wx hp1 fun d1 v1 F2 H2 x2_ r2 hp2 => ?_)
  refine k2 F0 σ F2 H2 _ ((hh.more x1_).more x2_) (post_seq ((hh.more x1_).more x2_) wx hp2 fun d2 v2 F3 H3 x3_ r3 hp3 => ?_)
  refine ⟨by show 3 ≤ sizeLine; decide, fun p hn0 => ?_⟩
  have e3 : Ext F3 H3 F3 (upd H3 p (.tup [v0, v1, v2])) := Ext.loose x3_.sub _ hn0
  refine ⟨p, [v0, v1, v2], rfl, .inl (.inl upd_same), rfl, ?_⟩
  have hA := (((hh.more x1_).more x2_).more x3_).more e3
  have hB := hA.setV (((r1.mono x2_.ext).mono x3_.ext).mono e3.ext) hl0
  refine ⟨_, _, rfl, ?_⟩
  refine ⟨_, _, rfl, ?_⟩
  have g1 : (ρ.set i0 (some (.val d0)))[i1]? = some (some (.own l1 (.lst c1))) := by rw [List.getElem?_set_ne n01]; exact hi1
  have g2 : (ρ.set i0 (some (.val d0)))[j1]? = some (some (.val n1)) := by rw [List.getElem?_set_ne m01]; exact hj1
  obtain ⟨b1, a1, a2, a3, a4⟩ := hB.own i1 l1 _ g1
  refine ⟨.ref b1, a1, ?_⟩
  obtain ⟨w1, z1, z2⟩ := hB.val j1 _ g2
  refine ⟨w1, z1, ?_⟩
  obtain ⟨c1', hc1⟩ : ∃ c, setL c1 n1 d1 = some c := by
    cases q : setL c1 n1 d1 with
    | none => rw [q] at hp3; exact hp3.elim
    | some c => exact ⟨c, rfl⟩
  rw [hc1] at hp3
  obtain ⟨c2', hc2⟩ : ∃ c, setL c2 n2 d2 = some c := by
    cases q : setL c2 n2 d2 with
    | none => rw [q] at hp3; exact hp3.elim
    | some c => exact ⟨c, rfl⟩
  rw [hc2] at hp3
  obtain ⟨xs, u1, u2, u3⟩ := a4.asL
  cases n1 with
  | int n =>
    cases z2
    cases q3 : ixN c1.length n with
    | none => simp only [setL, q3] at hc1; cases hc1
    | some j =>
      simp only [setL, q3, Option.map, Option.some.injEq] at hc1
      subst hc1
      refine ⟨b1, xs, n, j, rfl, rfl, u1, by rw [u3.length]; exact q3, ?_⟩
      have hC := hB.write g1 a1 (.lst upd_same (by rw [List.length_set]; exact u2) (u3.set j (((r2.mono x3_.ext).mono e3.ext))))
      have g3 : ((ρ.set i0 (some (.val d0))).set i1 (some (.own l1 (.lst (c1.set j d1)))))[i2]? = some (some (.own l2 (.lst c2))) := by rw [List.getElem?_set_ne n12, List.getElem?_set_ne n02]; exact hi2
      have g4 : ((ρ.set i0 (some (.val d0))).set i1 (some (.own l1 (.lst (c1.set j d1)))))[j2]? = some (some (.val n2)) := by rw [List.getElem?_set_ne m12, List.getElem?_set_ne m02]; exact hj2
      refine ⟨_, _, rfl, ?_⟩
      obtain ⟨b2, y1, y2, y3, y4⟩ := hC.own i2 l2 _ g3
      refine ⟨.ref b2, y1, ?_⟩
      obtain ⟨w2, z3, z4⟩ := hC.val j2 _ g4
      refine ⟨w2, z3, ?_⟩
      obtain ⟨ys, u4, u5, u6⟩ := y4.asL
      cases n2 with
      | int n =>
        cases z4
        cases q4 : ixN c2.length n with
        | none => simp only [setL, q4] at hc2; cases hc2
        | some k =>
          simp only [setL, q4, Option.map, Option.some.injEq] at hc2
          subst hc2
          refine ⟨b2, ys, n, k, rfl, rfl, u4, by rw [u6.length]; exact q4, ?_⟩
          refine ⟨rfl, ?_⟩
          exact hr _ _ _ F0 _ F3 _ E (hC.write g3 y1 (.lst upd_same (by rw [List.length_set]; exact u5) (u6.set k (r3.mono e3.ext)))) hp3
      | _ => simp only [setL] at hc2; cases hc2
  | _ => simp only [setL] at hc1; cases hc1
end
def repL : D → D → Option (List D)
  | .lst xs, .int k => if 0 ≤ k ∧ k < 1000000 ∧ xs.length * k.toNat ≤ sizeLine then some (List.replicate k.toNat xs).flatten else none
  | _, _ => none
theorem ef_rep {X : Cx} {G : Gd} {W : WX} {ρ : Rho} {a b : Expr} {ma mb : Rs D} {pos : Pos} (ha : EO X G W ρ a ma) (hb : EO X G W ρ b mb) : EF X G W ρ (.BinOp a .Mult b pos) (ma.bind fun x => mb.bind fun y => Rs.of (repL x y)) := by
  obtain ⟨ta, pa, qa⟩ := ha
  obtain ⟨tb, pb, qb⟩ := hb
  refine ⟨_, pe_op op_rep pa pb, fun F0 σ F H Q hh hp => ?_⟩
  refine qa F0 σ F H _ hh (hp.bind fun dx x F1 H1 e1 r1 hp1 => ?_)
  refine qb F0 σ F1 H1 _ (hh.more e1) (hp1.bind fun dy y F2 H2 e2 r2 hp2 => ?_)
  obtain ⟨d, hd, k⟩ := hp2.of
  unfold repL at hd
  split at hd
  · split at hd
    · rename_i m hc
      cases hd
      obtain ⟨c1, c2, c3⟩ := hc
      obtain ⟨a', xs, rfl, ha', la, ra⟩ := (r1.more e2).lst e2.sub
      rw [← ra.length] at c3
      exact ⟨a', m, xs, rfl, r2.int, ha', by omega, by omega, c3, fun p hn => k _ F2 _ (Ext.loose e2.sub _ hn) ⟨p, rfl, e1.same.free (e2.same.free hn), sub_none e2.sub hn, .lst upd_same (by rw [len_repl]; exact c3) (ra.repl _)⟩⟩
    · cases hd
  · cases hd
end VL
set_option Elab.async false
set_option linter.all false
set_option maxRecDepth 100000
set_option autoImplicit false
set_option maxHeartbeats 1000000
namespace VL
open PySem PySem.Spec L2
open PyProof.Rows hiding St
def rMinPr (K : PySem.W.Frag) : List V → Hp → VK → Prop := fun xs H Q => ∃ (a : Addr) (vs : List V) (y : PyData) (ys : List PyData), xs = [V.ref a] ∧ SqL K H a vs ∧ DpAll K H vs (y :: ys) ∧ PyData.canLayAll0 (y :: ys) = true ∧ PyData.depthAll (y :: ys) ≤ 62 ∧ PySem.W.AlikeAll (y :: ys) ∧
  ∀ (i : Nat) (x : V), vs[i]? = some x → (y :: ys)[i]? = some (PySem.W.minD y ys) → Q x H
theorem call_minPr {X : Cx} (hc : X.calm = true) (hu : X.A.units + 65 < cLine) : CallR X (.builtin "min") (rMinPr X.K) := by
  intro pins s σ H xs us Q I r h
  obtain ⟨a, vs, y, ys, rfl, hs, hd, lay, dep, al, q⟩ := h
  obtain ⟨its, rv, hl, _⟩ := I.list hs
  rw [Vals.ref1 r]
  obtain ⟨as, hra⟩ := Dp.readsAll I (y :: ys) vs its hd rv
  refine PySem.W.min_list_data (vs := its.toArray) (I.ok.hd hc) hl.isList (show ReadsAll s.heap its.toArray.toList (y :: ys) as from hra) al (by omega) (fun i v h' tk bs hv hrd hk => ?_)
  obtain ⟨x, hx, rx⟩ := vals_getU rv (show its[i]? = some v by simpa using hv)
  obtain ⟨d, hd1, hd2⟩ := dpAll_at hd hx
  obtain ⟨bs2, r2⟩ := Dp.reads I d x v hd2 rx
  have e1 := SeqAt.readOf_eq (lay_mem lay (List.mem_of_getElem? hd1)) (PySem.W.reads_keeps hk r2)
  have e2 := SeqAt.readOf_eq (lay_mem lay (minD_mem y ys)) hrd
  exact ⟨x, H, I.kept hk, rx, q i x hx (by rw [hd1, ← e1, e2])⟩
def prI (p : Int × Int) : D := .tup [.int p.1, .int p.2]
def prsI : List D → Option (List (Int × Int))
  | [] => some []
  | .tup [.int a, .int b] :: ds => (prsI ds).map fun ps => (a, b) :: ps
  | _ => none
theorem prsI_some : ∀ {ds : List D} {ps : List (Int × Int)}, prsI ds = some ps → ds = ps.map prI
  | [], ps, h => by cases h; rfl
  | d :: ds, ps, h => by
    unfold prsI at h
    split at h
    · rename_i e
      cases e
    · rename_i a b es e
      cases e
      obtain ⟨qs, h1, rfl⟩ := Option.map_eq_some_iff.mp h
      rw [prsI_some h1]
      rfl
    · cases h
theorem prsI_map : ∀ ps : List (Int × Int), prsI (ps.map prI) = some ps
  | [] => rfl
  | p :: ps => by
    show (prsI (ps.map prI)).map _ = _
    rw [prsI_map ps]
    rfl
def pltI (p q : Int × Int) : Bool := decide (p.1 < q.1 ∨ p.1 = q.1 ∧ p.2 < q.2)
def minQ (p : Int × Int) (ps : List (Int × Int)) : Int × Int := ps.foldl (fun a z => if pltI z a then z else a) p
def minP : D → Option D
  | .lst ds => (prsI ds).bind fun ps => match ps with
    | [] => none
    | p :: ps => some (prI (minQ p ps))
  | _ => none
theorem prI_alike (p q : Int × Int) : PySem.W.alike (prI p).py (prI q).py = true := by simp [prI, D.py, pys, PySem.W.alike, PySem.W.alikeAll]
theorem prI_lt (p q : Int × Int) : PySem.W.dataLt (prI p).py (prI q).py = pltI p q := by
  rw [dataLt_ltP _ _ (prI_alike p q) (by simp [prI, D.py, pys, cmpP, cmpPs])]
  obtain ⟨a, b⟩ := p
  obtain ⟨c, d⟩ := q
  have e : PyData.eqv (.int a) (.int c) = decide (a = c) := by simp only [PyData.eqv]; rfl
  have e2 : PyData.eqv (.int b) (.int d) = decide (b = d) := by simp only [PyData.eqv]; rfl
  simp only [prI, D.py, pys, ltP, ltPs, pltI, e, e2]
  by_cases h : a = c
  · subst h
    by_cases g : b = d
    · subst g
      simp
    · simp [g]
  · simp [h]
theorem prI_inj {p q : Int × Int} (h : (prI p).py = (prI q).py) : p = q := by
  simp only [prI, D.py, pys, PyData.tuple.injEq, List.cons.injEq, PyData.int.injEq, and_true] at h
  exact Prod.ext h.1 h.2
theorem pys_prI : ∀ ps : List (Int × Int), pys (ps.map prI) = ps.map fun p => (prI p).py
  | [] => rfl
  | p :: ps => by rw [List.map_cons, pys, pys_prI ps, List.map_cons]
theorem minD_prI (p : Int × Int) (ps : List (Int × Int)) : PySem.W.minD (prI p).py (ps.map fun p => (prI p).py) = (prI (minQ p ps)).py := by
  unfold PySem.W.minD minQ
  induction ps generalizing p with
  | nil => rfl
  | cons z zs ih =>
    rw [List.map_cons, List.foldl_cons, List.foldl_cons, prI_lt, ← ih]
    split <;> rfl
theorem prIs_fine : ∀ ps : List (Int × Int), areData (ps.map prI) = true ∧ PyData.canLayAll0 (pys (ps.map prI)) = true ∧ PyData.depthAll (pys (ps.map prI)) ≤ 2
  | [] => by simp [areData, pys, PyData.canLayAll0, PyData.depthAll]
  | p :: ps => by
    obtain ⟨h1, h2, h3⟩ := prIs_fine ps
    refine ⟨by simp [areData, D.isData, prI, h1], by simp [pys, PyData.canLayAll0, PyData.canLay0, prI, D.py, h2], ?_⟩
    simp only [List.map_cons, pys, PyData.depthAll, prI, D.py, PyData.depth]
    omega
section
variable {X : Cx} {G : Gd} {W : WX} {ρ : Rho} {e : Expr} {m : Rs D} {p pos : Pos} {k : Nat}
theorem ev_minP (hc : X.calm = true) (hr : Room k X.A) (hm : X.mg "min" = none) (he : EO X G W ρ e m) (hg : Gl X "min" := by rfl)
    (hs : starEach [e] X.env = (false, eval e X.env) :: starEach [] X.env := by rfl) (hpl : (backTo pos (starEach [] X.env)).any (·.1) = false := by rfl) :
    EV X G W ρ (.Call (.Name "min" p) [e] [] pos) (m.bind fun x => Rs.of (minP x)) := by
  obtain ⟨ta, pa, qa⟩ := he
  refine ⟨_, pe_callB (call_minPr hc (room65 hr)) hg hm rfl (pa_cons pa pa_nil hs) (he := hs) (hpl := hpl), fun F0 σ F H Q hh hp => ?_⟩
  refine qa F0 σ F H _ hh (hp.bind fun dx x F1 H1 e1 r1 hp1 => ?_)
  obtain ⟨d, hd, kk⟩ := Post.of hp1
  unfold minP at hd
  split at hd
  · rename_i ds
    simp only [Option.bind_eq_some_iff] at hd
    obtain ⟨ps, h5, h6⟩ := hd
    obtain rfl := prsI_some h5
    cases ps with
    | nil => cases h6
    | cons p ps =>
      cases h6
      obtain ⟨f1, f2, f3⟩ := prIs_fine (p :: ps)
      obtain ⟨a, xs, rfl, ha, la, ra⟩ := r1.lst e1.sub
      have dp := ra.dp e1.sub f1
      rw [pys_prI] at dp f2 f3
      refine ⟨a, xs, (prI p).py, ps.map fun p => (prI p).py, rfl, SqL.of ha, dp, f2, by simp only [List.map_cons] at f3; omega, ⟨fun x hx z hz => ?_, fun x hx => ?_⟩, fun i x hx e4 => ?_⟩
      · rw [← List.map_cons (f := fun p => (prI p).py)] at hx hz
        obtain ⟨c1, _, rfl⟩ := List.mem_map.mp hx
        obtain ⟨c2, _, rfl⟩ := List.mem_map.mp hz
        exact prI_alike c1 c2
      · rw [← List.map_cons (f := fun p => (prI p).py)] at hx
        obtain ⟨c1, _, rfl⟩ := List.mem_map.mp hx
        simp [prI, D.py]
      · rw [minD_prI] at e4
        obtain ⟨dd, h7, h8⟩ := ra.getV hx
        rw [← List.map_cons (f := fun p => (prI p).py), List.getElem?_map] at e4
        rw [List.getElem?_map] at h7
        cases hcs : (p :: ps)[i]? with
        | none => rw [hcs] at h7; cases h7
        | some c2 =>
          rw [hcs] at h7 e4
          cases h7
          have e9 := prI_inj (Option.some.inj e4)
          rw [e9] at h8
          exact kk _ F1 H1 (Ext.refl e1.sub) h8
  · cases hd
end
end VL
set_option Elab.async false
set_option linter.all false
set_option maxRecDepth 100000
set_option autoImplicit false
set_option maxHeartbeats 2000001
namespace VL
open PySem PySem.Spec L2
open PyProof.Rows hiding St
end VL
set_option Elab.async false
set_option linter.all false
set_option maxRecDepth 100000
set_option autoImplicit false
set_option maxHeartbeats 2000001
namespace VL
open PySem PySem.Spec L2
open PyProof.Rows hiding St
end VL
set_option Elab.async false
set_option linter.all false
set_option maxRecDepth 100000
set_option autoImplicit false
set_option maxHeartbeats 3200000
namespace VL
open PySem PySem.Spec L2
open PyProof.Rows hiding St
open PySem.Froz (SD sObj TxOk addTx tailTx add_x add_ok is_str get_upd)
end VL
set_option Elab.async false
set_option linter.all false
set_option maxRecDepth 100000
set_option autoImplicit false
set_option maxHeartbeats 3200000
namespace VL
open PySem PySem.Spec L2
open PyProof.Rows hiding St
section
variable {M : Model} {prog : Program} {w : World} {A : Around} {E : Value → Shared → Prop} {s : Shared}
abbrev zObj (f0 : Value) (f : Bool) (TI TO : Addr) : Obj := { cls := .type "zip", dict := none, data := .fields #[f0, .bool f, .bool false, .ref TI, .ref TO], slots := #[] }
def ZF (f0 : Value) : Prop := f0 = .none ∨ ∃ T : Addr, f0 = rawInt T
theorem wpAny_loadIfAlive {b : Addr} {Q : Option Obj → Shared → Prop} (h : Q (s.heap.get? b) s) : wpAny M A (loadIfAlive b) Q E s := fun _ _ _ => h
theorem free_any {z TI TO : Addr} {f0 : Value} {f : Bool} {Q : Bool → Shared → Prop} (hz : s.heap.get? z = some (zObj f0 f TI TO)) (hf : ZF f0)
    (h : ∀ (b : Bool) (h' : Heap) (g0 : Value) (g : Bool), ZF g0 → h'.get? z = some (zObj g0 g TI TO) → Heap.SameBut z s.heap h' → Q b { s with heap := h' }) : wpAny (model prog w) A (Builtin.SmallTypes.ownedTupleIsFree (.ref z)) Q E s := by
  unfold Builtin.SmallTypes.ownedTupleIsFree
  refine wpAny_bind (wpAny_field hz rfl (x := f0) rfl ?_)
  rcases hf with rfl | ⟨T, rfl⟩
  · exact wpAny_pure (h true s.heap .none f (.inl rfl) hz (Heap.SameBut.refl _ _))
  · cases hT : s.heap.get? T with
    | none =>
      show wpAny _ _ (loadIfAlive ((T : Int).toNat) >>= _) _ _ _
      rw [Int.toNat_natCast]
      refine wpAny_bind (m := loadIfAlive T) (wpAny_loadIfAlive ?_)
      rw [hT]
      exact wpAny_pure (h true s.heap _ f (.inr ⟨T, rfl⟩) hz (Heap.SameBut.refl _ _))
    | some oT =>
      show wpAny _ _ (loadIfAlive ((T : Int).toNat) >>= _) _ _ _
      rw [Int.toNat_natCast]
      refine wpAny_bind (m := loadIfAlive T) (wpAny_loadIfAlive ?_)
      rw [hT]
      simp only [Option.isNone_some, Bool.false_eq_true, if_false]
      refine wpAny_bind (wpAny_field hz rfl (x := .bool f) rfl ?_)
      cases f with
      | true => exact wpAny_pure (h false s.heap _ true (.inr ⟨T, rfl⟩) hz (Heap.SameBut.refl _ _))
      | false => exact wpAny_bind (wpAny_setField_rec hz (by simp) fun h1 hz1 hs1 => wpAny_pure (h false h1 _ true (.inr ⟨T, rfl⟩) hz1 hs1))
theorem nextK_item {it l : Addr} {i : Nat} {items : Array Value} {x : Value} {kd : Kd} {Q : Value → Shared → Prop} (hit : KIter s.heap it l i kd) (hl : KIs s.heap l items kd) (hx : items[i]? = some x)
    (hQ : ∀ h', KIter h' it l (i + 1) kd → Heap.SameBut it s.heap h' → Q x { s with heap := h' }) : wpAny (model prog w) A (Builtin.SmallTypes.nextOf (.ref it)) Q E s := by
  cases kd with
  | l => exact wpAny_nextOf_list_item hit hl hx hQ
  | t => exact RZ.nextOf_tuple_item hit hl hx hQ
theorem nextK_end {it l : Addr} {i : Nat} {items : Array Value} {kd : Kd} {Q : Value → Shared → Prop} (hh : A.handled = none) (hit : KIter s.heap it l i kd) (hl : KIs s.heap l items kd) (hx : items[i]? = none)
    (hE : ∀ h' e, Heap.ExtBut it s.heap h' → (∃ o, h'.get? e = some o ∧ o.cls = .type "StopIteration") → E (.ref e) { s with heap := h' }) : wpAny (model prog w) A (Builtin.SmallTypes.nextOf (.ref it)) Q E s := by
  cases kd with
  | l => exact wpAny_nextOf_list_end hh hit hl hx hE
  | t => exact RZ.nextOf_tuple_end hh hit hl hx hE
theorem wp_forIn {α β : Type} {f : α → β → Sem (ForInStep β)} {g : Nat → β} {I : Nat → Shared → Prop} {Q : β → Shared → Prop} : ∀ (xs : List α) (k : Nat) (s : Shared), I k s →
    (∀ (j : Nat) (x : α) (s : Shared), xs[j]? = some x → I (k + j) s → wpAny M A (f x (g (k + j))) (fun st s' => st = .yield (g (k + j + 1)) ∧ I (k + j + 1) s') E s) → (∀ s, I (k + xs.length) s → Q (g (k + xs.length)) s) → wpAny M A (forIn xs (g k) f) Q E s
  | [], k, s, h0, _, hf => by
    rw [List.forIn_nil]
    exact wpAny_pure (hf s h0)
  | x :: xs, k, s, h0, hs, hf => by
    rw [List.forIn_cons]
    refine wpAny_bind (wpAny_mono (hs 0 x s rfl h0) (fun st s' h => ?_) fun _ _ z => z)
    obtain ⟨rfl, h1⟩ := h
    refine wp_forIn xs (k + 1) s' h1 (fun j y s2 hy hi => ?_) fun s2 hi => ?_
    · have z := hs (j + 1) y s2 (by simpa using hy) (by rwa [show k + (j + 1) = k + 1 + j by omega])
      rwa [show k + (j + 1) = k + 1 + j by omega] at z
    · have z := hf s2 (by rwa [List.length_cons, show k + (xs.length + 1) = k + 1 + xs.length by omega])
      rwa [List.length_cons, show k + (xs.length + 1) = k + 1 + xs.length by omega] at z
structure ZSt (n N : Nat) (a : Nat → Nat) (xs : Nat → Array Value) (kd : Nat → Kd) (i : Nat) (h : Heap) : Prop where
  zz : ∃ f0 f, ZF f0 ∧ h.get? (N + n + 2) = some (zObj f0 f (N + n) (N + n + 1))
  ti : h.get? (N + n) = some { cls := .type "tuple", data := .seq ((List.range n).map fun k => Value.ref (N + k)).toArray }
  to : ∃ ts : Array Value, ts.size = n ∧ h.get? (N + n + 1) = some { cls := .type "tuple", data := .seq ts }
  its : ∀ k, k < n → KIter h (N + k) (a k) i (kd k) ∧ KIs h (a k) (xs k) (kd k)
theorem KIs.keep {h h' : Heap} {a : Addr} {items : Array Value} {k : Kd} (x : KIs h a items k) (q : ∀ o, h.get? a = some o → h'.get? a = some o) : KIs h' a items k := by
  cases k with
  | l => exact Heap.IsList.at x q
  | t => exact Heap.IsTuple.at x q
variable {n N : Nat} {a : Nat → Nat} {xs : Nat → Array Value} {kd : Nat → Kd} {i : Nat}
def Mid (n N : Nat) (a : Nat → Nat) (xs : Nat → Array Value) (kd : Nat → Kd) (i k : Nat) (h : Heap) : Prop :=
  ∀ j, j < n → KIter h (N + j) (a j) (if j < k then i + 1 else i) (kd j) ∧ KIs h (a j) (xs j) (kd j)
theorem an {p q : Nat} (h : p ≠ q) : (show Addr from p) ≠ (show Addr from q) := h
abbrev tiL (n N : Nat) : List Value := (List.range n).map fun k => Value.ref (N + k)
theorem tiL_at {n N j : Nat} {x : Value} (h : (tiL n N)[j]? = some x) : j < n ∧ x = .ref (N + j) := by
  rw [List.getElem?_map] at h
  obtain ⟨k, hk, rfl⟩ := Option.map_eq_some_iff.mp h
  obtain ⟨h1, h2⟩ := List.getElem?_eq_some_iff.mp hk
  simp only [List.length_range] at h1
  simp only [List.getElem_range] at h2
  exact ⟨h1, by rw [h2]⟩
theorem mid_next (hn : ∀ k, k < n → a k < N) {k : Nat} {h h' : Heap} (m : Mid n N a xs kd i k h) (hk : k < n) (hit : KIter h' (N + k) (a k) (i + 1) (kd k)) (sb : Heap.SameBut (N + k) h h') : Mid n N a xs kd i (k + 1) h' := by
  intro j hj
  obtain ⟨m1, m2⟩ := m j hj
  refine ⟨?_, m2.keep fun o e => (sb.2 _ (an (by have := hn j hj; omega))).trans e⟩
  by_cases e : j = k
  · subst e
    rw [if_pos (by omega)]
    exact hit
  · have z : KIter h' (N + j) (a j) (if j < k then i + 1 else i) (kd j) := m1.keep fun o q => (sb.2 _ (an (by omega))).trans q
    by_cases c : j < k
    · rw [if_pos c] at z
      rw [if_pos (by omega)]
      exact z
    · rw [if_neg c] at z
      rw [if_neg (by omega)]
      exact z
theorem mid_same (hn : ∀ k, k < n → a k < N) {k : Nat} {h h' : Heap} {c : Nat} (m : Mid n N a xs kd i k h) (hc : N + n ≤ c) (sb : Heap.SameBut c h h') : Mid n N a xs kd i k h' := by
  intro j hj
  obtain ⟨m1, m2⟩ := m j hj
  exact ⟨m1.keep fun o q => (sb.2 _ (an (by omega))).trans q, m2.keep fun o e => (sb.2 _ (an (by have := hn j hj; omega))).trans e⟩
theorem mid_push (hn : ∀ k, k < n → a k < N) {k : Nat} {h : Heap} {ob : Obj} (m : Mid n N a xs kd i k h) : Mid n N a xs kd i k (h.push ob) := fun j hj =>
  ⟨(m j hj).1.keep fun _ q => Heap.get?_push_of_some _ q, (m j hj).2.keep fun _ q => Heap.get?_push_of_some _ q⟩
def Old (n N : Nat) (h h' : Heap) : Prop := h'.objs.size = h.objs.size ∧ ∀ (c : Nat) o, (c < N ∨ N + n + 2 < c) → h.get? c = some o → h'.get? c = some o
theorem Old.same {h h' h'' : Heap} {c : Nat} (x : Old n N h h') (sb : Heap.SameBut c h' h'') (hc : N ≤ c ∧ c ≤ N + n + 2) : Old n N h h'' :=
  ⟨sb.1.trans x.1, fun b o hb e => (sb.2 b (an (by rcases hb with hb | hb <;> omega))).trans (x.2 b o hb e)⟩
theorem zN_item (hn : 0 < n) (h8 : n ≤ 8) (ha : ∀ k, k < n → a k < N) (st : ZSt n N a xs kd i s.heap) {v : Nat → Value} (hx : ∀ k, k < n → (xs k)[i]? = some (v k)) {Q : Value → Shared → Prop}
    (hQ : ∀ h', ZSt n N a xs kd (i + 1) h' → h'.get? s.heap.objs.size = some { cls := .type "tuple", data := .seq ((List.range n).map v).toArray } → h'.objs.size = s.heap.objs.size + 1 → (∀ (c : Nat) o, (c < N ∨ N + n + 2 < c) → s.heap.get? c = some o → h'.get? c = some o) → Q (.ref s.heap.objs.size) { s with heap := h' }) :
    wpAny (model prog w) A (Builtin.«zip.__next__» ⟨[.ref (N + n + 2)], []⟩) (fun fin s' => ∃ v, fin = .done (.ret v) ∧ Q v s') E s := by
  obtain ⟨⟨f0, f, hf, hz⟩, hti, ⟨ts, hts, hto⟩, hits⟩ := st
  have line : 8 ≤ sizeLine := by rw [sizeLine_eq]; omega
  have zlt : N + n + 2 < s.heap.objs.size := Heap.lt_size hz
  show wpAny _ _ (field (.ref (N + n + 2)) 2 >>= _) _ _ _
  refine wpAny_bind (wpAny_field hz rfl (x := .bool false) rfl ?_)
  show wpAny _ _ (field (.ref (N + n + 2)) 3 >>= _) _ _ _
  refine wpAny_bind (wpAny_field hz rfl (x := .ref (N + n)) rfl ?_)
  refine wpAny_bind (wpAny_seqItems hti rfl ?_)
  simp only []
  rw [if_neg (by simp; omega)]
  have hm0 : Mid n N a xs kd i 0 s.heap := fun j hj => by
    rw [if_neg (by omega)]
    exact hits j hj
  refine wpAny_bind (free_any hz hf fun b h1 g0 g hg hz1 sb => ?_)
  have m1 := mid_same ha hm0 (by omega) sb
  have ti1 := (sb.2 (N + n) (an (by omega))).trans hti
  have to1 := (sb.2 (N + n + 1) (an (by omega))).trans hto
  have old1 : Old n N s.heap h1 := Old.same (n := n) (N := N) ⟨rfl, fun _ _ _ e => e⟩ sb (by omega)
  cases b with
  | false =>
    simp only [Bool.false_eq_true, if_false]
    refine wpAny_bind ?_
    rw [← Array.forIn_toList]
    have el : (tiL n N).toArray.toList = tiL n N := by simp
    rw [el]
    refine wp_forIn (g := fun k => ((none, ((List.range k).map v).toArray) : Option Fin × Array Value)) (I := fun k s2 => ∃ h2, s2 = { s with heap := h2 } ∧ Mid n N a xs kd i k h2 ∧ h2.get? (N + n + 2) = some (zObj g0 g (N + n) (N + n + 1)) ∧ h2.get? (N + n) = some { cls := .type "tuple", data := .seq (tiL n N).toArray } ∧ h2.get? (N + n + 1) = some { cls := .type "tuple", data := .seq ts } ∧ Old n N s.heap h2)
      (tiL n N) 0 _ ⟨h1, rfl, m1, hz1, ti1, to1, old1⟩ (fun j x s2 hj hI => ?_) (fun s2 hI => ?_)
    · rw [Nat.zero_add] at hI ⊢
      obtain ⟨h2, rfl, m2, z2, t2, o2, old2⟩ := hI
      obtain ⟨hjn, rfl⟩ := tiL_at hj
      obtain ⟨k1, k2⟩ := m2 j hjn
      rw [if_neg (by omega)] at k1
      refine wpAny_bind (wpAny_holding ?_)
      show wpAny _ _ (Builtin.SmallTypes.nextOf (.ref (N + j)) >>= _) _ _ _
      refine wpAny_bind (nextK_item (s := { s with heap := h2 }) k1 k2 (hx j hjn) fun h3 k3 sb3 => wpAny_pure ?_)
      refine wpAny_pure ⟨?_, h3, rfl, mid_next ha m2 hjn k3 sb3, (sb3.2 _ (an (by omega))).trans z2, (sb3.2 _ (an (by omega))).trans t2, (sb3.2 _ (an (by omega))).trans o2, old2.same sb3 (by omega)⟩
      simp [List.range_succ]
    · obtain ⟨h2, rfl, m2, z2, t2, o2, old2⟩ := hI
      have ln : 0 + (tiL n N).length = n := by simp
      rw [ln] at m2 ⊢
      show wpAny _ _ (newTuple ((List.range n).map v).toArray.toList >>= _) _ _ _
      have el2 : ((List.range n).map v).toArray.toList = (List.range n).map v := by simp
      rw [el2]
      refine wpAny_bind (wpAny_newTuple ?_ (by simp; omega))
      refine wpAny_pure ⟨_, rfl, ?_⟩
      have hp : (h2.push { cls := .type "tuple", data := .seq ((List.range n).map v).toArray }).get? h2.objs.size = some { cls := .type "tuple", data := .seq ((List.range n).map v).toArray } := Heap.get?_push_size _ rfl
      have hsz := Heap.size_push h2 { cls := .type "tuple", data := .seq ((List.range n).map v).toArray }
      show Q (.ref h2.objs.size) _
      rw [old2.1] at hp hsz ⊢
      refine hQ _ ⟨⟨g0, g, hg, Heap.get?_push_of_some _ z2⟩, Heap.get?_push_of_some _ t2, ⟨ts, hts, Heap.get?_push_of_some _ o2⟩, fun k hk => ?_⟩ hp hsz fun c o hc e => Heap.get?_push_of_some _ (old2.2 c o hc e)
      have z := mid_push ha m2 (ob := { cls := .type "tuple", data := .seq ((List.range n).map v).toArray }) k hk
      rw [if_pos hk] at z
      exact z
  | true =>
    simp only [if_true]
    refine wpAny_bind (wpAny_rule ?_)
    refine wpAny_bind (wpAny_field hz1 rfl (x := .ref (N + n + 1)) rfl ?_)
    refine wpAny_bind (wpAny_setField_rec hz1 (by simp) fun h2 hz2 hs2 => ?_)
    replace hz2 : h2.get? (N + n + 2) = some (zObj .ellipsis g (N + n) (N + n + 1)) := hz2
    refine wpAny_bind ?_
    refine wp_forIn (g := fun _ => ((none, ()) : Option Fin × Unit)) (I := fun k s2 => ∃ h2, s2 = { s with heap := h2 } ∧ Mid n N a xs kd i k h2 ∧ h2.get? (N + n + 2) = some (zObj .ellipsis g (N + n) (N + n + 1)) ∧ h2.get? (N + n) = some { cls := .type "tuple", data := .seq (tiL n N).toArray } ∧ (∃ us : Array Value, us.size = n ∧ (∀ j, j < k → us[j]? = some (v j)) ∧ h2.get? (N + n + 1) = some { cls := .type "tuple", data := .seq us }) ∧ Old n N s.heap h2)
      (tiL n N).zipIdx 0 _ ⟨h2, rfl, mid_same ha m1 (by omega) hs2, hz2, (hs2.2 _ (an (by omega))).trans ti1, ⟨ts, hts, fun j hj => by omega, (hs2.2 _ (an (by omega))).trans to1⟩, old1.same hs2 (by omega)⟩ (fun j x s2 hj hI => ?_) (fun s2 hI => ?_)
    · rw [Nat.zero_add] at hI ⊢
      obtain ⟨h3, rfl, m3, z3, t3, ⟨us, us1, us2, us3⟩, old3⟩ := hI
      obtain ⟨x, jj⟩ := x
      rw [List.getElem?_zipIdx] at hj
      obtain ⟨y, hy, e⟩ := Option.map_eq_some_iff.mp hj
      simp only [Nat.zero_add, Prod.mk.injEq] at e
      obtain ⟨rfl, rfl⟩ := e
      obtain ⟨hjn, rfl⟩ := tiL_at hy
      obtain ⟨k1, k2⟩ := m3 j hjn
      rw [if_neg (by omega)] at k1
      refine wpAny_bind (wpAny_onRaise ?_)
      show wpAny _ _ (Builtin.SmallTypes.nextOf (.ref (N + j)) >>= _) _ _ _
      refine wpAny_bind (nextK_item (s := { s with heap := h3 }) k1 k2 (hx j hjn) fun h4 k4 sb4 => wpAny_pure ?_)
      have us4 := (sb4.2 (N + n + 1) (an (by omega))).trans us3
      refine wpAny_bind (wpAny_seqItems us4 rfl ?_)
      refine wpAny_bind (PySem.wpAny_updateSeq us4 rfl ?_ (by omega) (by simp only [Array.size_setIfInBounds]; omega))
      have us5 : (h4.update (N + n + 1) (Obj.mapSeq (·.setIfInBounds j (v j)))).get? (N + n + 1) = some { cls := .type "tuple", data := .seq (us.setIfInBounds j (v j)) } := by
        rw [Heap.get?_update_self _ us4 rfl]
        simp [Obj.mapSeq]
      have sb5 : Heap.SameBut (N + n + 1) h4 (h4.update (N + n + 1) (Obj.mapSeq (·.setIfInBounds j (v j)))) := Heap.SameBut.update ..
      refine wpAny_bind (wpAny_letGo (wpAny_pure ⟨rfl, _, rfl, mid_same ha (mid_next ha m3 hjn k4 sb4) (by omega) sb5, (sb5.2 _ (an (by omega))).trans ((sb4.2 _ (an (by omega))).trans z3), (sb5.2 _ (an (by omega))).trans ((sb4.2 _ (an (by omega))).trans t3), ⟨us.setIfInBounds j (v j), by simpa using us1, fun q hq => ?_, us5⟩, (old3.same sb4 (by omega)).same sb5 (by omega)⟩))
      by_cases c : q = j
      · subst c
        simp [Array.getElem?_setIfInBounds, us1, hjn]
      · rw [Array.getElem?_setIfInBounds, if_neg (fun z => c z.symm)]
        exact us2 q (by omega)
    · obtain ⟨h3, rfl, m3, z3, t3, ⟨us, us1, us2, us3⟩, old3⟩ := hI
      have ln : 0 + (tiL n N).zipIdx.length = n := by simp
      rw [ln] at m3 us2
      have eu : us.toList = (List.range n).map v := by
        refine List.ext_getElem? fun q => ?_
        rw [Array.getElem?_toList]
        rcases Nat.lt_or_ge q n with c | c
        · rw [us2 q c]
          simp [c]
        · rw [Array.getElem?_eq_none (by omega), List.getElem?_eq_none (by simp; omega)]
      show wpAny _ _ (seqItems? (.ref (N + n + 1)) >>= _) _ _ _
      refine wpAny_bind (wpAny_seqItems us3 rfl ?_)
      show wpAny _ _ (newTuple us.toList >>= _) _ _ _
      rw [eu]
      refine wpAny_bind (wpAny_newTuple ?_ (by simp; omega))
      show wpAny _ _ (Builtin.SmallTypes.ownedTupleHandOut (.ref (N + n + 2)) (.ref h3.objs.size) >>= _) _ _ _
      refine wpAny_bind ?_
      unfold Builtin.SmallTypes.ownedTupleHandOut
      have hp : (h3.push { cls := .type "tuple", data := .seq ((List.range n).map v).toArray }).get? h3.objs.size = some { cls := .type "tuple", data := .seq ((List.range n).map v).toArray } := Heap.get?_push_size _ rfl
      have hsz := Heap.size_push h3 { cls := .type "tuple", data := .seq ((List.range n).map v).toArray }
      obtain ⟨h4, hh4⟩ : ∃ h4, h4 = h3.push { cls := .type "tuple", data := .seq ((List.range n).map v).toArray } := ⟨_, rfl⟩
      have up : ∀ c o, h3.get? c = some o → h4.get? c = some o := fun c o e => by rw [hh4]; exact Heap.get?_push_of_some _ e
      have m4 : Mid n N a xs kd i n h4 := by rw [hh4]; exact mid_push ha m3
      rw [← hh4] at hp hsz ⊢
      refine wpAny_bind (wpAny_setField_rec (up _ _ z3) (by simp) fun h5 z5 sb5 => ?_)
      replace z5 : h5.get? (N + n + 2) = some (zObj (rawInt h3.objs.size) g (N + n) (N + n + 1)) := z5
      refine wpAny_setField_rec z5 (by simp) fun h6 z6 sb6 => ?_
      replace z6 : h6.get? (N + n + 2) = some (zObj (rawInt h3.objs.size) false (N + n) (N + n + 1)) := z6
      have both : ∀ c o, c ≠ N + n + 2 → h4.get? c = some o → h6.get? c = some o := fun c o hc e => (sb6.2 c hc).trans ((sb5.2 c hc).trans e)
      refine wpAny_pure ⟨_, rfl, ?_⟩
      show Q (.ref h3.objs.size) _
      have hs3 := old3.1
      have hp6 := both _ _ (an (by rw [hs3]; omega)) hp
      have sz6 : h6.objs.size = s.heap.objs.size + 1 := by rw [sb6.1, sb5.1, hsz, hs3]
      rw [hs3] at hp6 z6 ⊢
      refine hQ _ ⟨⟨_, false, .inr ⟨_, rfl⟩, z6⟩, both _ _ (an (by omega)) (up _ _ t3), ⟨us, us1, both _ _ (an (by omega)) (up _ _ us3)⟩, fun k hk => ?_⟩ hp6 sz6 fun c o hc e => both _ _ (an (by omega)) (up _ _ (old3.2 c o hc e))
      have q := mid_same ha (mid_same ha m4 (by omega) sb5) (by omega) sb6 k hk
      rw [if_pos hk] at q
      exact q
theorem zN_end (hh : A.handled = none) (hn : 0 < n) (h8 : n ≤ 8) (ha : ∀ k, k < n → a k < N) (st : ZSt n N a xs kd i s.heap) (hx : (xs 0)[i]? = none) {Q : Fin → Shared → Prop}
    (hE : ∀ h' e, (∀ (c : Nat) o, (c < N ∨ N + n + 2 < c) → s.heap.get? c = some o → h'.get? c = some o) → (∃ o, h'.get? e = some o ∧ o.cls = .type "StopIteration") → E (.ref e) { s with heap := h' }) :
    wpAny (model prog w) A (Builtin.«zip.__next__» ⟨[.ref (N + n + 2)], []⟩) Q E s := by
  obtain ⟨⟨f0, f, hf, hz⟩, hti, ⟨ts, hts, hto⟩, hits⟩ := st
  obtain ⟨k1, k2⟩ := hits 0 hn
  show wpAny _ _ (field (.ref (N + n + 2)) 2 >>= _) _ _ _
  refine wpAny_bind (wpAny_field hz rfl (x := .bool false) rfl ?_)
  show wpAny _ _ (field (.ref (N + n + 2)) 3 >>= _) _ _ _
  refine wpAny_bind (wpAny_field hz rfl (x := .ref (N + n)) rfl ?_)
  refine wpAny_bind (wpAny_seqItems hti rfl ?_)
  simp only []
  rw [if_neg (by simp; omega)]
  obtain ⟨r, hr⟩ : ∃ r, (List.range n).map (fun k => Value.ref (N + k)) = .ref (N + 0) :: r := by
    obtain ⟨m, rfl⟩ : ∃ m, n = m + 1 := ⟨n - 1, by omega⟩
    exact ⟨_, by rw [List.range_succ_eq_map]; rfl⟩
  refine wpAny_bind (free_any hz hf fun b h1 g0 g hg hz1 sb => ?_)
  have k1' : KIter h1 (N + 0) (a 0) i (kd 0) := k1.keep fun o q => (sb.2 _ (an (by omega))).trans q
  have k2' : KIs h1 (a 0) (xs 0) (kd 0) := k2.keep fun o q => (sb.2 _ (an (by have := ha 0 hn; omega))).trans q
  cases b with
  | false =>
    simp only [Bool.false_eq_true, if_false]
    refine wpAny_bind ?_
    rw [← Array.forIn_toList]
    have el : ((List.range n).map (fun k => Value.ref (N + k))).toArray.toList = .ref (N + 0) :: r := by simpa using hr
    rw [el, List.forIn_cons]
    refine wpAny_bind (wpAny_bind (wpAny_holding ?_))
    show wpAny _ _ (Builtin.SmallTypes.nextOf (.ref (N + 0)) >>= _) _ _ _
    refine wpAny_bind (nextK_end (s := { s with heap := h1 }) hh k1' k2' hx fun h2 e eb he => hE h2 e (fun c o hc q => ?_) he)
    exact eb _ _ (an (by omega)) ((sb.2 _ (an (by omega))).trans q)
  | true =>
    simp only [if_true]
    refine wpAny_bind (wpAny_rule ?_)
    refine wpAny_bind (wpAny_field hz1 rfl (x := .ref (N + n + 1)) rfl ?_)
    refine wpAny_bind (wpAny_setField_rec hz1 (by simp) fun h2 hz2 hs2 => ?_)
    replace hz2 : h2.get? (N + n + 2) = some (zObj .ellipsis g (N + n) (N + n + 1)) := hz2
    refine wpAny_bind ?_
    rw [hr, List.zipIdx_cons, List.forIn_cons]
    refine wpAny_bind (wpAny_bind (wpAny_onRaise ?_))
    show wpAny _ _ (Builtin.SmallTypes.nextOf (.ref (N + 0)) >>= _) _ _ _
    have k3 : KIter h2 (N + 0) (a 0) i (kd 0) := k1'.keep fun o q => (hs2.2 _ (an (by omega))).trans q
    have k4 : KIs h2 (a 0) (xs 0) (kd 0) := k2'.keep fun o q => (hs2.2 _ (an (by have := ha 0 hn; omega))).trans q
    refine wpAny_bind (nextK_end (s := { s with heap := h2 }) hh k3 k4 hx fun h3 e eb he => ?_)
    have hz3 := eb _ _ (an (by omega)) hz2
    refine wpAny_setField_rec hz3 (by simp) fun h4 _ sb4 => hE h4 e (fun c o hc q => ?_) ?_
    · exact (sb4.2 _ (an (by omega))).trans (eb _ _ (an (by omega)) ((hs2.2 _ (an (by omega))).trans ((sb.2 _ (an (by omega))).trans q)))
    · obtain ⟨o, q1, q2⟩ := he
      by_cases c : e = N + n + 2
      · rw [c] at q1
        rw [hz3] at q1
        cases q1
        exact absurd (by simpa using q2 : ("zip" : String) = "StopIteration") (by decide)
      · exact ⟨o, (sb4.2 _ c).trans q1, q2⟩
theorem next_zN_item (hn : 0 < n) (h8 : n ≤ 8) (ha : ∀ k, k < n → a k < N) (st : ZSt n N a xs kd i s.heap) {v : Nat → Value} (hx : ∀ k, k < n → (xs k)[i]? = some (v k)) {Q : Option Value → Shared → Prop}
    (hQ : ∀ h', ZSt n N a xs kd (i + 1) h' → h'.get? s.heap.objs.size = some { cls := .type "tuple", data := .seq ((List.range n).map v).toArray } → h'.objs.size = s.heap.objs.size + 1 → (∀ (c : Nat) o, (c < N ∨ N + n + 2 < c) → s.heap.get? c = some o → h'.get? c = some o) → Q (some (.ref s.heap.objs.size)) { s with heap := h' }) :
    wpAny (model prog w) A (pyNext (.ref (N + n + 2))) Q E s := by
  obtain ⟨f0, f, hf, hz⟩ := st.zz
  have hTy : s.TypeIs (.ref (N + n + 2)) "zip" := ⟨_, hz, rfl⟩
  unfold pyNext
  exact wpAny_bind (wpAny_attempt (wpAny_callSpecial?_slot (name := Str.ofString "__next__") hTy PySem.F.slot_zip_next
    (wpAny_call_entry PySem.F.slot_zip_next hTy PySem.F.entry_zip_next
      (zN_item hn h8 ha st hx fun h' a1 a2 a3 a4 => wpAny_pure (hQ h' a1 a2 a3 a4)) (PySem.F.args_zip_next_1 _))))
theorem next_zN_end (hh : A.handled = none) (hn : 0 < n) (h8 : n ≤ 8) (ha : ∀ k, k < n → a k < N) (st : ZSt n N a xs kd i s.heap) (hx : (xs 0)[i]? = none) {Q : Option Value → Shared → Prop}
    (hQ : ∀ h', (∀ (c : Nat) o, (c < N ∨ N + n + 2 < c) → s.heap.get? c = some o → h'.get? c = some o) → Q none { s with heap := h' }) : wpAny (model prog w) A (pyNext (.ref (N + n + 2))) Q E s := by
  obtain ⟨f0, f, hf, hz⟩ := st.zz
  have hTy : s.TypeIs (.ref (N + n + 2)) "zip" := ⟨_, hz, rfl⟩
  unfold pyNext
  refine wpAny_bind (wpAny_attempt (wpAny_callSpecial?_slot (name := Str.ofString "__next__") hTy PySem.F.slot_zip_next
    (wpAny_call_entry PySem.F.slot_zip_next hTy PySem.F.entry_zip_next (zN_end (A := A.in1) hh hn h8 ha st hx fun h' e hk he => ?_) (PySem.F.args_zip_next_1 _))))
  obtain ⟨oe, he1, he2⟩ := he
  exact wpAny_bind (wpAny_isInstance (T := "StopIteration") (b := true) ⟨oe, he1, he2⟩ isSubtype_stop (wpAny_pure (hQ _ hk)))
end
theorem zip_type : ∀ as : List Value, 0 < as.length → as.length ≤ 8 → checkTypeCall "zip" ⟨as, []⟩ = pure ()
  | [], h, _ => absurd h (Nat.lt_irrefl _)
  | [_], _, _ => by kernel_rfl
  | [_, _], _, _ => by kernel_rfl
  | [_, _, _], _, _ => by kernel_rfl
  | [_, _, _, _], _, _ => by kernel_rfl
  | [_, _, _, _, _], _, _ => by kernel_rfl
  | [_, _, _, _, _, _], _, _ => by kernel_rfl
  | [_, _, _, _, _, _, _], _, _ => by kernel_rfl
  | [_, _, _, _, _, _, _, _], _, _ => by kernel_rfl
  | _ :: _ :: _ :: _ :: _ :: _ :: _ :: _ :: _ :: _, _, h => by simp only [List.length_cons] at h; omega
theorem zip_new : ∀ as : List Value, 0 < as.length → as.length ≤ 8 → checkBuiltinCall "zip.__new__" ⟨.type "zip" :: as, []⟩ = pure ()
  | [], h, _ => absurd h (Nat.lt_irrefl _)
  | [_], _, _ => by kernel_rfl
  | [_, _], _, _ => by kernel_rfl
  | [_, _, _], _, _ => by kernel_rfl
  | [_, _, _, _], _, _ => by kernel_rfl
  | [_, _, _, _, _], _, _ => by kernel_rfl
  | [_, _, _, _, _, _], _, _ => by kernel_rfl
  | [_, _, _, _, _, _, _], _, _ => by kernel_rfl
  | [_, _, _, _, _, _, _, _], _, _ => by kernel_rfl
  | _ :: _ :: _ :: _ :: _ :: _ :: _ :: _ :: _ :: _, _, h => by simp only [List.length_cons] at h; omega
theorem zip_ini (obj : Value) : ∀ as : List Value, 0 < as.length → as.length ≤ 8 → argsOk "object.__init__" ⟨obj :: as, []⟩
  | [], h, _ => absurd h (Nat.lt_irrefl _)
  | [_], _, _ => by unfold argsOk; kernel_rfl
  | [_, _], _, _ => by unfold argsOk; kernel_rfl
  | [_, _, _], _, _ => by unfold argsOk; kernel_rfl
  | [_, _, _, _], _, _ => by unfold argsOk; kernel_rfl
  | [_, _, _, _, _], _, _ => by unfold argsOk; kernel_rfl
  | [_, _, _, _, _, _], _, _ => by unfold argsOk; kernel_rfl
  | [_, _, _, _, _, _, _], _, _ => by unfold argsOk; kernel_rfl
  | [_, _, _, _, _, _, _, _], _, _ => by unfold argsOk; kernel_rfl
  | _ :: _ :: _ :: _ :: _ :: _ :: _ :: _ :: _ :: _, _, h => by simp only [List.length_cons] at h; omega
section
variable {prog : Program} {w : World} {A : Around} {E : Value → Shared → Prop} {s : Shared} {n : Nat} {a : Nat → Nat} {xs : Nat → Array Value} {kd : Nat → Kd}
abbrev rowsL (n : Nat) (a : Nat → Nat) : List Value := (List.range n).map fun k => Value.ref (a k)
theorem zrows_at {j : Nat} {x : Value} (h : (rowsL n a)[j]? = some x) : j < n ∧ x = .ref (a j) := by
  rw [List.getElem?_map] at h
  obtain ⟨k, hk, rfl⟩ := Option.map_eq_some_iff.mp h
  obtain ⟨h1, h2⟩ := List.getElem?_eq_some_iff.mp hk
  simp only [List.length_range] at h1
  simp only [List.getElem_range] at h2
  exact ⟨h1, by rw [h2]⟩
theorem wp_iterAllN (hr : ∀ k, k < n → a k < s.heap.objs.size ∧ KIs s.heap (a k) (xs k) (kd k)) {Q : List Value → Shared → Prop}
    (hQ : ∀ h', h'.objs.size = s.heap.objs.size + n → (∀ c o, s.heap.get? c = some o → h'.get? c = some o) → (∀ j, j < n → h'.get? (s.heap.objs.size + j) = some (kObj (a j) (kd j))) → Q (tiL n s.heap.objs.size) { s with heap := h' }) :
    wpAny (model prog w) A (Builtin.SmallTypes.iterAll (rowsL n a)) Q E s := by
  unfold Builtin.SmallTypes.iterAll
  refine wpAny_bind ?_
  refine wp_forIn (g := fun k => (((List.range k).map fun j => Value.ref (s.heap.objs.size + j)).toArray : Array Value))
    (I := fun k s2 => ∃ h2, s2 = { s with heap := h2 } ∧ h2.objs.size = s.heap.objs.size + k ∧ (∀ c o, s.heap.get? c = some o → h2.get? c = some o) ∧ ∀ j, j < k → h2.get? (s.heap.objs.size + j) = some (kObj (a j) (kd j)))
    (rowsL n a) 0 s ⟨s.heap, rfl, rfl, fun _ _ e => e, fun j hj => by omega⟩ (fun j x s2 hj hI => ?_) (fun s2 hI => ?_)
  · rw [Nat.zero_add] at hI ⊢
    obtain ⟨h2, rfl, z2, k2, g2⟩ := hI
    obtain ⟨hjn, rfl⟩ := zrows_at hj
    have B := kBegins (a j) (xs j) (kd j)
    refine wpAny_bind (wpAny_holding ?_)
    refine B.iter prog w _ _ { s with heap := h2 } _ ((hr j hjn).2.keep fun o e => k2 _ o e) (wpAny_pure ?_)
    refine ⟨?_, _, rfl, ?_, fun c o e => Heap.get?_push_of_some _ (k2 c o e), fun q hq => ?_⟩
    · show ForInStep.yield (Array.push _ (Value.ref h2.objs.size)) = _
      rw [z2, List.range_succ]
      simp
    · rw [Heap.size_push, z2]; rfl
    · by_cases c : q = j
      · subst c
        rw [← z2]
        exact Heap.get?_push_size _ B.free
      · exact Heap.get?_push_of_some _ (g2 q (by omega))
  · obtain ⟨h2, rfl, z2, k2, g2⟩ := hI
    have ln : 0 + (rowsL n a).length = n := by simp
    rw [ln] at z2 g2 ⊢
    refine wpAny_pure ?_
    rw [show ((List.range n).map fun j => Value.ref (s.heap.objs.size + j)).toArray.toList = tiL n s.heap.objs.size by simp]
    exact hQ h2 z2 k2 g2
theorem new_zip (l : List Value) : Builtin.SmallTypes.newClass "zip" ⟨.type "zip" :: l, []⟩ = pure (.type "zip", l) := by
  unfold Builtin.SmallTypes.newClass
  simp only [isType, sub_zip, pure_bind, Bool.not_true, Bool.false_eq_true, if_false]
theorem meets_zipN (h8 : n ≤ 8) : Meets (Builtin.«zip.__new__» ⟨.type "zip" :: rowsL n a, []⟩) (fun _ R s => (∀ k, k < n → a k < s.heap.objs.size ∧ KIs s.heap (a k) (xs k) (kd k)) ∧
    ∀ h', ZSt n s.heap.objs.size a xs kd 0 h' → h'.objs.size = s.heap.objs.size + n + 3 → (∀ c o, s.heap.get? c = some o → h'.get? c = some o) → R (.ok (.ret (.ref (s.heap.objs.size + n + 2)))) { s with heap := h' }) :=
  .of_wp fun prog w A R s h => by
    obtain ⟨hr, h⟩ := h
    have line : 8 ≤ sizeLine := by rw [sizeLine_eq]; omega
    unfold Builtin.«zip.__new__»
    refine wpAny_bind (wpAny_of_eq (new_zip _) ?_)
    try dsimp only
    show wpAny _ _ (Builtin.SmallTypes.iterAll (rowsL n a) >>= _) _ _ _
    refine wpAny_bind (wp_iterAllN hr fun h1 z1 k1 g1 => ?_)
    refine wpAny_bind (wpAny_newTuple ?_ (by simp; omega))
    refine wpAny_bind (wpAny_newTuple ?_ (by simp; omega))
    show wpAny _ _ (newObj (.type "zip") (.fields #[.none, .bool false, .bool false, .ref _, .ref _]) >>= _) _ _ _
    refine wpAny_bind (wpAny_newObj_type ?_)
    refine wpAny_pure ⟨_, rfl, ?_⟩
    obtain ⟨o1, ho1⟩ : ∃ o1 : Obj, o1 = { cls := .type "tuple", data := .seq (tiL n s.heap.objs.size).toArray } := ⟨_, rfl⟩
    obtain ⟨o2, ho2⟩ : ∃ o2 : Obj, o2 = { cls := .type "tuple", data := .seq ((tiL n s.heap.objs.size).map fun _ => Value.none).toArray } := ⟨_, rfl⟩
    dsimp only
    rw [← ho1, ← ho2]
    have s1 : (h1.push o1).objs.size = s.heap.objs.size + n + 1 := by rw [Heap.size_push, z1]
    have s2 : ((h1.push o1).push o2).objs.size = s.heap.objs.size + n + 2 := by rw [Heap.size_push, s1]
    have s3 : (((h1.push o1).push o2).push (zObj .none false (s.heap.objs.size + n) (s.heap.objs.size + n + 1))).objs.size = s.heap.objs.size + n + 3 := by rw [Heap.size_push, s2]
    have gz : (((h1.push o1).push o2).push (zObj .none false (s.heap.objs.size + n) (s.heap.objs.size + n + 1))).get? ((h1.push o1).push o2).objs.size = some (zObj .none false (s.heap.objs.size + n) (s.heap.objs.size + n + 1)) := Heap.get?_push_size _ rfl
    have g2 : (((h1.push o1).push o2).push (zObj .none false (s.heap.objs.size + n) (s.heap.objs.size + n + 1))).get? (h1.push o1).objs.size = some o2 := Heap.get?_push_of_some _ (Heap.get?_push_size _ (by rw [ho2]; rfl))
    have g1' : (((h1.push o1).push o2).push (zObj .none false (s.heap.objs.size + n) (s.heap.objs.size + n + 1))).get? h1.objs.size = some o1 := Heap.get?_push_of_some _ (Heap.get?_push_of_some _ (Heap.get?_push_size _ (by rw [ho1]; rfl)))
    have up : ∀ c o, h1.get? c = some o → (((h1.push o1).push o2).push (zObj .none false (s.heap.objs.size + n) (s.heap.objs.size + n + 1))).get? c = some o := fun c o e => Heap.get?_push_of_some _ (Heap.get?_push_of_some _ (Heap.get?_push_of_some _ e))
    rw [s2] at gz
    rw [s1] at g2
    rw [z1] at g1'
    rw [s2, s1, z1]
    refine h _ ⟨⟨.none, false, .inl rfl, gz⟩, by rw [g1', ho1], ⟨_, ?_, by rw [g2, ho2]⟩, fun k hk => ⟨KIter.of_new (up _ _ (g1 k hk)), (hr k hk).2.keep fun o e => up _ _ (k1 _ o e)⟩⟩ s3 fun c o e => up _ _ (k1 c o e)
    simp
theorem call_zipN (h0 : 0 < n) (h8 : n ≤ 8) (hr : ∀ k, k < n → a k < s.heap.objs.size ∧ KIs s.heap (a k) (xs k) (kd k)) {Q : Value → Shared → Prop}
    (hQ : ∀ h', ZSt n s.heap.objs.size a xs kd 0 h' → h'.objs.size = s.heap.objs.size + n + 3 → (∀ c o, s.heap.get? c = some o → h'.get? c = some o) → Q (.ref (s.heap.objs.size + n + 2)) { s with heap := h' }) :
    wpAny (model prog w) A (call (.type "zip") (rowsL n a)) Q E s := by
  have l0 : 0 < (rowsL n a).length := by simpa using h0
  have l8 : (rowsL n a).length ≤ 8 := by simpa using h8
  refine callType_new F.called_zip (by decide) (zip_type _ l0 l8) (zip_new _ l0 l8) (fun obj => zip_ini obj _ l0 l8) F.entry_zip_new (meets_zipN h8) ⟨hr, fun h' st z k => ?_⟩
  obtain ⟨f0, f, hf, hz⟩ := st.zz
  exact ⟨⟨_, hz, rfl⟩, hQ h' st z k⟩
end
theorem callWith_typeS {M : Model} {A : Around} {E : Value → Shared → Prop} {s : Shared} {pos : Pos} {T : String} {first : List Value} {args : List (Bool × Sem Value)} {Q : Value → Shared → Prop}
    (h : wpAny M A (evalArgs (.type T) true args []) (fun a s₁ => wpAny M A (call (.type T) (first ++ a.pos) a.kw) Q E s₁) E s) :
    wpAny M A (callWith pos (.type T) first args []) Q E s := by
  unfold callWith
  refine wpAny_bind (wpAny_holding (wpAny_mono h (fun a s₁ h₁ => wpAny_bind (wpAny_standAt ?_)) fun _ _ x => x))
  cases hp : args.any (·.1) with
  | false =>
    simp only [List.any_nil, Bool.or_false]
    refine wpAny_bind (wpAny_pure ?_)
    exact wpAny_bind (wpAny_mono h₁ (fun r s₂ hr => wpAny_bind (wpAny_holding (wpAny_point (wpAny_pure hr)))) fun _ _ x => x)
  | true =>
    simp only [Bool.true_or]
    refine wpAny_bind (wpAny_pure ?_)
    exact wpAny_bind (wpAny_mono (wpAny_operating h₁) (fun r s₂ hr => wpAny_bind (wpAny_holding (wpAny_point (wpAny_pure hr)))) fun _ _ x => x)
def ItzN (K : PySem.W.Frag) (n : Nat) (a : Nat → Nat) (kd : Nat → Kd) : It :=
  ⟨fun i H => ∃ (xs : Nat → List V) (x : Nat → V), ∀ j, j < n → KSq K H (a j) (xs j) (kd j) ∧ (xs j)[i]? = some (x j),
    fun i H v H' => ∃ (T : Addr) (x : Nat → V), v = .ref T ∧ H T = none ∧ H' = upd H T (.tup ((List.range n).map x)) ∧ ∀ j, j < n → ∀ xs, KSq K H (a j) xs (kd j) → xs[i]? = some (x j),
    fun i H => ∃ xs : Nat → List V, (∀ j, j < n → KSq K H (a j) (xs j) (kd j)) ∧ i = (xs 0).length⟩
def ZTn (n N : Nat) (a : Nat → Nat) (kd : Nat → Kd) (i : Nat) (h : Heap) : Prop :=
  (∃ f0 f, ZF f0 ∧ h.get? (N + n + 2) = some (zObj f0 f (N + n) (N + n + 1))) ∧ h.get? (N + n) = some { cls := .type "tuple", data := .seq ((List.range n).map fun k => Value.ref (N + k)).toArray } ∧
  (∃ ts : Array Value, ts.size = n ∧ h.get? (N + n + 1) = some { cls := .type "tuple", data := .seq ts }) ∧ ∀ k, k < n → KIter h (N + k) (a k) i (kd k)
theorem ZSt.tn {n N : Nat} {a : Nat → Nat} {xs : Nat → Array Value} {kd : Nat → Kd} {i : Nat} {h : Heap} (z : ZSt n N a xs kd i h) : ZTn n N a kd i h := ⟨z.zz, z.ti, z.to, fun k hk => (z.its k hk).1⟩
abbrev zFp (n N : Nat) : List Addr := (List.range (n + 3)).map fun k => (N + k : Nat)
theorem zFp_mem {n N : Nat} {c : Addr} : c ∈ zFp n N ↔ ∃ k, k < n + 3 ∧ N + k = c := by simp [zFp]
theorem zFp_not {n N : Nat} {c : Nat} (h : c ∉ zFp n N) : c < N ∨ N + n + 2 < c := by
  rcases Nat.lt_or_ge c N with z | z
  · exact .inl z
  · rcases Nat.lt_or_ge (N + n + 2) c with z2 | z2
    · exact .inr z2
    · exact absurd (zFp_mem.mpr ⟨c - N, by omega, by omega⟩) h
theorem rowsOf {X : Cx} {pins : List (Addr × Obj)} {σ : St} {H : Hp} {s : Shared} {n : Nat} {a : Nat → Nat} {kd : Nat → Kd} {xs : Nat → List V} (I : Inv X pins σ H s) (h : ∀ j, j < n → KSq X.K H (a j) (xs j) (kd j)) :
    ∃ its : Nat → List Value, ∀ j, j < n → Vals (xs j) (its j) ∧ KIs s.heap (a j) (its j).toArray (kd j) ∧ a j < s.heap.objs.size := by
  have : ∀ j, ∃ its : List Value, j < n → Vals (xs j) its ∧ KIs s.heap (a j) its.toArray (kd j) ∧ a j < s.heap.objs.size := fun j => by
    by_cases c : j < n
    · obtain ⟨its, r, p, l⟩ := inv_sq I (h j c)
      exact ⟨its, fun _ => ⟨r, p, l⟩⟩
    · exact ⟨[], fun z => absurd z c⟩
  exact Classical.axiomOfChoice this
theorem vals_map {x : Nat → V} {u : Nat → Value} : ∀ (ks : List Nat), (∀ k ∈ ks, RelV (x k) (u k)) → Vals (ks.map x) (ks.map u)
  | [], _ => .nil
  | k :: ks, h => .cons (h k (by simp)) (vals_map ks fun j hj => h j (by simp [hj]))
theorem turn_zipN {P : Program} {w : World} {K : PySem.W.Frag} {y : Str} {tpos : Pos} {n N : Nat} {a : Nat → Nat} {kd : Nat → Kd} (h0 : 0 < n) (h8 : n ≤ 8) (ha : ∀ j, j < n → a j < N) :
    Turn P w K (.Name y tpos) (ItzN K n a kd) (zFp n N) (N + n + 2) (ZTn n N a kd) where
  mem := zFp_mem.mpr ⟨n + 2, by omega, by omega⟩
  obj := fun i h st c hc => by
    obtain ⟨⟨f0, f, hf, hz⟩, ti, ⟨ts, hts, to⟩, its⟩ := st
    obtain ⟨k, hk, rfl⟩ := zFp_mem.mp hc
    by_cases c1 : k < n
    · exact (its k c1).there
    · by_cases c2 : k = n
      · subst c2; exact ⟨_, ti, fun v z => nomatch z⟩
      · by_cases c3 : k = n + 1
        · subst c3; exact ⟨_, to, fun v z => nomatch z⟩
        · have : k = n + 2 := by omega
          subst this; exact ⟨_, hz, fun v z => nomatch z⟩
  keep := fun i h h' st k => by
    obtain ⟨⟨f0, f, hf, hz⟩, ti, ⟨ts, hts, to⟩, its⟩ := st
    have m : ∀ j, j < n + 3 → (N + j : Nat) ∈ zFp n N := fun j hj => zFp_mem.mpr ⟨j, hj, rfl⟩
    exact ⟨⟨f0, f, hf, k _ (m (n + 2) (by omega)) _ hz⟩, k _ (m n (by omega)) _ ti, ⟨ts, hts, k _ (m (n + 1) (by omega)) _ to⟩, fun j hj => (its j hj).keep fun o q => k _ (m j (by omega)) o q⟩
  item := by
    intro X hP hw hK hc i pins s σ H E I hf st hg
    subst hP hw hK
    obtain ⟨zz, ti, to, its⟩ := st
    obtain ⟨xs, x, hq⟩ := hg
    obtain ⟨vs, hvs⟩ := rowsOf I fun j hj => (hq j hj).1
    have hu : ∀ j, ∃ u : Value, j < n → (vs j)[i]? = some u ∧ RelV (x j) u := fun j => by
      by_cases c : j < n
      · obtain ⟨u, e, r⟩ := (hvs j c).1.get (hq j c).2
        exact ⟨u, fun _ => ⟨e, r⟩⟩
      · exact ⟨.none, fun z => absurd z c⟩
    obtain ⟨u, hu⟩ := Classical.axiomOfChoice hu
    have Z : ZSt n N a (fun j => (vs j).toArray) kd i s.heap := ⟨zz, ti, to, fun j hj => ⟨its j hj, (hvs j hj).2.1⟩⟩
    refine next_zN_item h0 h8 ha Z (v := u) (fun j hj => by simpa using (hu j hj).1) fun h' Z' hT hsz hk => ⟨_, rfl, ?_⟩
    unfold letOwnedTupleGo
    refine wpAny_pure ?_
    have new : ObjOk X.prog X.w (upd H s.heap.objs.size (.tup ((List.range n).map x))) h' s.heap.objs.size (.tup ((List.range n).map x)) :=
      ⟨by show ((List.range n).map x).length ≤ sizeLine; rw [sizeLine_eq]; simp; omega, (List.range n).map u, vals_map _ fun k hk => (hu k (List.mem_range.mp hk)).2, ⟨_, hT, rfl, _, rfl⟩⟩
    have I1 : Inv X pins σ (upd H s.heap.objs.size (.tup ((List.range n).map x))) { s with heap := h', toks := s.toks } :=
      I.turnedNew (ch := zFp n N) (fun c o hb q => hk c o (zFp_not hb) q) hf (Nat.le_refl _) new
    have nT : H s.heap.objs.size = none := I.hok.fresh (Nat.le_refl _)
    refine ⟨.ref s.heap.objs.size, _, I1, rfl, ⟨s.heap.objs.size, x, rfl, nT, rfl, fun j hj l hl => by rw [inv_sq_inj I hl (hq j hj).1]; exact (hq j hj).2⟩, Z'.tn, fun c hcm => ?_⟩
    have hc1 := (hf c hcm).1
    by_cases e : c = s.heap.objs.size
    · exfalso
      obtain ⟨k, hk3, ek⟩ := zFp_mem.mp hcm
      have : N + n + 2 < s.heap.objs.size := by obtain ⟨f0, f, _, hz⟩ := zz; exact Heap.lt_size hz
      have e2 : N + k = s.heap.objs.size := ek.trans e
      omega
    · rw [upd_ne e]
      exact hc1
  done := by
    intro X hP hw hK hc i pins s σ H E I hf st hg
    subst hP hw hK
    obtain ⟨zz, ti, to, its⟩ := st
    obtain ⟨xs, hq, hi⟩ := hg
    obtain ⟨vs, hvs⟩ := rowsOf I hq
    have Z : ZSt n N a (fun j => (vs j).toArray) kd i s.heap := ⟨zz, ti, to, fun j hj => ⟨its j hj, (hvs j hj).2.1⟩⟩
    refine next_zN_end (I.ok.hd hc) h0 h8 ha Z (by
      have z := (hvs 0 h0).1.length
      rw [Array.getElem?_eq_none (by simp; omega)]) fun h' hk => ⟨rfl, ?_⟩
    exact I.turnedL (t' := s.toks) (ch := zFp n N) (fun c o hb q => hk c o (zFp_not hb) q) hf
  self := fun A i s Q E st h => by
    obtain ⟨⟨f0, f, hf, hz⟩, _⟩ := st
    have hT : s.TypeIs (.ref (N + n + 2)) "zip" := ⟨_, hz, rfl⟩
    refine PySem.wpAny_pyIter_slot hT PySem.F.slot_zip_iter (wpAny_call_entry PySem.F.slot_zip_iter hT PySem.F.entry_zip_iter ?_ (PySem.F.args_zip_iter_1 _))
    show wpAny _ _ (ret (.ref (N + n + 2))) _ _ s
    exact wpAny_pure ⟨_, rfl, "zip", _, hT, PySem.F.slot_zip_next.lookup, h⟩
def iZipN (K : PySem.W.Frag) (te : TE) : TI := fun σ H R => te σ H fun y H1 => ∃ (a0 : Addr) (k0 : Kd) (n : Nat) (a : Nat → Nat) (kd : Nat → Kd), y = .ref a0 ∧ 0 < n ∧ n ≤ 8 ∧ KSq K H1 a0 ((List.range n).map fun j => V.ref (a j)) k0 ∧ (∀ j, j < n → ∃ xs, KSq K H1 (a j) xs (kd j)) ∧ R (ItzN K n a kd) H1
theorem vals_zrows {a : Nat → Nat} : ∀ (ks : List Nat) {us : List Value}, Vals (ks.map fun j => V.ref (a j)) us → us = ks.map fun j => Value.ref (a j)
  | [], _, h => by cases h; rfl
  | k :: ks, _, h => by
    cases h with
    | cons r rs =>
      rw [vals_zrows ks rs]
      cases r
      rfl
theorem pi_zipN {X : Cx} {e : Expr} {te : TE} {y : Str} {p pos tpos sp_ : Pos} (hg : Gl X "zip") (hm : X.mg "zip" = none) (he : PE X e te)
    (hst : starEach [.Starred e sp_] X.env = [(true, eval e X.env)] := by rfl) :
    PI X (.Name y tpos) (.Call (.Name "zip" p) [.Starred e sp_] [] pos) (iZipN X.K te) := by
  refine ⟨fun pins s σ H R I h => Call_ (ld_blt I hg hm PyProof.Rows.boot_zip (callWith_typeS ?_))⟩
  rw [hst]
  refine PySem.W.ks_lone (thn (he.run pins s σ H _ I h) fun v s1 ⟨x, H1, I1, ry, a0, k0, n, a, kd, ey, h0, h8, hq0, hq, q⟩ => ?_)
  subst ey
  obtain rfl : v = Value.ref a0 := ry
  have hq0' : SqT X.K H1 a0 ((List.range n).map fun j => V.ref (a j)) ∨ SqL X.K H1 a0 ((List.range n).map fun j => V.ref (a j)) := by
    cases k0 with
    | l => exact .inr hq0
    | t => exact .inl hq0
  refine StX.star_any I1 hq0' fun us s2 I2 rv => ?_
  obtain rfl := vals_zrows _ rv
  have hx : ∃ xs : Nat → List V, ∀ j, j < n → KSq X.K H1 (a j) (xs j) (kd j) := by
    have : ∀ j, ∃ xs : List V, j < n → KSq X.K H1 (a j) xs (kd j) := fun j => by
      by_cases c : j < n
      · obtain ⟨xs, z⟩ := hq j c
        exact ⟨xs, fun _ => z⟩
      · exact ⟨[], fun z => absurd z c⟩
    exact Classical.axiomOfChoice this
  obtain ⟨xs, hx⟩ := hx
  obtain ⟨vs, hvs⟩ := rowsOf I2 hx
  refine call_zipN (xs := fun j => (vs j).toArray) (kd := kd) h0 h8 (fun k hk => ⟨(hvs k hk).2.2, (hvs k hk).2.1⟩) fun h' Z hsz hk => ?_
  have I3 : Inv X pins σ H1 { s2 with heap := h' } := I2.kept (t' := s2.toks) hk
  have T := turn_zipN (P := X.prog) (w := X.w) (K := X.K) (y := y) (tpos := tpos) (n := n) (N := s2.heap.objs.size) (a := a) (kd := kd) h0 h8 fun j hj => (hvs j hj).2.2
  refine T.self _ 0 _ _ _ Z.tn ⟨_, _, _, ItzN X.K n a kd, H1, rfl, I3, T, Z.tn, fun c hcm => ?_, q⟩
  obtain ⟨k, _, ek⟩ := zFp_mem.mp hcm
  have hle : s2.heap.objs.size ≤ c := by rw [← ek]; exact Nat.le_add_right _ _
  exact I2.fpOk hle (I2.hok.fresh hle)
def zcols (rows : List (List D)) : List D := (List.range (rows.headD []).length).map fun i => D.tup (rows.map fun r => r.getD i .non)
def seqsD : List D → Option (List (List D))
  | [] => some []
  | d :: ds => match seqD d, seqsD ds with
    | some r, some rs => some (r :: rs)
    | _, _ => none
def zipS (d : D) : Option (List D) := match seqD d with
  | some ds => match seqsD ds with
    | some rows => if 0 < rows.length ∧ rows.length ≤ 8 ∧ rows.all (fun r => r.length == (rows.headD []).length) = true then some (zcols rows) else none
    | none => none
  | none => none
theorem reps_seqs {K : PySem.W.Frag} {F : Hp} : ∀ {xs : List V} {ds : List D} {rows : List (List D)}, Reps K F xs ds → seqsD ds = some rows →
    ∃ (a : List Nat) (kd : List Kd) (vs : List (List V)), xs = a.map (fun b => V.ref b) ∧ a.length = rows.length ∧ kd.length = rows.length ∧ vs.length = rows.length ∧ ∀ j, j < rows.length → KSq K F (a.getD j 0) (vs.getD j []) (kd.getD j .l) ∧ (vs.getD j []).length ≤ sizeLine ∧ Reps K F (vs.getD j []) (rows.getD j [])
  | _, _, _, .nil, h => by cases h; exact ⟨[], [], [], rfl, rfl, rfl, rfl, fun j hj => by simp at hj⟩
  | _, _, _, .cons r rs, h => by
    unfold seqsD at h
    split at h
    · rename_i r1 rs1 e1 e2
      cases h
      obtain ⟨k, a, v, rfl, q, l, rr⟩ := rep_seq r e1
      obtain ⟨as, ks, vs, rfl, l1, l2, l3, q2⟩ := reps_seqs rs e2
      refine ⟨a :: as, k :: ks, v :: vs, rfl, by simp [l1], by simp [l2], by simp [l3], fun j hj => ?_⟩
      cases j with
      | zero => exact ⟨q, l, rr⟩
      | succ j => exact q2 j (by simpa using hj)
    · cases h
theorem zrow_all {rows : List (List D)} (h : rows.all (fun r => r.length == (rows.headD []).length) = true) {j : Nat} (hj : j < rows.length) : (rows.getD j []).length = (rows.headD []).length := by
  have z := List.all_eq_true.mp h (rows.getD j []) (by rw [List.getD_eq_getElem?_getD, List.getElem?_eq_getElem hj]; exact List.getElem_mem hj)
  simpa using z
theorem reps_zmap {K : PySem.W.Frag} {F : Hp} {x : Nat → V} {f : Nat → D} : ∀ ks : List Nat, (∀ k ∈ ks, Rep K F (x k) (f k)) → Reps K F (ks.map x) (ks.map f)
  | [], _ => .nil
  | k :: ks, h => .cons (h k (by simp)) (reps_zmap ks fun j hj => h j (by simp [hj]))
theorem getD_some {l : List D} {i : Nat} (h : i < l.length) : l[i]? = some (l.getD i .non) := by simp [List.getD_eq_getElem?_getD, List.getElem?_eq_getElem h]
theorem walks_zipN {K : PySem.W.Frag} {F : Hp} {rows : List (List D)} {a : List Nat} {kd : List Kd} {vs : List (List V)} (h0 : 0 < rows.length) (h8 : rows.length ≤ 8) (he : rows.all (fun r => r.length == (rows.headD []).length) = true)
    (h : ∀ j, j < rows.length → KSq K F (a.getD j 0) (vs.getD j []) (kd.getD j .l) ∧ (vs.getD j []).length ≤ sizeLine ∧ Reps K F (vs.getD j []) (rows.getD j [])) :
    Walks K (ItzN K rows.length (fun j => a.getD j 0) fun j => kd.getD j .l) F (zcols rows) := by
  have eh : rows.headD [] = rows.getD 0 [] := by
    cases rows with
    | nil => rfl
    | cons r rs => rfl
  have lz : (zcols rows).length = (rows.headD []).length := by simp [zcols]
  refine ⟨?_, fun F1 H1 e1 e2 => ⟨fun i d q => ?_, ?_⟩⟩
  · rw [lz, eh, ← (h 0 h0).2.2.length]
    exact (h 0 h0).2.1
  · have hi : i < (rows.headD []).length := by
      rw [← lz]
      exact (List.getElem?_eq_some_iff.mp q).1
    have ed : d = D.tup (rows.map fun r => r.getD i .non) := by
      unfold zcols at q
      rw [List.getElem?_map, List.getElem?_range hi] at q
      exact (Option.some.inj q).symm
    have rg : ∀ j, ∃ v : V, j < rows.length → (vs.getD j [])[i]? = some v ∧ Rep K F v ((rows.getD j []).getD i .non) := fun j => by
      by_cases c : j < rows.length
      · have hl : i < (rows.getD j []).length := by rw [zrow_all he c]; exact hi
        obtain ⟨v, hv, rv⟩ := (h j c).2.2.get (i := i) (d := (rows.getD j []).getD i .non) (getD_some hl)
        exact ⟨v, fun _ => ⟨hv, rv⟩⟩
      · exact ⟨.non, fun z => absurd z c⟩
    obtain ⟨x, hx⟩ := Classical.axiomOfChoice rg
    refine ⟨⟨fun j => vs.getD j [], x, fun j hj => ⟨((h j hj).1.same e1).same e2, (hx j hj).1⟩⟩, fun v H' y => ?_⟩
    obtain ⟨T, u, rfl, nT, rfl, hu⟩ := y
    have eu : ∀ j, j < rows.length → u j = x j := fun j hj => by
      have z := hu j hj _ (((h j hj).1.same e1).same e2)
      rw [(hx j hj).1] at z
      exact (Option.some.inj z).symm
    have em : (List.range rows.length).map u = (List.range rows.length).map x := List.map_congr_left fun j hj => eu j (List.mem_range.mp hj)
    rw [em]
    have ec : (rows.map fun r => r.getD i .non) = (List.range rows.length).map fun j => (rows.getD j []).getD i .non := by
      refine List.ext_getElem? fun q => ?_
      rcases Nat.lt_or_ge q rows.length with c | c
      · simp [c, List.getElem?_eq_getElem c]
      · rw [List.getElem?_eq_none (by simp; omega), List.getElem?_eq_none (by simp; omega)]
    subst ed
    rw [ec]
    exact ⟨_, Ext.fresh e2 _ nT, new_tup e2 nT (by rw [sizeLine_eq]; simp; omega) (reps_zmap _ fun j hj => (hx j (List.mem_range.mp hj)).2.mono e1)⟩
  · refine ⟨fun j => vs.getD j [], fun j hj => ((h j hj).1.same e1).same e2, ?_⟩
    rw [lz, eh]
    exact (h 0 h0).2.2.length.symm
theorem it_zipS {X : Cx} {G : Gd} {W : WX} {ρ : Rho} {y : Str} {tpos p pos sp_ : Pos} {e : Expr} {m : Rs D} (hg : Gl X "zip") (hm : X.mg "zip" = none) (ha : EV X G W ρ e m)
    (hst : starEach [.Starred e sp_] X.env = [(true, eval e X.env)] := by rfl) :
    IT X G W ρ (.Name y tpos) (.Call (.Name "zip" p) [.Starred e sp_] [] pos) (m.bind fun x => Rs.of (zipS x)) := by
  obtain ⟨t, pe, q⟩ := ha
  refine ⟨_, pi_zipN hg hm pe hst, fun F0 σ F H R hh hp => ?_⟩
  refine q F0 σ F H _ hh (hp.bind fun d v F' H' e1 r1 hp1 => ?_)
  obtain ⟨cs, hd, k⟩ := hp1.of
  unfold zipS at hd
  split at hd
  · rename_i ds hs
    split at hd
    · rename_i rows hr
      split at hd
      · rename_i hc
        obtain ⟨h0, h8, he⟩ := hc
        cases hd
        obtain ⟨k0, a0, xs, rfl, g0, l0, w0⟩ := rep_seq r1 hs
        obtain ⟨a, kd, vs, rfl, la, lk, lv, hq⟩ := reps_seqs w0 hr
        have ea : a.map (fun b => V.ref b) = (List.range rows.length).map fun j => V.ref (a.getD j 0) := by
          refine List.ext_getElem? fun q => ?_
          rcases Nat.lt_or_ge q rows.length with c | c
          · simp [c, la]
          · rw [List.getElem?_eq_none (by simp; omega), List.getElem?_eq_none (by simp; omega)]
        rw [ea] at g0
        exact ⟨a0, k0, rows.length, fun j => a.getD j 0, fun j => kd.getD j .l, rfl, h0, h8, g0.same e1.sub, fun j hj => ⟨_, (hq j hj).1.same e1.sub⟩, k _ F' H' (Ext.refl e1.sub) (walks_zipN h0 h8 he hq)⟩
      · cases hd
    · cases hd
  · cases hd
end VL
set_option Elab.async false
set_option linter.all false
set_option maxRecDepth 100000
set_option autoImplicit false
namespace VL
open PySem PySem.Spec L2
open PyProof.Rows hiding St
section
variable {X : Cx} {G : Gd} {W : WX} {ρx ρ : Rho} {rest sts : List Stmt} {α β R : Type} {pn : α → Rho} {pl : β → Rho} {ι : R → Fl α β} {i : Nat} {l : Bool} {s : List D}
theorem bi_pardB3 {γ1 : Type} {o1 : Bool} {w1 : γ1 → D} {i1 : Nat} {e1 : Expr} {γ2 : Type} {o2 : Bool} {w2 : γ2 → D} {i2 : Nat} {e2 : Expr} {γ3 : Type} {o3 : Bool} {w3 : γ3 → D} {i3 : Nat} {e3 : Expr} {ma1 : Rs (γ1 × List D)} {ma2 : List D → Rs (γ2 × List D)} {ma3 : List D → Rs (γ3 × List D)} {x1 : Str} {px1 : Pos} {x2 : Str} {px2 : Pos} {x3 : Str} {px3 : Pos} {kt k2 : Nat} {pt pt2 pos : Pos} {f : γ1 → γ2 → γ3 → List D → Rs R} (calm : X.calm = true) (nd : X.N.Nodup)
    (h1 : ECB X G ρ i o1 e1 w1 ma1) (h2 : ∀ s', ECB X G (ρ.set i (some (.own l (.lst s')))) i o2 e2 w2 (ma2 s')) (h3 : ∀ s', ECB X G (ρ.set i (some (.own l (.lst s')))) i o3 e3 w3 (ma3 s'))
    (hr : ∀ d1 d2 d3 s', BI X G W ρx ((((ρ.set i (some (.own l (.lst s')))).set i1 (some (clOf o1 (w1 d1)))).set i2 (some (clOf o2 (w2 d2)))).set i3 (some (clOf o3 (w3 d3)))) rest pn pl ι (f d1 d2 d3 s'))
    (hi : At ρ i l s := by rfl)
    (hi1 : X.N[i1]? = some x1 := by rfl) (hi2 : X.N[i2]? = some x2 := by rfl) (hi3 : X.N[i3]? = some x3 := by rfl)
    (hij12 : i1 ≠ i2 := by decide) (hij13 : i1 ≠ i3 := by decide) (hij23 : i2 ≠ i3 := by decide)
    (hx1 : X.env.scope.names.lookup x1 = some .local := by rfl) (hx2 : X.env.scope.names.lookup x2 = some .local := by rfl) (hx3 : X.env.scope.names.lookup x3 = some .local := by rfl)
    (hw : swappedStores [.Tuple [.Name x1 px1, .Name x2 px2, .Name x3 px3] kt pt] (.Tuple [e1, e2, e3] k2 pt2) X.env = pure (some [x1, x2, x3]) := by rfl) (hs : swapsWithSole [.Tuple [.Name x1 px1, .Name x2 px2, .Name x3 px3] kt pt] (.Tuple [e1, e2, e3] k2 pt2) pos.line X.env = pure false := by rfl)
    (hs1 : starEach [e1, e2, e3] X.env = (false, eval e1 X.env) :: starEach [e2, e3] X.env := by rfl)
    (hs2 : starEach [e2, e3] X.env = (false, eval e2 X.env) :: starEach [e3] X.env := by rfl)
    (hs3 : starEach [e3] X.env = (false, eval e3 X.env) :: starEach [] X.env := by rfl)
    (hl1 : i1 < ρ.length := by exact Nat.le_of_ble_eq_true rfl) (hl2 : i2 < ρ.length := by exact Nat.le_of_ble_eq_true rfl) (hl3 : i3 < ρ.length := by exact Nat.le_of_ble_eq_true rfl) :
    BI X G W ρx ρ (.Assign [.Tuple [.Name x1 px1, .Name x2 px2, .Name x3 px3] kt pt] (.Tuple [e1, e2, e3] k2 pt2) pos :: rest) pn pl ι (ma1.noX.bind fun u1 => (ma2 u1.2).noX.bind fun u2 => (ma3 u2.2).noX.bind fun u3 => f u1.1 u2.1 u3.1 u3.2) := by
  intro F0 σ F H E hh hp0
  rw [Rs.assoc] at hp0
  obtain ⟨z1, hz1, hp1⟩ := postS_noX hp0
  clear hp0
  rw [Rs.assoc] at hp1
  obtain ⟨z2, hz2, hp2⟩ := postS_noX hp1
  clear hp1
  rw [Rs.assoc] at hp2
  obtain ⟨z3, hz3, hp3⟩ := postS_noX hp2
  clear hp2
  obtain ⟨bx, hbx⟩ := box_at hh hi
  obtain ⟨fb, ow⟩ := holds_box hh hi hbx
  obtain ⟨ob, hob, nt_⟩ := ow.there
  refine any_cons (ps_par3 calm nd hi1 hi2 hi3 hij12 hij13 hij23 hx1 hx2 hx3 (pa_cons pe_any (pa_cons pe_any (pa_cons pe_any pa_nil hs3) hs2) hs1) hw hs) ?_
  have bt0 : H bx ≠ none := by rw [hob]; exact fun z => by cases z
  refine h1 F0 σ F H _ bx hh hbx ⟨z1, hz1, fun v1 F1 H1 x1_ r1 w1_ => ?_⟩
  have hh1 := hh.moreB hi hbx x1_ w1_
  have bt1 : H1 bx ≠ none := by obtain ⟨o3, h3, nt_⟩ := x1_.there; rw [h3]; exact fun z => by cases z
  have fr1 : ∀ a, H1 a = none → H a = none := fun a ha => by
    cases h0 : H a with
    | none => rfl
    | some o' =>
      by_cases z : a = bx
      · subst z
        exact absurd ha bt1
      · rw [x1_.same _ _ z h0] at ha
        cases ha
  refine h2 z1.2 F0 σ F1 H1 _ bx hh1 hbx ⟨z2, hz2, fun v2 F2 H2 x2_ r2 w2_ => ?_⟩
  have hh2 := hh1.moreB (at_set hi) hbx x2_ w2_
  rw [List.set_set] at hh2
  have bt2 : H2 bx ≠ none := by obtain ⟨o3, h3, nt_⟩ := x2_.there; rw [h3]; exact fun z => by cases z
  have fr2 : ∀ a, H2 a = none → H1 a = none := fun a ha => by
    cases h0 : H1 a with
    | none => rfl
    | some o' =>
      by_cases z : a = bx
      · subst z
        exact absurd ha bt2
      · rw [x2_.same _ _ z h0] at ha
        cases ha
  refine h3 z2.2 F0 σ F2 H2 _ bx hh2 hbx ⟨z3, hz3, fun v3 F3 H3 x3_ r3 w3_ => ?_⟩
  have hh3 := hh2.moreB (at_set hi) hbx x3_ w3_
  rw [List.set_set] at hh3
  have bt3 : H3 bx ≠ none := by obtain ⟨o3, h3, nt_⟩ := x3_.there; rw [h3]; exact fun z => by cases z
  have fr3 : ∀ a, H3 a = none → H2 a = none := fun a ha => by
    cases h0 : H2 a with
    | none => rfl
    | some o' =>
      by_cases z : a = bx
      · subst z
        exact absurd ha bt3
      · rw [x3_.same _ _ z h0] at ha
        cases ha
  refine ⟨v1, v2, v3, rfl, ?_⟩
  refine hr z1.1 z2.1 z3.1 z3.2 F0 _ F3 _ E (Holds.setCs (is := [i1, i2, i3]) (Cells.cons (Hn := H1) (CellOk.moreB x3_ bt0 (CellOk.moreB x2_ bt0 r1)) fr1 (fun ho => cell_there r1 ho) (Cells.cons (Hn := H2) (CellOk.moreB x3_ bt1 r2) fr2 (fun ho => cell_there r2 ho) (Cells.cons (Hn := H3) r3 fr3 (fun ho => cell_there r3 ho) (Cells.nil (Hk := H3))))) hh3 (fun a ha => ?_) (fun j hj => by rw [List.length_set]; simp only [List.mem_cons, List.not_mem_nil, or_false] at hj; rcases hj with rfl | rfl | rfl <;> assumption)) hp3
  obtain ⟨g1, g2⟩ := free_of hh a ha
  refine ⟨g1, fun k m e q' => ?_⟩
  rcases set_at q' with ⟨rfl, z⟩ | ⟨n', z⟩
  · exact g2 _ _ _ hi
  · exact g2 _ _ _ z
theorem gp_list : PGet X (rIxL X.K) := by
  intro pins s σ H x y v u Q I rx ry h
  obtain ⟨p, xs, i, z, rfl, rfl, hq, he, q⟩ := h
  cases rx
  obtain ⟨t, rfl⟩ := ry
  obtain ⟨its, r, pl, hz⟩ := I.list hq
  obtain ⟨j, h1, h2, h3, h4, h5⟩ := atI_get he
  obtain ⟨w, ew, rw'⟩ := r.get h2
  have hl := r.length
  have hn := line63
  have fin : EP X pins σ Q w s := ⟨z, H, I, rw', q⟩
  by_cases h0 : 0 ≤ i
  · have hj : i.toNat = j := by
      rw [seqIndex_of h0 h5] at h1
      exact Option.some.inj h1
    exact wpAny_getItem_list pl.isList h0 (by omega) (by rw [hj]; simpa using ew) fin
  · have hj : (i + (its.toArray.size : Int)).toNat = j := by
      rw [seqIndex_neg (by omega) h4] at h1
      rw [List.size_toArray, ← hl]
      exact Option.some.inj h1
    exact wpAny_getItem_list_neg pl.isList (by omega) (by rw [List.size_toArray] <;> omega) (by omega) (by rw [hj]; simpa using ew) fin
def augL (c : List D) (k y : D) : Option (List D) := match k, y with
  | .int n, .int b => match ixN c.length n with
    | some q => match c[q]? with
      | some (.int a) => some (c.set q (.int (a + b)))
      | _ => none
    | none => none
  | _, _ => none
theorem bi_augixB {j : Nat} {x : Str} {e k : Expr} {xpos spos pos : Pos} {l2 : Bool} {c : List D} {m : Rs (D × List D)} {me : Rs D} {f : List D → List D → Rs R} (hv : PE X (.Name x xpos) (tVar j)) (hk : EB X G ρ i k m) (he : ∀ s', EV X G W (ρ.set i (some (.own l (.lst s')))) e me)
    (hr : ∀ c' s', BI X G W ρx ((ρ.set i (some (.own l (.lst s')))).set j (some (.own l2 (.lst c')))) rest pn pl ι (f c' s')) (hi : At ρ i l s := by rfl) (hj : At ρ j l2 c := by rfl) (hij : i ≠ j := by decide)
    (ha : ∀ ov iv new, augStore k ov iv new = (do holding [new, ov, iv] (setItem ov iv new); release [new, ov, iv] []; pure .next) := by intros; rfl) (wx : Wk ρ ρx := by first | exact Wk.nil | exact Wk.refl | (repeat (first | exact Wk.nil | apply Wk.keep | apply Wk.drop))) :
    BI X G W ρx ρ (.AugAssign (.Subscript (.Name x xpos) k spos) .Add e pos :: rest) pn pl ι (m.noX.bind fun u => me.noX.bind fun y => (Rs.of (augL c u.1 y)).bind fun c' => f c' u.2) := by
  intro F0 σ F H E hh hp0
  rw [Rs.assoc] at hp0
  obtain ⟨r, er, hp1⟩ := postS_noX hp0
  rw [Rs.assoc] at hp1
  obtain ⟨dy, ey, hp⟩ := postS_noX (m := me) hp1
  subst er ey
  clear hp0 hp1
  obtain ⟨b, hb⟩ := box_at hh hi
  obtain ⟨te, pe, qe⟩ := he r.2
  refine any_cons (ps_augS hv pe_any gp_list pe ip_add set_list ha) ?_
  obtain ⟨a0, g1, _, _, _⟩ := hh.own j l2 _ hj
  refine ⟨.ref a0, g1, ?_⟩
  refine hk F0 σ F H _ b hh hb fun v F' H' e1 r1 o1 => ?_
  have hh1 := hh.moreB hi hb e1 o1
  have hj2 : (ρ.set i (some (.own l (.lst r.2))))[j]? = some (some (Cl.own l2 (.lst c))) := by rw [List.getElem?_set_ne hij]; exact hj
  obtain ⟨a, g1', g2, g3, g4⟩ := hh1.own j l2 _ hj2
  rw [g1] at g1'
  cases g1'
  obtain ⟨xs, h5, l5, r5⟩ := g4.asL
  obtain ⟨d, s'⟩ := r
  cases d with
  | int n =>
    cases r1
    cases dy with
    | int y =>
      cases q3 : ixN c.length n with
      | none =>
        simp only [augL, q3] at hp
        exact hp.elim
      | some q =>
        cases q4 : c[q]? with
        | none =>
          simp only [augL, q3, q4] at hp
          exact hp.elim
        | some g =>
          cases g with
          | int z =>
            simp only [augL, q3, q4] at hp
            obtain ⟨w, hw, rw'⟩ := r5.get q4
            cases rw'
            refine ⟨_, xs, n, .int z, rfl, rfl, .inl (.inl h5), by unfold L2.atI; rw [r5.length, q3]; exact hw, ?_⟩
            refine qe F0 σ F' H' _ hh1 fun vy F2 H2 e2 r2 => ?_
            cases r2
            have hh2 := hh1.more e2
            obtain ⟨xs2, h6, l6, r6⟩ := (g4.ext e2).asL
            refine ⟨z, y, rfl, rfl, ?_⟩
            refine ⟨_, xs2, n, q, rfl, rfl, h6, by rw [r6.length]; exact q3, ?_⟩
            exact hr _ _ F0 σ F2 _ E (hh2.write hj2 g1 (.lst upd_same (by rw [List.length_set]; exact l6) (r6.set q (.int _)))) hp
          | _ =>
            simp only [augL, q3, q4] at hp
            exact hp.elim
    | _ => exact hp.elim
  | _ => exact hp.elim
end
end VL
set_option Elab.async false
set_option linter.all false
set_option maxRecDepth 100000
set_option autoImplicit false
set_option pp.maxSteps 400
set_option maxHeartbeats 8000000
namespace LW
open PySem PySem.Spec L2 VL
open PyProof.Rows hiding St
abbrev FUEL : Nat := 1000000
structure Txt (K : PySem.W.Frag) (mg : Str → Option Value) where
  f_abs : mg "abs" = none
  f_all : mg "all" = none
  f_bool : mg "bool" = none
  f_enumerate : mg "enumerate" = none
  f_int : mg "int" = none
  f_isinstance : mg "isinstance" = none
  f_len : mg "len" = none
  f_list : mg "list" = none
  f_min : mg "min" = none
  f_range : mg "range" = none
  f_str : mg "str" = none
  f_sum : mg "sum" = none
  f_tuple : mg "tuple" = none
  f_zip : mg "zip" = none
  g_NONE : mg "NONE" = some (.ref (He.ga K "NONE"))
  c_NONE : ∀ H, SqT K H (He.ga K "NONE") (([0, 1] : List Int).map V.int)
  c_PAIR : ∃ t, mg "PAIR" = some (.int 2 t)
  g_WHOLE : mg "WHOLE" = some (.ref (He.ga K "WHOLE"))
  c_WHOLE : ∀ H, SqT K H (He.ga K "WHOLE") (([1, 1] : List Int).map V.int)
  fd_is_number : FuncData
  F_is_number : FunD K "is_number" "is_number" (defArgs (top 1)) (defBody (top 1)) (defScope (top 1)) [] [] (He.ga K "is_number") fd_is_number
  g_is_number : mg "is_number" = some (.ref (He.ga K "is_number"))
  b_is_number : Binds K fd_is_number ["value"] []
  fd_is_count : FuncData
  F_is_count : FunD K "is_count" "is_count" (defArgs (top 2)) (defBody (top 2)) (defScope (top 2)) [] [] (He.ga K "is_count") fd_is_count
  g_is_count : mg "is_count" = some (.ref (He.ga K "is_count"))
  b_is_count : Binds K fd_is_count ["value"] []
  fd_tupled : FuncData
  F_tupled : FunD K "tupled" "tupled" (defArgs (top 3)) (defBody (top 3)) (defScope (top 3)) [] [] (He.ga K "tupled") fd_tupled
  g_tupled : mg "tupled" = some (.ref (He.ga K "tupled"))
  b_tupled : Binds K fd_tupled ["value"] []
  fd_common_part : FuncData
  F_common_part : FunD K "common_part" "common_part" (defArgs (top 8)) (defBody (top 8)) (defScope (top 8)) [] [] (He.ga K "common_part") fd_common_part
  g_common_part : mg "common_part" = some (.ref (He.ga K "common_part"))
  b_common_part : Binds K fd_common_part ["one", "other"] []
  fd_fraction : FuncData
  F_fraction : FunD K "fraction" "fraction" (defArgs (top 9)) (defBody (top 9)) (defScope (top 9)) [] [] (He.ga K "fraction") fd_fraction
  g_fraction : mg "fraction" = some (.ref (He.ga K "fraction"))
  b_fraction : Binds K fd_fraction ["top", "bottom"] []
  fd_plus : FuncData
  F_plus : FunD K "plus" "plus" (defArgs (top 10)) (defBody (top 10)) (defScope (top 10)) [] [] (He.ga K "plus") fd_plus
  g_plus : mg "plus" = some (.ref (He.ga K "plus"))
  b_plus : Binds K fd_plus ["one", "other"] []
  fd_minus : FuncData
  F_minus : FunD K "minus" "minus" (defArgs (top 11)) (defBody (top 11)) (defScope (top 11)) [] [] (He.ga K "minus") fd_minus
  g_minus : mg "minus" = some (.ref (He.ga K "minus"))
  b_minus : Binds K fd_minus ["one", "other"] []
  fd_times : FuncData
  F_times : FunD K "times" "times" (defArgs (top 12)) (defBody (top 12)) (defScope (top 12)) [] [] (He.ga K "times") fd_times
  g_times : mg "times" = some (.ref (He.ga K "times"))
  b_times : Binds K fd_times ["one", "other"] []
  fd_is_less : FuncData
  F_is_less : FunD K "is_less" "is_less" (defArgs (top 13)) (defBody (top 13)) (defScope (top 13)) [] [] (He.ga K "is_less") fd_is_less
  g_is_less : mg "is_less" = some (.ref (He.ga K "is_less"))
  b_is_less : Binds K fd_is_less ["one", "other"] []
  fd_lesser : FuncData
  F_lesser : FunD K "lesser" "lesser" (defArgs (top 14)) (defBody (top 14)) (defScope (top 14)) [] [] (He.ga K "lesser") fd_lesser
  g_lesser : mg "lesser" = some (.ref (He.ga K "lesser"))
  b_lesser : Binds K fd_lesser ["one", "other"] []
  fd_greater : FuncData
  F_greater : FunD K "greater" "greater" (defArgs (top 15)) (defBody (top 15)) (defScope (top 15)) [] [] (He.ga K "greater") fd_greater
  g_greater : mg "greater" = some (.ref (He.ga K "greater"))
  b_greater : Binds K fd_greater ["one", "other"] []
  fd_total : FuncData
  F_total : FunD K "total" "total" (defArgs (top 16)) (defBody (top 16)) (defScope (top 16)) [] [] (He.ga K "total") fd_total
  g_total : mg "total" = some (.ref (He.ga K "total"))
  b_total : Binds K fd_total ["fractions"] []
  fd_is_amount : FuncData
  F_is_amount : FunD K "is_amount" "is_amount" (defArgs (top 17)) (defBody (top 17)) (defScope (top 17)) [] [] (He.ga K "is_amount") fd_is_amount
  g_is_amount : mg "is_amount" = some (.ref (He.ga K "is_amount"))
  b_is_amount : Binds K fd_is_amount ["thing"] []
  fd_is_row_of : FuncData
  F_is_row_of : FunD K "is_row_of" "is_row_of" (defArgs (top 19)) (defBody (top 19)) (defScope (top 19)) [] [] (He.ga K "is_row_of") fd_is_row_of
  g_is_row_of : mg "is_row_of" = some (.ref (He.ga K "is_row_of"))
  b_is_row_of : Binds K fd_is_row_of ["thing", "many"] []
  fd_are_weights : FuncData
  F_are_weights : FunD K "are_weights" "are_weights" (defArgs (top 20)) (defBody (top 20)) (defScope (top 20)) [] [] (He.ga K "are_weights") fd_are_weights
  g_are_weights : mg "are_weights" = some (.ref (He.ga K "are_weights"))
  b_are_weights : Binds K fd_are_weights ["thing", "many"] []
  fd_common_bottom : FuncData
  F_common_bottom : FunD K "common_bottom" "common_bottom" (defArgs (top 21)) (defBody (top 21)) (defScope (top 21)) [] [] (He.ga K "common_bottom") fd_common_bottom
  g_common_bottom : mg "common_bottom" = some (.ref (He.ga K "common_bottom"))
  b_common_bottom : Binds K fd_common_bottom ["fractions"] []
  fd_entering : FuncData
  F_entering : FunD K "entering" "entering" (defArgs (top 22)) (defBody (top 22)) (defScope (top 22)) [] [] (He.ga K "entering") fd_entering
  g_entering : mg "entering" = some (.ref (He.ga K "entering"))
  b_entering : Binds K fd_entering ["last", "names"] []
  fd_leaving : FuncData
  F_leaving : FunD K "leaving" "leaving" (defArgs (top 23)) (defBody (top 23)) (defScope (top 23)) [] [] (He.ga K "leaving") fd_leaving
  g_leaving : mg "leaving" = some (.ref (He.ga K "leaving"))
  b_leaving : Binds K fd_leaving ["board", "names", "column"] []
  fd_pivoted : FuncData
  F_pivoted : FunD K "pivoted" "pivoted" (defArgs (top 24)) (defBody (top 24)) (defScope (top 24)) [] [] (He.ga K "pivoted") fd_pivoted
  g_pivoted : mg "pivoted" = some (.ref (He.ga K "pivoted"))
  b_pivoted : Binds K fd_pivoted ["board", "unit", "row", "column"] []
  fd_shares : FuncData
  F_shares : FunD K "shares" "shares" (defArgs (top 26)) (defBody (top 26)) (defScope (top 26)) [] [] (He.ga K "shares") fd_shares
  g_shares : mg "shares" = some (.ref (He.ga K "shares"))
  b_shares : Binds K fd_shares ["numbers"] []
  fd_best_mixture : FuncData
  F_best_mixture : FunD K "best_mixture" "best_mixture" (defArgs (top 25)) (defBody (top 25)) (defScope (top 25)) [] [] (He.ga K "best_mixture") fd_best_mixture
  g_best_mixture : mg "best_mixture" = some (.ref (He.ga K "best_mixture"))
  b_best_mixture : Binds K fd_best_mixture ["rows"] []
  fd_worth : FuncData
  F_worth : FunD K "worth" "worth" (defArgs (top 27)) (defBody (top 27)) (defScope (top 27)) [] [] (He.ga K "worth") fd_worth
  g_worth : mg "worth" = some (.ref (He.ga K "worth"))
  b_worth : Binds K fd_worth ["table"] []
  fd_best_columns : FuncData
  F_best_columns : FunD K "best_columns" "best_columns" (defArgs (top 28)) (defBody (top 28)) (defScope (top 28)) [] [] (He.ga K "best_columns") fd_best_columns
  g_best_columns : mg "best_columns" = some (.ref (He.ga K "best_columns"))
  b_best_columns : Binds K fd_best_columns ["table"] []
  fd_best_rows : FuncData
  F_best_rows : FunD K "best_rows" "best_rows" (defArgs (top 29)) (defBody (top 29)) (defScope (top 29)) [] [] (He.ga K "best_rows") fd_best_rows
  g_best_rows : mg "best_rows" = some (.ref (He.ga K "best_rows"))
  b_best_rows : Binds K fd_best_rows ["table"] []
  fd_columns_worth : FuncData
  F_columns_worth : FunD K "columns_worth" "columns_worth" (defArgs (top 30)) (defBody (top 30)) (defScope (top 30)) [] [] (He.ga K "columns_worth") fd_columns_worth
  g_columns_worth : mg "columns_worth" = some (.ref (He.ga K "columns_worth"))
  b_columns_worth : Binds K fd_columns_worth ["table", "weights"] []
  fd_rows_worth : FuncData
  F_rows_worth : FunD K "rows_worth" "rows_worth" (defArgs (top 31)) (defBody (top 31)) (defScope (top 31)) [] [] (He.ga K "rows_worth") fd_rows_worth
  g_rows_worth : mg "rows_worth" = some (.ref (He.ga K "rows_worth"))
  b_rows_worth : Binds K fd_rows_worth ["table", "weights"] []
  fd_is_best_columns : FuncData
  F_is_best_columns : FunD K "is_best_columns" "is_best_columns" (defArgs (top 32)) (defBody (top 32)) (defScope (top 32)) [] [] (He.ga K "is_best_columns") fd_is_best_columns
  g_is_best_columns : mg "is_best_columns" = some (.ref (He.ga K "is_best_columns"))
  b_is_best_columns : Binds K fd_is_best_columns ["table", "thing"] []
  fd_is_best_rows : FuncData
  F_is_best_rows : FunD K "is_best_rows" "is_best_rows" (defArgs (top 33)) (defBody (top 33)) (defScope (top 33)) [] [] (He.ga K "is_best_rows") fd_is_best_rows
  g_is_best_rows : mg "is_best_rows" = some (.ref (He.ga K "is_best_rows"))
  b_is_best_rows : Binds K fd_is_best_rows ["table", "thing"] []
  fd_law_box : FuncData
  F_law_box : FunD K "_law_box" "_law_box" (defArgs (top 35)) (defBody (top 35)) (defScope (top 35)) [] [] (He.ga K "_law_box") fd_law_box
  g_law_box : mg "_law_box" = some (.ref (He.ga K "_law_box"))
  b_law_box : Binds K fd_law_box ["_law_script", "_law_k"] []
  fd_law_take : FuncData
  F_law_take : FunD K "_law_take" "_law_take" (defArgs (top 36)) (defBody (top 36)) (defScope (top 36)) [] [] (He.ga K "_law_take") fd_law_take
  g_law_take : mg "_law_take" = some (.ref (He.ga K "_law_take"))
  b_law_take : Binds K fd_law_take ["_law_box_here", "_law_size_so"] []
  fd_law_cells : FuncData
  F_law_cells : FunD K "_law_cells" "_law_cells" (defArgs (top 37)) (defBody (top 37)) (defScope (top 37)) [] [] (He.ga K "_law_cells") fd_law_cells
  g_law_cells : mg "_law_cells" = some (.ref (He.ga K "_law_cells"))
  b_law_cells : Binds K fd_law_cells ["_law_script", "_law_top_so"] []
  fd_law_same : FuncData
  F_law_same : FunD K "_law_same" "_law_same" (defArgs (top 38)) (defBody (top 38)) (defScope (top 38)) [] [] (He.ga K "_law_same") fd_law_same
  g_law_same : mg "_law_same" = some (.ref (He.ga K "_law_same"))
  b_law_same : Binds K fd_law_same ["_law_got", "_law_due"] []
  fd_law_lists : FuncData
  F_law_lists : FunD K "_law_lists" "_law_lists" (defArgs (top 39)) (defBody (top 39)) (defScope (top 39)) [] [] (He.ga K "_law_lists") fd_law_lists
  g_law_lists : mg "_law_lists" = some (.ref (He.ga K "_law_lists"))
  b_law_lists : Binds K fd_law_lists ["_law_matter"] []
  fd_law_part : FuncData
  F_law_part : FunD K "_law_part" "_law_part" (defArgs (top 41)) (defBody (top 41)) (defScope (top 41)) [] [] (He.ga K "_law_part") fd_law_part
  g_law_part : mg "_law_part" = some (.ref (He.ga K "_law_part"))
  b_law_part : Binds K fd_law_part ["_law_one_so", "_law_other_so"] []
  fd_law_ratio : FuncData
  F_law_ratio : FunD K "_law_ratio" "_law_ratio" (defArgs (top 40)) (defBody (top 40)) (defScope (top 40)) [] [] (He.ga K "_law_ratio") fd_law_ratio
  g_law_ratio : mg "_law_ratio" = some (.ref (He.ga K "_law_ratio"))
  b_law_ratio : Binds K fd_law_ratio ["_law_top_so", "_law_low_so"] []
  fd_law_sum : FuncData
  F_law_sum : FunD K "_law_sum" "_law_sum" (defArgs (top 42)) (defBody (top 42)) (defScope (top 42)) [] [] (He.ga K "_law_sum") fd_law_sum
  g_law_sum : mg "_law_sum" = some (.ref (He.ga K "_law_sum"))
  b_law_sum : Binds K fd_law_sum ["_law_some"] []
  fd_law_less : FuncData
  F_law_less : FunD K "_law_less" "_law_less" (defArgs (top 43)) (defBody (top 43)) (defScope (top 43)) [] [] (He.ga K "_law_less") fd_law_less
  g_law_less : mg "_law_less" = some (.ref (He.ga K "_law_less"))
  b_law_less : Binds K fd_law_less ["_law_one_so", "_law_two_so"] []
  fd_law_by : FuncData
  F_law_by : FunD K "_law_by" "_law_by" (defArgs (top 44)) (defBody (top 44)) (defScope (top 44)) [] [] (He.ga K "_law_by") fd_law_by
  g_law_by : mg "_law_by" = some (.ref (He.ga K "_law_by"))
  b_law_by : Binds K fd_law_by ["_law_one_so", "_law_two_so"] []
  fd_law_least : FuncData
  F_law_least : FunD K "_law_least" "_law_least" (defArgs (top 45)) (defBody (top 45)) (defScope (top 45)) [] [] (He.ga K "_law_least") fd_law_least
  g_law_least : mg "_law_least" = some (.ref (He.ga K "_law_least"))
  b_law_least : Binds K fd_law_least ["_law_some"] []
  fd_law_most : FuncData
  F_law_most : FunD K "_law_most" "_law_most" (defArgs (top 46)) (defBody (top 46)) (defScope (top 46)) [] [] (He.ga K "_law_most") fd_law_most
  g_law_most : mg "_law_most" = some (.ref (He.ga K "_law_most"))
  b_law_most : Binds K fd_law_most ["_law_some"] []
  fd_law_is_part : FuncData
  F_law_is_part : FunD K "_law_is_part" "_law_is_part" (defArgs (top 47)) (defBody (top 47)) (defScope (top 47)) [] [] (He.ga K "_law_is_part") fd_law_is_part
  g_law_is_part : mg "_law_is_part" = some (.ref (He.ga K "_law_is_part"))
  b_law_is_part : Binds K fd_law_is_part ["_law_matter"] []
  fd_law_are_weights : FuncData
  F_law_are_weights : FunD K "_law_are_weights" "_law_are_weights" (defArgs (top 48)) (defBody (top 48)) (defScope (top 48)) [] [] (He.ga K "_law_are_weights") fd_law_are_weights
  g_law_are_weights : mg "_law_are_weights" = some (.ref (He.ga K "_law_are_weights"))
  b_law_are_weights : Binds K fd_law_are_weights ["_law_matter", "_law_many_so"] []
  fd_law_sums : FuncData
  F_law_sums : FunD K "_law_sums" "_law_sums" (defArgs (top 49)) (defBody (top 49)) (defScope (top 49)) [] [] (He.ga K "_law_sums") fd_law_sums
  g_law_sums : mg "_law_sums" = some (.ref (He.ga K "_law_sums"))
  b_law_sums : Binds K fd_law_sums ["_law_rows_so", "_law_weights_so"] []
  fd_law_across : FuncData
  F_law_across : FunD K "_law_across" "_law_across" (defArgs (top 50)) (defBody (top 50)) (defScope (top 50)) [] [] (He.ga K "_law_across") fd_law_across
  g_law_across : mg "_law_across" = some (.ref (He.ga K "_law_across"))
  b_law_across : Binds K fd_law_across ["_law_rows_so"] []
  fd_law_entry : FuncData
  F_law_entry : FunD K "_law_entry" "_law_entry" (defArgs (top 51)) (defBody (top 51)) (defScope (top 51)) [] [] (He.ga K "_law_entry") fd_law_entry
  g_law_entry : mg "_law_entry" = some (.ref (He.ga K "_law_entry"))
  b_law_entry : Binds K fd_law_entry ["_law_box_here"] []
  fd_law_grid : FuncData
  F_law_grid : FunD K "_law_grid" "_law_grid" (defArgs (top 52)) (defBody (top 52)) (defScope (top 52)) [] [] (He.ga K "_law_grid") fd_law_grid
  g_law_grid : mg "_law_grid" = some (.ref (He.ga K "_law_grid"))
  b_law_grid : Binds K fd_law_grid ["_law_box_here", "_law_high_so", "_law_wide_so"] []
  fd_law_shares : FuncData
  F_law_shares : FunD K "_law_shares" "_law_shares" (defArgs (top 53)) (defBody (top 53)) (defScope (top 53)) [] [] (He.ga K "_law_shares") fd_law_shares
  g_law_shares : mg "_law_shares" = some (.ref (He.ga K "_law_shares"))
  b_law_shares : Binds K fd_law_shares ["_law_box_here", "_law_many_so"] []
  fd_law_shown : FuncData
  F_law_shown : FunD K "_law_shown" "_law_shown" (defArgs (top 54)) (defBody (top 54)) (defScope (top 54)) [] [] (He.ga K "_law_shown") fd_law_shown
  g_law_shown : mg "_law_shown" = some (.ref (He.ga K "_law_shown"))
  b_law_shown : Binds K fd_law_shown ["_law_rows_so"] []
  fd_law_case_right : FuncData
  F_law_case_right : FunD K "_law_case_right" "_law_case_right" (defArgs (top 55)) (defBody (top 55)) (defScope (top 55)) [] [] (He.ga K "_law_case_right") fd_law_case_right
  g_law_case_right : mg "_law_case_right" = some (.ref (He.ga K "_law_case_right"))
  b_law_case_right : Binds K fd_law_case_right ["_law_rows_so"] []
  fd_law_by_hand_right : FuncData
  F_law_by_hand_right : FunD K "_law_by_hand_right" "_law_by_hand_right" (defArgs (top 56)) (defBody (top 56)) (defScope (top 56)) [] [] (He.ga K "_law_by_hand_right") fd_law_by_hand_right
  g_law_by_hand_right : mg "_law_by_hand_right" = some (.ref (He.ga K "_law_by_hand_right"))
  b_law_by_hand_right : Binds K fd_law_by_hand_right [] []
  fd_law_right : FuncData
  F_law_right : FunD K "_law_right" "_law_right" (defArgs (top 57)) (defBody (top 57)) (defScope (top 57)) [] [] (He.ga K "_law_right") fd_law_right
  g_law_right : mg "_law_right" = some (.ref (He.ga K "_law_right"))
  b_law_right : Binds K fd_law_right ["_law_box_here"] []
  fd_law : FuncData
  F_law : FunD K "law" "law" (defArgs (top 58)) (defBody (top 58)) (defScope (top 58)) [] [] (He.ga K "law") fd_law
  g_law : mg "law" = some (.ref (He.ga K "law"))
  b_law : Binds K fd_law ["_law_script"] []
section
variable {P : Program} {w : World} {K : PySem.W.Frag} {mg : Str → Option Value} {base : Heap}
theorem sc_is_number : FnScope ["value"] ["value"] (defScope (top 1)) := ⟨rfl, rfl, rfl, by decide +kernel, rfl, by decide +kernel, by decide +kernel⟩
def m_is_number (a_value : D) : Rs D := (Rs.of (isiD "int" a_value)).bind fun x1 => (Rs.of (asB x1)).bind fun k => if k then (Rs.of (isiD "bool" a_value)).bind fun x0 => (Rs.of (asB x0)).bind fun k => Rs.ok (.bl (!k)) else Rs.ok (.bl false)
theorem k_is_number (T : Txt K mg) : Keeps P w K mg base 2 (He.ga K "is_number") T.fd_is_number ["value"] (fun ds => match ds with | [a_value] => m_is_number a_value | _ => Rs.no) :=
  keeps_ret T.F_is_number sc_is_number (fun cdv A outer s H E F ds hl hr => match ds, hl with | [a_value], _ => bi_as [some (.val a_value)] (bi_ret (ev_and (ev_isi T.f_isinstance T.f_int boot_int kitT_int (EV.o (ev_var (i := 0) (d := a_value) rfl (pv 0)))) (ev_one (ev_not (ev_isi T.f_isinstance T.f_bool boot_bool kitT_bool (EV.o (ev_var (i := 0) (d := a_value) rfl (pv 0)))))))) rfl rfl)
end
end LW
set_option Elab.async false
set_option linter.all false
set_option maxRecDepth 100000
set_option autoImplicit false
set_option pp.maxSteps 400
set_option maxHeartbeats 8000000
namespace LW
open PySem PySem.Spec L2 VL
open PyProof.Rows hiding St
section
variable {P : Program} {w : World} {K : PySem.W.Frag} {mg : Str → Option Value} {base : Heap}
theorem sc_is_count : FnScope ["value"] ["value"] (defScope (top 2)) := ⟨rfl, rfl, rfl, by decide +kernel, rfl, by decide +kernel, by decide +kernel⟩
def m_is_count (a_value : D) : Rs D := (m_is_number a_value).bind fun x0 => (Rs.of (asB x0)).bind fun k => if k then Rs.of (geD a_value (.int 0)) else Rs.ok (.bl false)
theorem k_is_count (T : Txt K mg) : Keeps P w K mg base 4 (He.ga K "is_count") T.fd_is_count ["value"] (fun ds => match ds with | [a_value] => m_is_count a_value | _ => Rs.no) :=
  keeps_ret T.F_is_count sc_is_count (fun cdv A outer s H E F ds hl hr => match ds, hl with | [a_value], _ => bi_as [some (.val a_value)] (bi_ret (ev_and (ev_callC (L2N.takes_of rfl rfl rfl rfl) (k_is_number T) (hr.mono (by decide)) T.g_is_number T.F_is_number.kp T.b_is_number (ac_consV (ev_var (i := 0) (d := a_value) rfl (pv 0)) ac_nil)) (ev_one (ev_cmp2 (op_geA hr.units) geD_ok (EV.o (ev_var (i := 0) (d := a_value) rfl (pv 0))) (EV.o ev_int) (nomark _))))) rfl rfl)
end
end LW
set_option Elab.async false
set_option linter.all false
set_option maxRecDepth 100000
set_option autoImplicit false
set_option pp.maxSteps 400
set_option maxHeartbeats 8000000
namespace LW
open PySem PySem.Spec L2 VL
open PyProof.Rows hiding St
section
variable {P : Program} {w : World} {K : PySem.W.Frag} {mg : Str → Option Value} {base : Heap}
theorem sc_tupled : FnScope ["value", "part"] ["value"] (defScope (top 3)) := ⟨rfl, rfl, rfl, by decide +kernel, rfl, by decide +kernel, by decide +kernel⟩
def m_tupled : Nat → D → Rs D
  | 0, _ => Rs.no
  | n + 1, a_value => ((Rs.of (isiD2 "list" "tuple" a_value)).bind fun x0 => Rs.of (asB x0)).bind fun k => if k then (((Rs.of (itemsD a_value)).bind fun l2 => compM some (fun y1 => Rs.ok true) (fun y1 => m_tupled n y1) l2).bind fun l3 => Rs.ok (.lst l3)).bind fun x4 => Rs.of (tupleD [x4]) else (Rs.ok a_value)
theorem k_tupled (T : Txt K mg) : ∀ n : Nat, Keeps P w K mg base (n + 2) (He.ga K "tupled") T.fd_tupled ["value"] (fun ds => match ds with | [a_value] => m_tupled n a_value | _ => Rs.no)
  | 0 => keeps_no T.F_tupled sc_tupled (fun ds => by split <;> first | rfl | (simp only [m_tupled]))
  | n + 1 => by
    have ih := k_tupled T n
    exact keeps_ret T.F_tupled sc_tupled (fun cdv A outer s H E F ds hl hr => match ds, hl with | [a_value], _ => bi_as [some (.val a_value), none] (bi_ret (ev_if (tv_val (ev_isi2 T.f_isinstance T.f_list boot_list T.f_tuple boot_tuple kitT_list kitT_tuple (EV.o (ev_var (i := 0) (d := a_value) rfl (pv 0))))) (ev_callTyC call_tuple_of tupleD_ok T.f_tuple boot_tuple (oc_cons (EV.o (EF.ev (ef_comp rfl sc_tupled.nd (it_seqV (ev_var (i := 0) (d := a_value) rfl (pv 0))) (blkOk_by (own := [("part", 1)]) (by kernel_rfl)) (by decide) (fun _ _ _ _ _ => tt_name (i := 1) sc_tupled.nd) (fun _ _ _ _ _ y1 => tvs_nil) (fun _ _ _ _ _ y1 => (ev_callC takes0N ih (hr.mono (by omega)) T.g_tupled T.F_tupled.kp T.b_tupled (ac_consV (ev_var (i := 1) (d := y1) rfl (pv 1)) ac_nil)))))) oc_nil)) (ev_var (i := 0) (d := a_value) rfl (pv 0)))) rfl rfl)
end
end LW
set_option Elab.async false
set_option linter.all false
set_option maxRecDepth 100000
set_option autoImplicit false
set_option pp.maxSteps 400
set_option maxHeartbeats 8000000
namespace LW
open PySem PySem.Spec L2 VL
open PyProof.Rows hiding St
section
variable {P : Program} {w : World} {K : PySem.W.Frag} {mg : Str → Option Value} {base : Heap}
theorem sc_common_part : FnScope ["one", "other"] ["one", "other"] (defScope (top 8)) := ⟨rfl, rfl, rfl, by decide +kernel, rfl, by decide +kernel, by decide +kernel⟩
def m_common_part (a_one a_other : D) : Rs D := (whileN (fun z0 => Rs.of (neB z0.2 (.int 0))) (fun z0 => (Rs.of (modD z0.1 z0.2)).bind fun d2 => Rs.ok (z0.2, d2)) FUEL (a_one, a_other)).bind fun z0 => Rs.of (absD [z0.1])
theorem k_common_part (T : Txt K mg) : Keeps P w K mg base 2 (He.ga K "common_part") T.fd_common_part ["one", "other"] (fun ds => match ds with | [a_one, a_other] => m_common_part a_one a_other | _ => Rs.no) :=
  keeps_ret T.F_common_part sc_common_part (fun cdv A outer s H E F ds hl hr => match ds, hl with | [a_one, a_other], _ => bi_as [some (.val a_one), some (.val a_other)] (bi_while (post := fun (z0 : D × D) => [some (.val z0.1), some (.val z0.2)]) (z0 := (a_one, a_other)) FUEL (passes_of rfl) (Wk.keep (Wk.keep Wk.nil)) (fun z0 => (tv_cmp2 (op_neA hr.units) neD_ok neD_is (EV.o (ev_var (i := 1) (d := z0.2) rfl (pv 1))) (EV.o ev_int) (nomark _))) (fun z0 => (bi_par (i := 0) (j := 1) rfl sc_common_part.nd (ev_var (i := 1) (d := z0.2) rfl (pv 1)) (ev_bin2 op_modN modD_ok (EV.o (ev_var (i := 0) (d := z0.1) rfl (pv 0))) (EV.o (ev_var (i := 1) (d := z0.2) rfl (pv 1)))) (fun d1 d2 => (bi_nil (z := (d1, d2)) (Wk.keep (Wk.keep Wk.nil))))))  (fun z0 => (bi_ret (ev_callBC call_abs absD_ok T.f_abs boot_abs (oc_consV (EV.o (ev_var (i := 0) (d := z0.1) rfl (pv 0))) oc_nil))))) rfl rfl)
end
end LW
set_option Elab.async false
set_option linter.all false
set_option maxRecDepth 100000
set_option autoImplicit false
set_option pp.maxSteps 400
set_option maxHeartbeats 8000000
namespace LW
open PySem PySem.Spec L2 VL
open PyProof.Rows hiding St
section
variable {P : Program} {w : World} {K : PySem.W.Frag} {mg : Str → Option Value} {base : Heap}
theorem sc_fraction : FnScope ["top", "bottom", "part"] ["top", "bottom"] (defScope (top 9)) := ⟨rfl, rfl, rfl, by decide +kernel, rfl, by decide +kernel, by decide +kernel⟩
def m_fraction (a_top a_bottom : D) : Rs D := (m_common_part a_top a_bottom).bind fun d0 => ((Rs.of (ltB a_bottom (.int 0))).bind fun k => if k then (Rs.of (negD d0)).bind fun d2 => Rs.ok d2 else Rs.ok d0).bind fun z1 => (Rs.of (fdivD a_top z1)).bind fun x3 => (Rs.of (fdivD a_bottom z1)).bind fun x4 => Rs.ok (.tup [x3, x4])
theorem k_fraction (T : Txt K mg) : Keeps P w K mg base 4 (He.ga K "fraction") T.fd_fraction ["top", "bottom"] (fun ds => match ds with | [a_top, a_bottom] => m_fraction a_top a_bottom | _ => Rs.no) :=
  keeps_ret T.F_fraction sc_fraction (fun cdv A outer s H E F ds hl hr => match ds, hl with | [a_top, a_bottom], _ => bi_as [some (.val a_top), some (.val a_bottom), none] (bi_set (as_ev (i := 2) sc_fraction.nd (ev_callC (L2N.takes_of rfl rfl rfl rfl) (k_common_part T) (hr.mono (by decide)) T.g_common_part T.F_common_part.kp T.b_common_part (ac_consV (ev_var (i := 0) (d := a_top) rfl (pv 0)) (ac_consV (ev_var (i := 1) (d := a_bottom) rfl (pv 1)) ac_nil)))) (fun d0 => (bi_if (p1 := fun (z1 : D) => [some (.val a_top), some (.val a_bottom), some (.val z1)]) (tv_cmp2 (op_ltA hr.units) ltD_ok ltD_is (EV.o (ev_var (i := 1) (d := a_bottom) rfl (pv 1))) (EV.o ev_int) (nomark _)) (bi_set (as_ev (i := 2) sc_fraction.nd (ev_un un_neg negD_ok (EV.o (ev_var (i := 2) (d := d0) rfl (pv 2))))) (fun d2 => (bi_nil (z := d2) (Wk.keep (Wk.keep (Wk.keep Wk.nil)))))) (bi_nil (z := d0) (Wk.keep (Wk.keep (Wk.keep Wk.nil)))) (fun z1 => (bi_ret (ev_tupC (ac_cons (ev_bin2 op_fdivB fdivD_ok (EV.o (ev_var (i := 0) (d := a_top) rfl (pv 0))) (EV.o (ev_var (i := 2) (d := z1) rfl (pv 2)))) (ac_cons (ev_bin2 op_fdivB fdivD_ok (EV.o (ev_var (i := 1) (d := a_bottom) rfl (pv 1))) (EV.o (ev_var (i := 2) (d := z1) rfl (pv 2)))) ac_nil)))))))) rfl rfl)
end
end LW
set_option Elab.async false
set_option linter.all false
set_option maxRecDepth 100000
set_option autoImplicit false
set_option pp.maxSteps 400
set_option maxHeartbeats 8000000
namespace LW
open PySem PySem.Spec L2 VL
open PyProof.Rows hiding St
section
variable {P : Program} {w : World} {K : PySem.W.Frag} {mg : Str → Option Value} {base : Heap}
theorem sc_plus : FnScope ["one", "other"] ["one", "other"] (defScope (top 10)) := ⟨rfl, rfl, rfl, by decide +kernel, rfl, by decide +kernel, by decide +kernel⟩
def m_plus (a_one a_other : D) : Rs D := (((Rs.of (idxD a_one (.int 0))).bind fun x0 => (Rs.of (idxD a_other (.int 1))).bind fun x1 => Rs.of (mulD x0 x1)).bind fun x4 => ((Rs.of (idxD a_other (.int 0))).bind fun x2 => (Rs.of (idxD a_one (.int 1))).bind fun x3 => Rs.of (mulD x2 x3)).bind fun x5 => Rs.of (addD x4 x5)).bind fun x8 => ((Rs.of (idxD a_one (.int 1))).bind fun x6 => (Rs.of (idxD a_other (.int 1))).bind fun x7 => Rs.of (mulD x6 x7)).bind fun x9 => m_fraction x8 x9
theorem k_plus (T : Txt K mg) : Keeps P w K mg base 6 (He.ga K "plus") T.fd_plus ["one", "other"] (fun ds => match ds with | [a_one, a_other] => m_plus a_one a_other | _ => Rs.no) :=
  keeps_ret T.F_plus sc_plus (fun cdv A outer s H E F ds hl hr => match ds, hl with | [a_one, a_other], _ => bi_as [some (.val a_one), some (.val a_other)] (bi_ret (ev_callC (L2N.takes_of rfl rfl rfl rfl) (k_fraction T) (hr.mono (by decide)) T.g_fraction T.F_fraction.kp T.b_fraction (ac_cons (ev_bin op_addD addD_ok (EV.o (ev_bin op_mulD mulD_ok (EV.o (ev_ix2 ix_D idxD_ok (EV.o (ev_var (i := 0) (d := a_one) rfl (pv 0))) (EV.o ev_int) (fun _ _ => rfl))) (EV.o (ev_ix2 ix_D idxD_ok (EV.o (ev_var (i := 1) (d := a_other) rfl (pv 1))) (EV.o ev_int) (fun _ _ => rfl))))) (EV.o (ev_bin op_mulD mulD_ok (EV.o (ev_ix2 ix_D idxD_ok (EV.o (ev_var (i := 1) (d := a_other) rfl (pv 1))) (EV.o ev_int) (fun _ _ => rfl))) (EV.o (ev_ix2 ix_D idxD_ok (EV.o (ev_var (i := 0) (d := a_one) rfl (pv 0))) (EV.o ev_int) (fun _ _ => rfl)))))) (ac_cons (ev_bin op_mulD mulD_ok (EV.o (ev_ix2 ix_D idxD_ok (EV.o (ev_var (i := 0) (d := a_one) rfl (pv 0))) (EV.o ev_int) (fun _ _ => rfl))) (EV.o (ev_ix2 ix_D idxD_ok (EV.o (ev_var (i := 1) (d := a_other) rfl (pv 1))) (EV.o ev_int) (fun _ _ => rfl)))) ac_nil)))) rfl rfl)
end
end LW
set_option Elab.async false
set_option linter.all false
set_option maxRecDepth 100000
set_option autoImplicit false
set_option pp.maxSteps 400
set_option maxHeartbeats 8000000
namespace LW
open PySem PySem.Spec L2 VL
open PyProof.Rows hiding St
section
variable {P : Program} {w : World} {K : PySem.W.Frag} {mg : Str → Option Value} {base : Heap}
theorem sc_minus : FnScope ["one", "other"] ["one", "other"] (defScope (top 11)) := ⟨rfl, rfl, rfl, by decide +kernel, rfl, by decide +kernel, by decide +kernel⟩
def m_minus (a_one a_other : D) : Rs D := (((Rs.of (idxD a_one (.int 0))).bind fun x0 => (Rs.of (idxD a_other (.int 1))).bind fun x1 => Rs.of (mulD x0 x1)).bind fun x4 => ((Rs.of (idxD a_other (.int 0))).bind fun x2 => (Rs.of (idxD a_one (.int 1))).bind fun x3 => Rs.of (mulD x2 x3)).bind fun x5 => Rs.of (subD x4 x5)).bind fun x8 => ((Rs.of (idxD a_one (.int 1))).bind fun x6 => (Rs.of (idxD a_other (.int 1))).bind fun x7 => Rs.of (mulD x6 x7)).bind fun x9 => m_fraction x8 x9
theorem k_minus (T : Txt K mg) : Keeps P w K mg base 6 (He.ga K "minus") T.fd_minus ["one", "other"] (fun ds => match ds with | [a_one, a_other] => m_minus a_one a_other | _ => Rs.no) :=
  keeps_ret T.F_minus sc_minus (fun cdv A outer s H E F ds hl hr => match ds, hl with | [a_one, a_other], _ => bi_as [some (.val a_one), some (.val a_other)] (bi_ret (ev_callC (L2N.takes_of rfl rfl rfl rfl) (k_fraction T) (hr.mono (by decide)) T.g_fraction T.F_fraction.kp T.b_fraction (ac_cons (ev_bin op_sub subD_ok (EV.o (ev_bin op_mulD mulD_ok (EV.o (ev_ix2 ix_D idxD_ok (EV.o (ev_var (i := 0) (d := a_one) rfl (pv 0))) (EV.o ev_int) (fun _ _ => rfl))) (EV.o (ev_ix2 ix_D idxD_ok (EV.o (ev_var (i := 1) (d := a_other) rfl (pv 1))) (EV.o ev_int) (fun _ _ => rfl))))) (EV.o (ev_bin op_mulD mulD_ok (EV.o (ev_ix2 ix_D idxD_ok (EV.o (ev_var (i := 1) (d := a_other) rfl (pv 1))) (EV.o ev_int) (fun _ _ => rfl))) (EV.o (ev_ix2 ix_D idxD_ok (EV.o (ev_var (i := 0) (d := a_one) rfl (pv 0))) (EV.o ev_int) (fun _ _ => rfl)))))) (ac_cons (ev_bin op_mulD mulD_ok (EV.o (ev_ix2 ix_D idxD_ok (EV.o (ev_var (i := 0) (d := a_one) rfl (pv 0))) (EV.o ev_int) (fun _ _ => rfl))) (EV.o (ev_ix2 ix_D idxD_ok (EV.o (ev_var (i := 1) (d := a_other) rfl (pv 1))) (EV.o ev_int) (fun _ _ => rfl)))) ac_nil)))) rfl rfl)
end
end LW
set_option Elab.async false
set_option linter.all false
set_option maxRecDepth 100000
set_option autoImplicit false
set_option pp.maxSteps 400
set_option maxHeartbeats 8000000
namespace LW
open PySem PySem.Spec L2 VL
open PyProof.Rows hiding St
section
variable {P : Program} {w : World} {K : PySem.W.Frag} {mg : Str → Option Value} {base : Heap}
theorem sc_times : FnScope ["one", "other"] ["one", "other"] (defScope (top 12)) := ⟨rfl, rfl, rfl, by decide +kernel, rfl, by decide +kernel, by decide +kernel⟩
def m_times (a_one a_other : D) : Rs D := ((Rs.of (idxD a_one (.int 0))).bind fun x0 => (Rs.of (idxD a_other (.int 0))).bind fun x1 => Rs.of (mulD x0 x1)).bind fun x4 => ((Rs.of (idxD a_one (.int 1))).bind fun x2 => (Rs.of (idxD a_other (.int 1))).bind fun x3 => Rs.of (mulD x2 x3)).bind fun x5 => m_fraction x4 x5
theorem k_times (T : Txt K mg) : Keeps P w K mg base 6 (He.ga K "times") T.fd_times ["one", "other"] (fun ds => match ds with | [a_one, a_other] => m_times a_one a_other | _ => Rs.no) :=
  keeps_ret T.F_times sc_times (fun cdv A outer s H E F ds hl hr => match ds, hl with | [a_one, a_other], _ => bi_as [some (.val a_one), some (.val a_other)] (bi_ret (ev_callC (L2N.takes_of rfl rfl rfl rfl) (k_fraction T) (hr.mono (by decide)) T.g_fraction T.F_fraction.kp T.b_fraction (ac_cons (ev_bin op_mulD mulD_ok (EV.o (ev_ix2 ix_D idxD_ok (EV.o (ev_var (i := 0) (d := a_one) rfl (pv 0))) (EV.o ev_int) (fun _ _ => rfl))) (EV.o (ev_ix2 ix_D idxD_ok (EV.o (ev_var (i := 1) (d := a_other) rfl (pv 1))) (EV.o ev_int) (fun _ _ => rfl)))) (ac_cons (ev_bin op_mulD mulD_ok (EV.o (ev_ix2 ix_D idxD_ok (EV.o (ev_var (i := 0) (d := a_one) rfl (pv 0))) (EV.o ev_int) (fun _ _ => rfl))) (EV.o (ev_ix2 ix_D idxD_ok (EV.o (ev_var (i := 1) (d := a_other) rfl (pv 1))) (EV.o ev_int) (fun _ _ => rfl)))) ac_nil)))) rfl rfl)
end
end LW
set_option Elab.async false
set_option linter.all false
set_option maxRecDepth 100000
set_option autoImplicit false
set_option pp.maxSteps 400
set_option maxHeartbeats 8000000
namespace LW
open PySem PySem.Spec L2 VL
open PyProof.Rows hiding St
section
variable {P : Program} {w : World} {K : PySem.W.Frag} {mg : Str → Option Value} {base : Heap}
theorem sc_is_less : FnScope ["one", "other"] ["one", "other"] (defScope (top 13)) := ⟨rfl, rfl, rfl, by decide +kernel, rfl, by decide +kernel, by decide +kernel⟩
def m_is_less (a_one a_other : D) : Rs D := ((Rs.of (idxD a_one (.int 0))).bind fun x0 => (Rs.of (idxD a_other (.int 1))).bind fun x1 => Rs.of (mulD x0 x1)).bind fun x4 => ((Rs.of (idxD a_other (.int 0))).bind fun x2 => (Rs.of (idxD a_one (.int 1))).bind fun x3 => Rs.of (mulD x2 x3)).bind fun x5 => Rs.of (ltD x4 x5)
theorem k_is_less (T : Txt K mg) : Keeps P w K mg base 2 (He.ga K "is_less") T.fd_is_less ["one", "other"] (fun ds => match ds with | [a_one, a_other] => m_is_less a_one a_other | _ => Rs.no) :=
  keeps_ret T.F_is_less sc_is_less (fun cdv A outer s H E F ds hl hr => match ds, hl with | [a_one, a_other], _ => bi_as [some (.val a_one), some (.val a_other)] (bi_ret (ev_cmp (op_ltA hr.units) ltD_ok (EV.o (ev_bin op_mulD mulD_ok (EV.o (ev_ix2 ix_D idxD_ok (EV.o (ev_var (i := 0) (d := a_one) rfl (pv 0))) (EV.o ev_int) (fun _ _ => rfl))) (EV.o (ev_ix2 ix_D idxD_ok (EV.o (ev_var (i := 1) (d := a_other) rfl (pv 1))) (EV.o ev_int) (fun _ _ => rfl))))) (EV.o (ev_bin op_mulD mulD_ok (EV.o (ev_ix2 ix_D idxD_ok (EV.o (ev_var (i := 1) (d := a_other) rfl (pv 1))) (EV.o ev_int) (fun _ _ => rfl))) (EV.o (ev_ix2 ix_D idxD_ok (EV.o (ev_var (i := 0) (d := a_one) rfl (pv 0))) (EV.o ev_int) (fun _ _ => rfl))))) (nomark _))) rfl rfl)
end
end LW
set_option Elab.async false
set_option linter.all false
set_option maxRecDepth 100000
set_option autoImplicit false
set_option pp.maxSteps 400
set_option maxHeartbeats 8000000
namespace LW
open PySem PySem.Spec L2 VL
open PyProof.Rows hiding St
section
variable {P : Program} {w : World} {K : PySem.W.Frag} {mg : Str → Option Value} {base : Heap}
theorem sc_lesser : FnScope ["one", "other"] ["one", "other"] (defScope (top 14)) := ⟨rfl, rfl, rfl, by decide +kernel, rfl, by decide +kernel, by decide +kernel⟩
def m_lesser (a_one a_other : D) : Rs D := ((m_is_less a_one a_other).bind fun x0 => Rs.of (asB x0)).bind fun k => if k then Rs.of (tupleD [a_one]) else Rs.of (tupleD [a_other])
theorem k_lesser (T : Txt K mg) : Keeps P w K mg base 4 (He.ga K "lesser") T.fd_lesser ["one", "other"] (fun ds => match ds with | [a_one, a_other] => m_lesser a_one a_other | _ => Rs.no) :=
  keeps_ret T.F_lesser sc_lesser (fun cdv A outer s H E F ds hl hr => match ds, hl with | [a_one, a_other], _ => bi_as [some (.val a_one), some (.val a_other)] (bi_ret (ev_if (tv_val (ev_callC (L2N.takes_of rfl rfl rfl rfl) (k_is_less T) (hr.mono (by decide)) T.g_is_less T.F_is_less.kp T.b_is_less (ac_consV (ev_var (i := 0) (d := a_one) rfl (pv 0)) (ac_consV (ev_var (i := 1) (d := a_other) rfl (pv 1)) ac_nil)))) (ev_callTyC call_tuple_of tupleD_ok T.f_tuple boot_tuple (oc_consV (EV.o (ev_var (i := 0) (d := a_one) rfl (pv 0))) oc_nil)) (ev_callTyC call_tuple_of tupleD_ok T.f_tuple boot_tuple (oc_consV (EV.o (ev_var (i := 1) (d := a_other) rfl (pv 1))) oc_nil)))) rfl rfl)
end
end LW
set_option Elab.async false
set_option linter.all false
set_option maxRecDepth 100000
set_option autoImplicit false
set_option pp.maxSteps 400
set_option maxHeartbeats 8000000
namespace LW
open PySem PySem.Spec L2 VL
open PyProof.Rows hiding St
section
variable {P : Program} {w : World} {K : PySem.W.Frag} {mg : Str → Option Value} {base : Heap}
theorem sc_greater : FnScope ["one", "other"] ["one", "other"] (defScope (top 15)) := ⟨rfl, rfl, rfl, by decide +kernel, rfl, by decide +kernel, by decide +kernel⟩
def m_greater (a_one a_other : D) : Rs D := ((m_is_less a_one a_other).bind fun x0 => Rs.of (asB x0)).bind fun k => if k then Rs.of (tupleD [a_other]) else Rs.of (tupleD [a_one])
theorem k_greater (T : Txt K mg) : Keeps P w K mg base 4 (He.ga K "greater") T.fd_greater ["one", "other"] (fun ds => match ds with | [a_one, a_other] => m_greater a_one a_other | _ => Rs.no) :=
  keeps_ret T.F_greater sc_greater (fun cdv A outer s H E F ds hl hr => match ds, hl with | [a_one, a_other], _ => bi_as [some (.val a_one), some (.val a_other)] (bi_ret (ev_if (tv_val (ev_callC (L2N.takes_of rfl rfl rfl rfl) (k_is_less T) (hr.mono (by decide)) T.g_is_less T.F_is_less.kp T.b_is_less (ac_consV (ev_var (i := 0) (d := a_one) rfl (pv 0)) (ac_consV (ev_var (i := 1) (d := a_other) rfl (pv 1)) ac_nil)))) (ev_callTyC call_tuple_of tupleD_ok T.f_tuple boot_tuple (oc_consV (EV.o (ev_var (i := 1) (d := a_other) rfl (pv 1))) oc_nil)) (ev_callTyC call_tuple_of tupleD_ok T.f_tuple boot_tuple (oc_consV (EV.o (ev_var (i := 0) (d := a_one) rfl (pv 0))) oc_nil)))) rfl rfl)
end
end LW
set_option Elab.async false
set_option linter.all false
set_option maxRecDepth 100000
set_option autoImplicit false
set_option pp.maxSteps 400
set_option maxHeartbeats 8000000
namespace LW
open PySem PySem.Spec L2 VL
open PyProof.Rows hiding St
section
variable {P : Program} {w : World} {K : PySem.W.Frag} {mg : Str → Option Value} {base : Heap}
theorem sc_total : FnScope ["fractions", "found", "own"] ["fractions"] (defScope (top 16)) := ⟨rfl, rfl, rfl, by decide +kernel, rfl, by decide +kernel, by decide +kernel⟩
def m_total (a_fractions : D) : Rs D := (Rs.of (itemsD a_fractions)).bind fun l2 => (foldM (fun z0 d => (Rs.of (some d)).bind fun y1 => (m_plus z0 y1).bind fun d3 => Rs.ok d3) l2 ((.tup [.int 0, .int 1]) : D)).bind fun z0 => (Rs.ok z0)
theorem k_total (T : Txt K mg) : Keeps P w K mg base 8 (He.ga K "total") T.fd_total ["fractions"] (fun ds => match ds with | [a_fractions] => m_total a_fractions | _ => Rs.no) :=
  keeps_ret T.F_total sc_total (fun cdv A outer s H E F ds hl hr => match ds, hl with | [a_fractions], _ => bi_as [some (.val a_fractions), none, none] (bi_setV (as_ev (i := 1) sc_total.nd (ev_glob_tup T.c_NONE T.g_NONE)) (bi_for (post := fun (z0 : D) => [some (.val a_fractions), some (.val z0), none]) (z0 := ((.tup [.int 0, .int 1]) : D)) (passes_of rfl) rfl (it_seqV (ev_var (i := 0) (d := a_fractions) rfl (pv 0))) (Wk.keep (Wk.keep (Wk.drop Wk.nil))) (fun z0 => tt_name (i := 2) sc_total.nd) (fun z0 y1 => (bi_set (as_ev (i := 1) sc_total.nd (ev_callC (L2N.takes_of rfl rfl rfl rfl) (k_plus T) (hr.mono (by decide)) T.g_plus T.F_plus.kp T.b_plus (ac_consV (ev_var (i := 1) (d := z0) rfl (pv 1)) (ac_consV (ev_var (i := 2) (d := y1) rfl (pv 2)) ac_nil)))) (fun d3 => (bi_nil (z := d3) (Wk.keep (Wk.keep (Wk.drop Wk.nil))))))) (fun z0 => (bi_ret (ev_var (i := 1) (d := z0) rfl (pv 1)))))) rfl rfl)
end
end LW
set_option Elab.async false
set_option linter.all false
set_option maxRecDepth 100000
set_option autoImplicit false
set_option pp.maxSteps 400
set_option maxHeartbeats 8000000
namespace LW
open PySem PySem.Spec L2 VL
open PyProof.Rows hiding St
section
variable {P : Program} {w : World} {K : PySem.W.Frag} {mg : Str → Option Value} {base : Heap}
theorem sc_is_amount : FnScope ["thing"] ["thing"] (defScope (top 17)) := ⟨rfl, rfl, rfl, by decide +kernel, rfl, by decide +kernel, by decide +kernel⟩
def m_is_amount (a_thing : D) : Rs D := ((((Rs.of (isiD "tuple" a_thing)).bind fun x0 => Rs.of (asB x0)).bind fun k => Rs.ok (!k)).bind fun k => if k then Rs.ok true else ((Rs.of (lenD [a_thing])).bind fun x1 => Rs.of (neB x1 (.int 2))).bind fun k => if k then Rs.ok true else ((((Rs.of (idxD a_thing (.int 0))).bind fun x2 => m_is_count x2).bind fun x3 => Rs.of (asB x3)).bind fun k => Rs.ok (!k)).bind fun k => if k then Rs.ok true else (((Rs.of (idxD a_thing (.int 1))).bind fun x4 => m_is_number x4).bind fun x5 => Rs.of (asB x5)).bind fun k => Rs.ok (!k)).bind fun k => if k then (Rs.ok (.bl false)) else ((Rs.of (idxD a_thing (.int 1))).bind fun x6 => Rs.of (gtD x6 (.int 0))).bind fun x10 => (Rs.of (asB x10)).bind fun k => if k then ((Rs.of (idxD a_thing (.int 0))).bind fun x7 => (Rs.of (idxD a_thing (.int 1))).bind fun x8 => m_common_part x7 x8).bind fun x9 => Rs.of (eqD x9 (.int 1)) else Rs.ok (.bl false)
theorem k_is_amount (T : Txt K mg) : Keeps P w K mg base 6 (He.ga K "is_amount") T.fd_is_amount ["thing"] (fun ds => match ds with | [a_thing] => m_is_amount a_thing | _ => Rs.no) :=
  keeps_ret T.F_is_amount sc_is_amount (fun cdv A outer s H E F ds hl hr => match ds, hl with | [a_thing], _ => bi_as [some (.val a_thing)] (bi_ifr (TW.tv (tw_or (tv_not (tv_val (ev_isi T.f_isinstance T.f_tuple boot_tuple kitT_tuple (EV.o (ev_var (i := 0) (d := a_thing) rfl (pv 0)))))) (tw_or (tv_cmpR (op_neA hr.units) neD_ok neD_is (EV.o (ev_callBC call_len lenD_ok T.f_len boot_len (oc_consV (EV.o (ev_var (i := 0) (d := a_thing) rfl (pv 0))) oc_nil))) (EV.o (ev_glob_int T.c_PAIR)) (nomark _)) (tw_or (tv_not (tv_val (ev_callC (L2N.takes_of rfl rfl rfl rfl) (k_is_count T) (hr.mono (by decide)) T.g_is_count T.F_is_count.kp T.b_is_count (ac_cons (ev_ix2 ix_D idxD_ok (EV.o (ev_var (i := 0) (d := a_thing) rfl (pv 0))) (EV.o ev_int) (fun _ _ => rfl)) ac_nil)))) (tw_or1 (tv_not (tv_val (ev_callC (L2N.takes_of rfl rfl rfl rfl) (k_is_number T) (hr.mono (by decide)) T.g_is_number T.F_is_number.kp T.b_is_number (ac_cons (ev_ix2 ix_D idxD_ok (EV.o (ev_var (i := 0) (d := a_thing) rfl (pv 0))) (EV.o ev_int) (fun _ _ => rfl)) ac_nil))))))))) (bi_ret ev_bl) (bi_ret (ev_and (ev_cmpR (op_gtA hr.units) gtD_ok (EV.o (ev_ix2 ix_D idxD_ok (EV.o (ev_var (i := 0) (d := a_thing) rfl (pv 0))) (EV.o ev_int) (fun _ _ => rfl))) (EV.o ev_int) (nomark _)) (ev_one (ev_cmpR (op_eqA hr.units) eqD_ok (EV.o (ev_callC (L2N.takes_of rfl rfl rfl rfl) (k_common_part T) (hr.mono (by decide)) T.g_common_part T.F_common_part.kp T.b_common_part (ac_cons (ev_ix2 ix_D idxD_ok (EV.o (ev_var (i := 0) (d := a_thing) rfl (pv 0))) (EV.o ev_int) (fun _ _ => rfl)) (ac_cons (ev_ix2 ix_D idxD_ok (EV.o (ev_var (i := 0) (d := a_thing) rfl (pv 0))) (EV.o ev_int) (fun _ _ => rfl)) ac_nil)))) (EV.o ev_int) (nomark _)))))) rfl rfl)
end
end LW
set_option Elab.async false
set_option linter.all false
set_option maxRecDepth 100000
set_option autoImplicit false
set_option pp.maxSteps 400
set_option maxHeartbeats 8000000
namespace LW
open PySem PySem.Spec L2 VL
open PyProof.Rows hiding St
section
variable {P : Program} {w : World} {K : PySem.W.Frag} {mg : Str → Option Value} {base : Heap}
theorem sc_is_row_of : FnScope ["thing", "many", "part"] ["thing", "many"] (defScope (top 19)) := ⟨rfl, rfl, rfl, by decide +kernel, rfl, by decide +kernel, by decide +kernel⟩
def m_is_row_of (a_thing a_many : D) : Rs D := (Rs.of (isiD "tuple" a_thing)).bind fun x6 => (Rs.of (asB x6)).bind fun k => if k then ((Rs.of (lenD [a_thing])).bind fun x0 => Rs.of (eqD x0 a_many)).bind fun x5 => (Rs.of (asB x5)).bind fun k => if k then (((Rs.of (itemsD a_thing)).bind fun l2 => compM some (fun y1 => Rs.ok true) (fun y1 => m_is_amount y1) l2).bind fun l3 => Rs.ok (.lst l3)).bind fun x4 => Rs.of (allD [x4]) else Rs.ok (.bl false) else Rs.ok (.bl false)
theorem k_is_row_of (T : Txt K mg) : Keeps P w K mg base 8 (He.ga K "is_row_of") T.fd_is_row_of ["thing", "many"] (fun ds => match ds with | [a_thing, a_many] => m_is_row_of a_thing a_many | _ => Rs.no) :=
  keeps_ret T.F_is_row_of sc_is_row_of (fun cdv A outer s H E F ds hl hr => match ds, hl with | [a_thing, a_many], _ => bi_as [some (.val a_thing), some (.val a_many), none] (bi_ret (ev_and (ev_isi T.f_isinstance T.f_tuple boot_tuple kitT_tuple (EV.o (ev_var (i := 0) (d := a_thing) rfl (pv 0)))) (ev_and (ev_cmpR (op_eqA hr.units) eqD_ok (EV.o (ev_callBC call_len lenD_ok T.f_len boot_len (oc_consV (EV.o (ev_var (i := 0) (d := a_thing) rfl (pv 0))) oc_nil))) (EV.o (ev_var (i := 1) (d := a_many) rfl (pv 1))) (nomark _)) (ev_one (ev_callBC (cr_all rfl) allD_ok T.f_all boot_all (oc_cons (EV.o (EF.ev (ef_comp rfl sc_is_row_of.nd (it_seqV (ev_var (i := 0) (d := a_thing) rfl (pv 0))) (blkOk_by (own := [("part", 2)]) (by kernel_rfl)) (by decide) (fun _ _ _ _ _ => tt_name (i := 2) sc_is_row_of.nd) (fun _ _ _ _ _ y1 => tvs_nil) (fun _ _ _ _ _ y1 => (ev_callC takes0N (k_is_amount T) (hr.mono (by decide)) T.g_is_amount T.F_is_amount.kp T.b_is_amount (ac_consV (ev_var (i := 2) (d := y1) rfl (pv 2)) ac_nil)))))) oc_nil)))))) rfl rfl)
end
end LW
set_option Elab.async false
set_option linter.all false
set_option maxRecDepth 100000
set_option autoImplicit false
set_option pp.maxSteps 400
set_option maxHeartbeats 8000000
namespace LW
open PySem PySem.Spec L2 VL
open PyProof.Rows hiding St
section
variable {P : Program} {w : World} {K : PySem.W.Frag} {mg : Str → Option Value} {base : Heap}
theorem sc_are_weights : FnScope ["thing", "many"] ["thing", "many"] (defScope (top 20)) := ⟨rfl, rfl, rfl, by decide +kernel, rfl, by decide +kernel, by decide +kernel⟩
def m_are_weights (a_thing a_many : D) : Rs D := (m_is_row_of a_thing a_many).bind fun x1 => (Rs.of (asB x1)).bind fun k => if k then (m_total a_thing).bind fun x0 => Rs.of (eqD x0 (.tup [.int 1, .int 1])) else Rs.ok (.bl false)
theorem k_are_weights (T : Txt K mg) : Keeps P w K mg base 10 (He.ga K "are_weights") T.fd_are_weights ["thing", "many"] (fun ds => match ds with | [a_thing, a_many] => m_are_weights a_thing a_many | _ => Rs.no) :=
  keeps_ret T.F_are_weights sc_are_weights (fun cdv A outer s H E F ds hl hr => match ds, hl with | [a_thing, a_many], _ => bi_as [some (.val a_thing), some (.val a_many)] (bi_ret (ev_and (ev_callC (L2N.takes_of rfl rfl rfl rfl) (k_is_row_of T) (hr.mono (by decide)) T.g_is_row_of T.F_is_row_of.kp T.b_is_row_of (ac_consV (ev_var (i := 0) (d := a_thing) rfl (pv 0)) (ac_consV (ev_var (i := 1) (d := a_many) rfl (pv 1)) ac_nil))) (ev_one (ev_cmpR (op_eqA hr.units) eqD_ok (EV.o (ev_callC (L2N.takes_of rfl rfl rfl rfl) (k_total T) (hr.mono (by decide)) T.g_total T.F_total.kp T.b_total (ac_consV (ev_var (i := 0) (d := a_thing) rfl (pv 0)) ac_nil))) (EV.o (ev_glob_tup T.c_WHOLE T.g_WHOLE)) (nomark _))))) rfl rfl)
end
end LW
set_option Elab.async false
set_option linter.all false
set_option maxRecDepth 100000
set_option autoImplicit false
set_option pp.maxSteps 400
set_option maxHeartbeats 8000000
namespace LW
open PySem PySem.Spec L2 VL
open PyProof.Rows hiding St
section
variable {P : Program} {w : World} {K : PySem.W.Frag} {mg : Str → Option Value} {base : Heap}
theorem sc_common_bottom : FnScope ["fractions", "found", "top", "bottom"] ["fractions"] (defScope (top 21)) := ⟨rfl, rfl, rfl, by decide +kernel, rfl, by decide +kernel, by decide +kernel⟩
def m_common_bottom (a_fractions : D) : Rs D := (Rs.of (itemsD a_fractions)).bind fun l2 => (foldM (fun z0 d => (Rs.of (unL2 d)).bind fun y1 => ((Rs.of (mulD z0 y1.2)).bind fun x3 => (m_common_part z0 y1.2).bind fun x4 => Rs.of (fdivD x3 x4)).bind fun d5 => Rs.ok d5) l2 ((.int 1) : D)).bind fun z0 => (Rs.ok z0)
theorem k_common_bottom (T : Txt K mg) : Keeps P w K mg base 4 (He.ga K "common_bottom") T.fd_common_bottom ["fractions"] (fun ds => match ds with | [a_fractions] => m_common_bottom a_fractions | _ => Rs.no) :=
  keeps_ret T.F_common_bottom sc_common_bottom (fun cdv A outer s H E F ds hl hr => match ds, hl with | [a_fractions], _ => bi_as [some (.val a_fractions), none, none, none] (bi_setV (as_ev (i := 1) sc_common_bottom.nd ev_int) (bi_for (post := fun (z0 : D) => [some (.val a_fractions), some (.val z0), none, none]) (z0 := ((.int 1) : D)) (passes_of rfl) rfl (it_seqV (ev_var (i := 0) (d := a_fractions) rfl (pv 0))) (Wk.keep (Wk.keep (Wk.drop (Wk.drop Wk.nil)))) (fun z0 => tl_2 (i := 2) rfl (pg_name (i := 2) sc_common_bottom.nd rfl (by first | exact Or.inl rfl | exact Or.inr rfl)) (pg_name (i := 3) sc_common_bottom.nd rfl (by first | exact Or.inl rfl | exact Or.inr rfl))) (fun z0 y1 => (bi_set (as_ev (i := 1) sc_common_bottom.nd (ev_bin op_fdivB fdivD_ok (EV.o (ev_bin2 op_mulD mulD_ok (EV.o (ev_var (i := 1) (d := z0) rfl (pv 1))) (EV.o (ev_var (i := 3) (d := y1.2) rfl (pv 3))))) (EV.o (ev_callC (L2N.takes_of rfl rfl rfl rfl) (k_common_part T) (hr.mono (by decide)) T.g_common_part T.F_common_part.kp T.b_common_part (ac_consV (ev_var (i := 1) (d := z0) rfl (pv 1)) (ac_consV (ev_var (i := 3) (d := y1.2) rfl (pv 3)) ac_nil)))))) (fun d5 => (bi_nil (z := d5) (Wk.keep (Wk.keep (Wk.drop (Wk.drop Wk.nil)))))))) (fun z0 => (bi_ret (ev_var (i := 1) (d := z0) rfl (pv 1)))))) rfl rfl)
end
end LW
set_option Elab.async false
set_option linter.all false
set_option maxRecDepth 100000
set_option autoImplicit false
set_option pp.maxSteps 400
set_option maxHeartbeats 8000000
namespace LW
open PySem PySem.Spec L2 VL
open PyProof.Rows hiding St
section
variable {P : Program} {w : World} {K : PySem.W.Frag} {mg : Str → Option Value} {base : Heap}
theorem sc_entering : FnScope ["last", "names", "fine", "place"] ["last", "names"] (defScope (top 22)) := ⟨rfl, rfl, rfl, by decide +kernel, rfl, by decide +kernel, by decide +kernel⟩
def m_entering (a_last a_names : D) : Rs D := ((((Rs.of (lenD [a_names])).bind fun x0 => Rs.of (rangeD x0)).bind fun l4 => compM some (fun y1 => (Rs.of (idxD a_last y1)).bind fun x2 => Rs.of (ltB x2 (.int 0))) (fun y1 => (Rs.of (idxD a_names y1)).bind fun x3 => Rs.ok (.tup [x3, y1])) l4).bind fun l5 => Rs.ok (.lst l5)).bind fun d6 => ((Rs.of (lenD [d6])).bind fun x7 => Rs.of (gtB x7 (.int 0))).bind fun k => if k then (Rs.of (minP d6)).bind fun x8 => Rs.of (idxD x8 (.int 1)) else (Rs.ok .non)
theorem k_entering (T : Txt K mg) : Keeps P w K mg base 2 (He.ga K "entering") T.fd_entering ["last", "names"] (fun ds => match ds with | [a_last, a_names] => m_entering a_last a_names | _ => Rs.no) :=
  keeps_ret T.F_entering sc_entering (fun cdv A outer s H E F ds hl hr => match ds, hl with | [a_last, a_names], _ => bi_as [some (.val a_last), some (.val a_names), none, none] (bi_set (AF.as (af_comp (i := 2) rfl sc_entering.nd (it_range rfl T.f_range (ev_callBC call_len lenD_ok T.f_len boot_len (oc_consV (EV.o (ev_var (i := 1) (d := a_names) rfl (pv 1))) oc_nil))) (blkOk_by (own := [("place", 3)]) (by kernel_rfl)) (by decide) (fun _ _ _ _ _ => tt_name (i := 3) sc_entering.nd) (fun _ _ _ _ _ y1 => (tvs_one (tv_cmpR (op_ltA hr.units) ltD_ok ltD_is (EV.o (ev_ix2 ix_D idxD_ok (EV.o (ev_var (i := 0) (d := a_last) rfl (pv 0))) (EV.o (ev_var (i := 3) (d := y1) rfl (pv 3))) (fun _ _ => rfl))) (EV.o ev_int) (nomark _)))) (fun _ _ _ _ _ y1 => (ev_tupC (ac_cons (ev_ix2 ix_D idxD_ok (EV.o (ev_var (i := 1) (d := a_names) rfl (pv 1))) (EV.o (ev_var (i := 3) (d := y1) rfl (pv 3))) (fun _ _ => rfl)) (ac_consV (ev_var (i := 3) (d := y1) rfl (pv 3)) ac_nil)))))) (fun d6 => (bi_ret (ev_if (tv_cmpR (op_gtA hr.units) gtD_ok gtD_is (EV.o (ev_callBC call_len lenD_ok T.f_len boot_len (oc_consV (EV.o (ev_var (i := 2) (d := d6) rfl (pv 2))) oc_nil))) (EV.o ev_int) (nomark _)) (ev_ixR ix_D idxD_ok (EV.o (EV.to (Rs.of (minP d6)) (ev_minP rfl hr T.f_min (EV.o (ev_var (i := 2) (d := d6) rfl (pv 2)))) rfl)) (EV.o ev_int) (fun _ _ => rfl)) ev_non)))) rfl rfl)
end
end LW
set_option Elab.async false
set_option linter.all false
set_option maxRecDepth 100000
set_option autoImplicit false
set_option pp.maxSteps 400
set_option maxHeartbeats 8000000
namespace LW
open PySem PySem.Spec L2 VL
open PyProof.Rows hiding St
section
variable {P : Program} {w : World} {K : PySem.W.Frag} {mg : Str → Option Value} {base : Heap}
theorem sc_leaving : FnScope ["board", "names", "column", "best", "place", "row", "here"] ["board", "names", "column"] (defScope (top 23)) := ⟨rfl, rfl, rfl, by decide +kernel, rfl, by decide +kernel, by decide +kernel⟩
def m_leaving (a_board a_names a_column : D) : Rs D := ((((Rs.of (negD (.int 1))).bind fun x22 => Rs.of (asI x22)).bind fun i21 => Rs.of (sliceD a_board none i21)).bind fun x23 => Rs.of (enumD x23)).bind fun l2 => (foldM (fun z0 d => (Rs.of (un2 d)).bind fun y1 => ((Rs.of (idxD y1.2 a_column)).bind fun x3 => Rs.of (gtB x3 (.int 0))).bind fun k => if k then (((Rs.of (negD (.int 1))).bind fun x4 => Rs.of (idxD y1.2 x4)).bind fun x5 => (Rs.of (idxD y1.2 a_column)).bind fun x6 => Rs.ok (.tup [x5, x6])).bind fun d7 => ((Rs.of (isNB z0 .non)).bind fun k => if k then Rs.ok true else (((Rs.of (idxD d7 (.int 0))).bind fun x9 => ((Rs.of (idxD z0 (.int 0))).bind fun x8 => Rs.of (idxD x8 (.int 1))).bind fun x10 => Rs.of (mulD x9 x10)).bind fun x11 => (Rs.of (idxD a_names y1.1)).bind fun x12 => Rs.ok (.tup [x11, x12])).bind fun x19 => ((((Rs.of (idxD z0 (.int 0))).bind fun x13 => Rs.of (idxD x13 (.int 0))).bind fun x14 => (Rs.of (idxD d7 (.int 1))).bind fun x15 => Rs.of (mulD x14 x15)).bind fun x17 => ((Rs.of (idxD z0 (.int 1))).bind fun x16 => Rs.of (idxD a_names x16)).bind fun x18 => Rs.ok (.tup [x17, x18])).bind fun x20 => Rs.of (ltB x19 x20)).bind fun k => if k then Rs.ok ((.tup [d7, y1.1]) : D) else Rs.ok z0 else Rs.ok z0) l2 (.non : D)).bind fun z0 => Rs.of (idxD z0 (.int 1))
theorem k_leaving (T : Txt K mg) : Keeps P w K mg base 2 (He.ga K "leaving") T.fd_leaving ["board", "names", "column"] (fun ds => match ds with | [a_board, a_names, a_column] => m_leaving a_board a_names a_column | _ => Rs.no) :=
  keeps_ret T.F_leaving sc_leaving (fun cdv A outer s H E F ds hl hr => match ds, hl with | [a_board, a_names, a_column], _ => bi_as [some (.val a_board), some (.val a_names), some (.val a_column), none, none, none, none] (bi_at [some (.val a_board), some (.val a_names), some (.val a_column), none, none, none, none] (bi_setV (as_ev (i := 3) sc_leaving.nd ev_non) (bi_at [some (.val a_board), some (.val a_names), some (.val a_column), some (.val .non), none, none, none] (bi_for (post := fun (z0 : D) => [some (.val a_board), some (.val a_names), some (.val a_column), some (.val z0), none, none, none]) (z0 := (.non : D)) (passes_of rfl) rfl (it_enum rfl T.f_enumerate (EV.to (((Rs.of (negD (.int 1))).bind fun x22 => Rs.of (asI x22)).bind fun i21 => Rs.of (sliceD a_board none i21)) (ev_slice (EV.o (ev_var (i := 0) (d := a_board) rfl (pv 0))) pv_none (pv_some (ev_un un_neg negD_ok (EV.o ev_int)))) rfl)) (Wk.keep (Wk.keep (Wk.keep (Wk.keep (Wk.drop (Wk.drop (Wk.drop Wk.nil))))))) (fun z0 => tt_2 (i := 4) rfl (pg_name (i := 4) sc_leaving.nd rfl (by first | exact Or.inl rfl | exact Or.inr rfl)) (pg_name (i := 5) sc_leaving.nd rfl (by first | exact Or.inl rfl | exact Or.inr rfl))) (fun z0 y1 => (bi_at [some (.val a_board), some (.val a_names), some (.val a_column), some (.val z0), some (.val y1.1), some (.val y1.2), none] (bi_if2 (tv_cmpR (op_gtA hr.units) gtD_ok gtD_is (EV.o (ev_ix2 ix_D idxD_ok (EV.o (ev_var (i := 5) (d := y1.2) rfl (pv 5))) (EV.o (ev_var (i := 2) (d := a_column) rfl (pv 2))) (fun _ _ => rfl))) (EV.o ev_int) (nomark _)) (bi_at [some (.val a_board), some (.val a_names), some (.val a_column), some (.val z0), some (.val y1.1), some (.val y1.2), none] (bi_set (as_ev (i := 6) sc_leaving.nd (ev_tupC (ac_cons (ev_ixL ix_D idxD_ok (EV.o (ev_var (i := 5) (d := y1.2) rfl (pv 5))) (EV.o (ev_un un_neg negD_ok (EV.o ev_int))) (fun _ _ => rfl)) (ac_cons (ev_ix2 ix_D idxD_ok (EV.o (ev_var (i := 5) (d := y1.2) rfl (pv 5))) (EV.o (ev_var (i := 2) (d := a_column) rfl (pv 2))) (fun _ _ => rfl)) ac_nil)))) (fun d7 => (bi_at [some (.val a_board), some (.val a_names), some (.val a_column), some (.val z0), some (.val y1.1), some (.val y1.2), some (.val d7)] (bi_if2 (TW.tv (tw_or (tv_cmp2 op_isN isND_ok isND_is (EV.o (ev_var (i := 3) (d := z0) rfl (pv 3))) (EV.o ev_non) (nomark _)) (tw_or1 (tv_cmp (op_ltA hr.units) ltD_ok ltD_is (EV.o (ev_tupC (ac_cons (ev_bin op_mulD mulD_ok (EV.o (ev_ix2 ix_D idxD_ok (EV.o (ev_var (i := 6) (d := d7) rfl (pv 6))) (EV.o ev_int) (fun _ _ => rfl))) (EV.o (ev_ixR ix_D idxD_ok (EV.o (ev_ix2 ix_D idxD_ok (EV.o (ev_var (i := 3) (d := z0) rfl (pv 3))) (EV.o ev_int) (fun _ _ => rfl))) (EV.o ev_int) (fun _ _ => rfl)))) (ac_cons (ev_ix2 ix_D idxD_ok (EV.o (ev_var (i := 1) (d := a_names) rfl (pv 1))) (EV.o (ev_var (i := 4) (d := y1.1) rfl (pv 4))) (fun _ _ => rfl)) ac_nil)))) (EV.o (ev_tupC (ac_cons (ev_bin op_mulD mulD_ok (EV.o (ev_ixR ix_D idxD_ok (EV.o (ev_ix2 ix_D idxD_ok (EV.o (ev_var (i := 3) (d := z0) rfl (pv 3))) (EV.o ev_int) (fun _ _ => rfl))) (EV.o ev_int) (fun _ _ => rfl))) (EV.o (ev_ix2 ix_D idxD_ok (EV.o (ev_var (i := 6) (d := d7) rfl (pv 6))) (EV.o ev_int) (fun _ _ => rfl)))) (ac_cons (ev_ixL ix_D idxD_ok (EV.o (ev_var (i := 1) (d := a_names) rfl (pv 1))) (EV.o (ev_ix2 ix_D idxD_ok (EV.o (ev_var (i := 3) (d := z0) rfl (pv 3))) (EV.o ev_int) (fun _ _ => rfl))) (fun _ _ => rfl)) ac_nil)))) (nomark _))))) (bi_at [some (.val a_board), some (.val a_names), some (.val a_column), some (.val z0), some (.val y1.1), some (.val y1.2), some (.val d7)] (bi_setV (as_ev (i := 3) sc_leaving.nd (ev_tupC (ac_consV (ev_var (i := 6) (d := d7) rfl (pv 6)) (ac_consV (ev_var (i := 4) (d := y1.1) rfl (pv 4)) ac_nil)))) (bi_nil (z := ((.tup [d7, y1.1]) : D)) (Wk.keep (Wk.keep (Wk.keep (Wk.keep (Wk.drop (Wk.drop (Wk.drop Wk.nil)))))))))) (bi_nil (z := z0) (Wk.keep (Wk.keep (Wk.keep (Wk.keep (Wk.drop (Wk.drop (Wk.drop Wk.nil))))))))))))) (bi_nil (z := z0) (Wk.keep (Wk.keep (Wk.keep (Wk.keep (Wk.drop (Wk.drop (Wk.drop Wk.nil))))))))))) (fun z0 => (bi_at [some (.val a_board), some (.val a_names), some (.val a_column), some (.val z0), none, none, none] (bi_ret (ev_ix2 ix_D idxD_ok (EV.o (ev_var (i := 3) (d := z0) rfl (pv 3))) (EV.o ev_int) (fun _ _ => rfl))))))))) rfl rfl)
end
end LW
set_option Elab.async false
set_option linter.all false
set_option maxRecDepth 100000
set_option autoImplicit false
set_option pp.maxSteps 400
set_option maxHeartbeats 8000000
namespace LW
open PySem PySem.Spec L2 VL
open PyProof.Rows hiding St
section
variable {P : Program} {w : World} {K : PySem.W.Frag} {mg : Str → Option Value} {base : Heap}
theorem sc_pivoted : FnScope ["board", "unit", "row", "column", "pivot", "later", "place", "own", "far", "part", "line"] ["board", "unit", "row", "column"] (defScope (top 24)) := ⟨rfl, rfl, rfl, by decide +kernel, rfl, by decide +kernel, by decide +kernel⟩
def m_pivoted (a_board a_unit a_row a_column : D) : Rs D := ((Rs.of (idxD a_board a_row)).bind fun x2 => Rs.of (idxD x2 a_column)).bind fun d0 => (Rs.ok []).bind fun d1 => (Rs.of (enumD a_board)).bind fun l5 => (loopM (β := Unit) (fun z3 d => (Rs.of (un2 d)).bind fun y4 => (Rs.of (eqB y4.1 a_row)).bind fun k => if k then liftF ((((Rs.of (enumD y4.2)).bind fun l7 => compM un2 (fun y6 => Rs.ok true) (fun y6 => (Rs.of (eqB y6.1 a_column)).bind fun k => if k then (Rs.ok a_unit) else (Rs.ok y6.2)) l7).bind fun l8 => Rs.ok (.lst l8)).bind fun x10 => (Rs.of (appL z3 x10)).bind fun l9 => Rs.ok (.ct l9)) else ((Rs.of (enumD y4.2)).bind fun l18 => compM un2 (fun y11 => Rs.ok true) (fun y11 => ((Rs.of (mulD y11.2 d0)).bind fun x15 => ((Rs.of (idxD y4.2 a_column)).bind fun x13 => ((Rs.of (idxD a_board a_row)).bind fun x12 => Rs.of (idxD x12 y11.1)).bind fun x14 => Rs.of (mulD x13 x14)).bind fun x16 => Rs.of (subD x15 x16)).bind fun x17 => Rs.of (fdivD x17 a_unit)) l18).bind fun l19 => ((Rs.of (idxD y4.2 a_column)).bind fun x20 => Rs.of (negD x20)).bind fun x23 => (Rs.of (setL l19 a_column x23)).bind fun l21 => (Rs.of (appL z3 (.lst l21))).bind fun l22 => Rs.ok (.nx l22)) l5 d1).bind (Fl.toX fun z3 => (Rs.ok (.lst z3)))
theorem k_pivoted (T : Txt K mg) : Keeps P w K mg base 2 (He.ga K "pivoted") T.fd_pivoted ["board", "unit", "row", "column"] (fun ds => match ds with | [a_board, a_unit, a_row, a_column] => m_pivoted a_board a_unit a_row a_column | _ => Rs.no) :=
  keeps_ret T.F_pivoted sc_pivoted (fun cdv A outer s H E F ds hl hr => match ds, hl with | [a_board, a_unit, a_row, a_column], _ => bi_as [some (.val a_board), some (.val a_unit), some (.val a_row), some (.val a_column), none, none, none, none, none, none, none] (bi_at [some (.val a_board), some (.val a_unit), some (.val a_row), some (.val a_column), none, none, none, none, none, none, none] (bi_dsp2 (i1 := 4) (i2 := 5) rfl (pg_name (i := 4) sc_pivoted.nd rfl (by first | exact Or.inl rfl | exact Or.inr rfl)) (pg_name (i := 5) sc_pivoted.nd rfl (by first | exact Or.inl rfl | exact Or.inr rfl)) (EV.ec (ev_ixR ix_D idxD_ok (EV.o (ev_ix2 ix_D idxD_ok (EV.o (ev_var (i := 0) (d := a_board) rfl (pv 0))) (EV.o (ev_var (i := 2) (d := a_row) rfl (pv 2))) (fun _ _ => rfl))) (EV.o (ev_var (i := 3) (d := a_column) rfl (pv 3))) (fun _ _ => rfl))) (EF.ec (ef_lstC ac_nil)) (fun d0 d1 => (bi_at [some (.val a_board), some (.val a_unit), some (.val a_row), some (.val a_column), some (.val d0), some (.own true (.lst d1)), none, none, none, none, none] (bi_forX (post := fun (z3 : List D) => [some (.val a_board), some (.val a_unit), some (.val a_row), some (.val a_column), some (.val d0), some (.own true (.lst z3)), none, none, none, none, none]) (z0 := d1) (passes_of rfl) rfl rfl (it_enum rfl T.f_enumerate (ev_var (i := 0) (d := a_board) rfl (pv 0))) (Wk.keep (Wk.keep (Wk.keep (Wk.keep (Wk.keep (Wk.keep (Wk.drop (Wk.drop (Wk.drop (Wk.drop (Wk.drop Wk.nil))))))))))) (fun z3 => tt_2 (i := 6) rfl (pg_name (i := 6) sc_pivoted.nd rfl (by first | exact Or.inl rfl | exact Or.inr rfl)) (pg_name (i := 7) sc_pivoted.nd rfl (by first | exact Or.inl rfl | exact Or.inr rfl))) (fun z3 y4 => (bk_ifr (tv_cmp2 (op_eqA hr.units) eqD_ok eqD_is (EV.o (ev_var (i := 6) (d := y4.1) rfl (pv 6))) (EV.o (ev_var (i := 2) (d := a_row) rfl (pv 2))) (nomark _)) (bk_append (i := 5) (c := z3) (pv 5) (EF.ev (ef_comp rfl sc_pivoted.nd (it_enum rfl T.f_enumerate (ev_var (i := 7) (d := y4.2) rfl (pv 7))) (blkOk_by (own := [("far", 8), ("part", 9)]) (by kernel_rfl)) (by decide) (fun _ _ _ _ _ => tt_2 (i := 8) rfl (pg_name (i := 8) sc_pivoted.nd rfl (by first | exact Or.inl rfl | exact Or.inr rfl)) (pg_name (i := 9) sc_pivoted.nd rfl (by first | exact Or.inl rfl | exact Or.inr rfl))) (fun _ _ _ _ _ y6 => tvs_nil) (fun _ _ _ _ _ y6 => (ev_if (tv_cmp2 (op_eqA hr.units) eqD_ok eqD_is (EV.o (ev_var (i := 8) (d := y6.1) rfl (pv 8))) (EV.o (ev_var (i := 3) (d := a_column) rfl (pv 3))) (nomark _)) (ev_var (i := 1) (d := a_unit) rfl (pv 1)) (ev_var (i := 9) (d := y6.2) rfl (pv 9)))))) (fun l9 => (bk_cnt (y := l9) (Wk.keep (Wk.keep (Wk.keep (Wk.keep (Wk.keep (Wk.keep (Wk.drop (Wk.drop (Wk.drop (Wk.drop (Wk.drop Wk.nil)))))))))))))) (bk_own (af_comp (i := 10) rfl sc_pivoted.nd (it_enum rfl T.f_enumerate (ev_var (i := 7) (d := y4.2) rfl (pv 7))) (blkOk_by (own := [("far", 8), ("part", 9)]) (by kernel_rfl)) (by decide) (fun _ _ _ _ _ => tt_2 (i := 8) rfl (pg_name (i := 8) sc_pivoted.nd rfl (by first | exact Or.inl rfl | exact Or.inr rfl)) (pg_name (i := 9) sc_pivoted.nd rfl (by first | exact Or.inl rfl | exact Or.inr rfl))) (fun _ _ _ _ _ y11 => tvs_nil) (fun _ _ _ _ _ y11 => (ev_binR op_fdivB fdivD_ok (EV.o (ev_bin op_sub subD_ok (EV.o (ev_bin2 op_mulD mulD_ok (EV.o (ev_var (i := 9) (d := y11.2) rfl (pv 9))) (EV.o (ev_var (i := 4) (d := d0) rfl (pv 4))))) (EV.o (ev_bin op_mulD mulD_ok (EV.o (ev_ix2 ix_D idxD_ok (EV.o (ev_var (i := 7) (d := y4.2) rfl (pv 7))) (EV.o (ev_var (i := 3) (d := a_column) rfl (pv 3))) (fun _ _ => rfl))) (EV.o (ev_ixR ix_D idxD_ok (EV.o (ev_ix2 ix_D idxD_ok (EV.o (ev_var (i := 0) (d := a_board) rfl (pv 0))) (EV.o (ev_var (i := 2) (d := a_row) rfl (pv 2))) (fun _ _ => rfl))) (EV.o (ev_var (i := 8) (d := y11.1) rfl (pv 8))) (fun _ _ => rfl))))))) (EV.o (ev_var (i := 1) (d := a_unit) rfl (pv 1)))))) (fun l19 => (bk_setix (i := 10) (c := l19) (pv 10) (ev_un un_neg negD_ok (EV.o (ev_ix2 ix_D idxD_ok (EV.o (ev_var (i := 7) (d := y4.2) rfl (pv 7))) (EV.o (ev_var (i := 3) (d := a_column) rfl (pv 3))) (fun _ _ => rfl)))) (ev_var (i := 3) (d := a_column) rfl (pv 3)) (fun l21 => (bk_frz (i := 10) rfl (bk_append (i := 5) (c := z3) (pv 5) (ev_var (i := 10) (d := (.lst l21)) rfl (pv 10)) (fun l22 => (bk_nil (z := l22) (Wk.keep (Wk.keep (Wk.keep (Wk.keep (Wk.keep (Wk.keep (Wk.drop (Wk.drop (Wk.drop (Wk.drop (Wk.drop Wk.nil))))))))))))))))))))) (fun z3 => (bi_frz 5 (bi_at [some (.val a_board), some (.val a_unit), some (.val a_row), some (.val a_column), some (.val d0), some (.val (.lst z3)), none, none, none, none, none] (bi_ret (ev_var (i := 5) (d := (.lst z3)) rfl (pv 5))))))))))) rfl rfl)
end
end LW
set_option Elab.async false
set_option linter.all false
set_option maxRecDepth 100000
set_option autoImplicit false
set_option pp.maxSteps 400
set_option maxHeartbeats 8000000
namespace LW
open PySem PySem.Spec L2 VL
open PyProof.Rows hiding St
section
variable {P : Program} {w : World} {K : PySem.W.Frag} {mg : Str → Option Value} {base : Heap}
theorem sc_shares : FnScope ["numbers", "number"] ["numbers"] (defScope (top 26)) := ⟨rfl, rfl, rfl, by decide +kernel, rfl, by decide +kernel, by decide +kernel⟩
def m_shares (a_numbers : D) : Rs D := (((Rs.of (itemsD a_numbers)).bind fun l2 => compM some (fun y0 => Rs.ok true) (fun y0 => (Rs.of (sumD [a_numbers])).bind fun x1 => m_fraction y0 x1) l2).bind fun l3 => Rs.ok (.lst l3)).bind fun x4 => Rs.of (tupleD [x4])
theorem k_shares (T : Txt K mg) : Keeps P w K mg base 6 (He.ga K "shares") T.fd_shares ["numbers"] (fun ds => match ds with | [a_numbers] => m_shares a_numbers | _ => Rs.no) :=
  keeps_ret T.F_shares sc_shares (fun cdv A outer s H E F ds hl hr => match ds, hl with | [a_numbers], _ => bi_as [some (.val a_numbers), none] (bi_ret (ev_callTyC call_tuple_of tupleD_ok T.f_tuple boot_tuple (oc_cons (EV.o (EF.ev (ef_comp rfl sc_shares.nd (it_seqV (ev_var (i := 0) (d := a_numbers) rfl (pv 0))) (blkOk_by (own := [("number", 1)]) (by kernel_rfl)) (by decide) (fun _ _ _ _ _ => tt_name (i := 1) sc_shares.nd) (fun _ _ _ _ _ y0 => tvs_nil) (fun _ _ _ _ _ y0 => (ev_callC takes0N (k_fraction T) (hr.mono (by decide)) T.g_fraction T.F_fraction.kp T.b_fraction (ac_consV (ev_var (i := 1) (d := y0) rfl (pv 1)) (ac_cons (ev_callBC (call_sumA rfl) sumD_ok T.f_sum boot_sum (oc_consV (EV.o (ev_var (i := 0) (d := a_numbers) rfl (pv 0))) oc_nil)) ac_nil))))))) oc_nil))) rfl rfl)
end
end LW
set_option Elab.async false
set_option linter.all false
set_option maxRecDepth 100000
set_option autoImplicit false
set_option pp.maxSteps 400
set_option maxHeartbeats 8000000
namespace LW
open PySem PySem.Spec L2 VL
open PyProof.Rows hiding St
section
variable {P : Program} {w : World} {K : PySem.W.Frag} {mg : Str → Option Value} {base : Heap}
theorem sc_best_mixture : FnScope ["rows", "own", "many", "wide", "bottom", "row", "part", "board", "r", "c", "unit", "under", "across", "column", "pivot", "parts", "prices", "place", "name", "value"] ["rows"] (defScope (top 25)) := ⟨rfl, rfl, rfl, by decide +kernel, rfl, by decide +kernel, by decide +kernel⟩
def m_best_mixture (a_rows : D) : Rs D := (m_tupled 14 a_rows).bind fun d0 => ((Rs.of (lenD [d0])).bind fun x3 => ((Rs.of (idxD d0 (.int 0))).bind fun x2 => Rs.of (lenD [x2])).bind fun x4 => Rs.ok (.tup [x3, x4])).bind fun x79 => (Rs.of (unL2 x79)).bind fun z1 => ((((Rs.of (itemsD d0)).bind fun l7 => (compI some (fun y5 => Rs.ok true) (fun y5 => (Rs.of (itemsD y5)).bind fun l8 => compM some (fun y6 => Rs.ok true) (fun y6 => (Rs.ok y6)) l8) l7).bind fun l9 => Rs.of (lenR l9)).bind fun l10 => Rs.ok (.lst l10)).bind fun x11 => m_common_bottom x11).bind fun d12 => ((Rs.of (rangeD z1.2)).bind fun l26 => compM some (fun y13 => Rs.ok true) (fun y13 => (((Rs.of (rangeD z1.1)).bind fun l23 => compM some (fun y14 => Rs.ok true) (fun y14 => ((((Rs.of (idxD d0 y14)).bind fun x15 => Rs.of (idxD x15 y13)).bind fun x16 => Rs.of (idxD x16 (.int 0))).bind fun x20 => ((((Rs.of (idxD d0 y14)).bind fun x17 => Rs.of (idxD x17 y13)).bind fun x18 => Rs.of (idxD x18 (.int 1))).bind fun x19 => Rs.of (fdivD d12 x19)).bind fun x21 => Rs.of (mulD x20 x21)).bind fun x22 => Rs.of (addD x22 d12)) l23).bind fun l24 => Rs.ok (.lst l24)).bind fun x25 => Rs.of (addD x25 (.lst [d12]))) l26).bind fun l27 => ((((Rs.of (negD (.int 1))).bind fun x28 => Rs.ok (.lst [x28])).bind fun x29 => Rs.of (mulD x29 z1.1)).bind fun x30 => Rs.of (addD x30 (.lst [(.int 0)]))).bind fun x78 => (Rs.of (appL l27 x78)).bind fun l31 => ((Rs.ok (.int 1))).bind fun d32 => ((Rs.of (addD z1.1 z1.2)).bind fun x35 => Rs.of (rangeD2 z1.1 x35)).bind fun d33 => (Rs.of (rangeD z1.1)).bind fun d34 => (((Rs.of (negD (.int 1))).bind fun x36 => Rs.of (idxD (.lst l31) x36)).bind fun x37 => (m_entering x37 (.lst d34)).noX.bind fun d => Rs.of (lentD d)).bind fun d38 => (whileN (fun z39 => Rs.of (notNB z39.2.2.2.2 .non)) (fun z39 => ((m_leaving z39.1 (.lst z39.2.2.1) z39.2.2.2.2).noX.bind fun d => Rs.of (lentD d)).bind fun d40 => ((Rs.of (idxD z39.1 d40)).bind fun x41 => Rs.of (idxD x41 z39.2.2.2.2)).bind fun d42 => (m_pivoted z39.1 z39.2.1 d40 z39.2.2.2.2).bind fun d43 => ((Rs.ok d42)).bind fun y50 => (Rs.of (idxD (.lst z39.2.2.2.1) z39.2.2.2.2)).bind fun y51 => (Rs.of (idxD (.lst z39.2.2.1) d40)).bind fun y52 => (Rs.of (setL z39.2.2.1 d40 y51)).bind fun l45 => (Rs.of (setL z39.2.2.2.1 z39.2.2.2.2 y52)).bind fun l46 => (((Rs.of (negD (.int 1))).bind fun x47 => Rs.of (idxD d43 x47)).bind fun x48 => (m_entering x48 (.lst l46)).noX.bind fun d => Rs.of (lentD d)).bind fun d49 => Rs.ok (d43, y50, l45, l46, d49)) FUEL (((.lst l31) : D), d32, d33, d34, d38)).bind fun z39 => (Rs.of (repL (.lst [(.int 0)]) z1.1)).bind fun d53 => (Rs.of (repL (.lst [(.int 0)]) z1.2)).bind fun d54 => (Rs.of (enumD (.lst z39.2.2.1))).bind fun l57 => (foldM (fun z55 d => (Rs.of (un2 d)).bind fun y56 => (Rs.of (ltB y56.2 z1.1)).bind fun k => if k then ((Rs.of (idxD z39.1 y56.1)).bind fun x58 => (Rs.of (negD (.int 1))).bind fun x59 => Rs.of (idxD x58 x59)).bind fun x61 => (Rs.of (setL z55 y56.2 x61)).bind fun l60 => Rs.ok l60 else Rs.ok z55) l57 d53).bind fun z55 => (Rs.of (enumD (.lst z39.2.2.2.1))).bind fun l64 => (foldM (fun z62 d => (Rs.of (un2 d)).bind fun y63 => (Rs.of (geB y63.2 z1.1)).bind fun k => if k then (((Rs.of (negD (.int 1))).bind fun x65 => Rs.of (idxD z39.1 x65)).bind fun x66 => Rs.of (idxD x66 y63.1)).bind fun x68 => (Rs.of (subD y63.2 z1.1)).bind fun x69 => (Rs.of (setL z62 x69 x68)).bind fun l67 => Rs.ok l67 else Rs.ok z62) l64 d54).bind fun z62 => (((((Rs.of (negD (.int 1))).bind fun x70 => Rs.of (idxD z39.1 x70)).bind fun x71 => (Rs.of (negD (.int 1))).bind fun x72 => Rs.of (idxD x71 x72)).bind fun x73 => m_fraction z39.2.1 x73).bind fun x74 => m_minus x74 (.tup [.int 1, .int 1])).bind fun d75 => (m_shares (.lst z62)).bind fun x76 => (m_shares (.lst z55)).bind fun x77 => Rs.ok (.tup [d75, x76, x77])
theorem k_best_mixture (T : Txt K mg) : Keeps P w K mg base 18 (He.ga K "best_mixture") T.fd_best_mixture ["rows"] (fun ds => match ds with | [a_rows] => m_best_mixture a_rows | _ => Rs.no) :=
  keeps_ret T.F_best_mixture sc_best_mixture (fun cdv A outer s H E F ds hl hr => match ds, hl with | [a_rows], _ => bi_as [some (.val a_rows), none, none, none, none, none, none, none, none, none, none, none, none, none, none, none, none, none, none, none] (bi_at [some (.val a_rows), none, none, none, none, none, none, none, none, none, none, none, none, none, none, none, none, none, none, none] (bi_set (as_ev (i := 1) sc_best_mixture.nd (ev_callC (L2N.takes_of rfl rfl rfl rfl) (k_tupled T 14) (hr.mono (by decide)) T.g_tupled T.F_tupled.kp T.b_tupled (ac_consV (ev_var (i := 0) (d := a_rows) rfl (pv 0)) ac_nil))) (fun d0 => (bi_at [some (.val a_rows), some (.val d0), none, none, none, none, none, none, none, none, none, none, none, none, none, none, none, none, none, none] (bi_unp (ev_tupC (ac_cons (ev_callBC call_len lenD_ok T.f_len boot_len (oc_consV (EV.o (ev_var (i := 1) (d := d0) rfl (pv 1))) oc_nil)) (ac_cons (ev_callBC call_len lenD_ok T.f_len boot_len (oc_cons (EV.o (ev_ix2 ix_D idxD_ok (EV.o (ev_var (i := 1) (d := d0) rfl (pv 1))) (EV.o ev_int) (fun _ _ => rfl))) oc_nil)) ac_nil))) (tl_2 rfl (pg_name (i := 2) sc_best_mixture.nd rfl (by first | exact Or.inl rfl | exact Or.inr rfl)) (pg_name (i := 3) sc_best_mixture.nd rfl (by first | exact Or.inl rfl | exact Or.inr rfl))) (fun z1 => (bi_at [some (.val a_rows), some (.val d0), some (.val z1.1), some (.val z1.2), none, none, none, none, none, none, none, none, none, none, none, none, none, none, none, none] (bi_set (as_ev (i := 4) sc_best_mixture.nd (ev_callC (L2N.takes_of rfl rfl rfl rfl) (k_common_bottom T) (hr.mono (by decide)) T.g_common_bottom T.F_common_bottom.kp T.b_common_bottom (ac_cons (EF.ev (ef_comp2 rfl sc_best_mixture.nd (it_seqV (ev_var (i := 1) (d := d0) rfl (pv 1))) (blkOk_by (own := [("row", 5), ("part", 6)]) (by kernel_rfl)) (by decide) (by decide) (fun _ _ _ _ _ => tt_name (i := 5) sc_best_mixture.nd) (fun _ _ _ _ _ y5 => tvs_nil) (fun _ _ _ _ _ y5 => (it_seqV (ev_var (i := 5) (d := y5) rfl (pv 5)))) (fun _ _ _ _ _ y5 => tt_name (i := 6) sc_best_mixture.nd) (fun _ _ _ _ _ y5 y6 => tvs_nil) (fun _ _ _ _ _ y5 y6 => (ev_var (i := 6) (d := y6) rfl (pv 6))) (fun y5 => (OwnB.val OwnB.wipe)))) ac_nil))) (fun d12 => (bi_at [some (.val a_rows), some (.val d0), some (.val z1.1), some (.val z1.2), some (.val d12), none, none, none, none, none, none, none, none, none, none, none, none, none, none, none] (bi_own (af_comp (i := 7) rfl sc_best_mixture.nd (it_range rfl T.f_range (ev_var (i := 3) (d := z1.2) rfl (pv 3))) (blkOk_by (own := [("c", 9)]) (by kernel_rfl)) (by decide) (fun _ _ _ _ _ => tt_name (i := 9) sc_best_mixture.nd) (fun _ _ _ _ _ y13 => tvs_nil) (fun _ _ _ _ _ y13 => (ev_binR op_addD addD_ok (EV.o (EF.ev (ef_comp rfl sc_best_mixture.nd (it_range rfl T.f_range (ev_var (i := 2) (d := z1.1) rfl (pv 2))) (blkOk_by (own := [("r", 8)]) (by kernel_rfl)) (by decide) (fun _ _ _ _ _ => tt_name (i := 8) sc_best_mixture.nd) (fun _ _ _ _ _ y14 => tvs_nil) (fun _ _ _ _ _ y14 => (ev_binR op_addD addD_ok (EV.o (ev_bin op_mulD mulD_ok (EV.o (ev_ixR ix_D idxD_ok (EV.o (ev_ixR ix_D idxD_ok (EV.o (ev_ix2 ix_D idxD_ok (EV.o (ev_var (i := 1) (d := d0) rfl (pv 1))) (EV.o (ev_var (i := 8) (d := y14) rfl (pv 8))) (fun _ _ => rfl))) (EV.o (ev_var (i := 9) (d := y13) rfl (pv 9))) (fun _ _ => rfl))) (EV.o ev_int) (fun _ _ => rfl))) (EV.o (ev_binL op_fdivB fdivD_ok (EV.o (ev_var (i := 4) (d := d12) rfl (pv 4))) (EV.o (ev_ixR ix_D idxD_ok (EV.o (ev_ixR ix_D idxD_ok (EV.o (ev_ix2 ix_D idxD_ok (EV.o (ev_var (i := 1) (d := d0) rfl (pv 1))) (EV.o (ev_var (i := 8) (d := y14) rfl (pv 8))) (fun _ _ => rfl))) (EV.o (ev_var (i := 9) (d := y13) rfl (pv 9))) (fun _ _ => rfl))) (EV.o ev_int) (fun _ _ => rfl))))))) (EV.o (ev_var (i := 4) (d := d12) rfl (pv 4)))))))) (EV.o (ev_lstC (ac_consV (ev_var (i := 4) (d := d12) rfl (pv 4)) ac_nil)))))) (fun l27 => (bi_at [some (.val a_rows), some (.val d0), some (.val z1.1), some (.val z1.2), some (.val d12), none, none, some (.own true (.lst l27)), none, none, none, none, none, none, none, none, none, none, none, none] (bi_append (i := 7) (c := l27) (pv 7) (ev_binR op_addD addD_ok (EV.o (ev_binR op_mulD mulD_ok (EV.o (ev_lstC (ac_cons (ev_un un_neg negD_ok (EV.o ev_int)) ac_nil))) (EV.o (ev_var (i := 2) (d := z1.1) rfl (pv 2))))) (EV.o (ev_lstC (ac_consV ev_int ac_nil)))) (fun l31 => (bi_frz 7 (bi_at [some (.val a_rows), some (.val d0), some (.val z1.1), some (.val z1.2), some (.val d12), none, none, some (.val (.lst l31)), none, none, none, none, none, none, none, none, none, none, none, none] (bi_pard3 (i1 := 10) (i2 := 11) (i3 := 12) rfl sc_best_mixture.nd (EV.ec ev_int) (EF.ec (ef_listrg2 rfl rfl T.f_list rfl T.f_range (ev_var (i := 2) (d := z1.1) rfl (pv 2)) (ev_bin2 op_addD addD_ok (EV.o (ev_var (i := 2) (d := z1.1) rfl (pv 2))) (EV.o (ev_var (i := 3) (d := z1.2) rfl (pv 3)))))) (EF.ec (ef_listrg1 rfl rfl T.f_list rfl T.f_range (ev_var (i := 2) (d := z1.1) rfl (pv 2)))) (fun d32 d33 d34 => (bi_at [some (.val a_rows), some (.val d0), some (.val z1.1), some (.val z1.2), some (.val d12), none, none, some (.val (.lst l31)), none, none, some (.val d32), some (.own true (.lst d33)), some (.own true (.lst d34)), none, none, none, none, none, none, none] (bi_set (as_ev (i := 13) sc_best_mixture.nd (ev_callL (L2N.takes_of rfl rfl rfl rfl) (k_entering T) (hr.mono (by decide)) T.g_entering T.F_entering.kp T.b_entering (ol_cons (ev_ixL ix_D idxD_ok (EV.o (ev_var (i := 7) (d := (.lst l31)) rfl (pv 7))) (EV.o (ev_un un_neg negD_ok (EV.o ev_int))) (fun _ _ => rfl)) (ol_own (eo_var (i := 12) (l := true) (d := .lst d34) rfl (pv 12)) ol_nil)))) (fun d38 => (bi_at [some (.val a_rows), some (.val d0), some (.val z1.1), some (.val z1.2), some (.val d12), none, none, some (.val (.lst l31)), none, none, some (.val d32), some (.own true (.lst d33)), some (.own true (.lst d34)), some (.val d38), none, none, none, none, none, none] (bi_while (post := fun (z39 : D × D × List D × List D × D) => [some (.val a_rows), some (.val d0), some (.val z1.1), some (.val z1.2), some (.val d12), none, none, some (.val z39.1), none, none, some (.val z39.2.1), some (.own true (.lst z39.2.2.1)), some (.own true (.lst z39.2.2.2.1)), some (.val z39.2.2.2.2), none, none, none, none, none, none]) (z0 := (((.lst l31) : D), d32, d33, d34, d38)) FUEL (passes_of rfl) (Wk.keep (Wk.keep (Wk.keep (Wk.keep (Wk.keep (Wk.drop (Wk.drop (Wk.keep (Wk.drop (Wk.drop (Wk.keep (Wk.keep (Wk.keep (Wk.keep (Wk.drop (Wk.drop (Wk.drop (Wk.drop (Wk.drop (Wk.drop Wk.nil)))))))))))))))))))) (fun z39 => (tv_cmp2 op_notN notND_ok notND_is (EV.o (ev_var (i := 13) (d := z39.2.2.2.2) rfl (pv 13))) (EV.o ev_non) (nomark _))) (fun z39 => (bi_at [some (.val a_rows), some (.val d0), some (.val z1.1), some (.val z1.2), some (.val d12), none, none, some (.val z39.1), none, none, some (.val z39.2.1), some (.own true (.lst z39.2.2.1)), some (.own true (.lst z39.2.2.2.1)), some (.val z39.2.2.2.2), none, none, none, none, none, none] (bi_set (as_ev (i := 5) sc_best_mixture.nd (ev_callL (L2N.takes_of rfl rfl rfl rfl) (k_leaving T) (hr.mono (by decide)) T.g_leaving T.F_leaving.kp T.b_leaving (ol_consV (ev_var (i := 7) (d := z39.1) rfl (pv 7)) (ol_own (eo_var (i := 11) (l := true) (d := .lst z39.2.2.1) rfl (pv 11)) (ol_consV (ev_var (i := 13) (d := z39.2.2.2.2) rfl (pv 13)) ol_nil))))) (fun d40 => (bi_at [some (.val a_rows), some (.val d0), some (.val z1.1), some (.val z1.2), some (.val d12), some (.val d40), none, some (.val z39.1), none, none, some (.val z39.2.1), some (.own true (.lst z39.2.2.1)), some (.own true (.lst z39.2.2.2.1)), some (.val z39.2.2.2.2), none, none, none, none, none, none] (bi_set (as_ev (i := 14) sc_best_mixture.nd (ev_ixR ix_D idxD_ok (EV.o (ev_ix2 ix_D idxD_ok (EV.o (ev_var (i := 7) (d := z39.1) rfl (pv 7))) (EV.o (ev_var (i := 5) (d := d40) rfl (pv 5))) (fun _ _ => rfl))) (EV.o (ev_var (i := 13) (d := z39.2.2.2.2) rfl (pv 13))) (fun _ _ => rfl))) (fun d42 => (bi_at [some (.val a_rows), some (.val d0), some (.val z1.1), some (.val z1.2), some (.val d12), some (.val d40), none, some (.val z39.1), none, none, some (.val z39.2.1), some (.own true (.lst z39.2.2.1)), some (.own true (.lst z39.2.2.2.1)), some (.val z39.2.2.2.2), some (.val d42), none, none, none, none, none] (bi_set (as_ev (i := 7) sc_best_mixture.nd (ev_callC (L2N.takes_of rfl rfl rfl rfl) (k_pivoted T) (hr.mono (by decide)) T.g_pivoted T.F_pivoted.kp T.b_pivoted (ac_consV (ev_var (i := 7) (d := z39.1) rfl (pv 7)) (ac_consV (ev_var (i := 10) (d := z39.2.1) rfl (pv 10)) (ac_consV (ev_var (i := 5) (d := d40) rfl (pv 5)) (ac_consV (ev_var (i := 13) (d := z39.2.2.2.2) rfl (pv 13)) ac_nil)))))) (fun d43 => (bi_at [some (.val a_rows), some (.val d0), some (.val z1.1), some (.val z1.2), some (.val d12), some (.val d40), none, some (.val d43), none, none, some (.val z39.2.1), some (.own true (.lst z39.2.2.1)), some (.own true (.lst z39.2.2.2.1)), some (.val z39.2.2.2.2), some (.val d42), none, none, none, none, none] (bi_swap3 (i0 := 10) (i1 := 11) (i2 := 12) (j1 := 5) (j2 := 13) rfl (pg_name (i := 10) sc_best_mixture.nd rfl (by first | exact Or.inl rfl | exact Or.inr rfl)) (pv 11) (pv 12) (pv 5) (pv 13) (ev_var (i := 14) (d := d42) rfl (pv 14)) (ev_ix2 ix_D idxD_ok (eo_var (i := 12) (l := true) (d := .lst z39.2.2.2.1) rfl (pv 12)) (EV.o (ev_var (i := 13) (d := z39.2.2.2.2) rfl (pv 13))) (fun _ _ => rfl)) (ev_ix2 ix_D idxD_ok (eo_var (i := 11) (l := true) (d := .lst z39.2.2.1) rfl (pv 11)) (EV.o (ev_var (i := 5) (d := d40) rfl (pv 5))) (fun _ _ => rfl)) (fun d44 l45 l46 => (bi_at [some (.val a_rows), some (.val d0), some (.val z1.1), some (.val z1.2), some (.val d12), some (.val d40), none, some (.val d43), none, none, some (.val d44), some (.own true (.lst l45)), some (.own true (.lst l46)), some (.val z39.2.2.2.2), some (.val d42), none, none, none, none, none] (bi_set (as_ev (i := 13) sc_best_mixture.nd (ev_callL (L2N.takes_of rfl rfl rfl rfl) (k_entering T) (hr.mono (by decide)) T.g_entering T.F_entering.kp T.b_entering (ol_cons (ev_ixL ix_D idxD_ok (EV.o (ev_var (i := 7) (d := d43) rfl (pv 7))) (EV.o (ev_un un_neg negD_ok (EV.o ev_int))) (fun _ _ => rfl)) (ol_own (eo_var (i := 12) (l := true) (d := .lst l46) rfl (pv 12)) ol_nil)))) (fun d49 => (bi_nil (z := (d43, d44, l45, l46, d49)) (Wk.keep (Wk.keep (Wk.keep (Wk.keep (Wk.keep (Wk.drop (Wk.drop (Wk.keep (Wk.drop (Wk.drop (Wk.keep (Wk.keep (Wk.keep (Wk.keep (Wk.drop (Wk.drop (Wk.drop (Wk.drop (Wk.drop (Wk.drop Wk.nil)))))))))))))))))))))))))))))))))))))  (fun z39 => (bi_frz 12 (bi_frz 11 (bi_at [some (.val a_rows), some (.val d0), some (.val z1.1), some (.val z1.2), some (.val d12), none, none, some (.val z39.1), none, none, some (.val z39.2.1), some (.val (.lst z39.2.2.1)), some (.val (.lst z39.2.2.2.1)), some (.val z39.2.2.2.2), none, none, none, none, none, none] (bi_parC (i := 15) (j := 16) rfl sc_best_mixture.nd (EF.ec (ef_rep (EV.o (ev_lstC (ac_consV ev_int ac_nil))) (EV.o (ev_var (i := 2) (d := z1.1) rfl (pv 2))))) (EF.ec (ef_rep (EV.o (ev_lstC (ac_consV ev_int ac_nil))) (EV.o (ev_var (i := 3) (d := z1.2) rfl (pv 3))))) (fun d53 d54 => (bi_at [some (.val a_rows), some (.val d0), some (.val z1.1), some (.val z1.2), some (.val d12), none, none, some (.val z39.1), none, none, some (.val z39.2.1), some (.val (.lst z39.2.2.1)), some (.val (.lst z39.2.2.2.1)), some (.val z39.2.2.2.2), none, some (.own true (.lst d53)), some (.own true (.lst d54)), none, none, none] (bi_for (post := fun (z55 : List D) => [some (.val a_rows), some (.val d0), some (.val z1.1), some (.val z1.2), some (.val d12), none, none, some (.val z39.1), none, none, some (.val z39.2.1), some (.val (.lst z39.2.2.1)), some (.val (.lst z39.2.2.2.1)), some (.val z39.2.2.2.2), none, some (.own true (.lst z55)), some (.own true (.lst d54)), none, none, none]) (z0 := d53) (passes_of rfl) rfl (it_enum rfl T.f_enumerate (ev_var (i := 11) (d := (.lst z39.2.2.1)) rfl (pv 11))) (Wk.keep (Wk.keep (Wk.keep (Wk.keep (Wk.keep (Wk.drop (Wk.drop (Wk.keep (Wk.drop (Wk.drop (Wk.keep (Wk.keep (Wk.keep (Wk.keep (Wk.drop (Wk.keep (Wk.keep (Wk.drop (Wk.drop (Wk.drop Wk.nil)))))))))))))))))))) (fun z55 => tt_2 (i := 17) rfl (pg_name (i := 17) sc_best_mixture.nd rfl (by first | exact Or.inl rfl | exact Or.inr rfl)) (pg_name (i := 18) sc_best_mixture.nd rfl (by first | exact Or.inl rfl | exact Or.inr rfl))) (fun z55 y56 => (bi_at [some (.val a_rows), some (.val d0), some (.val z1.1), some (.val z1.2), some (.val d12), none, none, some (.val z39.1), none, none, some (.val z39.2.1), some (.val (.lst z39.2.2.1)), some (.val (.lst z39.2.2.2.1)), some (.val z39.2.2.2.2), none, some (.own true (.lst z55)), some (.own true (.lst d54)), some (.val y56.1), some (.val y56.2), none] (bi_if2 (tv_cmp2 (op_ltA hr.units) ltD_ok ltD_is (EV.o (ev_var (i := 18) (d := y56.2) rfl (pv 18))) (EV.o (ev_var (i := 2) (d := z1.1) rfl (pv 2))) (nomark _)) (bi_at [some (.val a_rows), some (.val d0), some (.val z1.1), some (.val z1.2), some (.val d12), none, none, some (.val z39.1), none, none, some (.val z39.2.1), some (.val (.lst z39.2.2.1)), some (.val (.lst z39.2.2.2.1)), some (.val z39.2.2.2.2), none, some (.own true (.lst z55)), some (.own true (.lst d54)), some (.val y56.1), some (.val y56.2), none] (bi_setix (i := 15) (c := z55) (pv 15) (ev_ix ix_D idxD_ok (EV.o (ev_ix2 ix_D idxD_ok (EV.o (ev_var (i := 7) (d := z39.1) rfl (pv 7))) (EV.o (ev_var (i := 17) (d := y56.1) rfl (pv 17))) (fun _ _ => rfl))) (EV.o (ev_un un_neg negD_ok (EV.o ev_int))) (fun _ _ => rfl)) (ev_var (i := 18) (d := y56.2) rfl (pv 18)) (fun l60 => (bi_nil (z := l60) (Wk.keep (Wk.keep (Wk.keep (Wk.keep (Wk.keep (Wk.drop (Wk.drop (Wk.keep (Wk.drop (Wk.drop (Wk.keep (Wk.keep (Wk.keep (Wk.keep (Wk.drop (Wk.keep (Wk.keep (Wk.drop (Wk.drop (Wk.drop Wk.nil)))))))))))))))))))))))) (bi_nil (z := z55) (Wk.keep (Wk.keep (Wk.keep (Wk.keep (Wk.keep (Wk.drop (Wk.drop (Wk.keep (Wk.drop (Wk.drop (Wk.keep (Wk.keep (Wk.keep (Wk.keep (Wk.drop (Wk.keep (Wk.keep (Wk.drop (Wk.drop (Wk.drop Wk.nil)))))))))))))))))))))))) (fun z55 => (bi_frz 15 (bi_at [some (.val a_rows), some (.val d0), some (.val z1.1), some (.val z1.2), some (.val d12), none, none, some (.val z39.1), none, none, some (.val z39.2.1), some (.val (.lst z39.2.2.1)), some (.val (.lst z39.2.2.2.1)), some (.val z39.2.2.2.2), none, some (.val (.lst z55)), some (.own true (.lst d54)), none, none, none] (bi_for (post := fun (z62 : List D) => [some (.val a_rows), some (.val d0), some (.val z1.1), some (.val z1.2), some (.val d12), none, none, some (.val z39.1), none, none, some (.val z39.2.1), some (.val (.lst z39.2.2.1)), some (.val (.lst z39.2.2.2.1)), some (.val z39.2.2.2.2), none, some (.val (.lst z55)), some (.own true (.lst z62)), none, none, none]) (z0 := d54) (passes_of rfl) rfl (it_enum rfl T.f_enumerate (ev_var (i := 12) (d := (.lst z39.2.2.2.1)) rfl (pv 12))) (Wk.keep (Wk.keep (Wk.keep (Wk.keep (Wk.keep (Wk.drop (Wk.drop (Wk.keep (Wk.drop (Wk.drop (Wk.keep (Wk.keep (Wk.keep (Wk.keep (Wk.drop (Wk.keep (Wk.keep (Wk.drop (Wk.drop (Wk.drop Wk.nil)))))))))))))))))))) (fun z62 => tt_2 (i := 17) rfl (pg_name (i := 17) sc_best_mixture.nd rfl (by first | exact Or.inl rfl | exact Or.inr rfl)) (pg_name (i := 18) sc_best_mixture.nd rfl (by first | exact Or.inl rfl | exact Or.inr rfl))) (fun z62 y63 => (bi_at [some (.val a_rows), some (.val d0), some (.val z1.1), some (.val z1.2), some (.val d12), none, none, some (.val z39.1), none, none, some (.val z39.2.1), some (.val (.lst z39.2.2.1)), some (.val (.lst z39.2.2.2.1)), some (.val z39.2.2.2.2), none, some (.val (.lst z55)), some (.own true (.lst z62)), some (.val y63.1), some (.val y63.2), none] (bi_if2 (tv_cmp2 (op_geA hr.units) geD_ok geD_is (EV.o (ev_var (i := 18) (d := y63.2) rfl (pv 18))) (EV.o (ev_var (i := 2) (d := z1.1) rfl (pv 2))) (nomark _)) (bi_at [some (.val a_rows), some (.val d0), some (.val z1.1), some (.val z1.2), some (.val d12), none, none, some (.val z39.1), none, none, some (.val z39.2.1), some (.val (.lst z39.2.2.1)), some (.val (.lst z39.2.2.2.1)), some (.val z39.2.2.2.2), none, some (.val (.lst z55)), some (.own true (.lst z62)), some (.val y63.1), some (.val y63.2), none] (bi_setix (i := 16) (c := z62) (pv 16) (ev_ixR ix_D idxD_ok (EV.o (ev_ixL ix_D idxD_ok (EV.o (ev_var (i := 7) (d := z39.1) rfl (pv 7))) (EV.o (ev_un un_neg negD_ok (EV.o ev_int))) (fun _ _ => rfl))) (EV.o (ev_var (i := 17) (d := y63.1) rfl (pv 17))) (fun _ _ => rfl)) (ev_bin2 op_sub subD_ok (EV.o (ev_var (i := 18) (d := y63.2) rfl (pv 18))) (EV.o (ev_var (i := 2) (d := z1.1) rfl (pv 2)))) (fun l67 => (bi_nil (z := l67) (Wk.keep (Wk.keep (Wk.keep (Wk.keep (Wk.keep (Wk.drop (Wk.drop (Wk.keep (Wk.drop (Wk.drop (Wk.keep (Wk.keep (Wk.keep (Wk.keep (Wk.drop (Wk.keep (Wk.keep (Wk.drop (Wk.drop (Wk.drop Wk.nil)))))))))))))))))))))))) (bi_nil (z := z62) (Wk.keep (Wk.keep (Wk.keep (Wk.keep (Wk.keep (Wk.drop (Wk.drop (Wk.keep (Wk.drop (Wk.drop (Wk.keep (Wk.keep (Wk.keep (Wk.keep (Wk.drop (Wk.keep (Wk.keep (Wk.drop (Wk.drop (Wk.drop Wk.nil)))))))))))))))))))))))) (fun z62 => (bi_frz 16 (bi_at [some (.val a_rows), some (.val d0), some (.val z1.1), some (.val z1.2), some (.val d12), none, none, some (.val z39.1), none, none, some (.val z39.2.1), some (.val (.lst z39.2.2.1)), some (.val (.lst z39.2.2.2.1)), some (.val z39.2.2.2.2), none, some (.val (.lst z55)), some (.val (.lst z62)), none, none, none] (bi_set (as_ev (i := 19) sc_best_mixture.nd (ev_callC (L2N.takes_of rfl rfl rfl rfl) (k_minus T) (hr.mono (by decide)) T.g_minus T.F_minus.kp T.b_minus (ac_cons (ev_callC (L2N.takes_of rfl rfl rfl rfl) (k_fraction T) (hr.mono (by decide)) T.g_fraction T.F_fraction.kp T.b_fraction (ac_consV (ev_var (i := 10) (d := z39.2.1) rfl (pv 10)) (ac_cons (ev_ix ix_D idxD_ok (EV.o (ev_ixL ix_D idxD_ok (EV.o (ev_var (i := 7) (d := z39.1) rfl (pv 7))) (EV.o (ev_un un_neg negD_ok (EV.o ev_int))) (fun _ _ => rfl))) (EV.o (ev_un un_neg negD_ok (EV.o ev_int))) (fun _ _ => rfl)) ac_nil))) (ac_consV (ev_glob_tup T.c_WHOLE T.g_WHOLE) ac_nil)))) (fun d75 => (bi_at [some (.val a_rows), some (.val d0), some (.val z1.1), some (.val z1.2), some (.val d12), none, none, some (.val z39.1), none, none, some (.val z39.2.1), some (.val (.lst z39.2.2.1)), some (.val (.lst z39.2.2.2.1)), some (.val z39.2.2.2.2), none, some (.val (.lst z55)), some (.val (.lst z62)), none, none, some (.val d75)] (bi_ret (ev_tupC (ac_consV (ev_var (i := 19) (d := d75) rfl (pv 19)) (ac_cons (ev_callC (L2N.takes_of rfl rfl rfl rfl) (k_shares T) (hr.mono (by decide)) T.g_shares T.F_shares.kp T.b_shares (ac_consV (ev_var (i := 16) (d := (.lst z62)) rfl (pv 16)) ac_nil)) (ac_cons (ev_callC (L2N.takes_of rfl rfl rfl rfl) (k_shares T) (hr.mono (by decide)) T.g_shares T.F_shares.kp T.b_shares (ac_consV (ev_var (i := 15) (d := (.lst z55)) rfl (pv 15)) ac_nil)) ac_nil))))))))))))))))))))))))))))))))))))))))))))))) rfl rfl)
end
end LW
set_option Elab.async false
set_option linter.all false
set_option maxRecDepth 100000
set_option autoImplicit false
set_option pp.maxSteps 400
set_option maxHeartbeats 8000000
namespace LW
open PySem PySem.Spec L2 VL
open PyProof.Rows hiding St
section
variable {P : Program} {w : World} {K : PySem.W.Frag} {mg : Str → Option Value} {base : Heap}
theorem sc_worth : FnScope ["table"] ["table"] (defScope (top 27)) := ⟨rfl, rfl, rfl, by decide +kernel, rfl, by decide +kernel, by decide +kernel⟩
def m_worth (a_table : D) : Rs D := (m_best_mixture a_table).bind fun x0 => Rs.of (idxD x0 (.int 0))
theorem k_worth (T : Txt K mg) : Keeps P w K mg base 20 (He.ga K "worth") T.fd_worth ["table"] (fun ds => match ds with | [a_table] => m_worth a_table | _ => Rs.no) :=
  keeps_ret T.F_worth sc_worth (fun cdv A outer s H E F ds hl hr => match ds, hl with | [a_table], _ => bi_as [some (.val a_table)] (bi_ret (ev_ixR ix_D idxD_ok (EV.o (ev_callC (L2N.takes_of rfl rfl rfl rfl) (k_best_mixture T) (hr.mono (by decide)) T.g_best_mixture T.F_best_mixture.kp T.b_best_mixture (ac_consV (ev_var (i := 0) (d := a_table) rfl (pv 0)) ac_nil))) (EV.o ev_int) (fun _ _ => rfl))) rfl rfl)
end
end LW
set_option Elab.async false
set_option linter.all false
set_option maxRecDepth 100000
set_option autoImplicit false
set_option pp.maxSteps 400
set_option maxHeartbeats 8000000
namespace LW
open PySem PySem.Spec L2 VL
open PyProof.Rows hiding St
section
variable {P : Program} {w : World} {K : PySem.W.Frag} {mg : Str → Option Value} {base : Heap}
theorem sc_best_columns : FnScope ["table"] ["table"] (defScope (top 28)) := ⟨rfl, rfl, rfl, by decide +kernel, rfl, by decide +kernel, by decide +kernel⟩
def m_best_columns (a_table : D) : Rs D := (m_best_mixture a_table).bind fun x0 => Rs.of (idxD x0 (.int 1))
theorem k_best_columns (T : Txt K mg) : Keeps P w K mg base 20 (He.ga K "best_columns") T.fd_best_columns ["table"] (fun ds => match ds with | [a_table] => m_best_columns a_table | _ => Rs.no) :=
  keeps_ret T.F_best_columns sc_best_columns (fun cdv A outer s H E F ds hl hr => match ds, hl with | [a_table], _ => bi_as [some (.val a_table)] (bi_ret (ev_ixR ix_D idxD_ok (EV.o (ev_callC (L2N.takes_of rfl rfl rfl rfl) (k_best_mixture T) (hr.mono (by decide)) T.g_best_mixture T.F_best_mixture.kp T.b_best_mixture (ac_consV (ev_var (i := 0) (d := a_table) rfl (pv 0)) ac_nil))) (EV.o ev_int) (fun _ _ => rfl))) rfl rfl)
end
end LW
set_option Elab.async false
set_option linter.all false
set_option maxRecDepth 100000
set_option autoImplicit false
set_option pp.maxSteps 400
set_option maxHeartbeats 8000000
namespace LW
open PySem PySem.Spec L2 VL
open PyProof.Rows hiding St
section
variable {P : Program} {w : World} {K : PySem.W.Frag} {mg : Str → Option Value} {base : Heap}
theorem sc_best_rows : FnScope ["table"] ["table"] (defScope (top 29)) := ⟨rfl, rfl, rfl, by decide +kernel, rfl, by decide +kernel, by decide +kernel⟩
def m_best_rows (a_table : D) : Rs D := (m_best_mixture a_table).bind fun x0 => Rs.of (idxD x0 (.int 2))
theorem k_best_rows (T : Txt K mg) : Keeps P w K mg base 20 (He.ga K "best_rows") T.fd_best_rows ["table"] (fun ds => match ds with | [a_table] => m_best_rows a_table | _ => Rs.no) :=
  keeps_ret T.F_best_rows sc_best_rows (fun cdv A outer s H E F ds hl hr => match ds, hl with | [a_table], _ => bi_as [some (.val a_table)] (bi_ret (ev_ixR ix_D idxD_ok (EV.o (ev_callC (L2N.takes_of rfl rfl rfl rfl) (k_best_mixture T) (hr.mono (by decide)) T.g_best_mixture T.F_best_mixture.kp T.b_best_mixture (ac_consV (ev_var (i := 0) (d := a_table) rfl (pv 0)) ac_nil))) (EV.o ev_int) (fun _ _ => rfl))) rfl rfl)
end
end LW
set_option Elab.async false
set_option linter.all false
set_option maxRecDepth 100000
set_option autoImplicit false
set_option pp.maxSteps 400
set_option maxHeartbeats 8000000
namespace LW
open PySem PySem.Spec L2 VL
open PyProof.Rows hiding St
section
variable {P : Program} {w : World} {K : PySem.W.Frag} {mg : Str → Option Value} {base : Heap}
theorem sc_columns_worth : FnScope ["table", "weights", "sums", "part", "weight", "row", "found", "own"] ["table", "weights"] (defScope (top 30)) := ⟨rfl, rfl, rfl, by decide +kernel, rfl, by decide +kernel, by decide +kernel⟩
def m_columns_worth (a_table a_weights : D) : Rs D := (((Rs.of (itemsD a_table)).bind fun l5 => compM some (fun y0 => Rs.ok true) (fun y0 => (((Rs.of (zipD y0 a_weights)).bind fun l2 => compM un2 (fun y1 => Rs.ok true) (fun y1 => m_times y1.1 y1.2) l2).bind fun l3 => Rs.ok (.lst l3)).bind fun x4 => m_total x4) l5).bind fun l6 => Rs.ok (.lst l6)).bind fun d7 => (Rs.of (idxD d7 (.int 0))).bind fun d8 => (Rs.of (itemsD d7)).bind fun l11 => (foldM (fun z9 d => (Rs.of (some d)).bind fun y10 => (m_lesser z9 y10).bind fun d12 => Rs.ok d12) l11 d8).bind fun z9 => (Rs.ok z9)
theorem k_columns_worth (T : Txt K mg) : Keeps P w K mg base 10 (He.ga K "columns_worth") T.fd_columns_worth ["table", "weights"] (fun ds => match ds with | [a_table, a_weights] => m_columns_worth a_table a_weights | _ => Rs.no) :=
  keeps_ret T.F_columns_worth sc_columns_worth (fun cdv A outer s H E F ds hl hr => match ds, hl with | [a_table, a_weights], _ => bi_as [some (.val a_table), some (.val a_weights), none, none, none, none, none, none] (bi_at [some (.val a_table), some (.val a_weights), none, none, none, none, none, none] (bi_set (AF.as (af_comp (i := 2) rfl sc_columns_worth.nd (it_seqV (ev_var (i := 0) (d := a_table) rfl (pv 0))) (blkOk_by (own := [("row", 5)]) (by kernel_rfl)) (by decide) (fun _ _ _ _ _ => tt_name (i := 5) sc_columns_worth.nd) (fun _ _ _ _ _ y0 => tvs_nil) (fun _ _ _ _ _ y0 => (ev_callC takes0N (k_total T) (hr.mono (by decide)) T.g_total T.F_total.kp T.b_total (ac_cons (EF.ev (ef_comp rfl sc_columns_worth.nd (it_zip rfl T.f_zip (ev_var (i := 5) (d := y0) rfl (pv 5)) (ev_var (i := 1) (d := a_weights) rfl (pv 1))) (blkOk_by (own := [("part", 3), ("weight", 4)]) (by kernel_rfl)) (by decide) (fun _ _ _ _ _ => tt_2 (i := 3) rfl (pg_name (i := 3) sc_columns_worth.nd rfl (by first | exact Or.inl rfl | exact Or.inr rfl)) (pg_name (i := 4) sc_columns_worth.nd rfl (by first | exact Or.inl rfl | exact Or.inr rfl))) (fun _ _ _ _ _ y1 => tvs_nil) (fun _ _ _ _ _ y1 => (ev_callC takes0N (k_times T) (hr.mono (by decide)) T.g_times T.F_times.kp T.b_times (ac_consV (ev_var (i := 3) (d := y1.1) rfl (pv 3)) (ac_consV (ev_var (i := 4) (d := y1.2) rfl (pv 4)) ac_nil)))))) ac_nil))))) (fun d7 => (bi_at [some (.val a_table), some (.val a_weights), some (.val d7), none, none, none, none, none] (bi_set (as_ev (i := 6) sc_columns_worth.nd (ev_ix2 ix_D idxD_ok (EV.o (ev_var (i := 2) (d := d7) rfl (pv 2))) (EV.o ev_int) (fun _ _ => rfl))) (fun d8 => (bi_at [some (.val a_table), some (.val a_weights), some (.val d7), none, none, none, some (.val d8), none] (bi_for (post := fun (z9 : D) => [some (.val a_table), some (.val a_weights), some (.val d7), none, none, none, some (.val z9), none]) (z0 := d8) (passes_of rfl) rfl (it_seqV (ev_var (i := 2) (d := d7) rfl (pv 2))) (Wk.keep (Wk.keep (Wk.keep (Wk.drop (Wk.drop (Wk.drop (Wk.keep (Wk.drop Wk.nil)))))))) (fun z9 => tt_name (i := 7) sc_columns_worth.nd) (fun z9 y10 => (bi_at [some (.val a_table), some (.val a_weights), some (.val d7), none, none, none, some (.val z9), some (.val y10)] (bi_set (as_ev (i := 6) sc_columns_worth.nd (ev_callC (L2N.takes_of rfl rfl rfl rfl) (k_lesser T) (hr.mono (by decide)) T.g_lesser T.F_lesser.kp T.b_lesser (ac_consV (ev_var (i := 6) (d := z9) rfl (pv 6)) (ac_consV (ev_var (i := 7) (d := y10) rfl (pv 7)) ac_nil)))) (fun d12 => (bi_nil (z := d12) (Wk.keep (Wk.keep (Wk.keep (Wk.drop (Wk.drop (Wk.drop (Wk.keep (Wk.drop Wk.nil))))))))))))) (fun z9 => (bi_at [some (.val a_table), some (.val a_weights), some (.val d7), none, none, none, some (.val z9), none] (bi_ret (ev_var (i := 6) (d := z9) rfl (pv 6))))))))))))) rfl rfl)
end
end LW
set_option Elab.async false
set_option linter.all false
set_option maxRecDepth 100000
set_option autoImplicit false
set_option pp.maxSteps 400
set_option maxHeartbeats 8000000
namespace LW
open PySem PySem.Spec L2 VL
open PyProof.Rows hiding St
section
variable {P : Program} {w : World} {K : PySem.W.Frag} {mg : Str → Option Value} {base : Heap}
theorem sc_rows_worth : FnScope ["table", "weights", "found", "column", "part", "weight"] ["table", "weights"] (defScope (top 31)) := ⟨rfl, rfl, rfl, by decide +kernel, rfl, by decide +kernel, by decide +kernel⟩
def m_rows_worth (a_table a_weights : D) : Rs D := (Rs.of (zipS a_table)).bind fun l2 => (foldM (fun z0 d => (Rs.of (some d)).bind fun y1 => (((((Rs.of (zipD y1 a_weights)).bind fun l4 => compM un2 (fun y3 => Rs.ok true) (fun y3 => m_times y3.1 y3.2) l4).bind fun l5 => Rs.ok (.lst l5)).bind fun x6 => m_total x6).bind fun x7 => m_greater z0 x7).bind fun d8 => Rs.ok d8) l2 ((.tup [.int 0, .int 1]) : D)).bind fun z0 => (Rs.ok z0)
theorem k_rows_worth (T : Txt K mg) : Keeps P w K mg base 10 (He.ga K "rows_worth") T.fd_rows_worth ["table", "weights"] (fun ds => match ds with | [a_table, a_weights] => m_rows_worth a_table a_weights | _ => Rs.no) :=
  keeps_ret T.F_rows_worth sc_rows_worth (fun cdv A outer s H E F ds hl hr => match ds, hl with | [a_table, a_weights], _ => bi_as [some (.val a_table), some (.val a_weights), none, none, none, none] (bi_setV (as_ev (i := 2) sc_rows_worth.nd (ev_glob_tup T.c_NONE T.g_NONE)) (bi_for (post := fun (z0 : D) => [some (.val a_table), some (.val a_weights), some (.val z0), none, none, none]) (z0 := ((.tup [.int 0, .int 1]) : D)) (passes_of rfl) rfl (it_zipS rfl T.f_zip (ev_var (i := 0) (d := a_table) rfl (pv 0))) (Wk.keep (Wk.keep (Wk.keep (Wk.drop (Wk.drop (Wk.drop Wk.nil)))))) (fun z0 => tt_name (i := 3) sc_rows_worth.nd) (fun z0 y1 => (bi_set (as_ev (i := 2) sc_rows_worth.nd (ev_callC (L2N.takes_of rfl rfl rfl rfl) (k_greater T) (hr.mono (by decide)) T.g_greater T.F_greater.kp T.b_greater (ac_consV (ev_var (i := 2) (d := z0) rfl (pv 2)) (ac_cons (ev_callC (L2N.takes_of rfl rfl rfl rfl) (k_total T) (hr.mono (by decide)) T.g_total T.F_total.kp T.b_total (ac_cons (EF.ev (ef_comp rfl sc_rows_worth.nd (it_zip rfl T.f_zip (ev_var (i := 3) (d := y1) rfl (pv 3)) (ev_var (i := 1) (d := a_weights) rfl (pv 1))) (blkOk_by (own := [("part", 4), ("weight", 5)]) (by kernel_rfl)) (by decide) (fun _ _ _ _ _ => tt_2 (i := 4) rfl (pg_name (i := 4) sc_rows_worth.nd rfl (by first | exact Or.inl rfl | exact Or.inr rfl)) (pg_name (i := 5) sc_rows_worth.nd rfl (by first | exact Or.inl rfl | exact Or.inr rfl))) (fun _ _ _ _ _ y3 => tvs_nil) (fun _ _ _ _ _ y3 => (ev_callC takes0N (k_times T) (hr.mono (by decide)) T.g_times T.F_times.kp T.b_times (ac_consV (ev_var (i := 4) (d := y3.1) rfl (pv 4)) (ac_consV (ev_var (i := 5) (d := y3.2) rfl (pv 5)) ac_nil)))))) ac_nil)) ac_nil)))) (fun d8 => (bi_nil (z := d8) (Wk.keep (Wk.keep (Wk.keep (Wk.drop (Wk.drop (Wk.drop Wk.nil)))))))))) (fun z0 => (bi_ret (ev_var (i := 2) (d := z0) rfl (pv 2)))))) rfl rfl)
end
end LW
set_option Elab.async false
set_option linter.all false
set_option maxRecDepth 100000
set_option autoImplicit false
set_option pp.maxSteps 400
set_option maxHeartbeats 8000000
namespace LW
open PySem PySem.Spec L2 VL
open PyProof.Rows hiding St
section
variable {P : Program} {w : World} {K : PySem.W.Frag} {mg : Str → Option Value} {base : Heap}
theorem sc_is_best_columns : FnScope ["table", "thing"] ["table", "thing"] (defScope (top 32)) := ⟨rfl, rfl, rfl, by decide +kernel, rfl, by decide +kernel, by decide +kernel⟩
def m_is_best_columns (a_table a_thing : D) : Rs D := (((Rs.of (idxD a_table (.int 0))).bind fun x0 => Rs.of (lenD [x0])).bind fun x1 => m_are_weights a_thing x1).bind fun x4 => (Rs.of (asB x4)).bind fun k => if k then (m_columns_worth a_table a_thing).bind fun x2 => (m_worth a_table).bind fun x3 => Rs.of (eqD x2 x3) else Rs.ok (.bl false)
theorem k_is_best_columns (T : Txt K mg) : Keeps P w K mg base 22 (He.ga K "is_best_columns") T.fd_is_best_columns ["table", "thing"] (fun ds => match ds with | [a_table, a_thing] => m_is_best_columns a_table a_thing | _ => Rs.no) :=
  keeps_ret T.F_is_best_columns sc_is_best_columns (fun cdv A outer s H E F ds hl hr => match ds, hl with | [a_table, a_thing], _ => bi_as [some (.val a_table), some (.val a_thing)] (bi_ret (ev_and (ev_callC (L2N.takes_of rfl rfl rfl rfl) (k_are_weights T) (hr.mono (by decide)) T.g_are_weights T.F_are_weights.kp T.b_are_weights (ac_consV (ev_var (i := 1) (d := a_thing) rfl (pv 1)) (ac_cons (ev_callBC call_len lenD_ok T.f_len boot_len (oc_cons (EV.o (ev_ix2 ix_D idxD_ok (EV.o (ev_var (i := 0) (d := a_table) rfl (pv 0))) (EV.o ev_int) (fun _ _ => rfl))) oc_nil)) ac_nil))) (ev_one (ev_cmp (op_eqA hr.units) eqD_ok (EV.o (ev_callC (L2N.takes_of rfl rfl rfl rfl) (k_columns_worth T) (hr.mono (by decide)) T.g_columns_worth T.F_columns_worth.kp T.b_columns_worth (ac_consV (ev_var (i := 0) (d := a_table) rfl (pv 0)) (ac_consV (ev_var (i := 1) (d := a_thing) rfl (pv 1)) ac_nil)))) (EV.o (ev_callC (L2N.takes_of rfl rfl rfl rfl) (k_worth T) (hr.mono (by decide)) T.g_worth T.F_worth.kp T.b_worth (ac_consV (ev_var (i := 0) (d := a_table) rfl (pv 0)) ac_nil))) (nomark _))))) rfl rfl)
end
end LW
set_option Elab.async false
set_option linter.all false
set_option maxRecDepth 100000
set_option autoImplicit false
set_option pp.maxSteps 400
set_option maxHeartbeats 8000000
namespace LW
open PySem PySem.Spec L2 VL
open PyProof.Rows hiding St
section
variable {P : Program} {w : World} {K : PySem.W.Frag} {mg : Str → Option Value} {base : Heap}
theorem sc_is_best_rows : FnScope ["table", "thing"] ["table", "thing"] (defScope (top 33)) := ⟨rfl, rfl, rfl, by decide +kernel, rfl, by decide +kernel, by decide +kernel⟩
def m_is_best_rows (a_table a_thing : D) : Rs D := ((Rs.of (lenD [a_table])).bind fun x0 => m_are_weights a_thing x0).bind fun x3 => (Rs.of (asB x3)).bind fun k => if k then (m_rows_worth a_table a_thing).bind fun x1 => (m_worth a_table).bind fun x2 => Rs.of (eqD x1 x2) else Rs.ok (.bl false)
theorem k_is_best_rows (T : Txt K mg) : Keeps P w K mg base 22 (He.ga K "is_best_rows") T.fd_is_best_rows ["table", "thing"] (fun ds => match ds with | [a_table, a_thing] => m_is_best_rows a_table a_thing | _ => Rs.no) :=
  keeps_ret T.F_is_best_rows sc_is_best_rows (fun cdv A outer s H E F ds hl hr => match ds, hl with | [a_table, a_thing], _ => bi_as [some (.val a_table), some (.val a_thing)] (bi_ret (ev_and (ev_callC (L2N.takes_of rfl rfl rfl rfl) (k_are_weights T) (hr.mono (by decide)) T.g_are_weights T.F_are_weights.kp T.b_are_weights (ac_consV (ev_var (i := 1) (d := a_thing) rfl (pv 1)) (ac_cons (ev_callBC call_len lenD_ok T.f_len boot_len (oc_consV (EV.o (ev_var (i := 0) (d := a_table) rfl (pv 0))) oc_nil)) ac_nil))) (ev_one (ev_cmp (op_eqA hr.units) eqD_ok (EV.o (ev_callC (L2N.takes_of rfl rfl rfl rfl) (k_rows_worth T) (hr.mono (by decide)) T.g_rows_worth T.F_rows_worth.kp T.b_rows_worth (ac_consV (ev_var (i := 0) (d := a_table) rfl (pv 0)) (ac_consV (ev_var (i := 1) (d := a_thing) rfl (pv 1)) ac_nil)))) (EV.o (ev_callC (L2N.takes_of rfl rfl rfl rfl) (k_worth T) (hr.mono (by decide)) T.g_worth T.F_worth.kp T.b_worth (ac_consV (ev_var (i := 0) (d := a_table) rfl (pv 0)) ac_nil))) (nomark _))))) rfl rfl)
end
end LW
set_option Elab.async false
set_option linter.all false
set_option maxRecDepth 100000
set_option autoImplicit false
set_option pp.maxSteps 400
set_option maxHeartbeats 8000000
namespace LW
open PySem PySem.Spec L2 VL
open PyProof.Rows hiding St
section
variable {P : Program} {w : World} {K : PySem.W.Frag} {mg : Str → Option Value} {base : Heap}
theorem sc_law_box : FnScope ["_law_script", "_law_k", "_law_cell"] ["_law_script", "_law_k"] (defScope (top 35)) := ⟨rfl, rfl, rfl, by decide +kernel, rfl, by decide +kernel, by decide +kernel⟩
def m_law_box (a_law_script a_law_k : D) : Rs (List D) := (((Rs.of (lenD [a_law_script])).bind fun x0 => Rs.of (ltB a_law_k x0)).bind fun k => if k then Rs.of (idxD a_law_script a_law_k) else (Rs.ok (.int 0))).bind fun d1 => ((Rs.of (absD [d1])).bind fun x5 => (((Rs.of (absD [d1])).bind fun x2 => (Rs.of (powD (.int 10) (.int 18))).bind fun x3 => Rs.of (geD x2 x3)).bind fun x4 => Rs.of (intD [x4])).bind fun x6 => Rs.of (mulD x5 x6)).bind fun x11 => ((((Rs.of (intD [d1])).bind fun x7 => Rs.of (modD x7 (.int 2305843009213693951))).bind fun x8 => (Rs.of (mulD (.int 39373) a_law_k)).bind fun x9 => Rs.of (addD x8 x9)).bind fun x10 => Rs.of (addD x10 (.int 92330))).bind fun x12 => Rs.ok [x11, x12, (.int 0)]
theorem k_law_box (T : Txt K mg) : KeepsF P w K mg base 2 (He.ga K "_law_box") T.fd_law_box ["_law_script", "_law_k"] (fun ds => match ds with | [a_law_script, a_law_k] => m_law_box a_law_script a_law_k | _ => Rs.no) :=
  keeps_new T.F_law_box sc_law_box (fun cdv A outer s H E F ds hl hr => match ds, hl with | [a_law_script, a_law_k], _ => bn_as [some (.val a_law_script), some (.val a_law_k), none] (bn_set (as_ev (i := 2) sc_law_box.nd (ev_if (tv_cmpL (op_ltA hr.units) ltD_ok ltD_is (EV.o (ev_var (i := 1) (d := a_law_k) rfl (pv 1))) (EV.o (ev_callBC call_len lenD_ok T.f_len boot_len (oc_consV (EV.o (ev_var (i := 0) (d := a_law_script) rfl (pv 0))) oc_nil))) (nomark _)) (ev_ix2 ix_D idxD_ok (EV.o (ev_var (i := 0) (d := a_law_script) rfl (pv 0))) (EV.o (ev_var (i := 1) (d := a_law_k) rfl (pv 1))) (fun _ _ => rfl)) ev_int)) (fun d1 => (bn_ret (ef_lstC (ac_cons (ev_bin op_mulD mulD_ok (EV.o (ev_callBC call_abs absD_ok T.f_abs boot_abs (oc_consV (EV.o (ev_var (i := 2) (d := d1) rfl (pv 2))) oc_nil))) (EV.o (ev_callTyC call_intD intD_ok T.f_int boot_int (oc_cons (EV.o (ev_cmp (op_geA hr.units) geD_ok (EV.o (ev_callBC call_abs absD_ok T.f_abs boot_abs (oc_consV (EV.o (ev_var (i := 2) (d := d1) rfl (pv 2))) oc_nil))) (EV.o (ev_bin2 op_pow powD_ok (EV.o ev_int) (EV.o ev_int))) (nomark _))) oc_nil)))) (ac_cons (ev_binR op_addD addD_ok (EV.o (ev_bin op_addD addD_ok (EV.o (ev_binR op_modN modD_ok (EV.o (ev_callTyC call_intD intD_ok T.f_int boot_int (oc_consV (EV.o (ev_var (i := 2) (d := d1) rfl (pv 2))) oc_nil))) (EV.o ev_int))) (EV.o (ev_bin2 op_mulD mulD_ok (EV.o ev_int) (EV.o (ev_var (i := 1) (d := a_law_k) rfl (pv 1))))))) (EV.o ev_int)) (ac_consV ev_int ac_nil))))))) rfl rfl)
end
end LW
set_option Elab.async false
set_option linter.all false
set_option maxRecDepth 100000
set_option autoImplicit false
set_option pp.maxSteps 400
set_option maxHeartbeats 8000000
namespace LW
open PySem PySem.Spec L2 VL
open PyProof.Rows hiding St
section
variable {P : Program} {w : World} {K : PySem.W.Frag} {mg : Str → Option Value} {base : Heap}
theorem sc_law_take : FnScope ["_law_box_here", "_law_size_so", "_law_drawn_so", "_law_once", "_law_far", "_law_again"] ["_law_box_here", "_law_size_so"] (defScope (top 36)) := ⟨rfl, rfl, rfl, by decide +kernel, rfl, by decide +kernel, by decide +kernel⟩
def m_law_take (a_law_box_here : List D) (a_law_size_so : D) : Rs (D × List D) := ((Rs.of (idxD (.lst a_law_box_here) (.int 0))).bind fun x0 => Rs.of (gtB x0 (.int 0))).bind fun k => if k then (((Rs.of (idxD (.lst a_law_box_here) (.int 0))).bind fun x1 => Rs.of (intD [x1])).bind fun x2 => Rs.of (modD x2 a_law_size_so)).bind fun d3 => ((Rs.of (idxD (.lst a_law_box_here) (.int 0))).bind fun x4 => Rs.of (fdivD x4 a_law_size_so)).bind fun x6 => (Rs.of (setL a_law_box_here (.int 0) x6)).bind fun l5 => Rs.ok (d3, l5) else ((Rs.of (idxD (.lst a_law_box_here) (.int 2))).bind fun x7 => Rs.of (addD x7 (.int 1))).bind fun x36 => (Rs.of (setL a_law_box_here (.int 2) x36)).bind fun l8 => (((((Rs.of (idxD (.lst l8) (.int 1))).bind fun x10 => ((Rs.of (idxD (.lst l8) (.int 2))).bind fun x9 => Rs.of (mulD (.int 48271) x9)).bind fun x11 => Rs.of (addD x10 x11)).bind fun x13 => ((Rs.of (idxD (.lst l8) (.int 2))).bind fun x12 => Rs.of (addD (.int 39373) x12)).bind fun x14 => Rs.of (mulD x13 x14)).bind fun x15 => Rs.of (intD [x15])).bind fun x16 => Rs.of (modD x16 (.int 2147483647))).bind fun d17 => (((Rs.of (intD [d17])).bind fun x18 => Rs.of (modD x18 (.int 40009))).bind fun x19 => Rs.of (addD x19 (.int 7))).bind fun d20 => ((((((Rs.of (idxD (.lst l8) (.int 2))).bind fun x21 => Rs.of (addD d17 x21)).bind fun x23 => ((Rs.of (idxD (.lst l8) (.int 1))).bind fun x22 => Rs.of (fdivD x22 (.int 1000003))).bind fun x24 => Rs.of (addD x23 x24)).bind fun x25 => Rs.of (mulD x25 d20)).bind fun x26 => Rs.of (intD [x26])).bind fun x27 => Rs.of (modD x27 (.int 2147483629))).bind fun d28 => (((((((Rs.of (mulD d28 (.int 48271))).bind fun x29 => Rs.of (addD x29 d17)).bind fun x30 => Rs.of (intD [x30])).bind fun x31 => Rs.of (modD x31 (.int 2147483587))).bind fun x32 => Rs.of (fdivD x32 (.int 64))).bind fun x33 => Rs.of (intD [x33])).bind fun x34 => Rs.of (modD x34 a_law_size_so)).bind fun x35 => Rs.ok (x35, l8)
theorem k_law_take (T : Txt K mg) : KeepsIO P w K mg base 2 (He.ga K "_law_take") T.fd_law_take ["_law_box_here", "_law_size_so"] (fun a_law_box_here ds => match ds with | [a_law_size_so] => m_law_take a_law_box_here a_law_size_so | _ => Rs.no) :=
  keeps_io T.F_law_take sc_law_take (fun cdv A outer s H E F b a_law_box_here ds hl hr => match ds, hl with | [a_law_size_so], _ => bi_as [some (.own false (.lst a_law_box_here)), some (.val a_law_size_so), none, none, none, none] (bi_nox (bi_ifrI ioI (fun _ => rfl) (tv_cmpR (op_gtA hr.units) gtD_ok gtD_is (EV.o (ev_ix2 ix_D idxD_ok (eo_var (i := 0) (l := false) (d := .lst a_law_box_here) rfl (pv 0)) (EV.o ev_int) (fun _ _ => rfl))) (EV.o ev_int) (nomark _)) (bi_set (as_ev (i := 2) sc_law_take.nd (ev_binR op_modN modD_ok (EV.o (ev_callTyC call_intD intD_ok T.f_int boot_int (oc_cons (EV.o (ev_ix2 ix_D idxD_ok (eo_var (i := 0) (l := false) (d := .lst a_law_box_here) rfl (pv 0)) (EV.o ev_int) (fun _ _ => rfl))) oc_nil))) (EV.o (ev_var (i := 1) (d := a_law_size_so) rfl (pv 1))))) (fun d3 => (bi_setix (i := 0) (c := a_law_box_here) (pv 0) (ev_binR op_fdivB fdivD_ok (EV.o (ev_ix2 ix_D idxD_ok (eo_var (i := 0) (l := false) (d := .lst a_law_box_here) rfl (pv 0)) (EV.o ev_int) (fun _ _ => rfl))) (EV.o (ev_var (i := 1) (d := a_law_size_so) rfl (pv 1)))) ev_int (fun l5 => (bi_retP (i := 0) (s := l5) (ev_var (i := 2) (d := d3) rfl (pv 2))))))) (bi_setix (i := 0) (c := a_law_box_here) (pv 0) (ev_binR op_addD addD_ok (EV.o (ev_ix2 ix_D idxD_ok (eo_var (i := 0) (l := false) (d := .lst a_law_box_here) rfl (pv 0)) (EV.o ev_int) (fun _ _ => rfl))) (EV.o ev_int)) ev_int (fun l8 => (bi_set (as_ev (i := 3) sc_law_take.nd (ev_binR op_modN modD_ok (EV.o (ev_callTyC call_intD intD_ok T.f_int boot_int (oc_cons (EV.o (ev_bin op_mulD mulD_ok (EV.o (ev_bin op_addD addD_ok (EV.o (ev_ix2 ix_D idxD_ok (eo_var (i := 0) (l := false) (d := .lst l8) rfl (pv 0)) (EV.o ev_int) (fun _ _ => rfl))) (EV.o (ev_binL op_mulD mulD_ok (EV.o ev_int) (EV.o (ev_ix2 ix_D idxD_ok (eo_var (i := 0) (l := false) (d := .lst l8) rfl (pv 0)) (EV.o ev_int) (fun _ _ => rfl))))))) (EV.o (ev_binL op_addD addD_ok (EV.o ev_int) (EV.o (ev_ix2 ix_D idxD_ok (eo_var (i := 0) (l := false) (d := .lst l8) rfl (pv 0)) (EV.o ev_int) (fun _ _ => rfl))))))) oc_nil))) (EV.o ev_int))) (fun d17 => (bi_set (as_ev (i := 4) sc_law_take.nd (ev_binR op_addD addD_ok (EV.o (ev_binR op_modN modD_ok (EV.o (ev_callTyC call_intD intD_ok T.f_int boot_int (oc_consV (EV.o (ev_var (i := 3) (d := d17) rfl (pv 3))) oc_nil))) (EV.o ev_int))) (EV.o ev_int))) (fun d20 => (bi_set (as_ev (i := 5) sc_law_take.nd (ev_binR op_modN modD_ok (EV.o (ev_callTyC call_intD intD_ok T.f_int boot_int (oc_cons (EV.o (ev_binR op_mulD mulD_ok (EV.o (ev_bin op_addD addD_ok (EV.o (ev_binL op_addD addD_ok (EV.o (ev_var (i := 3) (d := d17) rfl (pv 3))) (EV.o (ev_ix2 ix_D idxD_ok (eo_var (i := 0) (l := false) (d := .lst l8) rfl (pv 0)) (EV.o ev_int) (fun _ _ => rfl))))) (EV.o (ev_binR op_fdivB fdivD_ok (EV.o (ev_ix2 ix_D idxD_ok (eo_var (i := 0) (l := false) (d := .lst l8) rfl (pv 0)) (EV.o ev_int) (fun _ _ => rfl))) (EV.o ev_int))))) (EV.o (ev_var (i := 4) (d := d20) rfl (pv 4))))) oc_nil))) (EV.o ev_int))) (fun d28 => (bi_retP (i := 0) (s := l8) (ev_binR op_modN modD_ok (EV.o (ev_callTyC call_intD intD_ok T.f_int boot_int (oc_cons (EV.o (ev_binR op_fdivB fdivD_ok (EV.o (ev_binR op_modN modD_ok (EV.o (ev_callTyC call_intD intD_ok T.f_int boot_int (oc_cons (EV.o (ev_binR op_addD addD_ok (EV.o (ev_bin2 op_mulD mulD_ok (EV.o (ev_var (i := 5) (d := d28) rfl (pv 5))) (EV.o ev_int))) (EV.o (ev_var (i := 3) (d := d17) rfl (pv 3))))) oc_nil))) (EV.o ev_int))) (EV.o ev_int))) oc_nil))) (EV.o (ev_var (i := 1) (d := a_law_size_so) rfl (pv 1))))))))))))))) rfl rfl)
end
end LW
set_option Elab.async false
set_option linter.all false
set_option maxRecDepth 100000
set_option autoImplicit false
set_option pp.maxSteps 400
set_option maxHeartbeats 8000000
namespace LW
open PySem PySem.Spec L2 VL
open PyProof.Rows hiding St
section
variable {P : Program} {w : World} {K : PySem.W.Frag} {mg : Str → Option Value} {base : Heap}
theorem sc_law_cells : FnScope ["_law_script", "_law_top_so", "_law_cells_so", "_law_k", "_law_cell", "_law_at_so"] ["_law_script", "_law_top_so"] (defScope (top 37)) := ⟨rfl, rfl, rfl, by decide +kernel, rfl, by decide +kernel, by decide +kernel⟩
def m_law_cells (a_law_script a_law_top_so : D) : Rs D := ((((Rs.of (asI a_law_top_so)).bind fun i0 => Rs.of (sliceD a_law_script none i0)).bind fun x1 => Rs.of (listL x1)).bind fun l2 => if l2.isEmpty then Rs.ok [(.int 0)] else Rs.ok l2).bind fun l3 => (((Rs.of (asI a_law_top_so)).bind fun i14 => Rs.of (sliceD a_law_script i14 (some 63))).bind fun x15 => Rs.of (enumD x15)).bind fun l6 => (foldM (fun z4 d => (Rs.of (un2 d)).bind fun y5 => ((Rs.of (intD [y5.1])).bind fun x7 => Rs.of (modD x7 a_law_top_so)).bind fun d8 => ((Rs.of (idxD (.lst z4) d8)).bind fun x10 => ((Rs.of (addD y5.1 (.int 2))).bind fun x9 => Rs.of (mulD y5.2 x9)).bind fun x11 => Rs.of (addD x10 x11)).bind fun x13 => (Rs.of (setL z4 d8 x13)).bind fun l12 => Rs.ok l12) l6 l3).bind fun z4 => (Rs.ok (.lst z4))
theorem k_law_cells (T : Txt K mg) : Keeps P w K mg base 2 (He.ga K "_law_cells") T.fd_law_cells ["_law_script", "_law_top_so"] (fun ds => match ds with | [a_law_script, a_law_top_so] => m_law_cells a_law_script a_law_top_so | _ => Rs.no) :=
  keeps_ret T.F_law_cells sc_law_cells (fun cdv A outer s H E F ds hl hr => match ds, hl with | [a_law_script, a_law_top_so], _ => bi_as [some (.val a_law_script), some (.val a_law_top_so), none, none, none, none] (bi_own (af_ef (i := 2) sc_law_cells.nd (ef_or (ef_list T.f_list (EV.o (EV.to ((Rs.of (asI a_law_top_so)).bind fun i0 => Rs.of (sliceD a_law_script none i0)) (ev_slice (EV.o (ev_var (i := 0) (d := a_law_script) rfl (pv 0))) pv_none (pv_some (ev_var (i := 1) (d := a_law_top_so) rfl (pv 1)))) rfl))) (ef_lstC (ac_consV ev_int ac_nil)))) (fun l3 => (bi_for (post := fun (z4 : List D) => [some (.val a_law_script), some (.val a_law_top_so), some (.own true (.lst z4)), none, none, none]) (z0 := l3) (passes_of rfl) rfl (it_enum rfl T.f_enumerate (EV.to ((Rs.of (asI a_law_top_so)).bind fun i14 => Rs.of (sliceD a_law_script i14 (some 63))) (ev_slice (EV.o (ev_var (i := 0) (d := a_law_script) rfl (pv 0))) (pv_some (ev_var (i := 1) (d := a_law_top_so) rfl (pv 1))) (pv_some ev_int)) rfl)) (Wk.keep (Wk.keep (Wk.keep (Wk.drop (Wk.drop (Wk.drop Wk.nil)))))) (fun z4 => tt_2 (i := 3) rfl (pg_name (i := 3) sc_law_cells.nd rfl (by first | exact Or.inl rfl | exact Or.inr rfl)) (pg_name (i := 4) sc_law_cells.nd rfl (by first | exact Or.inl rfl | exact Or.inr rfl))) (fun z4 y5 => (bi_set (as_ev (i := 5) sc_law_cells.nd (ev_binR op_modN modD_ok (EV.o (ev_callTyC call_intD intD_ok T.f_int boot_int (oc_consV (EV.o (ev_var (i := 3) (d := y5.1) rfl (pv 3))) oc_nil))) (EV.o (ev_var (i := 1) (d := a_law_top_so) rfl (pv 1))))) (fun d8 => (bi_setix (i := 2) (c := z4) (pv 2) (ev_bin op_addD addD_ok (EV.o (ev_ix2 ix_D idxD_ok (eo_var (i := 2) (l := true) (d := .lst z4) rfl (pv 2)) (EV.o (ev_var (i := 5) (d := d8) rfl (pv 5))) (fun _ _ => rfl))) (EV.o (ev_binL op_mulD mulD_ok (EV.o (ev_var (i := 4) (d := y5.2) rfl (pv 4))) (EV.o (ev_bin2 op_addD addD_ok (EV.o (ev_var (i := 3) (d := y5.1) rfl (pv 3))) (EV.o ev_int)))))) (ev_var (i := 5) (d := d8) rfl (pv 5)) (fun l12 => (bi_nil (z := l12) (Wk.keep (Wk.keep (Wk.keep (Wk.drop (Wk.drop (Wk.drop Wk.nil)))))))))))) (fun z4 => (bi_frz 2 (bi_ret (ev_var (i := 2) (d := (.lst z4)) rfl (pv 2)))))))) rfl rfl)
end
end LW
set_option Elab.async false
set_option linter.all false
set_option maxRecDepth 100000
set_option autoImplicit false
set_option pp.maxSteps 400
set_option maxHeartbeats 8000000
namespace LW
open PySem PySem.Spec L2 VL
open PyProof.Rows hiding St
section
variable {P : Program} {w : World} {K : PySem.W.Frag} {mg : Str → Option Value} {base : Heap}
theorem sc_law_same : FnScope ["_law_got", "_law_due", "_law_mine", "_law_its", "_law_alike_so"] ["_law_got", "_law_due"] (defScope (top 38)) := ⟨rfl, rfl, rfl, by decide +kernel, rfl, by decide +kernel, by decide +kernel⟩
def m_law_same : Nat → D → D → Rs D
  | 0, _, _ => Rs.no
  | n + 1, a_law_got, a_law_due => ((Rs.of (isiD2 "list" "tuple" a_law_due)).bind fun x0 => Rs.of (asB x0)).bind fun k => if k then ((Rs.of (isiD "list" a_law_got)).bind fun x1 => (Rs.of (isiD "list" a_law_due)).bind fun x2 => Rs.of (neB x1 x2)).bind fun k => if k then (Rs.ok (.bl false)) else ((Rs.of (isiD "tuple" a_law_got)).bind fun x3 => (Rs.of (isiD "tuple" a_law_due)).bind fun x4 => Rs.of (neB x3 x4)).bind fun k => if k then (Rs.ok (.bl false)) else ((Rs.of (lenD [a_law_got])).bind fun x5 => (Rs.of (lenD [a_law_due])).bind fun x6 => Rs.of (eqD x5 x6)).bind fun x11 => (Rs.of (asB x11)).bind fun k => if k then (((Rs.of (zipD a_law_got a_law_due)).bind fun l8 => compM un2 (fun y7 => Rs.ok true) (fun y7 => m_law_same n y7.1 y7.2) l8).bind fun l9 => Rs.ok (.lst l9)).bind fun x10 => Rs.of (allD [x10]) else Rs.ok (.bl false) else ((Rs.of (isNB a_law_due .non)).bind fun k => if k then Rs.ok true else (Rs.of (isiD2 "bool" "str" a_law_due)).bind fun x12 => Rs.of (asB x12)).bind fun k => if k then (((Rs.of (isiD "bool" a_law_got)).bind fun x13 => (Rs.of (isiD "bool" a_law_due)).bind fun x14 => Rs.of (eqD x13 x14)).bind fun x17 => (Rs.of (asB x17)).bind fun k => if k then (Rs.of (isND a_law_got .non)).bind fun x15 => (Rs.of (isND a_law_due .non)).bind fun x16 => Rs.of (eqD x15 x16) else Rs.ok (.bl false)).bind fun d18 => (Rs.of (asB d18)).bind fun k => if k then Rs.of (eqD a_law_got a_law_due) else Rs.ok (.bl false) else (Rs.of (isiD "int" a_law_got)).bind fun x21 => (Rs.of (asB x21)).bind fun k => if k then ((Rs.of (isiD "bool" a_law_got)).bind fun x19 => (Rs.of (asB x19)).bind fun k => Rs.ok (.bl (!k))).bind fun x20 => (Rs.of (asB x20)).bind fun k => if k then Rs.of (eqD a_law_got a_law_due) else Rs.ok (.bl false) else Rs.ok (.bl false)
theorem k_law_same (T : Txt K mg) : ∀ n : Nat, Keeps P w K mg base (n + 2) (He.ga K "_law_same") T.fd_law_same ["_law_got", "_law_due"] (fun ds => match ds with | [a_law_got, a_law_due] => m_law_same n a_law_got a_law_due | _ => Rs.no)
  | 0 => keeps_no T.F_law_same sc_law_same (fun ds => by split <;> first | rfl | (simp only [m_law_same]))
  | n + 1 => by
    have ih := k_law_same T n
    exact keeps_ret T.F_law_same sc_law_same (fun cdv A outer s H E F ds hl hr => match ds, hl with | [a_law_got, a_law_due], _ => bi_as [some (.val a_law_got), some (.val a_law_due), none, none, none] (bi_ifr (tv_val (ev_isi2 T.f_isinstance T.f_list boot_list T.f_tuple boot_tuple kitT_list kitT_tuple (EV.o (ev_var (i := 1) (d := a_law_due) rfl (pv 1))))) (bi_ifr (tv_cmp (op_neA hr.units) neD_ok neD_is (EV.o (ev_isi T.f_isinstance T.f_list boot_list kitT_list (EV.o (ev_var (i := 0) (d := a_law_got) rfl (pv 0))))) (EV.o (ev_isi T.f_isinstance T.f_list boot_list kitT_list (EV.o (ev_var (i := 1) (d := a_law_due) rfl (pv 1))))) (nomark _)) (bi_ret ev_bl) (bi_ifr (tv_cmp (op_neA hr.units) neD_ok neD_is (EV.o (ev_isi T.f_isinstance T.f_tuple boot_tuple kitT_tuple (EV.o (ev_var (i := 0) (d := a_law_got) rfl (pv 0))))) (EV.o (ev_isi T.f_isinstance T.f_tuple boot_tuple kitT_tuple (EV.o (ev_var (i := 1) (d := a_law_due) rfl (pv 1))))) (nomark _)) (bi_ret ev_bl) (bi_ret (ev_and (ev_cmp (op_eqA hr.units) eqD_ok (EV.o (ev_callBC call_len lenD_ok T.f_len boot_len (oc_consV (EV.o (ev_var (i := 0) (d := a_law_got) rfl (pv 0))) oc_nil))) (EV.o (ev_callBC call_len lenD_ok T.f_len boot_len (oc_consV (EV.o (ev_var (i := 1) (d := a_law_due) rfl (pv 1))) oc_nil))) (nomark _)) (ev_one (ev_callBC (cr_all rfl) allD_ok T.f_all boot_all (oc_cons (EV.o (EF.ev (ef_comp rfl sc_law_same.nd (it_zip rfl T.f_zip (ev_var (i := 0) (d := a_law_got) rfl (pv 0)) (ev_var (i := 1) (d := a_law_due) rfl (pv 1))) (blkOk_by (own := [("_law_mine", 2), ("_law_its", 3)]) (by kernel_rfl)) (by decide) (fun _ _ _ _ _ => tt_2 (i := 2) rfl (pg_name (i := 2) sc_law_same.nd rfl (by first | exact Or.inl rfl | exact Or.inr rfl)) (pg_name (i := 3) sc_law_same.nd rfl (by first | exact Or.inl rfl | exact Or.inr rfl))) (fun _ _ _ _ _ y7 => tvs_nil) (fun _ _ _ _ _ y7 => (ev_callC takes0N ih (hr.mono (by omega)) T.g_law_same T.F_law_same.kp T.b_law_same (ac_consV (ev_var (i := 2) (d := y7.1) rfl (pv 2)) (ac_consV (ev_var (i := 3) (d := y7.2) rfl (pv 3)) ac_nil))))))) oc_nil))))))) (bi_ifr (TW.tv (tw_or (tv_cmp2 op_isN isND_ok isND_is (EV.o (ev_var (i := 1) (d := a_law_due) rfl (pv 1))) (EV.o ev_non) (nomark _)) (tw_or1 (tv_val (ev_isi2 T.f_isinstance T.f_bool boot_bool T.f_str boot_str kitT_bool kitT_str (EV.o (ev_var (i := 1) (d := a_law_due) rfl (pv 1)))))))) (bi_set (as_ev (i := 4) sc_law_same.nd (ev_and (ev_cmp (op_eqA hr.units) eqD_ok (EV.o (ev_isi T.f_isinstance T.f_bool boot_bool kitT_bool (EV.o (ev_var (i := 0) (d := a_law_got) rfl (pv 0))))) (EV.o (ev_isi T.f_isinstance T.f_bool boot_bool kitT_bool (EV.o (ev_var (i := 1) (d := a_law_due) rfl (pv 1))))) (nomark _)) (ev_one (ev_cmp (op_eqA hr.units) eqD_ok (EV.o (ev_cmp2 op_isN isND_ok (EV.o (ev_var (i := 0) (d := a_law_got) rfl (pv 0))) (EV.o ev_non) (nomark _))) (EV.o (ev_cmp2 op_isN isND_ok (EV.o (ev_var (i := 1) (d := a_law_due) rfl (pv 1))) (EV.o ev_non) (nomark _))) (nomark _))))) (fun d18 => (bi_ret (ev_and (ev_var (i := 4) (d := d18) rfl (pv 4)) (ev_one (ev_cmp2 (op_eqA hr.units) eqD_ok (EV.o (ev_var (i := 0) (d := a_law_got) rfl (pv 0))) (EV.o (ev_var (i := 1) (d := a_law_due) rfl (pv 1))) (nomark _))))))) (bi_ret (ev_and (ev_isi T.f_isinstance T.f_int boot_int kitT_int (EV.o (ev_var (i := 0) (d := a_law_got) rfl (pv 0)))) (ev_and (ev_not (ev_isi T.f_isinstance T.f_bool boot_bool kitT_bool (EV.o (ev_var (i := 0) (d := a_law_got) rfl (pv 0))))) (ev_one (ev_cmp2 (op_eqA hr.units) eqD_ok (EV.o (ev_var (i := 0) (d := a_law_got) rfl (pv 0))) (EV.o (ev_var (i := 1) (d := a_law_due) rfl (pv 1))) (nomark _)))))))) rfl rfl)
end
end LW
set_option Elab.async false
set_option linter.all false
set_option maxRecDepth 100000
set_option autoImplicit false
set_option pp.maxSteps 400
set_option maxHeartbeats 8000000
namespace LW
open PySem PySem.Spec L2 VL
open PyProof.Rows hiding St
section
variable {P : Program} {w : World} {K : PySem.W.Frag} {mg : Str → Option Value} {base : Heap}
theorem sc_law_lists : FnScope ["_law_matter", "_law_bit"] ["_law_matter"] (defScope (top 39)) := ⟨rfl, rfl, rfl, by decide +kernel, rfl, by decide +kernel, by decide +kernel⟩
def m_law_lists : Nat → D → Rs D
  | 0, _ => Rs.no
  | n + 1, a_law_matter => ((Rs.of (isiD2 "list" "tuple" a_law_matter)).bind fun x0 => Rs.of (asB x0)).bind fun k => if k then ((Rs.of (itemsD a_law_matter)).bind fun l2 => compM some (fun y1 => Rs.ok true) (fun y1 => m_law_lists n y1) l2).bind fun l3 => Rs.ok (.lst l3) else (Rs.ok a_law_matter)
theorem k_law_lists (T : Txt K mg) : ∀ n : Nat, Keeps P w K mg base (n + 2) (He.ga K "_law_lists") T.fd_law_lists ["_law_matter"] (fun ds => match ds with | [a_law_matter] => m_law_lists n a_law_matter | _ => Rs.no)
  | 0 => keeps_no T.F_law_lists sc_law_lists (fun ds => by split <;> first | rfl | (simp only [m_law_lists]))
  | n + 1 => by
    have ih := k_law_lists T n
    exact keeps_ret T.F_law_lists sc_law_lists (fun cdv A outer s H E F ds hl hr => match ds, hl with | [a_law_matter], _ => bi_as [some (.val a_law_matter), none] (bi_ret (ev_if (tv_val (ev_isi2 T.f_isinstance T.f_list boot_list T.f_tuple boot_tuple kitT_list kitT_tuple (EV.o (ev_var (i := 0) (d := a_law_matter) rfl (pv 0))))) (EF.ev (ef_comp rfl sc_law_lists.nd (it_seqV (ev_var (i := 0) (d := a_law_matter) rfl (pv 0))) (blkOk_by (own := [("_law_bit", 1)]) (by kernel_rfl)) (by decide) (fun _ _ _ _ _ => tt_name (i := 1) sc_law_lists.nd) (fun _ _ _ _ _ y1 => tvs_nil) (fun _ _ _ _ _ y1 => (ev_callC takes0N ih (hr.mono (by omega)) T.g_law_lists T.F_law_lists.kp T.b_law_lists (ac_consV (ev_var (i := 1) (d := y1) rfl (pv 1)) ac_nil))))) (ev_var (i := 0) (d := a_law_matter) rfl (pv 0)))) rfl rfl)
end
end LW
set_option Elab.async false
set_option linter.all false
set_option maxRecDepth 100000
set_option autoImplicit false
set_option pp.maxSteps 400
set_option maxHeartbeats 8000000
namespace LW
open PySem PySem.Spec L2 VL
open PyProof.Rows hiding St
section
variable {P : Program} {w : World} {K : PySem.W.Frag} {mg : Str → Option Value} {base : Heap}
theorem sc_law_part : FnScope ["_law_one_so", "_law_other_so"] ["_law_one_so", "_law_other_so"] (defScope (top 41)) := ⟨rfl, rfl, rfl, by decide +kernel, rfl, by decide +kernel, by decide +kernel⟩
def m_law_part (a_law_one_so a_law_other_so : D) : Rs D := (whileN (fun z0 => Rs.of (neB z0.2 (.int 0))) (fun z0 => (Rs.of (modD z0.1 z0.2)).bind fun d2 => Rs.ok (z0.2, d2)) FUEL (a_law_one_so, a_law_other_so)).bind fun z0 => (Rs.ok z0.1)
theorem k_law_part (T : Txt K mg) : Keeps P w K mg base 2 (He.ga K "_law_part") T.fd_law_part ["_law_one_so", "_law_other_so"] (fun ds => match ds with | [a_law_one_so, a_law_other_so] => m_law_part a_law_one_so a_law_other_so | _ => Rs.no) :=
  keeps_ret T.F_law_part sc_law_part (fun cdv A outer s H E F ds hl hr => match ds, hl with | [a_law_one_so, a_law_other_so], _ => bi_as [some (.val a_law_one_so), some (.val a_law_other_so)] (bi_while (post := fun (z0 : D × D) => [some (.val z0.1), some (.val z0.2)]) (z0 := (a_law_one_so, a_law_other_so)) FUEL (passes_of rfl) (Wk.keep (Wk.keep Wk.nil)) (fun z0 => (tv_cmp2 (op_neA hr.units) neD_ok neD_is (EV.o (ev_var (i := 1) (d := z0.2) rfl (pv 1))) (EV.o ev_int) (nomark _))) (fun z0 => (bi_par (i := 0) (j := 1) rfl sc_law_part.nd (ev_var (i := 1) (d := z0.2) rfl (pv 1)) (ev_bin2 op_modN modD_ok (EV.o (ev_var (i := 0) (d := z0.1) rfl (pv 0))) (EV.o (ev_var (i := 1) (d := z0.2) rfl (pv 1)))) (fun d1 d2 => (bi_nil (z := (d1, d2)) (Wk.keep (Wk.keep Wk.nil))))))  (fun z0 => (bi_ret (ev_var (i := 0) (d := z0.1) rfl (pv 0))))) rfl rfl)
end
end LW
set_option Elab.async false
set_option linter.all false
set_option maxRecDepth 100000
set_option autoImplicit false
set_option pp.maxSteps 400
set_option maxHeartbeats 8000000
namespace LW
open PySem PySem.Spec L2 VL
open PyProof.Rows hiding St
section
variable {P : Program} {w : World} {K : PySem.W.Frag} {mg : Str → Option Value} {base : Heap}
theorem sc_law_ratio : FnScope ["_law_top_so", "_law_low_so", "_law_part_so"] ["_law_top_so", "_law_low_so"] (defScope (top 40)) := ⟨rfl, rfl, rfl, by decide +kernel, rfl, by decide +kernel, by decide +kernel⟩
def m_law_ratio (a_law_top_so a_law_low_so : D) : Rs D := (m_law_part a_law_top_so a_law_low_so).bind fun d0 => (Rs.of (fdivD a_law_top_so d0)).bind fun x1 => (Rs.of (fdivD a_law_low_so d0)).bind fun x2 => Rs.ok (.tup [x1, x2])
theorem k_law_ratio (T : Txt K mg) : Keeps P w K mg base 4 (He.ga K "_law_ratio") T.fd_law_ratio ["_law_top_so", "_law_low_so"] (fun ds => match ds with | [a_law_top_so, a_law_low_so] => m_law_ratio a_law_top_so a_law_low_so | _ => Rs.no) :=
  keeps_ret T.F_law_ratio sc_law_ratio (fun cdv A outer s H E F ds hl hr => match ds, hl with | [a_law_top_so, a_law_low_so], _ => bi_as [some (.val a_law_top_so), some (.val a_law_low_so), none] (bi_set (as_ev (i := 2) sc_law_ratio.nd (ev_callC (L2N.takes_of rfl rfl rfl rfl) (k_law_part T) (hr.mono (by decide)) T.g_law_part T.F_law_part.kp T.b_law_part (ac_consV (ev_var (i := 0) (d := a_law_top_so) rfl (pv 0)) (ac_consV (ev_var (i := 1) (d := a_law_low_so) rfl (pv 1)) ac_nil)))) (fun d0 => (bi_ret (ev_tupC (ac_cons (ev_bin2 op_fdivB fdivD_ok (EV.o (ev_var (i := 0) (d := a_law_top_so) rfl (pv 0))) (EV.o (ev_var (i := 2) (d := d0) rfl (pv 2)))) (ac_cons (ev_bin2 op_fdivB fdivD_ok (EV.o (ev_var (i := 1) (d := a_law_low_so) rfl (pv 1))) (EV.o (ev_var (i := 2) (d := d0) rfl (pv 2)))) ac_nil)))))) rfl rfl)
end
end LW
set_option Elab.async false
set_option linter.all false
set_option maxRecDepth 100000
set_option autoImplicit false
set_option pp.maxSteps 400
set_option maxHeartbeats 8000000
namespace LW
open PySem PySem.Spec L2 VL
open PyProof.Rows hiding St
section
variable {P : Program} {w : World} {K : PySem.W.Frag} {mg : Str → Option Value} {base : Heap}
theorem sc_law_sum : FnScope ["_law_some", "_law_top_so", "_law_low_so", "_law_own"] ["_law_some"] (defScope (top 42)) := ⟨rfl, rfl, rfl, by decide +kernel, rfl, by decide +kernel, by decide +kernel⟩
def m_law_sum (a_law_some : D) : Rs D := (Rs.of (unL2 (.tup [(.int 0), (.int 1)]))).bind fun z0 => (Rs.of (itemsD a_law_some)).bind fun l3 => (foldM (fun z1 d => (Rs.of (some d)).bind fun y2 => (((Rs.of (idxD y2 (.int 1))).bind fun x4 => Rs.of (mulD z1.1 x4)).bind fun x6 => ((Rs.of (idxD y2 (.int 0))).bind fun x5 => Rs.of (mulD x5 z1.2)).bind fun x7 => Rs.of (addD x6 x7)).bind fun d9 => ((Rs.of (idxD y2 (.int 1))).bind fun x8 => Rs.of (mulD z1.2 x8)).bind fun d10 => Rs.ok (d9, d10)) l3 (z0.1, z0.2)).bind fun z1 => m_law_ratio z1.1 z1.2
theorem k_law_sum (T : Txt K mg) : Keeps P w K mg base 6 (He.ga K "_law_sum") T.fd_law_sum ["_law_some"] (fun ds => match ds with | [a_law_some] => m_law_sum a_law_some | _ => Rs.no) :=
  keeps_ret T.F_law_sum sc_law_sum (fun cdv A outer s H E F ds hl hr => match ds, hl with | [a_law_some], _ => bi_as [some (.val a_law_some), none, none, none] (bi_unp (ev_tupC (ac_consV ev_int (ac_consV ev_int ac_nil))) (tl_2 rfl (pg_name (i := 1) sc_law_sum.nd rfl (by first | exact Or.inl rfl | exact Or.inr rfl)) (pg_name (i := 2) sc_law_sum.nd rfl (by first | exact Or.inl rfl | exact Or.inr rfl))) (fun z0 => (bi_for (post := fun (z1 : D × D) => [some (.val a_law_some), some (.val z1.1), some (.val z1.2), none]) (z0 := (z0.1, z0.2)) (passes_of rfl) rfl (it_seqV (ev_var (i := 0) (d := a_law_some) rfl (pv 0))) (Wk.keep (Wk.keep (Wk.keep (Wk.drop Wk.nil)))) (fun z1 => tt_name (i := 3) sc_law_sum.nd) (fun z1 y2 => (bi_par (i := 1) (j := 2) rfl sc_law_sum.nd (ev_bin op_addD addD_ok (EV.o (ev_binL op_mulD mulD_ok (EV.o (ev_var (i := 1) (d := z1.1) rfl (pv 1))) (EV.o (ev_ix2 ix_D idxD_ok (EV.o (ev_var (i := 3) (d := y2) rfl (pv 3))) (EV.o ev_int) (fun _ _ => rfl))))) (EV.o (ev_binR op_mulD mulD_ok (EV.o (ev_ix2 ix_D idxD_ok (EV.o (ev_var (i := 3) (d := y2) rfl (pv 3))) (EV.o ev_int) (fun _ _ => rfl))) (EV.o (ev_var (i := 2) (d := z1.2) rfl (pv 2)))))) (ev_binL op_mulD mulD_ok (EV.o (ev_var (i := 2) (d := z1.2) rfl (pv 2))) (EV.o (ev_ix2 ix_D idxD_ok (EV.o (ev_var (i := 3) (d := y2) rfl (pv 3))) (EV.o ev_int) (fun _ _ => rfl)))) (fun d9 d10 => (bi_nil (z := (d9, d10)) (Wk.keep (Wk.keep (Wk.keep (Wk.drop Wk.nil)))))))) (fun z1 => (bi_ret (ev_callC (L2N.takes_of rfl rfl rfl rfl) (k_law_ratio T) (hr.mono (by decide)) T.g_law_ratio T.F_law_ratio.kp T.b_law_ratio (ac_consV (ev_var (i := 1) (d := z1.1) rfl (pv 1)) (ac_consV (ev_var (i := 2) (d := z1.2) rfl (pv 2)) ac_nil)))))))) rfl rfl)
end
end LW
set_option Elab.async false
set_option linter.all false
set_option maxRecDepth 100000
set_option autoImplicit false
set_option pp.maxSteps 400
set_option maxHeartbeats 8000000
namespace LW
open PySem PySem.Spec L2 VL
open PyProof.Rows hiding St
section
variable {P : Program} {w : World} {K : PySem.W.Frag} {mg : Str → Option Value} {base : Heap}
theorem sc_law_less : FnScope ["_law_one_so", "_law_two_so"] ["_law_one_so", "_law_two_so"] (defScope (top 43)) := ⟨rfl, rfl, rfl, by decide +kernel, rfl, by decide +kernel, by decide +kernel⟩
def m_law_less (a_law_one_so a_law_two_so : D) : Rs D := ((Rs.of (idxD a_law_one_so (.int 0))).bind fun x0 => (Rs.of (idxD a_law_two_so (.int 1))).bind fun x1 => Rs.of (mulD x0 x1)).bind fun x4 => ((Rs.of (idxD a_law_two_so (.int 0))).bind fun x2 => (Rs.of (idxD a_law_one_so (.int 1))).bind fun x3 => Rs.of (mulD x2 x3)).bind fun x5 => Rs.of (ltD x4 x5)
theorem k_law_less (T : Txt K mg) : Keeps P w K mg base 2 (He.ga K "_law_less") T.fd_law_less ["_law_one_so", "_law_two_so"] (fun ds => match ds with | [a_law_one_so, a_law_two_so] => m_law_less a_law_one_so a_law_two_so | _ => Rs.no) :=
  keeps_ret T.F_law_less sc_law_less (fun cdv A outer s H E F ds hl hr => match ds, hl with | [a_law_one_so, a_law_two_so], _ => bi_as [some (.val a_law_one_so), some (.val a_law_two_so)] (bi_ret (ev_cmp (op_ltA hr.units) ltD_ok (EV.o (ev_bin op_mulD mulD_ok (EV.o (ev_ix2 ix_D idxD_ok (EV.o (ev_var (i := 0) (d := a_law_one_so) rfl (pv 0))) (EV.o ev_int) (fun _ _ => rfl))) (EV.o (ev_ix2 ix_D idxD_ok (EV.o (ev_var (i := 1) (d := a_law_two_so) rfl (pv 1))) (EV.o ev_int) (fun _ _ => rfl))))) (EV.o (ev_bin op_mulD mulD_ok (EV.o (ev_ix2 ix_D idxD_ok (EV.o (ev_var (i := 1) (d := a_law_two_so) rfl (pv 1))) (EV.o ev_int) (fun _ _ => rfl))) (EV.o (ev_ix2 ix_D idxD_ok (EV.o (ev_var (i := 0) (d := a_law_one_so) rfl (pv 0))) (EV.o ev_int) (fun _ _ => rfl))))) (nomark _))) rfl rfl)
end
end LW
set_option Elab.async false
set_option linter.all false
set_option maxRecDepth 100000
set_option autoImplicit false
set_option pp.maxSteps 400
set_option maxHeartbeats 8000000
namespace LW
open PySem PySem.Spec L2 VL
open PyProof.Rows hiding St
section
variable {P : Program} {w : World} {K : PySem.W.Frag} {mg : Str → Option Value} {base : Heap}
theorem sc_law_by : FnScope ["_law_one_so", "_law_two_so"] ["_law_one_so", "_law_two_so"] (defScope (top 44)) := ⟨rfl, rfl, rfl, by decide +kernel, rfl, by decide +kernel, by decide +kernel⟩
def m_law_by (a_law_one_so a_law_two_so : D) : Rs D := ((Rs.of (idxD a_law_one_so (.int 0))).bind fun x0 => (Rs.of (idxD a_law_two_so (.int 0))).bind fun x1 => Rs.of (mulD x0 x1)).bind fun x4 => ((Rs.of (idxD a_law_one_so (.int 1))).bind fun x2 => (Rs.of (idxD a_law_two_so (.int 1))).bind fun x3 => Rs.of (mulD x2 x3)).bind fun x5 => m_law_ratio x4 x5
theorem k_law_by (T : Txt K mg) : Keeps P w K mg base 6 (He.ga K "_law_by") T.fd_law_by ["_law_one_so", "_law_two_so"] (fun ds => match ds with | [a_law_one_so, a_law_two_so] => m_law_by a_law_one_so a_law_two_so | _ => Rs.no) :=
  keeps_ret T.F_law_by sc_law_by (fun cdv A outer s H E F ds hl hr => match ds, hl with | [a_law_one_so, a_law_two_so], _ => bi_as [some (.val a_law_one_so), some (.val a_law_two_so)] (bi_ret (ev_callC (L2N.takes_of rfl rfl rfl rfl) (k_law_ratio T) (hr.mono (by decide)) T.g_law_ratio T.F_law_ratio.kp T.b_law_ratio (ac_cons (ev_bin op_mulD mulD_ok (EV.o (ev_ix2 ix_D idxD_ok (EV.o (ev_var (i := 0) (d := a_law_one_so) rfl (pv 0))) (EV.o ev_int) (fun _ _ => rfl))) (EV.o (ev_ix2 ix_D idxD_ok (EV.o (ev_var (i := 1) (d := a_law_two_so) rfl (pv 1))) (EV.o ev_int) (fun _ _ => rfl)))) (ac_cons (ev_bin op_mulD mulD_ok (EV.o (ev_ix2 ix_D idxD_ok (EV.o (ev_var (i := 0) (d := a_law_one_so) rfl (pv 0))) (EV.o ev_int) (fun _ _ => rfl))) (EV.o (ev_ix2 ix_D idxD_ok (EV.o (ev_var (i := 1) (d := a_law_two_so) rfl (pv 1))) (EV.o ev_int) (fun _ _ => rfl)))) ac_nil)))) rfl rfl)
end
end LW
set_option Elab.async false
set_option linter.all false
set_option maxRecDepth 100000
set_option autoImplicit false
set_option pp.maxSteps 400
set_option maxHeartbeats 8000000
namespace LW
open PySem PySem.Spec L2 VL
open PyProof.Rows hiding St
section
variable {P : Program} {w : World} {K : PySem.W.Frag} {mg : Str → Option Value} {base : Heap}
theorem sc_law_least : FnScope ["_law_some", "_law_found", "_law_own"] ["_law_some"] (defScope (top 45)) := ⟨rfl, rfl, rfl, by decide +kernel, rfl, by decide +kernel, by decide +kernel⟩
def m_law_least (a_law_some : D) : Rs D := (Rs.of (idxD a_law_some (.int 0))).bind fun d0 => (Rs.of (itemsD a_law_some)).bind fun l3 => (foldM (fun z1 d => (Rs.of (some d)).bind fun y2 => (((m_law_less y2 z1).bind fun x4 => Rs.of (asB x4)).bind fun k => if k then (Rs.ok y2) else (Rs.ok z1)).bind fun d5 => Rs.ok d5) l3 d0).bind fun z1 => (Rs.ok z1)
theorem k_law_least (T : Txt K mg) : Keeps P w K mg base 4 (He.ga K "_law_least") T.fd_law_least ["_law_some"] (fun ds => match ds with | [a_law_some] => m_law_least a_law_some | _ => Rs.no) :=
  keeps_ret T.F_law_least sc_law_least (fun cdv A outer s H E F ds hl hr => match ds, hl with | [a_law_some], _ => bi_as [some (.val a_law_some), none, none] (bi_set (as_ev (i := 1) sc_law_least.nd (ev_ix2 ix_D idxD_ok (EV.o (ev_var (i := 0) (d := a_law_some) rfl (pv 0))) (EV.o ev_int) (fun _ _ => rfl))) (fun d0 => (bi_for (post := fun (z1 : D) => [some (.val a_law_some), some (.val z1), none]) (z0 := d0) (passes_of rfl) rfl (it_seqV (ev_var (i := 0) (d := a_law_some) rfl (pv 0))) (Wk.keep (Wk.keep (Wk.drop Wk.nil))) (fun z1 => tt_name (i := 2) sc_law_least.nd) (fun z1 y2 => (bi_set (as_ev (i := 1) sc_law_least.nd (ev_if (tv_val (ev_callC (L2N.takes_of rfl rfl rfl rfl) (k_law_less T) (hr.mono (by decide)) T.g_law_less T.F_law_less.kp T.b_law_less (ac_consV (ev_var (i := 2) (d := y2) rfl (pv 2)) (ac_consV (ev_var (i := 1) (d := z1) rfl (pv 1)) ac_nil)))) (ev_var (i := 2) (d := y2) rfl (pv 2)) (ev_var (i := 1) (d := z1) rfl (pv 1)))) (fun d5 => (bi_nil (z := d5) (Wk.keep (Wk.keep (Wk.drop Wk.nil))))))) (fun z1 => (bi_ret (ev_var (i := 1) (d := z1) rfl (pv 1))))))) rfl rfl)
end
end LW
set_option Elab.async false
set_option linter.all false
set_option maxRecDepth 100000
set_option autoImplicit false
set_option pp.maxSteps 400
set_option maxHeartbeats 8000000
namespace LW
open PySem PySem.Spec L2 VL
open PyProof.Rows hiding St
section
variable {P : Program} {w : World} {K : PySem.W.Frag} {mg : Str → Option Value} {base : Heap}
theorem sc_law_most : FnScope ["_law_some", "_law_found", "_law_own"] ["_law_some"] (defScope (top 46)) := ⟨rfl, rfl, rfl, by decide +kernel, rfl, by decide +kernel, by decide +kernel⟩
def m_law_most (a_law_some : D) : Rs D := (Rs.of (idxD a_law_some (.int 0))).bind fun d0 => (Rs.of (itemsD a_law_some)).bind fun l3 => (foldM (fun z1 d => (Rs.of (some d)).bind fun y2 => (((m_law_less z1 y2).bind fun x4 => Rs.of (asB x4)).bind fun k => if k then (Rs.ok y2) else (Rs.ok z1)).bind fun d5 => Rs.ok d5) l3 d0).bind fun z1 => (Rs.ok z1)
theorem k_law_most (T : Txt K mg) : Keeps P w K mg base 4 (He.ga K "_law_most") T.fd_law_most ["_law_some"] (fun ds => match ds with | [a_law_some] => m_law_most a_law_some | _ => Rs.no) :=
  keeps_ret T.F_law_most sc_law_most (fun cdv A outer s H E F ds hl hr => match ds, hl with | [a_law_some], _ => bi_as [some (.val a_law_some), none, none] (bi_set (as_ev (i := 1) sc_law_most.nd (ev_ix2 ix_D idxD_ok (EV.o (ev_var (i := 0) (d := a_law_some) rfl (pv 0))) (EV.o ev_int) (fun _ _ => rfl))) (fun d0 => (bi_for (post := fun (z1 : D) => [some (.val a_law_some), some (.val z1), none]) (z0 := d0) (passes_of rfl) rfl (it_seqV (ev_var (i := 0) (d := a_law_some) rfl (pv 0))) (Wk.keep (Wk.keep (Wk.drop Wk.nil))) (fun z1 => tt_name (i := 2) sc_law_most.nd) (fun z1 y2 => (bi_set (as_ev (i := 1) sc_law_most.nd (ev_if (tv_val (ev_callC (L2N.takes_of rfl rfl rfl rfl) (k_law_less T) (hr.mono (by decide)) T.g_law_less T.F_law_less.kp T.b_law_less (ac_consV (ev_var (i := 1) (d := z1) rfl (pv 1)) (ac_consV (ev_var (i := 2) (d := y2) rfl (pv 2)) ac_nil)))) (ev_var (i := 2) (d := y2) rfl (pv 2)) (ev_var (i := 1) (d := z1) rfl (pv 1)))) (fun d5 => (bi_nil (z := d5) (Wk.keep (Wk.keep (Wk.drop Wk.nil))))))) (fun z1 => (bi_ret (ev_var (i := 1) (d := z1) rfl (pv 1))))))) rfl rfl)
end
end LW
set_option Elab.async false
set_option linter.all false
set_option maxRecDepth 100000
set_option autoImplicit false
set_option pp.maxSteps 400
set_option maxHeartbeats 8000000
namespace LW
open PySem PySem.Spec L2 VL
open PyProof.Rows hiding St
section
variable {P : Program} {w : World} {K : PySem.W.Frag} {mg : Str → Option Value} {base : Heap}
theorem sc_law_is_part : FnScope ["_law_matter", "_law_own"] ["_law_matter"] (defScope (top 47)) := ⟨rfl, rfl, rfl, by decide +kernel, rfl, by decide +kernel, by decide +kernel⟩
def m_law_is_part (a_law_matter : D) : Rs D := ((((Rs.of (isiD "tuple" a_law_matter)).bind fun x0 => Rs.of (asB x0)).bind fun k => Rs.ok (!k)).bind fun k => if k then Rs.ok true else (Rs.of (lenD [a_law_matter])).bind fun x1 => Rs.of (neB x1 (.int 2))).bind fun k => if k then (Rs.ok (.bl false)) else ((((((Rs.of (itemsD a_law_matter)).bind fun l5 => compM some (fun y2 => Rs.ok true) (fun y2 => (Rs.of (isiD "int" y2)).bind fun x4 => (Rs.of (asB x4)).bind fun k => if k then (Rs.of (isiD "bool" y2)).bind fun x3 => (Rs.of (asB x3)).bind fun k => Rs.ok (.bl (!k)) else Rs.ok (.bl false)) l5).bind fun l6 => Rs.ok (.lst l6)).bind fun x7 => Rs.of (allD [x7])).bind fun x8 => Rs.of (asB x8)).bind fun k => Rs.ok (!k)).bind fun k => if k then (Rs.ok (.bl false)) else ((Rs.of (idxD a_law_matter (.int 0))).bind fun x9 => Rs.of (geD x9 (.int 0))).bind fun x15 => (Rs.of (asB x15)).bind fun k => if k then ((Rs.of (idxD a_law_matter (.int 1))).bind fun x10 => Rs.of (geD x10 (.int 1))).bind fun x14 => (Rs.of (asB x14)).bind fun k => if k then ((Rs.of (idxD a_law_matter (.int 0))).bind fun x11 => (Rs.of (idxD a_law_matter (.int 1))).bind fun x12 => m_law_part x11 x12).bind fun x13 => Rs.of (eqD x13 (.int 1)) else Rs.ok (.bl false) else Rs.ok (.bl false)
theorem k_law_is_part (T : Txt K mg) : Keeps P w K mg base 4 (He.ga K "_law_is_part") T.fd_law_is_part ["_law_matter"] (fun ds => match ds with | [a_law_matter] => m_law_is_part a_law_matter | _ => Rs.no) :=
  keeps_ret T.F_law_is_part sc_law_is_part (fun cdv A outer s H E F ds hl hr => match ds, hl with | [a_law_matter], _ => bi_as [some (.val a_law_matter), none] (bi_ifr (TW.tv (tw_or (tv_not (tv_val (ev_isi T.f_isinstance T.f_tuple boot_tuple kitT_tuple (EV.o (ev_var (i := 0) (d := a_law_matter) rfl (pv 0)))))) (tw_or1 (tv_cmpR (op_neA hr.units) neD_ok neD_is (EV.o (ev_callBC call_len lenD_ok T.f_len boot_len (oc_consV (EV.o (ev_var (i := 0) (d := a_law_matter) rfl (pv 0))) oc_nil))) (EV.o ev_int) (nomark _))))) (bi_ret ev_bl) (bi_ifr (tv_not (tv_val (ev_callBC (cr_all rfl) allD_ok T.f_all boot_all (oc_cons (EV.o (EF.ev (ef_comp rfl sc_law_is_part.nd (it_seqV (ev_var (i := 0) (d := a_law_matter) rfl (pv 0))) (blkOk_by (own := [("_law_own", 1)]) (by kernel_rfl)) (by decide) (fun _ _ _ _ _ => tt_name (i := 1) sc_law_is_part.nd) (fun _ _ _ _ _ y2 => tvs_nil) (fun _ _ _ _ _ y2 => (ev_and (ev_isi T.f_isinstance T.f_int boot_int kitT_int (EV.o (ev_var (i := 1) (d := y2) rfl (pv 1)))) (ev_one (ev_not (ev_isi T.f_isinstance T.f_bool boot_bool kitT_bool (EV.o (ev_var (i := 1) (d := y2) rfl (pv 1))))))))))) oc_nil)))) (bi_ret ev_bl) (bi_ret (ev_and (ev_cmpR (op_geA hr.units) geD_ok (EV.o (ev_ix2 ix_D idxD_ok (EV.o (ev_var (i := 0) (d := a_law_matter) rfl (pv 0))) (EV.o ev_int) (fun _ _ => rfl))) (EV.o ev_int) (nomark _)) (ev_and (ev_cmpR (op_geA hr.units) geD_ok (EV.o (ev_ix2 ix_D idxD_ok (EV.o (ev_var (i := 0) (d := a_law_matter) rfl (pv 0))) (EV.o ev_int) (fun _ _ => rfl))) (EV.o ev_int) (nomark _)) (ev_one (ev_cmpR (op_eqA hr.units) eqD_ok (EV.o (ev_callC (L2N.takes_of rfl rfl rfl rfl) (k_law_part T) (hr.mono (by decide)) T.g_law_part T.F_law_part.kp T.b_law_part (ac_cons (ev_ix2 ix_D idxD_ok (EV.o (ev_var (i := 0) (d := a_law_matter) rfl (pv 0))) (EV.o ev_int) (fun _ _ => rfl)) (ac_cons (ev_ix2 ix_D idxD_ok (EV.o (ev_var (i := 0) (d := a_law_matter) rfl (pv 0))) (EV.o ev_int) (fun _ _ => rfl)) ac_nil)))) (EV.o ev_int) (nomark _)))))))) rfl rfl)
end
end LW
set_option Elab.async false
set_option linter.all false
set_option maxRecDepth 100000
set_option autoImplicit false
set_option pp.maxSteps 400
set_option maxHeartbeats 8000000
namespace LW
open PySem PySem.Spec L2 VL
open PyProof.Rows hiding St
section
variable {P : Program} {w : World} {K : PySem.W.Frag} {mg : Str → Option Value} {base : Heap}
theorem sc_law_are_weights : FnScope ["_law_matter", "_law_many_so", "_law_own"] ["_law_matter", "_law_many_so"] (defScope (top 48)) := ⟨rfl, rfl, rfl, by decide +kernel, rfl, by decide +kernel, by decide +kernel⟩
def m_law_are_weights (a_law_matter a_law_many_so : D) : Rs D := ((((Rs.of (isiD "tuple" a_law_matter)).bind fun x0 => Rs.of (asB x0)).bind fun k => Rs.ok (!k)).bind fun k => if k then Rs.ok true else ((Rs.of (lenD [a_law_matter])).bind fun x1 => Rs.of (neB x1 a_law_many_so)).bind fun k => if k then Rs.ok true else (((((Rs.of (itemsD a_law_matter)).bind fun l3 => compM some (fun y2 => Rs.ok true) (fun y2 => m_law_is_part y2) l3).bind fun l4 => Rs.ok (.lst l4)).bind fun x5 => Rs.of (allD [x5])).bind fun x6 => Rs.of (asB x6)).bind fun k => Rs.ok (!k)).bind fun k => if k then (Rs.ok (.bl false)) else (m_law_sum a_law_matter).bind fun x7 => Rs.of (eqD x7 (.tup [(.int 1), (.int 1)]))
theorem k_law_are_weights (T : Txt K mg) : Keeps P w K mg base 8 (He.ga K "_law_are_weights") T.fd_law_are_weights ["_law_matter", "_law_many_so"] (fun ds => match ds with | [a_law_matter, a_law_many_so] => m_law_are_weights a_law_matter a_law_many_so | _ => Rs.no) :=
  keeps_ret T.F_law_are_weights sc_law_are_weights (fun cdv A outer s H E F ds hl hr => match ds, hl with | [a_law_matter, a_law_many_so], _ => bi_as [some (.val a_law_matter), some (.val a_law_many_so), none] (bi_ifr (TW.tv (tw_or (tv_not (tv_val (ev_isi T.f_isinstance T.f_tuple boot_tuple kitT_tuple (EV.o (ev_var (i := 0) (d := a_law_matter) rfl (pv 0)))))) (tw_or (tv_cmpR (op_neA hr.units) neD_ok neD_is (EV.o (ev_callBC call_len lenD_ok T.f_len boot_len (oc_consV (EV.o (ev_var (i := 0) (d := a_law_matter) rfl (pv 0))) oc_nil))) (EV.o (ev_var (i := 1) (d := a_law_many_so) rfl (pv 1))) (nomark _)) (tw_or1 (tv_not (tv_val (ev_callBC (cr_all rfl) allD_ok T.f_all boot_all (oc_cons (EV.o (EF.ev (ef_comp rfl sc_law_are_weights.nd (it_seqV (ev_var (i := 0) (d := a_law_matter) rfl (pv 0))) (blkOk_by (own := [("_law_own", 2)]) (by kernel_rfl)) (by decide) (fun _ _ _ _ _ => tt_name (i := 2) sc_law_are_weights.nd) (fun _ _ _ _ _ y2 => tvs_nil) (fun _ _ _ _ _ y2 => (ev_callC takes0N (k_law_is_part T) (hr.mono (by decide)) T.g_law_is_part T.F_law_is_part.kp T.b_law_is_part (ac_consV (ev_var (i := 2) (d := y2) rfl (pv 2)) ac_nil)))))) oc_nil)))))))) (bi_ret ev_bl) (bi_ret (ev_cmpR (op_eqA hr.units) eqD_ok (EV.o (ev_callC (L2N.takes_of rfl rfl rfl rfl) (k_law_sum T) (hr.mono (by decide)) T.g_law_sum T.F_law_sum.kp T.b_law_sum (ac_consV (ev_var (i := 0) (d := a_law_matter) rfl (pv 0)) ac_nil))) (EV.o (ev_tupC (ac_consV ev_int (ac_consV ev_int ac_nil)))) (nomark _)))) rfl rfl)
end
end LW
set_option Elab.async false
set_option linter.all false
set_option maxRecDepth 100000
set_option autoImplicit false
set_option pp.maxSteps 400
set_option maxHeartbeats 8000000
namespace LW
open PySem PySem.Spec L2 VL
open PyProof.Rows hiding St
section
variable {P : Program} {w : World} {K : PySem.W.Frag} {mg : Str → Option Value} {base : Heap}
theorem sc_law_sums : FnScope ["_law_rows_so", "_law_weights_so", "_law_own", "_law_far", "_law_row_so"] ["_law_rows_so", "_law_weights_so"] (defScope (top 49)) := ⟨rfl, rfl, rfl, by decide +kernel, rfl, by decide +kernel, by decide +kernel⟩
def m_law_sums (a_law_rows_so a_law_weights_so : D) : Rs D := ((Rs.of (itemsD a_law_rows_so)).bind fun l5 => compM some (fun y0 => Rs.ok true) (fun y0 => (((Rs.of (zipD y0 a_law_weights_so)).bind fun l2 => compM un2 (fun y1 => Rs.ok true) (fun y1 => m_law_by y1.1 y1.2) l2).bind fun l3 => Rs.ok (.lst l3)).bind fun x4 => m_law_sum x4) l5).bind fun l6 => Rs.ok (.lst l6)
theorem k_law_sums (T : Txt K mg) : Keeps P w K mg base 8 (He.ga K "_law_sums") T.fd_law_sums ["_law_rows_so", "_law_weights_so"] (fun ds => match ds with | [a_law_rows_so, a_law_weights_so] => m_law_sums a_law_rows_so a_law_weights_so | _ => Rs.no) :=
  keeps_ret T.F_law_sums sc_law_sums (fun cdv A outer s H E F ds hl hr => match ds, hl with | [a_law_rows_so, a_law_weights_so], _ => bi_as [some (.val a_law_rows_so), some (.val a_law_weights_so), none, none, none] (bi_ret (EF.ev (ef_comp rfl sc_law_sums.nd (it_seqV (ev_var (i := 0) (d := a_law_rows_so) rfl (pv 0))) (blkOk_by (own := [("_law_row_so", 4)]) (by kernel_rfl)) (by decide) (fun _ _ _ _ _ => tt_name (i := 4) sc_law_sums.nd) (fun _ _ _ _ _ y0 => tvs_nil) (fun _ _ _ _ _ y0 => (ev_callC takes0N (k_law_sum T) (hr.mono (by decide)) T.g_law_sum T.F_law_sum.kp T.b_law_sum (ac_cons (EF.ev (ef_comp rfl sc_law_sums.nd (it_zip rfl T.f_zip (ev_var (i := 4) (d := y0) rfl (pv 4)) (ev_var (i := 1) (d := a_law_weights_so) rfl (pv 1))) (blkOk_by (own := [("_law_own", 2), ("_law_far", 3)]) (by kernel_rfl)) (by decide) (fun _ _ _ _ _ => tt_2 (i := 2) rfl (pg_name (i := 2) sc_law_sums.nd rfl (by first | exact Or.inl rfl | exact Or.inr rfl)) (pg_name (i := 3) sc_law_sums.nd rfl (by first | exact Or.inl rfl | exact Or.inr rfl))) (fun _ _ _ _ _ y1 => tvs_nil) (fun _ _ _ _ _ y1 => (ev_callC takes0N (k_law_by T) (hr.mono (by decide)) T.g_law_by T.F_law_by.kp T.b_law_by (ac_consV (ev_var (i := 2) (d := y1.1) rfl (pv 2)) (ac_consV (ev_var (i := 3) (d := y1.2) rfl (pv 3)) ac_nil)))))) ac_nil)))))) rfl rfl)
end
end LW
set_option Elab.async false
set_option linter.all false
set_option maxRecDepth 100000
set_option autoImplicit false
set_option pp.maxSteps 400
set_option maxHeartbeats 8000000
namespace LW
open PySem PySem.Spec L2 VL
open PyProof.Rows hiding St
section
variable {P : Program} {w : World} {K : PySem.W.Frag} {mg : Str → Option Value} {base : Heap}
theorem sc_law_across : FnScope ["_law_rows_so", "_law_row_so", "_law_k"] ["_law_rows_so"] (defScope (top 50)) := ⟨rfl, rfl, rfl, by decide +kernel, rfl, by decide +kernel, by decide +kernel⟩
def m_law_across (a_law_rows_so : D) : Rs D := ((((Rs.of (idxD a_law_rows_so (.int 0))).bind fun x0 => Rs.of (lenD [x0])).bind fun x1 => Rs.of (rangeD x1)).bind fun l6 => compM some (fun y2 => Rs.ok true) (fun y2 => ((Rs.of (itemsD a_law_rows_so)).bind fun l4 => compM some (fun y3 => Rs.ok true) (fun y3 => Rs.of (idxD y3 y2)) l4).bind fun l5 => Rs.ok (.lst l5)) l6).bind fun l7 => Rs.ok (.lst l7)
theorem k_law_across (T : Txt K mg) : Keeps P w K mg base 2 (He.ga K "_law_across") T.fd_law_across ["_law_rows_so"] (fun ds => match ds with | [a_law_rows_so] => m_law_across a_law_rows_so | _ => Rs.no) :=
  keeps_ret T.F_law_across sc_law_across (fun cdv A outer s H E F ds hl hr => match ds, hl with | [a_law_rows_so], _ => bi_as [some (.val a_law_rows_so), none, none] (bi_ret (EF.ev (ef_comp rfl sc_law_across.nd (it_range rfl T.f_range (ev_callBC call_len lenD_ok T.f_len boot_len (oc_cons (EV.o (ev_ix2 ix_D idxD_ok (EV.o (ev_var (i := 0) (d := a_law_rows_so) rfl (pv 0))) (EV.o ev_int) (fun _ _ => rfl))) oc_nil))) (blkOk_by (own := [("_law_k", 2)]) (by kernel_rfl)) (by decide) (fun _ _ _ _ _ => tt_name (i := 2) sc_law_across.nd) (fun _ _ _ _ _ y2 => tvs_nil) (fun _ _ _ _ _ y2 => (EF.ev (ef_comp rfl sc_law_across.nd (it_seqV (ev_var (i := 0) (d := a_law_rows_so) rfl (pv 0))) (blkOk_by (own := [("_law_row_so", 1)]) (by kernel_rfl)) (by decide) (fun _ _ _ _ _ => tt_name (i := 1) sc_law_across.nd) (fun _ _ _ _ _ y3 => tvs_nil) (fun _ _ _ _ _ y3 => (ev_ix2 ix_D idxD_ok (EV.o (ev_var (i := 1) (d := y3) rfl (pv 1))) (EV.o (ev_var (i := 2) (d := y2) rfl (pv 2))) (fun _ _ => rfl))))))))) rfl rfl)
end
end LW
set_option Elab.async false
set_option linter.all false
set_option maxRecDepth 100000
set_option autoImplicit false
set_option pp.maxSteps 400
set_option maxHeartbeats 8000000
namespace LW
open PySem PySem.Spec L2 VL
open PyProof.Rows hiding St
section
variable {P : Program} {w : World} {K : PySem.W.Frag} {mg : Str → Option Value} {base : Heap}
theorem sc_law_entry : FnScope ["_law_box_here"] ["_law_box_here"] (defScope (top 51)) := ⟨rfl, rfl, rfl, by decide +kernel, rfl, by decide +kernel, by decide +kernel⟩
def m_law_entry (a_law_box_here : List D) : Rs (D × List D) := ((((Rs.ok ((.int 7), a_law_box_here))).bind fun u2 => m_law_take u2.2 u2.1).bind fun u17 => (((Rs.ok ((.int 1), u17.2))).bind fun u13 => (((Rs.ok ((.int 5), u13.2))).bind fun u11 => m_law_take u11.2 u11.1).bind fun u12 => (Rs.of (addD u13.1 u12.1)).bind fun d => Rs.ok (d, u12.2)).bind fun u16 => (m_law_ratio u17.1 u16.1).bind fun d => Rs.ok (d, u16.2)).noX
theorem k_law_entry (T : Txt K mg) : KeepsIO P w K mg base 6 (He.ga K "_law_entry") T.fd_law_entry ["_law_box_here"] (fun a_law_box_here ds => match ds with | [] => m_law_entry a_law_box_here | _ => Rs.no) :=
  keeps_io T.F_law_entry sc_law_entry (fun cdv A outer s H E F b a_law_box_here ds hl hr => match ds, hl with | [], _ => bi_as [some (.own false (.lst a_law_box_here))] (bi_nox (bk_retB (i := 0) (eb_ownC (k_law_ratio T) (hr.mono (by decide)) T.g_law_ratio T.F_law_ratio.kp T.b_law_ratio (bc_cons (l := false) (eb_ioC (l := false) (k_law_take T) (hr.mono (by decide)) T.g_law_take T.F_law_take.kp T.b_law_take (pv 0) (bc_cons (l := false) (eb_val (l := false) (s := a_law_box_here) ev_int) (fun s0 => (bc_nil (l := false) (s := s0))))) (fun s3 => (bc_cons (l := false) (eb_bin (l := false) op_addD addD_ok (eb_val (l := false) (s := s3) ev_int) (fun s5 => (eb_ioC (l := false) (k_law_take T) (hr.mono (by decide)) T.g_law_take T.F_law_take.kp T.b_law_take (pv 0) (bc_cons (l := false) (eb_val (l := false) (s := s5) ev_int) (fun s9 => (bc_nil (l := false) (s := s9))))))) (fun s14 => (bc_nil (l := false) (s := s14))))))))) rfl rfl)
end
end LW
set_option Elab.async false
set_option linter.all false
set_option maxRecDepth 100000
set_option autoImplicit false
set_option pp.maxSteps 400
set_option maxHeartbeats 8000000
namespace LW
open PySem PySem.Spec L2 VL
open PyProof.Rows hiding St
section
variable {P : Program} {w : World} {K : PySem.W.Frag} {mg : Str → Option Value} {base : Heap}
theorem sc_law_grid : FnScope ["_law_box_here", "_law_high_so", "_law_wide_so", "_law_turn", "_law_lap"] ["_law_box_here", "_law_high_so", "_law_wide_so"] (defScope (top 52)) := ⟨rfl, rfl, rfl, by decide +kernel, rfl, by decide +kernel, by decide +kernel⟩
def m_law_grid (a_law_box_here : List D) (a_law_high_so a_law_wide_so : D) : Rs (D × List D) := ((((Rs.ok ((.int 1), a_law_box_here))).bind fun u9 => (((Rs.ok (a_law_high_so, u9.2))).bind fun u7 => m_law_take u7.2 u7.1).bind fun u8 => (Rs.of (addD u9.1 u8.1)).bind fun d => Rs.ok (d, u8.2)).bind fun u24 => (((Rs.ok ((.int 1), u24.2))).bind fun u20 => (((Rs.ok (a_law_wide_so, u20.2))).bind fun u18 => m_law_take u18.2 u18.1).bind fun u19 => (Rs.of (addD u20.1 u19.1)).bind fun d => Rs.ok (d, u19.2)).bind fun u23 => Rs.ok (.tup [u24.1, u23.1], u23.2)).noX.bind fun u26 => (Rs.of (unL2 u26.1)).bind fun z0 => (((((Rs.of (rangeD z0.1)).bind fun ds => Rs.ok (ds, u26.2)).bind fun l29 => compBM some (fun y27 s28 => Rs.ok (true, s28)) (fun y27 s28 => ((((Rs.of (rangeD z0.2)).bind fun ds => Rs.ok (ds, s28)).bind fun l32 => compBM some (fun y30 s31 => Rs.ok (true, s31)) (fun y30 s31 => m_law_entry s31) l32.1 l32.2).bind fun v33 => Rs.ok (.lst v33.1, v33.2)).bind fun u36 => (Rs.of (tupleD [u36.1])).bind fun d => Rs.ok (d, u36.2)) l29.1 l29.2).bind fun v37 => Rs.ok (.lst v37.1, v37.2)).bind fun u40 => (Rs.of (tupleD [u40.1])).bind fun d => Rs.ok (d, u40.2)).noX
theorem k_law_grid (T : Txt K mg) : KeepsIO P w K mg base 8 (He.ga K "_law_grid") T.fd_law_grid ["_law_box_here", "_law_high_so", "_law_wide_so"] (fun a_law_box_here ds => match ds with | [a_law_high_so, a_law_wide_so] => m_law_grid a_law_box_here a_law_high_so a_law_wide_so | _ => Rs.no) :=
  keeps_io T.F_law_grid sc_law_grid (fun cdv A outer s H E F b a_law_box_here ds hl hr => match ds, hl with | [a_law_high_so, a_law_wide_so], _ => bi_as [some (.own false (.lst a_law_box_here)), some (.val a_law_high_so), some (.val a_law_wide_so), none, none] (bi_nox (bi_unpB (l := false) (i := 0) (eb_tupC (bc_cons (l := false) (eb_bin (l := false) op_addD addD_ok (eb_val (l := false) (s := a_law_box_here) ev_int) (fun s1 => (eb_ioC (l := false) (k_law_take T) (hr.mono (by decide)) T.g_law_take T.F_law_take.kp T.b_law_take (pv 0) (bc_cons (l := false) (eb_val (l := false) (s := s1) (ev_var (i := 1) (d := a_law_high_so) rfl (pv 1))) (fun s5 => (bc_nil (l := false) (s := s5))))))) (fun s10 => (bc_cons (l := false) (eb_bin (l := false) op_addD addD_ok (eb_val (l := false) (s := s10) ev_int) (fun s12 => (eb_ioC (l := false) (k_law_take T) (hr.mono (by decide)) T.g_law_take T.F_law_take.kp T.b_law_take (pv 0) (bc_cons (l := false) (eb_val (l := false) (s := s12) (ev_var (i := 2) (d := a_law_wide_so) rfl (pv 2))) (fun s16 => (bc_nil (l := false) (s := s16))))))) (fun s21 => (bc_nil (l := false) (s := s21))))))) (fun _ => tl_2 rfl (pg_name (i := 1) sc_law_grid.nd rfl (by first | exact Or.inl rfl | exact Or.inr rfl)) (pg_name (i := 2) sc_law_grid.nd rfl (by first | exact Or.inl rfl | exact Or.inr rfl))) (fun z0 s25 => (bk_retB (i := 0) (eb_callTyC call_tuple_of tupleD_ok T.f_tuple boot_tuple (bc_cons (l := false) (EFB.eb (efb_comp (l := false) rfl sc_law_grid.nd (ib_pure (l := false) (s := s25) (it_range rfl T.f_range (ev_var (i := 1) (d := z0.1) rfl (pv 1)))) (blkOk_by (own := [("_law_lap", 4)]) (by kernel_rfl)) (by decide) (by decide) (fun _ _ _ _ _ _ => tt_name (i := 4) sc_law_grid.nd) (fun _ _ _ _ _ y27 s28 => (tbs_nil (l := false) (s := s28))) (fun _ _ _ _ _ y27 s28 => (eb_callTyC call_tuple_of tupleD_ok T.f_tuple boot_tuple (bc_cons (l := false) (EFB.eb (efb_comp (l := false) rfl sc_law_grid.nd (ib_pure (l := false) (s := s28) (it_range rfl T.f_range (ev_var (i := 2) (d := z0.2) rfl (pv 2)))) (blkOk_by (own := [("_law_turn", 3)]) (by kernel_rfl)) (by decide) (by decide) (fun _ _ _ _ _ _ => tt_name (i := 3) sc_law_grid.nd) (fun _ _ _ _ _ y30 s31 => (tbs_nil (l := false) (s := s31))) (fun _ _ _ _ _ y30 s31 => (eb_ioC (l := false) (k_law_entry T) (hr.mono (by decide)) T.g_law_entry T.F_law_entry.kp T.b_law_entry (pv 0) (bc_nil (l := false) (s := s31)))))) (fun s34 => (bc_nil (l := false) (s := s34)))))))) (fun s38 => (bc_nil (l := false) (s := s38))))))))) rfl rfl)
end
end LW
set_option Elab.async false
set_option linter.all false
set_option maxRecDepth 100000
set_option autoImplicit false
set_option pp.maxSteps 400
set_option maxHeartbeats 8000000
namespace LW
open PySem PySem.Spec L2 VL
open PyProof.Rows hiding St
section
variable {P : Program} {w : World} {K : PySem.W.Frag} {mg : Str → Option Value} {base : Heap}
theorem sc_law_shares : FnScope ["_law_box_here", "_law_many_so", "_law_some", "_law_turn", "_law_own"] ["_law_box_here", "_law_many_so"] (defScope (top 53)) := ⟨rfl, rfl, rfl, by decide +kernel, rfl, by decide +kernel, by decide +kernel⟩
def m_law_shares (a_law_box_here : List D) (a_law_many_so : D) : Rs (D × List D) := (((Rs.of (rangeD a_law_many_so)).bind fun ds => Rs.ok (ds, a_law_box_here)).bind fun l5 => compBM some (fun y3 s4 => Rs.ok (true, s4)) (fun y3 s4 => ((Rs.ok ((.int 5), s4))).bind fun u8 => m_law_take u8.2 u8.1) l5.1 l5.2).noX.bind fun u2 => (((Rs.ok (a_law_many_so, u2.2))).bind fun u11 => m_law_take u11.2 u11.1).noX.bind fun u14 => ((Rs.ok (.int 1))).noX.bind fun d15 => (Rs.of (augL u2.1 u14.1 d15)).bind fun l13 => ((((Rs.of (itemsD (.lst l13))).bind fun l18 => compM some (fun y16 => Rs.ok true) (fun y16 => (Rs.of (sumD [(.lst l13)])).bind fun x17 => m_law_ratio y16 x17) l18).bind fun l19 => Rs.ok (.lst l19)).bind fun x20 => Rs.of (tupleD [x20])).bind fun x21 => Rs.ok (x21, u14.2)
theorem k_law_shares (T : Txt K mg) : KeepsIO P w K mg base 6 (He.ga K "_law_shares") T.fd_law_shares ["_law_box_here", "_law_many_so"] (fun a_law_box_here ds => match ds with | [a_law_many_so] => m_law_shares a_law_box_here a_law_many_so | _ => Rs.no) :=
  keeps_io T.F_law_shares sc_law_shares (fun cdv A outer s H E F b a_law_box_here ds hl hr => match ds, hl with | [a_law_many_so], _ => bi_as [some (.own false (.lst a_law_box_here)), some (.val a_law_many_so), none, none, none] (bi_nox (bi_ownS (l := false) (i := 0) (j := 2) (afb_efb (i := 0) sc_law_shares.nd (efb_comp (l := false) (i := 0) rfl sc_law_shares.nd (ib_pure (l := false) (s := a_law_box_here) (it_range rfl T.f_range (ev_var (i := 1) (d := a_law_many_so) rfl (pv 1)))) (blkOk_by (own := [("_law_turn", 3)]) (by kernel_rfl)) (by decide) (by decide) (fun _ _ _ _ _ _ => tt_name (i := 3) sc_law_shares.nd) (fun _ _ _ _ _ y3 s4 => (tbs_nil (l := false) (s := s4))) (fun _ _ _ _ _ y3 s4 => (eb_ioC (l := false) (k_law_take T) (hr.mono (by decide)) T.g_law_take T.F_law_take.kp T.b_law_take (pv 0) (bc_cons (l := false) (eb_val (l := false) (s := s4) ev_int) (fun s6 => (bc_nil (l := false) (s := s6))))))))  (fun d1 s0 => (bi_augixB (l := false) (l2 := true) (c := d1) (i := 0) (j := 2) (pv 2) (eb_ioC (l := false) (k_law_take T) (hr.mono (by decide)) T.g_law_take T.F_law_take.kp T.b_law_take (pv 0) (bc_cons (l := false) (eb_val (l := false) (s := s0) (ev_var (i := 1) (d := a_law_many_so) rfl (pv 1))) (fun s9 => (bc_nil (l := false) (s := s9))))) (fun s12 => ev_int) (fun l13 s12 => (bi_frz 2 (bi_retP (i := 0) (s := s12) (ev_callTyC call_tuple_of tupleD_ok T.f_tuple boot_tuple (oc_cons (EV.o (EF.ev (ef_comp rfl sc_law_shares.nd (it_seqV (ev_var (i := 2) (d := (.lst l13)) rfl (pv 2))) (blkOk_by (own := [("_law_own", 4)]) (by kernel_rfl)) (by decide) (fun _ _ _ _ _ => tt_name (i := 4) sc_law_shares.nd) (fun _ _ _ _ _ y16 => tvs_nil) (fun _ _ _ _ _ y16 => (ev_callC takes0N (k_law_ratio T) (hr.mono (by decide)) T.g_law_ratio T.F_law_ratio.kp T.b_law_ratio (ac_consV (ev_var (i := 4) (d := y16) rfl (pv 4)) (ac_cons (ev_callBC (call_sumA rfl) sumD_ok T.f_sum boot_sum (oc_consV (EV.o (ev_var (i := 2) (d := (.lst l13)) rfl (pv 2))) oc_nil)) ac_nil))))))) oc_nil))))))))) rfl rfl)
end
end LW
set_option Elab.async false
set_option linter.all false
set_option maxRecDepth 100000
set_option autoImplicit false
set_option pp.maxSteps 400
set_option maxHeartbeats 8000000
namespace LW
open PySem PySem.Spec L2 VL
open PyProof.Rows hiding St
section
variable {P : Program} {w : World} {K : PySem.W.Frag} {mg : Str → Option Value} {base : Heap}
theorem sc_law_shown : FnScope ["_law_rows_so", "_law_told", "_law_due"] ["_law_rows_so"] (defScope (top 54)) := ⟨rfl, rfl, rfl, by decide +kernel, rfl, by decide +kernel, by decide +kernel⟩
def m_law_shown (a_law_rows_so : D) : Rs D := ((m_worth a_law_rows_so).bind fun x0 => (m_best_columns a_law_rows_so).bind fun x1 => (m_best_rows a_law_rows_so).bind fun x2 => Rs.ok (.lst [x0, x1, x2])).bind fun d3 => (((((Rs.of (idxD d3 (.int 1))).bind fun x5 => ((Rs.of (idxD a_law_rows_so (.int 0))).bind fun x4 => Rs.of (lenD [x4])).bind fun x6 => m_law_are_weights x5 x6).bind fun x7 => Rs.of (asB x7)).bind fun k => Rs.ok (!k)).bind fun k => if k then Rs.ok true else (((Rs.of (idxD d3 (.int 2))).bind fun x8 => (Rs.of (lenD [a_law_rows_so])).bind fun x9 => m_law_are_weights x8 x9).bind fun x10 => Rs.of (asB x10)).bind fun k => Rs.ok (!k)).bind fun k => if k then (Rs.ok .non) else ((((Rs.of (idxD d3 (.int 1))).bind fun x11 => m_law_sums a_law_rows_so x11).bind fun x12 => m_law_least x12).bind fun x13 => Rs.ok (.lst [x13])).bind fun d14 => (((((m_law_across a_law_rows_so).bind fun x15 => (Rs.of (idxD d3 (.int 2))).bind fun x16 => m_law_sums x15 x16).bind fun x17 => m_law_most x17).bind fun x18 => Rs.ok (.lst [x18])).bind fun x19 => Rs.of (addD d14 x19)).bind fun d20 => (((((Rs.of (idxD d3 (.int 0))).bind fun x21 => Rs.ok (.lst [x21])).bind fun x22 => Rs.of (mulD x22 (.int 2))).bind fun x23 => m_law_same 14 x23 d20).bind fun x24 => Rs.of (asB x24)).bind fun k => if k then (Rs.ok d3) else (Rs.ok .non)
theorem k_law_shown (T : Txt K mg) : Keeps P w K mg base 22 (He.ga K "_law_shown") T.fd_law_shown ["_law_rows_so"] (fun ds => match ds with | [a_law_rows_so] => m_law_shown a_law_rows_so | _ => Rs.no) :=
  keeps_ret T.F_law_shown sc_law_shown (fun cdv A outer s H E F ds hl hr => match ds, hl with | [a_law_rows_so], _ => bi_as [some (.val a_law_rows_so), none, none] (bi_set (as_ev (i := 1) sc_law_shown.nd (ev_lstC (ac_cons (ev_callC (L2N.takes_of rfl rfl rfl rfl) (k_worth T) (hr.mono (by decide)) T.g_worth T.F_worth.kp T.b_worth (ac_consV (ev_var (i := 0) (d := a_law_rows_so) rfl (pv 0)) ac_nil)) (ac_cons (ev_callC (L2N.takes_of rfl rfl rfl rfl) (k_best_columns T) (hr.mono (by decide)) T.g_best_columns T.F_best_columns.kp T.b_best_columns (ac_consV (ev_var (i := 0) (d := a_law_rows_so) rfl (pv 0)) ac_nil)) (ac_cons (ev_callC (L2N.takes_of rfl rfl rfl rfl) (k_best_rows T) (hr.mono (by decide)) T.g_best_rows T.F_best_rows.kp T.b_best_rows (ac_consV (ev_var (i := 0) (d := a_law_rows_so) rfl (pv 0)) ac_nil)) ac_nil))))) (fun d3 => (bi_ifr (TW.tv (tw_or (tv_not (tv_val (ev_callC (L2N.takes_of rfl rfl rfl rfl) (k_law_are_weights T) (hr.mono (by decide)) T.g_law_are_weights T.F_law_are_weights.kp T.b_law_are_weights (ac_cons (ev_ix2 ix_D idxD_ok (EV.o (ev_var (i := 1) (d := d3) rfl (pv 1))) (EV.o ev_int) (fun _ _ => rfl)) (ac_cons (ev_callBC call_len lenD_ok T.f_len boot_len (oc_cons (EV.o (ev_ix2 ix_D idxD_ok (EV.o (ev_var (i := 0) (d := a_law_rows_so) rfl (pv 0))) (EV.o ev_int) (fun _ _ => rfl))) oc_nil)) ac_nil))))) (tw_or1 (tv_not (tv_val (ev_callC (L2N.takes_of rfl rfl rfl rfl) (k_law_are_weights T) (hr.mono (by decide)) T.g_law_are_weights T.F_law_are_weights.kp T.b_law_are_weights (ac_cons (ev_ix2 ix_D idxD_ok (EV.o (ev_var (i := 1) (d := d3) rfl (pv 1))) (EV.o ev_int) (fun _ _ => rfl)) (ac_cons (ev_callBC call_len lenD_ok T.f_len boot_len (oc_consV (EV.o (ev_var (i := 0) (d := a_law_rows_so) rfl (pv 0))) oc_nil)) ac_nil)))))))) (bi_ret ev_non) (bi_set (as_ev (i := 2) sc_law_shown.nd (ev_lstC (ac_cons (ev_callC (L2N.takes_of rfl rfl rfl rfl) (k_law_least T) (hr.mono (by decide)) T.g_law_least T.F_law_least.kp T.b_law_least (ac_cons (ev_callC (L2N.takes_of rfl rfl rfl rfl) (k_law_sums T) (hr.mono (by decide)) T.g_law_sums T.F_law_sums.kp T.b_law_sums (ac_consV (ev_var (i := 0) (d := a_law_rows_so) rfl (pv 0)) (ac_cons (ev_ix2 ix_D idxD_ok (EV.o (ev_var (i := 1) (d := d3) rfl (pv 1))) (EV.o ev_int) (fun _ _ => rfl)) ac_nil))) ac_nil)) ac_nil))) (fun d14 => (bi_set (as_ev (i := 2) sc_law_shown.nd (ev_binL op_addD addD_ok (EV.o (ev_var (i := 2) (d := d14) rfl (pv 2))) (EV.o (ev_lstC (ac_cons (ev_callC (L2N.takes_of rfl rfl rfl rfl) (k_law_most T) (hr.mono (by decide)) T.g_law_most T.F_law_most.kp T.b_law_most (ac_cons (ev_callC (L2N.takes_of rfl rfl rfl rfl) (k_law_sums T) (hr.mono (by decide)) T.g_law_sums T.F_law_sums.kp T.b_law_sums (ac_cons (ev_callC (L2N.takes_of rfl rfl rfl rfl) (k_law_across T) (hr.mono (by decide)) T.g_law_across T.F_law_across.kp T.b_law_across (ac_consV (ev_var (i := 0) (d := a_law_rows_so) rfl (pv 0)) ac_nil)) (ac_cons (ev_ix2 ix_D idxD_ok (EV.o (ev_var (i := 1) (d := d3) rfl (pv 1))) (EV.o ev_int) (fun _ _ => rfl)) ac_nil))) ac_nil)) ac_nil))))) (fun d20 => (bi_ret (ev_if (tv_val (ev_callC (L2N.takes_of rfl rfl rfl rfl) (k_law_same T 14) (hr.mono (by decide)) T.g_law_same T.F_law_same.kp T.b_law_same (ac_cons (ev_binR op_mulD mulD_ok (EV.o (ev_lstC (ac_cons (ev_ix2 ix_D idxD_ok (EV.o (ev_var (i := 1) (d := d3) rfl (pv 1))) (EV.o ev_int) (fun _ _ => rfl)) ac_nil))) (EV.o ev_int)) (ac_consV (ev_var (i := 2) (d := d20) rfl (pv 2)) ac_nil)))) (ev_var (i := 1) (d := d3) rfl (pv 1)) ev_non))))))))) rfl rfl)
end
end LW
set_option Elab.async false
set_option linter.all false
set_option maxRecDepth 100000
set_option autoImplicit false
set_option pp.maxSteps 400
set_option maxHeartbeats 8000000
namespace LW
open PySem PySem.Spec L2 VL
open PyProof.Rows hiding St
section
variable {P : Program} {w : World} {K : PySem.W.Frag} {mg : Str → Option Value} {base : Heap}
theorem sc_law_case_right : FnScope ["_law_rows_so", "_law_told", "_law_soft", "_law_got"] ["_law_rows_so"] (defScope (top 55)) := ⟨rfl, rfl, rfl, by decide +kernel, rfl, by decide +kernel, by decide +kernel⟩
def m_law_case_right (a_law_rows_so : D) : Rs D := (m_law_shown a_law_rows_so).bind fun d0 => (m_law_lists 14 a_law_rows_so).bind fun d1 => ((Rs.of (isNB d0 .non)).bind fun k => if k then Rs.ok true else ((((m_worth d1).bind fun x2 => (m_best_columns d1).bind fun x3 => (m_best_rows d1).bind fun x4 => Rs.ok (.lst [x2, x3, x4])).bind fun x5 => m_law_same 14 x5 d0).bind fun x6 => Rs.of (asB x6)).bind fun k => Rs.ok (!k)).bind fun k => if k then (Rs.ok (.bl false)) else (((Rs.of (idxD d0 (.int 1))).bind fun x7 => m_is_best_columns a_law_rows_so x7).bind fun x9 => ((Rs.of (idxD d0 (.int 2))).bind fun x8 => m_is_best_rows d1 x8).bind fun x10 => Rs.ok (.lst [x9, x10])).bind fun d11 => (((((Rs.of (idxD d0 (.int 1))).bind fun x12 => Rs.of (listD [x12])).bind fun x13 => m_is_best_columns a_law_rows_so x13).bind fun x14 => Rs.ok (.lst [x14])).bind fun x15 => Rs.of (addD d11 x15)).bind fun d16 => (((((Rs.of (idxD d0 (.int 2))).bind fun x17 => Rs.of (listD [x17])).bind fun x18 => m_is_best_rows a_law_rows_so x18).bind fun x21 => (((Rs.of (idxD d0 (.int 1))).bind fun x19 => Rs.of (addD x19 (.tup [(.tup [(.int 0), (.int 1)])]))).bind fun x20 => m_is_best_columns d1 x20).bind fun x22 => Rs.ok (.lst [x21, x22])).bind fun x23 => Rs.of (addD d16 x23)).bind fun d24 => (((((Rs.of (idxD d0 (.int 2))).bind fun x25 => Rs.of (sliceD x25 (some 1) none)).bind fun x26 => m_is_best_rows a_law_rows_so x26).bind fun x27 => Rs.ok (.lst [x27])).bind fun x28 => Rs.of (addD d24 x28)).bind fun x30 => ((Rs.of (mulD (.lst [(.bl false)]) (.int 4))).bind fun x29 => Rs.of (addD (.lst [(.bl true), (.bl true)]) x29)).bind fun x31 => m_law_same 14 x30 x31
theorem k_law_case_right (T : Txt K mg) : Keeps P w K mg base 24 (He.ga K "_law_case_right") T.fd_law_case_right ["_law_rows_so"] (fun ds => match ds with | [a_law_rows_so] => m_law_case_right a_law_rows_so | _ => Rs.no) :=
  keeps_ret T.F_law_case_right sc_law_case_right (fun cdv A outer s H E F ds hl hr => match ds, hl with | [a_law_rows_so], _ => bi_as [some (.val a_law_rows_so), none, none, none] (bi_par (i := 1) (j := 2) rfl sc_law_case_right.nd (ev_callC (L2N.takes_of rfl rfl rfl rfl) (k_law_shown T) (hr.mono (by decide)) T.g_law_shown T.F_law_shown.kp T.b_law_shown (ac_consV (ev_var (i := 0) (d := a_law_rows_so) rfl (pv 0)) ac_nil)) (ev_callC (L2N.takes_of rfl rfl rfl rfl) (k_law_lists T 14) (hr.mono (by decide)) T.g_law_lists T.F_law_lists.kp T.b_law_lists (ac_consV (ev_var (i := 0) (d := a_law_rows_so) rfl (pv 0)) ac_nil)) (fun d0 d1 => (bi_ifr (TW.tv (tw_or (tv_cmp2 op_isN isND_ok isND_is (EV.o (ev_var (i := 1) (d := d0) rfl (pv 1))) (EV.o ev_non) (nomark _)) (tw_or1 (tv_not (tv_val (ev_callC (L2N.takes_of rfl rfl rfl rfl) (k_law_same T 14) (hr.mono (by decide)) T.g_law_same T.F_law_same.kp T.b_law_same (ac_cons (ev_lstC (ac_cons (ev_callC (L2N.takes_of rfl rfl rfl rfl) (k_worth T) (hr.mono (by decide)) T.g_worth T.F_worth.kp T.b_worth (ac_consV (ev_var (i := 2) (d := d1) rfl (pv 2)) ac_nil)) (ac_cons (ev_callK0 (L2N.takes_of rfl rfl rfl rfl) (k_best_columns T) (hr.mono (by decide)) T.g_best_columns T.F_best_columns.kp (kbN T.F_best_columns 0 ["table"] [0] (fun kV doc pm an cdv ct us ws h1 h2 => match us, ws, h1, h2 with | [], [_], _, _ => rfl)) (kc_consV (ev_var (i := 2) (d := d1) rfl (pv 2)) kc_nil) (fun zs h => match zs, h with | [_], _ => rfl)) (ac_cons (ev_callK0 (L2N.takes_of rfl rfl rfl rfl) (k_best_rows T) (hr.mono (by decide)) T.g_best_rows T.F_best_rows.kp (kbN T.F_best_rows 0 ["table"] [0] (fun kV doc pm an cdv ct us ws h1 h2 => match us, ws, h1, h2 with | [], [_], _, _ => rfl)) (kc_consV (ev_var (i := 2) (d := d1) rfl (pv 2)) kc_nil) (fun zs h => match zs, h with | [_], _ => rfl)) ac_nil)))) (ac_consV (ev_var (i := 1) (d := d0) rfl (pv 1)) ac_nil)))))))) (bi_ret ev_bl) (bi_set (as_ev (i := 3) sc_law_case_right.nd (ev_lstC (ac_cons (ev_callC (L2N.takes_of rfl rfl rfl rfl) (k_is_best_columns T) (hr.mono (by decide)) T.g_is_best_columns T.F_is_best_columns.kp T.b_is_best_columns (ac_consV (ev_var (i := 0) (d := a_law_rows_so) rfl (pv 0)) (ac_cons (ev_ix2 ix_D idxD_ok (EV.o (ev_var (i := 1) (d := d0) rfl (pv 1))) (EV.o ev_int) (fun _ _ => rfl)) ac_nil))) (ac_cons (ev_callC (L2N.takes_of rfl rfl rfl rfl) (k_is_best_rows T) (hr.mono (by decide)) T.g_is_best_rows T.F_is_best_rows.kp T.b_is_best_rows (ac_consV (ev_var (i := 2) (d := d1) rfl (pv 2)) (ac_cons (ev_ix2 ix_D idxD_ok (EV.o (ev_var (i := 1) (d := d0) rfl (pv 1))) (EV.o ev_int) (fun _ _ => rfl)) ac_nil))) ac_nil)))) (fun d11 => (bi_set (as_ev (i := 3) sc_law_case_right.nd (ev_binL op_addD addD_ok (EV.o (ev_var (i := 3) (d := d11) rfl (pv 3))) (EV.o (ev_lstC (ac_cons (ev_callC (L2N.takes_of rfl rfl rfl rfl) (k_is_best_columns T) (hr.mono (by decide)) T.g_is_best_columns T.F_is_best_columns.kp T.b_is_best_columns (ac_consV (ev_var (i := 0) (d := a_law_rows_so) rfl (pv 0)) (ac_cons (ev_callTyC call_list_of listD_ok T.f_list boot_list (oc_cons (EV.o (ev_ix2 ix_D idxD_ok (EV.o (ev_var (i := 1) (d := d0) rfl (pv 1))) (EV.o ev_int) (fun _ _ => rfl))) oc_nil)) ac_nil))) ac_nil))))) (fun d16 => (bi_set (as_ev (i := 3) sc_law_case_right.nd (ev_binL op_addD addD_ok (EV.o (ev_var (i := 3) (d := d16) rfl (pv 3))) (EV.o (ev_lstC (ac_cons (ev_callC (L2N.takes_of rfl rfl rfl rfl) (k_is_best_rows T) (hr.mono (by decide)) T.g_is_best_rows T.F_is_best_rows.kp T.b_is_best_rows (ac_consV (ev_var (i := 0) (d := a_law_rows_so) rfl (pv 0)) (ac_cons (ev_callTyC call_list_of listD_ok T.f_list boot_list (oc_cons (EV.o (ev_ix2 ix_D idxD_ok (EV.o (ev_var (i := 1) (d := d0) rfl (pv 1))) (EV.o ev_int) (fun _ _ => rfl))) oc_nil)) ac_nil))) (ac_cons (ev_callC (L2N.takes_of rfl rfl rfl rfl) (k_is_best_columns T) (hr.mono (by decide)) T.g_is_best_columns T.F_is_best_columns.kp T.b_is_best_columns (ac_consV (ev_var (i := 2) (d := d1) rfl (pv 2)) (ac_cons (ev_binR op_addD addD_ok (EV.o (ev_ix2 ix_D idxD_ok (EV.o (ev_var (i := 1) (d := d0) rfl (pv 1))) (EV.o ev_int) (fun _ _ => rfl))) (EV.o (ev_tupC (ac_consV (ev_tupC (ac_consV ev_int (ac_consV ev_int ac_nil))) ac_nil)))) ac_nil))) ac_nil)))))) (fun d24 => (bi_ret (ev_callC (L2N.takes_of rfl rfl rfl rfl) (k_law_same T 14) (hr.mono (by decide)) T.g_law_same T.F_law_same.kp T.b_law_same (ac_cons (ev_binL op_addD addD_ok (EV.o (ev_var (i := 3) (d := d24) rfl (pv 3))) (EV.o (ev_lstC (ac_cons (ev_callC (L2N.takes_of rfl rfl rfl rfl) (k_is_best_rows T) (hr.mono (by decide)) T.g_is_best_rows T.F_is_best_rows.kp T.b_is_best_rows (ac_consV (ev_var (i := 0) (d := a_law_rows_so) rfl (pv 0)) (ac_cons (EV.to ((Rs.of (idxD d0 (.int 2))).bind fun x25 => Rs.of (sliceD x25 (some 1) none)) (ev_slice (EV.o (ev_ix2 ix_D idxD_ok (EV.o (ev_var (i := 1) (d := d0) rfl (pv 1))) (EV.o ev_int) (fun _ _ => rfl))) (pv_some ev_int) pv_none) rfl) ac_nil))) ac_nil)))) (ac_cons (ev_binL op_addD addD_ok (EV.o (ev_lstC (ac_consV ev_bl (ac_consV ev_bl ac_nil)))) (EV.o (ev_bin2 op_mulD mulD_ok (EV.o (ev_lstC (ac_consV ev_bl ac_nil))) (EV.o ev_int)))) ac_nil))))))))))))) rfl rfl)
end
end LW
set_option Elab.async false
set_option linter.all false
set_option maxRecDepth 100000
set_option autoImplicit false
set_option pp.maxSteps 400
set_option maxHeartbeats 8000000
namespace LW
open PySem PySem.Spec L2 VL
open PyProof.Rows hiding St
section
variable {P : Program} {w : World} {K : PySem.W.Frag} {mg : Str → Option Value} {base : Heap}
theorem sc_law_by_hand_right : FnScope ["_law_table_so", "_law_beats_so", "_law_three_so", "_law_some", "_law_k", "_law_j", "_law_great", "_law_due", "_law_own", "_law_third", "_law_got", "_law_odd"] [] (defScope (top 56)) := ⟨rfl, rfl, rfl, by decide +kernel, rfl, by decide +kernel, by decide +kernel⟩
theorem g_law_by_hand_right (T : Txt K mg) (m_law_case_right : D → Rs D) (k_law_case_right : ∀ T : Txt K mg, Keeps P w K mg base 24 (He.ga K "_law_case_right") T.fd_law_case_right ["_law_rows_so"] (fun ds => match ds with | [a_law_rows_so] => m_law_case_right a_law_rows_so | _ => Rs.no)) (m_law_same : Nat → D → D → Rs D) (k_law_same : ∀ T : Txt K mg, ∀ n : Nat, Keeps P w K mg base (n + 2) (He.ga K "_law_same") T.fd_law_same ["_law_got", "_law_due"] (fun ds => match ds with | [a_law_got, a_law_due] => m_law_same n a_law_got a_law_due | _ => Rs.no)) (m_best_columns : D → Rs D) (k_best_columns : ∀ T : Txt K mg, Keeps P w K mg base 20 (He.ga K "best_columns") T.fd_best_columns ["table"] (fun ds => match ds with | [a_table] => m_best_columns a_table | _ => Rs.no)) (m_best_rows : D → Rs D) (k_best_rows : ∀ T : Txt K mg, Keeps P w K mg base 20 (He.ga K "best_rows") T.fd_best_rows ["table"] (fun ds => match ds with | [a_table] => m_best_rows a_table | _ => Rs.no)) (m_is_best_columns : D → D → Rs D) (k_is_best_columns : ∀ T : Txt K mg, Keeps P w K mg base 22 (He.ga K "is_best_columns") T.fd_is_best_columns ["table", "thing"] (fun ds => match ds with | [a_table, a_thing] => m_is_best_columns a_table a_thing | _ => Rs.no)) (m_is_best_rows : D → D → Rs D) (k_is_best_rows : ∀ T : Txt K mg, Keeps P w K mg base 22 (He.ga K "is_best_rows") T.fd_is_best_rows ["table", "thing"] (fun ds => match ds with | [a_table, a_thing] => m_is_best_rows a_table a_thing | _ => Rs.no)) (m_worth : D → Rs D) (k_worth : ∀ T : Txt K mg, Keeps P w K mg base 20 (He.ga K "worth") T.fd_worth ["table"] (fun ds => match ds with | [a_table] => m_worth a_table | _ => Rs.no)) : Keeps P w K mg base 26 (He.ga K "_law_by_hand_right") T.fd_law_by_hand_right [] (fun ds => match ds with | [] => ((Rs.ok (.tup [(.tup [(.tup [(.int 1), (.int 1)]), (.tup [(.int 0), (.int 1)])]), (.tup [(.tup [(.int 0), (.int 1)]), (.tup [(.int 1), (.int 2)])])]))).bind fun d0 => ((Rs.ok (.tup [(.tup [(.tup [(.int 1), (.int 1)]), (.tup [(.int 0), (.int 1)]), (.tup [(.int 2), (.int 1)])]), (.tup [(.tup [(.int 2), (.int 1)]), (.tup [(.int 1), (.int 1)]), (.tup [(.int 0), (.int 1)])]), (.tup [(.tup [(.int 0), (.int 1)]), (.tup [(.int 2), (.int 1)]), (.tup [(.int 1), (.int 1)])])]))).bind fun d1 => ((Rs.ok (.tup [(.tup [(.tup [(.int 4), (.int 1)]), (.tup [(.int 1), (.int 1)])]), (.tup [(.tup [(.int 1), (.int 1)]), (.tup [(.int 3), (.int 1)])]), (.tup [(.tup [(.int 3), (.int 1)]), (.tup [(.int 2), (.int 1)])])]))).bind fun d2 => ((((Rs.of (mulD (.tup [(.tup [(.int 0), (.int 1)])]) (.int 3))).bind fun x3 => Rs.ok (.tup [x3])).bind fun x4 => Rs.of (mulD x4 (.int 2))).bind fun x5 => Rs.ok [d0, d1, d2, (.tup [(.tup [(.tup [(.int 3), (.int 1)]), (.tup [(.int 5), (.int 1)])])]), (.tup [(.tup [(.tup [(.int 3), (.int 1)])]), (.tup [(.tup [(.int 5), (.int 2)])]), (.tup [(.tup [(.int 9), (.int 1)])])]), x5]).bind fun l6 => ((((((Rs.of (rangeD (.int 8))).bind fun l15 => compM some (fun y7 => Rs.ok true) (fun y7 => (((Rs.of (rangeD (.int 62))).bind fun l12 => compM some (fun y8 => Rs.ok true) (fun y8 => (((Rs.of (modD y8 (.int 8))).bind fun x9 => Rs.of (eqD x9 y7)).bind fun x10 => Rs.of (intD [x10])).bind fun x11 => Rs.ok (.tup [x11, (.int 1)])) l12).bind fun l13 => Rs.ok (.lst l13)).bind fun x14 => Rs.of (tupleD [x14])) l15).bind fun l16 => Rs.ok (.lst l16)).bind fun x17 => Rs.of (tupleD [x17])).bind fun x18 => Rs.ok (.lst [(.tup [(.tup [(.tup [(.int 0), (.int 1)]), (.tup [(.int 0), (.int 1)])]), (.tup [(.tup [(.int 1), (.int 1)]), (.tup [(.int 2), (.int 1)])])]), x18])).bind fun x19 => Rs.of (catL (.lst l6) x19)).bind fun l20 => (Rs.of (powD (.int 10) (.int 40))).bind fun d21 => (Rs.of (appL l20 (.tup [(.tup [(.tup [d21, (.int 1)]), (.tup [(.int 0), (.int 1)])]), (.tup [(.tup [(.int 0), (.int 1)]), (.tup [(.int 1), d21])])]))).bind fun l22 => ((Rs.ok (.lst [(.tup [(.int 1), (.int 3)]), (.tup [(.int 1), (.int 1)]), (.tup [(.int 11), (.int 5)]), (.tup [(.int 5), (.int 1)]), (.tup [(.int 5), (.int 2)]), (.tup [(.int 0), (.int 1)]), (.tup [(.int 0), (.int 1)]), (.tup [(.int 1), (.int 8)])]))).bind fun d23 => (((((Rs.of (mulD d21 d21)).bind fun x24 => Rs.of (addD x24 (.int 1))).bind fun x25 => Rs.ok (.tup [d21, x25])).bind fun x26 => Rs.ok (.lst [x26])).bind fun x27 => Rs.of (addD d23 x27)).bind fun d28 => (((((((Rs.of (itemsD (.lst l22))).bind fun l30 => compM some (fun y29 => Rs.ok true) (fun y29 => m_worth y29) l30).bind fun l31 => Rs.ok (.lst l31)).bind fun x32 => m_law_same 14 x32 d28).bind fun x33 => Rs.of (asB x33)).bind fun k => Rs.ok (!k)).bind fun k => if k then Rs.ok true else (((((Rs.of (itemsD (.lst l22))).bind fun l35 => compM some (fun y34 => Rs.ok true) (fun y34 => m_law_case_right y34) l35).bind fun l36 => Rs.ok (.lst l36)).bind fun x37 => Rs.of (allD [x37])).bind fun x38 => Rs.of (asB x38)).bind fun k => Rs.ok (!k)).bind fun k => if k then (Rs.ok (.bl false)) else ((m_best_columns d0).bind fun x39 => (m_best_rows d0).bind fun x40 => (m_best_columns d1).bind fun x41 => (m_best_rows d1).bind fun x42 => Rs.ok [x39, x40, x41, x42]).bind fun l43 => ((Rs.of (mulD (.tup [(.tup [(.int 1), (.int 3)])]) (.int 3))).bind fun x44 => (Rs.of (mulD (.tup [(.tup [(.int 1), (.int 3)])]) (.int 3))).bind fun x45 => Rs.ok (.lst [(.tup [(.tup [(.int 1), (.int 3)]), (.tup [(.int 2), (.int 3)])]), (.tup [(.tup [(.int 1), (.int 3)]), (.tup [(.int 2), (.int 3)])]), x44, x45])).bind fun d46 => (((m_best_columns d2).bind fun x48 => (m_best_rows d2).bind fun x49 => ((Rs.of (idxD (.lst l22) (.int 3))).bind fun x47 => m_best_columns x47).bind fun x50 => Rs.ok (.lst [x48, x49, x50])).bind fun x51 => Rs.of (catL (.lst l43) x51)).bind fun l52 => ((((Rs.of (idxD (.lst l22) (.int 4))).bind fun x53 => m_best_rows x53).bind fun x54 => Rs.ok (.lst [x54])).bind fun x55 => Rs.of (catL (.lst l52) x55)).bind fun l56 => (Rs.of (addD d46 (.lst [(.tup [(.tup [(.int 2), (.int 5)]), (.tup [(.int 3), (.int 5)])]), (.tup [(.tup [(.int 2), (.int 5)]), (.tup [(.int 3), (.int 5)]), (.tup [(.int 0), (.int 1)])]), (.tup [(.tup [(.int 0), (.int 1)]), (.tup [(.int 1), (.int 1)])])]))).bind fun d57 => (Rs.of (addD d57 (.lst [(.tup [(.tup [(.int 0), (.int 1)]), (.tup [(.int 1), (.int 1)]), (.tup [(.int 0), (.int 1)])])]))).bind fun d58 => ((Rs.ok (.lst [(.tup [(.tup [(.int 1), (.int 3)]), (.tup [(.int 1), (.int 3)])]), (.tup [(.tup [(.int 2), (.int 3)]), (.tup [(.int 1), (.int 3)])]), (.tup [(.tup [(.int 1), (.int 1)]), (.tup [(.int 0), (.int 1)])]), (.tup [(.tup [(.int 0), (.int 1)]), (.tup [(.int 1), (.int 1)])]), (.tup [(.tup [(.int 2), (.int 6)]), (.tup [(.int 4), (.int 6)])]), .non, (.tup []), (.int 0), (.str "ab")]))).bind fun d59 => (((((Rs.of (negD (.int 1))).bind fun x60 => Rs.ok (.tup [x60, (.int 3)])).bind fun x61 => Rs.ok (.tup [x61, (.tup [(.int 4), (.int 3)])])).bind fun x62 => Rs.ok (.lst [(.lst [(.tup [(.int 1), (.int 3)]), (.tup [(.int 2), (.int 3)])]), (.tup [(.tup [(.int 1), (.int 3)]), (.lst [(.int 2), (.int 3)])]), (.tup [(.tup [(.int 1), (.int 3)]), (.tup [(.int 2), (.int 3)]), (.tup [(.int 0), (.int 1)])]), (.tup [(.tup [(.int 1), (.int 3)])]), x62, (.bl true)])).bind fun x63 => Rs.of (addD d59 x63)).bind fun d64 => (Rs.of (addD d64 (.lst [(.tup [(.tup [(.bl true), (.int 1)]), (.tup [(.int 0), (.int 1)])]), (.tup [(.tup [(.int 1), (.int 3)]), .non]), (.tup [(.tup [(.int 1), (.int 3)]), (.tup [(.int 2), (.int 3), (.int 1)])]), (.tup [(.int 0), (.int 1)]), (.tup [(.tup [(.int 1), (.int 3)]), (.str "23")])]))).bind fun d65 => (((((Rs.of (itemsD d65)).bind fun l67 => compM some (fun y66 => Rs.ok true) (fun y66 => m_is_best_columns d0 y66) l67).bind fun l68 => Rs.ok (.lst l68)).bind fun x69 => Rs.ok (.lst [x69])).bind fun x70 => Rs.of (catL (.lst l56) x70)).bind fun l71 => (((((Rs.of (itemsD d65)).bind fun l73 => compM some (fun y72 => Rs.ok true) (fun y72 => m_is_best_rows d0 y72) l73).bind fun l74 => Rs.ok (.lst l74)).bind fun x75 => Rs.ok (.lst [x75])).bind fun x76 => Rs.of (catL (.lst l71) x76)).bind fun l77 => (((((Rs.of (lenD [d65])).bind fun x78 => Rs.of (mulD (.lst [(.bl false)]) x78)).bind fun x79 => Rs.ok (.lst [x79])).bind fun x80 => Rs.of (mulD x80 (.int 2))).bind fun x81 => Rs.of (addD d58 x81)).bind fun d82 => (((m_is_best_columns d0 (.tup [(.tup [(.int 1), (.int 3)]), (.tup [(.int 2), (.int 3)])])).bind fun x83 => Rs.ok (.lst [x83])).bind fun x84 => Rs.of (catL (.lst l77) x84)).bind fun l85 => (((m_is_best_rows d0 (.tup [(.tup [(.int 1), (.int 3)]), (.tup [(.int 2), (.int 3)])])).bind fun x86 => Rs.ok (.lst [x86])).bind fun x87 => Rs.of (catL (.lst l85) x87)).bind fun l88 => ((Rs.of (idxD (.lst l22) (.int 5))).bind fun x89 => m_is_best_columns x89 (.tup [(.tup [(.int 1), (.int 2)]), (.tup [(.int 0), (.int 1)]), (.tup [(.int 1), (.int 2)])])).bind fun x92 => (Rs.of (appL l88 x92)).bind fun l90 => (Rs.of (addD d82 (.lst [(.bl true), (.bl true), (.bl true)]))).bind fun x91 => m_law_same 14 (.lst l90) x91 | _ => Rs.no) :=
  keeps_ret T.F_law_by_hand_right sc_law_by_hand_right (fun cdv A outer s H E F ds hl hr => match ds, hl with | [], _ => bi_as [none, none, none, none, none, none, none, none, none, none, none, none] (bi_at [none, none, none, none, none, none, none, none, none, none, none, none] (bi_set (as_ev (i := 0) sc_law_by_hand_right.nd (ev_tupC (ac_consV (ev_tupC (ac_consV (ev_tupC (ac_consV ev_int (ac_consV ev_int ac_nil))) (ac_consV (ev_tupC (ac_consV ev_int (ac_consV ev_int ac_nil))) ac_nil))) (ac_consV (ev_tupC (ac_consV (ev_tupC (ac_consV ev_int (ac_consV ev_int ac_nil))) (ac_consV (ev_tupC (ac_consV ev_int (ac_consV ev_int ac_nil))) ac_nil))) ac_nil)))) (fun d0 => (bi_at [some (.val d0), none, none, none, none, none, none, none, none, none, none, none] (bi_set (as_ev (i := 1) sc_law_by_hand_right.nd (ev_tupC (ac_consV (ev_tupC (ac_consV (ev_tupC (ac_consV ev_int (ac_consV ev_int ac_nil))) (ac_consV (ev_tupC (ac_consV ev_int (ac_consV ev_int ac_nil))) (ac_consV (ev_tupC (ac_consV ev_int (ac_consV ev_int ac_nil))) ac_nil)))) (ac_consV (ev_tupC (ac_consV (ev_tupC (ac_consV ev_int (ac_consV ev_int ac_nil))) (ac_consV (ev_tupC (ac_consV ev_int (ac_consV ev_int ac_nil))) (ac_consV (ev_tupC (ac_consV ev_int (ac_consV ev_int ac_nil))) ac_nil)))) (ac_consV (ev_tupC (ac_consV (ev_tupC (ac_consV ev_int (ac_consV ev_int ac_nil))) (ac_consV (ev_tupC (ac_consV ev_int (ac_consV ev_int ac_nil))) (ac_consV (ev_tupC (ac_consV ev_int (ac_consV ev_int ac_nil))) ac_nil)))) ac_nil))))) (fun d1 => (bi_at [some (.val d0), some (.val d1), none, none, none, none, none, none, none, none, none, none] (bi_set (as_ev (i := 2) sc_law_by_hand_right.nd (ev_tupC (ac_consV (ev_tupC (ac_consV (ev_tupC (ac_consV ev_int (ac_consV ev_int ac_nil))) (ac_consV (ev_tupC (ac_consV ev_int (ac_consV ev_int ac_nil))) ac_nil))) (ac_consV (ev_tupC (ac_consV (ev_tupC (ac_consV ev_int (ac_consV ev_int ac_nil))) (ac_consV (ev_tupC (ac_consV ev_int (ac_consV ev_int ac_nil))) ac_nil))) (ac_consV (ev_tupC (ac_consV (ev_tupC (ac_consV ev_int (ac_consV ev_int ac_nil))) (ac_consV (ev_tupC (ac_consV ev_int (ac_consV ev_int ac_nil))) ac_nil))) ac_nil))))) (fun d2 => (bi_at [some (.val d0), some (.val d1), some (.val d2), none, none, none, none, none, none, none, none, none] (bi_own (af_ef (i := 3) sc_law_by_hand_right.nd (ef_lstC (ac_consV (ev_var (i := 0) (d := d0) rfl (pv 0)) (ac_consV (ev_var (i := 1) (d := d1) rfl (pv 1)) (ac_consV (ev_var (i := 2) (d := d2) rfl (pv 2)) (ac_consV (ev_tupC (ac_consV (ev_tupC (ac_consV (ev_tupC (ac_consV ev_int (ac_consV ev_int ac_nil))) (ac_consV (ev_tupC (ac_consV ev_int (ac_consV ev_int ac_nil))) ac_nil))) ac_nil)) (ac_consV (ev_tupC (ac_consV (ev_tupC (ac_consV (ev_tupC (ac_consV ev_int (ac_consV ev_int ac_nil))) ac_nil)) (ac_consV (ev_tupC (ac_consV (ev_tupC (ac_consV ev_int (ac_consV ev_int ac_nil))) ac_nil)) (ac_consV (ev_tupC (ac_consV (ev_tupC (ac_consV ev_int (ac_consV ev_int ac_nil))) ac_nil)) ac_nil)))) (ac_cons (ev_binR op_mulD mulD_ok (EV.o (ev_tupC (ac_cons (ev_bin2 op_mulD mulD_ok (EV.o (ev_tupC (ac_consV (ev_tupC (ac_consV ev_int (ac_consV ev_int ac_nil))) ac_nil))) (EV.o ev_int)) ac_nil))) (EV.o ev_int)) ac_nil)))))))) (fun l6 => (bi_frz 3 (bi_at [some (.val d0), some (.val d1), some (.val d2), some (.val (.lst l6)), none, none, none, none, none, none, none, none] (bi_own (af_ef (i := 3) sc_law_by_hand_right.nd (ef_cat (EV.o (ev_var (i := 3) (d := (.lst l6)) rfl (pv 3))) (EV.o (ev_lstC (ac_consV (ev_tupC (ac_consV (ev_tupC (ac_consV (ev_tupC (ac_consV ev_int (ac_consV ev_int ac_nil))) (ac_consV (ev_tupC (ac_consV ev_int (ac_consV ev_int ac_nil))) ac_nil))) (ac_consV (ev_tupC (ac_consV (ev_tupC (ac_consV ev_int (ac_consV ev_int ac_nil))) (ac_consV (ev_tupC (ac_consV ev_int (ac_consV ev_int ac_nil))) ac_nil))) ac_nil))) (ac_cons (ev_callTyC call_tuple_of tupleD_ok T.f_tuple boot_tuple (oc_cons (EV.o (EF.ev (ef_comp rfl sc_law_by_hand_right.nd (it_range rfl T.f_range ev_int) (blkOk_by (own := [("_law_j", 5)]) (by kernel_rfl)) (by decide) (fun _ _ _ _ _ => tt_name (i := 5) sc_law_by_hand_right.nd) (fun _ _ _ _ _ y7 => tvs_nil) (fun _ _ _ _ _ y7 => (ev_callTyC call_tuple_of tupleD_ok T.f_tuple boot_tuple (oc_cons (EV.o (EF.ev (ef_comp rfl sc_law_by_hand_right.nd (it_range rfl T.f_range ev_int) (blkOk_by (own := [("_law_k", 4)]) (by kernel_rfl)) (by decide) (fun _ _ _ _ _ => tt_name (i := 4) sc_law_by_hand_right.nd) (fun _ _ _ _ _ y8 => tvs_nil) (fun _ _ _ _ _ y8 => (ev_tupC (ac_cons (ev_callTyC call_intD intD_ok T.f_int boot_int (oc_cons (EV.o (ev_cmpR (op_eqA hr.units) eqD_ok (EV.o (ev_bin2 op_modN modD_ok (EV.o (ev_var (i := 4) (d := y8) rfl (pv 4))) (EV.o ev_int))) (EV.o (ev_var (i := 5) (d := y7) rfl (pv 5))) (nomark _))) oc_nil)) (ac_consV ev_int ac_nil))))))) oc_nil)))))) oc_nil)) ac_nil)))))) (fun l20 => (bi_at [some (.val d0), some (.val d1), some (.val d2), some (.own true (.lst l20)), none, none, none, none, none, none, none, none] (bi_set (as_ev (i := 6) sc_law_by_hand_right.nd (ev_bin2 op_pow powD_ok (EV.o ev_int) (EV.o ev_int))) (fun d21 => (bi_at [some (.val d0), some (.val d1), some (.val d2), some (.own true (.lst l20)), none, none, some (.val d21), none, none, none, none, none] (bi_append (i := 3) (c := l20) (pv 3) (ev_tupC (ac_consV (ev_tupC (ac_consV (ev_tupC (ac_consV (ev_var (i := 6) (d := d21) rfl (pv 6)) (ac_consV ev_int ac_nil))) (ac_consV (ev_tupC (ac_consV ev_int (ac_consV ev_int ac_nil))) ac_nil))) (ac_consV (ev_tupC (ac_consV (ev_tupC (ac_consV ev_int (ac_consV ev_int ac_nil))) (ac_consV (ev_tupC (ac_consV ev_int (ac_consV (ev_var (i := 6) (d := d21) rfl (pv 6)) ac_nil))) ac_nil))) ac_nil))) (fun l22 => (bi_frz 3 (bi_at [some (.val d0), some (.val d1), some (.val d2), some (.val (.lst l22)), none, none, some (.val d21), none, none, none, none, none] (bi_set (as_ev (i := 7) sc_law_by_hand_right.nd (ev_lstC (ac_consV (ev_tupC (ac_consV ev_int (ac_consV ev_int ac_nil))) (ac_consV (ev_tupC (ac_consV ev_int (ac_consV ev_int ac_nil))) (ac_consV (ev_tupC (ac_consV ev_int (ac_consV ev_int ac_nil))) (ac_consV (ev_tupC (ac_consV ev_int (ac_consV ev_int ac_nil))) (ac_consV (ev_tupC (ac_consV ev_int (ac_consV ev_int ac_nil))) (ac_consV (ev_tupC (ac_consV ev_int (ac_consV ev_int ac_nil))) (ac_consV (ev_tupC (ac_consV ev_int (ac_consV ev_int ac_nil))) (ac_consV (ev_tupC (ac_consV ev_int (ac_consV ev_int ac_nil))) ac_nil)))))))))) (fun d23 => (bi_at [some (.val d0), some (.val d1), some (.val d2), some (.val (.lst l22)), none, none, some (.val d21), some (.val d23), none, none, none, none] (bi_set (as_ev (i := 7) sc_law_by_hand_right.nd (ev_binL op_addD addD_ok (EV.o (ev_var (i := 7) (d := d23) rfl (pv 7))) (EV.o (ev_lstC (ac_cons (ev_tupC (ac_consV (ev_var (i := 6) (d := d21) rfl (pv 6)) (ac_cons (ev_binR op_addD addD_ok (EV.o (ev_bin2 op_mulD mulD_ok (EV.o (ev_var (i := 6) (d := d21) rfl (pv 6))) (EV.o (ev_var (i := 6) (d := d21) rfl (pv 6))))) (EV.o ev_int)) ac_nil))) ac_nil))))) (fun d28 => (bi_at [some (.val d0), some (.val d1), some (.val d2), some (.val (.lst l22)), none, none, some (.val d21), some (.val d28), none, none, none, none] (bi_ifr (TW.tv (tw_or (tv_not (tv_val (ev_callC (L2N.takes_of rfl rfl rfl rfl) (k_law_same T 14) (hr.mono (by decide)) T.g_law_same T.F_law_same.kp T.b_law_same (ac_cons (EF.ev (ef_comp rfl sc_law_by_hand_right.nd (it_seqV (ev_var (i := 3) (d := (.lst l22)) rfl (pv 3))) (blkOk_by (own := [("_law_own", 8)]) (by kernel_rfl)) (by decide) (fun _ _ _ _ _ => tt_name (i := 8) sc_law_by_hand_right.nd) (fun _ _ _ _ _ y29 => tvs_nil) (fun _ _ _ _ _ y29 => (ev_callC takes0N (k_worth T) (hr.mono (by decide)) T.g_worth T.F_worth.kp T.b_worth (ac_consV (ev_var (i := 8) (d := y29) rfl (pv 8)) ac_nil))))) (ac_consV (ev_var (i := 7) (d := d28) rfl (pv 7)) ac_nil))))) (tw_or1 (tv_not (tv_val (ev_callBC (cr_all rfl) allD_ok T.f_all boot_all (oc_cons (EV.o (EF.ev (ef_comp rfl sc_law_by_hand_right.nd (it_seqV (ev_var (i := 3) (d := (.lst l22)) rfl (pv 3))) (blkOk_by (own := [("_law_own", 8)]) (by kernel_rfl)) (by decide) (fun _ _ _ _ _ => tt_name (i := 8) sc_law_by_hand_right.nd) (fun _ _ _ _ _ y34 => tvs_nil) (fun _ _ _ _ _ y34 => (ev_callC takes0N (k_law_case_right T) (hr.mono (by decide)) T.g_law_case_right T.F_law_case_right.kp T.b_law_case_right (ac_consV (ev_var (i := 8) (d := y34) rfl (pv 8)) ac_nil)))))) oc_nil))))))) (bi_at [some (.val d0), some (.val d1), some (.val d2), some (.val (.lst l22)), none, none, some (.val d21), some (.val d28), none, none, none, none] (bi_ret ev_bl)) (bi_at [some (.val d0), some (.val d1), some (.val d2), some (.val (.lst l22)), none, none, some (.val d21), some (.val d28), none, none, none, none] (bi_setV (as_ev (i := 9) sc_law_by_hand_right.nd (ev_tupC (ac_consV ev_int (ac_consV ev_int ac_nil)))) (bi_at [some (.val d0), some (.val d1), some (.val d2), some (.val (.lst l22)), none, none, some (.val d21), some (.val d28), none, some (.val (.tup [(.int 1), (.int 3)])), none, none] (bi_own (af_ef (i := 10) sc_law_by_hand_right.nd (ef_lstC (ac_cons (ev_callC (L2N.takes_of rfl rfl rfl rfl) (k_best_columns T) (hr.mono (by decide)) T.g_best_columns T.F_best_columns.kp T.b_best_columns (ac_consV (ev_var (i := 0) (d := d0) rfl (pv 0)) ac_nil)) (ac_cons (ev_callC (L2N.takes_of rfl rfl rfl rfl) (k_best_rows T) (hr.mono (by decide)) T.g_best_rows T.F_best_rows.kp T.b_best_rows (ac_consV (ev_var (i := 0) (d := d0) rfl (pv 0)) ac_nil)) (ac_cons (ev_callC (L2N.takes_of rfl rfl rfl rfl) (k_best_columns T) (hr.mono (by decide)) T.g_best_columns T.F_best_columns.kp T.b_best_columns (ac_consV (ev_var (i := 1) (d := d1) rfl (pv 1)) ac_nil)) (ac_cons (ev_callC (L2N.takes_of rfl rfl rfl rfl) (k_best_rows T) (hr.mono (by decide)) T.g_best_rows T.F_best_rows.kp T.b_best_rows (ac_consV (ev_var (i := 1) (d := d1) rfl (pv 1)) ac_nil)) ac_nil)))))) (fun l43 => (bi_frz 10 (bi_at [some (.val d0), some (.val d1), some (.val d2), some (.val (.lst l22)), none, none, some (.val d21), some (.val d28), none, some (.val (.tup [(.int 1), (.int 3)])), some (.val (.lst l43)), none] (bi_set (as_ev (i := 7) sc_law_by_hand_right.nd (ev_lstC (ac_consV (ev_tupC (ac_consV (ev_var (i := 9) (d := (.tup [(.int 1), (.int 3)])) rfl (pv 9)) (ac_consV (ev_tupC (ac_consV ev_int (ac_consV ev_int ac_nil))) ac_nil))) (ac_consV (ev_tupC (ac_consV (ev_var (i := 9) (d := (.tup [(.int 1), (.int 3)])) rfl (pv 9)) (ac_consV (ev_tupC (ac_consV ev_int (ac_consV ev_int ac_nil))) ac_nil))) (ac_cons (ev_bin2 op_mulD mulD_ok (EV.o (ev_tupC (ac_consV (ev_var (i := 9) (d := (.tup [(.int 1), (.int 3)])) rfl (pv 9)) ac_nil))) (EV.o ev_int)) (ac_cons (ev_bin2 op_mulD mulD_ok (EV.o (ev_tupC (ac_consV (ev_var (i := 9) (d := (.tup [(.int 1), (.int 3)])) rfl (pv 9)) ac_nil))) (EV.o ev_int)) ac_nil)))))) (fun d46 => (bi_at [some (.val d0), some (.val d1), some (.val d2), some (.val (.lst l22)), none, none, some (.val d21), some (.val d46), none, some (.val (.tup [(.int 1), (.int 3)])), some (.val (.lst l43)), none] (bi_own (af_ef (i := 10) sc_law_by_hand_right.nd (ef_cat (EV.o (ev_var (i := 10) (d := (.lst l43)) rfl (pv 10))) (EV.o (ev_lstC (ac_cons (ev_callC (L2N.takes_of rfl rfl rfl rfl) (k_best_columns T) (hr.mono (by decide)) T.g_best_columns T.F_best_columns.kp T.b_best_columns (ac_consV (ev_var (i := 2) (d := d2) rfl (pv 2)) ac_nil)) (ac_cons (ev_callC (L2N.takes_of rfl rfl rfl rfl) (k_best_rows T) (hr.mono (by decide)) T.g_best_rows T.F_best_rows.kp T.b_best_rows (ac_consV (ev_var (i := 2) (d := d2) rfl (pv 2)) ac_nil)) (ac_cons (ev_callC (L2N.takes_of rfl rfl rfl rfl) (k_best_columns T) (hr.mono (by decide)) T.g_best_columns T.F_best_columns.kp T.b_best_columns (ac_cons (ev_ix2 ix_D idxD_ok (EV.o (ev_var (i := 3) (d := (.lst l22)) rfl (pv 3))) (EV.o ev_int) (fun _ _ => rfl)) ac_nil)) ac_nil))))))) (fun l52 => (bi_frz 10 (bi_at [some (.val d0), some (.val d1), some (.val d2), some (.val (.lst l22)), none, none, some (.val d21), some (.val d46), none, some (.val (.tup [(.int 1), (.int 3)])), some (.val (.lst l52)), none] (bi_own (af_ef (i := 10) sc_law_by_hand_right.nd (ef_cat (EV.o (ev_var (i := 10) (d := (.lst l52)) rfl (pv 10))) (EV.o (ev_lstC (ac_cons (ev_callC (L2N.takes_of rfl rfl rfl rfl) (k_best_rows T) (hr.mono (by decide)) T.g_best_rows T.F_best_rows.kp T.b_best_rows (ac_cons (ev_ix2 ix_D idxD_ok (EV.o (ev_var (i := 3) (d := (.lst l22)) rfl (pv 3))) (EV.o ev_int) (fun _ _ => rfl)) ac_nil)) ac_nil))))) (fun l56 => (bi_frz 10 (bi_at [some (.val d0), some (.val d1), some (.val d2), some (.val (.lst l22)), none, none, some (.val d21), some (.val d46), none, some (.val (.tup [(.int 1), (.int 3)])), some (.val (.lst l56)), none] (bi_set (as_ev (i := 7) sc_law_by_hand_right.nd (ev_bin2 op_addD addD_ok (EV.o (ev_var (i := 7) (d := d46) rfl (pv 7))) (EV.o (ev_lstC (ac_consV (ev_tupC (ac_consV (ev_tupC (ac_consV ev_int (ac_consV ev_int ac_nil))) (ac_consV (ev_tupC (ac_consV ev_int (ac_consV ev_int ac_nil))) ac_nil))) (ac_consV (ev_tupC (ac_consV (ev_tupC (ac_consV ev_int (ac_consV ev_int ac_nil))) (ac_consV (ev_tupC (ac_consV ev_int (ac_consV ev_int ac_nil))) (ac_consV (ev_tupC (ac_consV ev_int (ac_consV ev_int ac_nil))) ac_nil)))) (ac_consV (ev_tupC (ac_consV (ev_tupC (ac_consV ev_int (ac_consV ev_int ac_nil))) (ac_consV (ev_tupC (ac_consV ev_int (ac_consV ev_int ac_nil))) ac_nil))) ac_nil))))))) (fun d57 => (bi_at [some (.val d0), some (.val d1), some (.val d2), some (.val (.lst l22)), none, none, some (.val d21), some (.val d57), none, some (.val (.tup [(.int 1), (.int 3)])), some (.val (.lst l56)), none] (bi_set (as_ev (i := 7) sc_law_by_hand_right.nd (ev_bin2 op_addD addD_ok (EV.o (ev_var (i := 7) (d := d57) rfl (pv 7))) (EV.o (ev_lstC (ac_consV (ev_tupC (ac_consV (ev_tupC (ac_consV ev_int (ac_consV ev_int ac_nil))) (ac_consV (ev_tupC (ac_consV ev_int (ac_consV ev_int ac_nil))) (ac_consV (ev_tupC (ac_consV ev_int (ac_consV ev_int ac_nil))) ac_nil)))) ac_nil))))) (fun d58 => (bi_at [some (.val d0), some (.val d1), some (.val d2), some (.val (.lst l22)), none, none, some (.val d21), some (.val d58), none, some (.val (.tup [(.int 1), (.int 3)])), some (.val (.lst l56)), none] (bi_set (as_ev (i := 11) sc_law_by_hand_right.nd (ev_lstC (ac_consV (ev_tupC (ac_consV (ev_var (i := 9) (d := (.tup [(.int 1), (.int 3)])) rfl (pv 9)) (ac_consV (ev_var (i := 9) (d := (.tup [(.int 1), (.int 3)])) rfl (pv 9)) ac_nil))) (ac_consV (ev_tupC (ac_consV (ev_tupC (ac_consV ev_int (ac_consV ev_int ac_nil))) (ac_consV (ev_var (i := 9) (d := (.tup [(.int 1), (.int 3)])) rfl (pv 9)) ac_nil))) (ac_consV (ev_tupC (ac_consV (ev_tupC (ac_consV ev_int (ac_consV ev_int ac_nil))) (ac_consV (ev_tupC (ac_consV ev_int (ac_consV ev_int ac_nil))) ac_nil))) (ac_consV (ev_tupC (ac_consV (ev_tupC (ac_consV ev_int (ac_consV ev_int ac_nil))) (ac_consV (ev_tupC (ac_consV ev_int (ac_consV ev_int ac_nil))) ac_nil))) (ac_consV (ev_tupC (ac_consV (ev_tupC (ac_consV ev_int (ac_consV ev_int ac_nil))) (ac_consV (ev_tupC (ac_consV ev_int (ac_consV ev_int ac_nil))) ac_nil))) (ac_consV ev_non (ac_consV (ev_tupC ac_nil) (ac_consV ev_int (ac_consV ev_str ac_nil))))))))))) (fun d59 => (bi_at [some (.val d0), some (.val d1), some (.val d2), some (.val (.lst l22)), none, none, some (.val d21), some (.val d58), none, some (.val (.tup [(.int 1), (.int 3)])), some (.val (.lst l56)), some (.val d59)] (bi_set (as_ev (i := 11) sc_law_by_hand_right.nd (ev_binL op_addD addD_ok (EV.o (ev_var (i := 11) (d := d59) rfl (pv 11))) (EV.o (ev_lstC (ac_consV (ev_lstC (ac_consV (ev_var (i := 9) (d := (.tup [(.int 1), (.int 3)])) rfl (pv 9)) (ac_consV (ev_tupC (ac_consV ev_int (ac_consV ev_int ac_nil))) ac_nil))) (ac_consV (ev_tupC (ac_consV (ev_tupC (ac_consV ev_int (ac_consV ev_int ac_nil))) (ac_consV (ev_lstC (ac_consV ev_int (ac_consV ev_int ac_nil))) ac_nil))) (ac_consV (ev_tupC (ac_consV (ev_var (i := 9) (d := (.tup [(.int 1), (.int 3)])) rfl (pv 9)) (ac_consV (ev_tupC (ac_consV ev_int (ac_consV ev_int ac_nil))) (ac_consV (ev_tupC (ac_consV ev_int (ac_consV ev_int ac_nil))) ac_nil)))) (ac_consV (ev_tupC (ac_consV (ev_var (i := 9) (d := (.tup [(.int 1), (.int 3)])) rfl (pv 9)) ac_nil)) (ac_cons (ev_tupC (ac_cons (ev_tupC (ac_cons (ev_un un_neg negD_ok (EV.o ev_int)) (ac_consV ev_int ac_nil))) (ac_consV (ev_tupC (ac_consV ev_int (ac_consV ev_int ac_nil))) ac_nil))) (ac_consV ev_bl ac_nil)))))))))) (fun d64 => (bi_at [some (.val d0), some (.val d1), some (.val d2), some (.val (.lst l22)), none, none, some (.val d21), some (.val d58), none, some (.val (.tup [(.int 1), (.int 3)])), some (.val (.lst l56)), some (.val d64)] (bi_set (as_ev (i := 11) sc_law_by_hand_right.nd (ev_bin2 op_addD addD_ok (EV.o (ev_var (i := 11) (d := d64) rfl (pv 11))) (EV.o (ev_lstC (ac_consV (ev_tupC (ac_consV (ev_tupC (ac_consV ev_bl (ac_consV ev_int ac_nil))) (ac_consV (ev_tupC (ac_consV ev_int (ac_consV ev_int ac_nil))) ac_nil))) (ac_consV (ev_tupC (ac_consV (ev_var (i := 9) (d := (.tup [(.int 1), (.int 3)])) rfl (pv 9)) (ac_consV ev_non ac_nil))) (ac_consV (ev_tupC (ac_consV (ev_tupC (ac_consV ev_int (ac_consV ev_int ac_nil))) (ac_consV (ev_tupC (ac_consV ev_int (ac_consV ev_int (ac_consV ev_int ac_nil)))) ac_nil))) (ac_consV (ev_tupC (ac_consV ev_int (ac_consV ev_int ac_nil))) (ac_consV (ev_tupC (ac_consV (ev_tupC (ac_consV ev_int (ac_consV ev_int ac_nil))) (ac_consV ev_str ac_nil))) ac_nil))))))))) (fun d65 => (bi_at [some (.val d0), some (.val d1), some (.val d2), some (.val (.lst l22)), none, none, some (.val d21), some (.val d58), none, some (.val (.tup [(.int 1), (.int 3)])), some (.val (.lst l56)), some (.val d65)] (bi_own (af_ef (i := 10) sc_law_by_hand_right.nd (ef_cat (EV.o (ev_var (i := 10) (d := (.lst l56)) rfl (pv 10))) (EV.o (ev_lstC (ac_cons (EF.ev (ef_comp rfl sc_law_by_hand_right.nd (it_seqV (ev_var (i := 11) (d := d65) rfl (pv 11))) (blkOk_by (own := [("_law_own", 8)]) (by kernel_rfl)) (by decide) (fun _ _ _ _ _ => tt_name (i := 8) sc_law_by_hand_right.nd) (fun _ _ _ _ _ y66 => tvs_nil) (fun _ _ _ _ _ y66 => (ev_callC takes0N (k_is_best_columns T) (hr.mono (by decide)) T.g_is_best_columns T.F_is_best_columns.kp T.b_is_best_columns (ac_consV (ev_var (i := 0) (d := d0) rfl (pv 0)) (ac_consV (ev_var (i := 8) (d := y66) rfl (pv 8)) ac_nil)))))) ac_nil))))) (fun l71 => (bi_frz 10 (bi_at [some (.val d0), some (.val d1), some (.val d2), some (.val (.lst l22)), none, none, some (.val d21), some (.val d58), none, some (.val (.tup [(.int 1), (.int 3)])), some (.val (.lst l71)), some (.val d65)] (bi_own (af_ef (i := 10) sc_law_by_hand_right.nd (ef_cat (EV.o (ev_var (i := 10) (d := (.lst l71)) rfl (pv 10))) (EV.o (ev_lstC (ac_cons (EF.ev (ef_comp rfl sc_law_by_hand_right.nd (it_seqV (ev_var (i := 11) (d := d65) rfl (pv 11))) (blkOk_by (own := [("_law_own", 8)]) (by kernel_rfl)) (by decide) (fun _ _ _ _ _ => tt_name (i := 8) sc_law_by_hand_right.nd) (fun _ _ _ _ _ y72 => tvs_nil) (fun _ _ _ _ _ y72 => (ev_callC takes0N (k_is_best_rows T) (hr.mono (by decide)) T.g_is_best_rows T.F_is_best_rows.kp T.b_is_best_rows (ac_consV (ev_var (i := 0) (d := d0) rfl (pv 0)) (ac_consV (ev_var (i := 8) (d := y72) rfl (pv 8)) ac_nil)))))) ac_nil))))) (fun l77 => (bi_frz 10 (bi_at [some (.val d0), some (.val d1), some (.val d2), some (.val (.lst l22)), none, none, some (.val d21), some (.val d58), none, some (.val (.tup [(.int 1), (.int 3)])), some (.val (.lst l77)), some (.val d65)] (bi_set (as_ev (i := 7) sc_law_by_hand_right.nd (ev_binL op_addD addD_ok (EV.o (ev_var (i := 7) (d := d58) rfl (pv 7))) (EV.o (ev_binR op_mulD mulD_ok (EV.o (ev_lstC (ac_cons (ev_binL op_mulD mulD_ok (EV.o (ev_lstC (ac_consV ev_bl ac_nil))) (EV.o (ev_callBC call_len lenD_ok T.f_len boot_len (oc_consV (EV.o (ev_var (i := 11) (d := d65) rfl (pv 11))) oc_nil)))) ac_nil))) (EV.o ev_int))))) (fun d82 => (bi_at [some (.val d0), some (.val d1), some (.val d2), some (.val (.lst l22)), none, none, some (.val d21), some (.val d82), none, some (.val (.tup [(.int 1), (.int 3)])), some (.val (.lst l77)), some (.val d65)] (bi_own (af_ef (i := 10) sc_law_by_hand_right.nd (ef_cat (EV.o (ev_var (i := 10) (d := (.lst l77)) rfl (pv 10))) (EV.o (ev_lstC (ac_cons (ev_callK0 (L2N.takes_of rfl rfl rfl rfl) (k_is_best_columns T) (hr.mono (by decide)) T.g_is_best_columns T.F_is_best_columns.kp (kbN T.F_is_best_columns 0 ["thing", "table"] [1, 0] (fun kV doc pm an cdv ct us ws h1 h2 => match us, ws, h1, h2 with | [], [_, _], _, _ => rfl)) (kc_consV (ev_tupC (ac_consV (ev_var (i := 9) (d := (.tup [(.int 1), (.int 3)])) rfl (pv 9)) (ac_consV (ev_tupC (ac_consV ev_int (ac_consV ev_int ac_nil))) ac_nil))) (kc_consV (ev_var (i := 0) (d := d0) rfl (pv 0)) kc_nil)) (fun zs h => match zs, h with | [_, _], _ => rfl)) ac_nil))))) (fun l85 => (bi_frz 10 (bi_at [some (.val d0), some (.val d1), some (.val d2), some (.val (.lst l22)), none, none, some (.val d21), some (.val d82), none, some (.val (.tup [(.int 1), (.int 3)])), some (.val (.lst l85)), some (.val d65)] (bi_own (af_ef (i := 10) sc_law_by_hand_right.nd (ef_cat (EV.o (ev_var (i := 10) (d := (.lst l85)) rfl (pv 10))) (EV.o (ev_lstC (ac_cons (ev_callK0 (L2N.takes_of rfl rfl rfl rfl) (k_is_best_rows T) (hr.mono (by decide)) T.g_is_best_rows T.F_is_best_rows.kp (kbN T.F_is_best_rows 0 ["thing", "table"] [1, 0] (fun kV doc pm an cdv ct us ws h1 h2 => match us, ws, h1, h2 with | [], [_, _], _, _ => rfl)) (kc_consV (ev_tupC (ac_consV (ev_var (i := 9) (d := (.tup [(.int 1), (.int 3)])) rfl (pv 9)) (ac_consV (ev_tupC (ac_consV ev_int (ac_consV ev_int ac_nil))) ac_nil))) (kc_consV (ev_var (i := 0) (d := d0) rfl (pv 0)) kc_nil)) (fun zs h => match zs, h with | [_, _], _ => rfl)) ac_nil))))) (fun l88 => (bi_at [some (.val d0), some (.val d1), some (.val d2), some (.val (.lst l22)), none, none, some (.val d21), some (.val d82), none, some (.val (.tup [(.int 1), (.int 3)])), some (.own true (.lst l88)), some (.val d65)] (bi_append (i := 10) (c := l88) (pv 10) (ev_callC (L2N.takes_of rfl rfl rfl rfl) (k_is_best_columns T) (hr.mono (by decide)) T.g_is_best_columns T.F_is_best_columns.kp T.b_is_best_columns (ac_cons (ev_ix2 ix_D idxD_ok (EV.o (ev_var (i := 3) (d := (.lst l22)) rfl (pv 3))) (EV.o ev_int) (fun _ _ => rfl)) (ac_consV (ev_tupC (ac_consV (ev_tupC (ac_consV ev_int (ac_consV ev_int ac_nil))) (ac_consV (ev_tupC (ac_consV ev_int (ac_consV ev_int ac_nil))) (ac_consV (ev_tupC (ac_consV ev_int (ac_consV ev_int ac_nil))) ac_nil)))) ac_nil))) (fun l90 => (bi_frz 10 (bi_at [some (.val d0), some (.val d1), some (.val d2), some (.val (.lst l22)), none, none, some (.val d21), some (.val d82), none, some (.val (.tup [(.int 1), (.int 3)])), some (.val (.lst l90)), some (.val d65)] (bi_ret (ev_callC (L2N.takes_of rfl rfl rfl rfl) (k_law_same T 14) (hr.mono (by decide)) T.g_law_same T.F_law_same.kp T.b_law_same (ac_consV (ev_var (i := 10) (d := (.lst l90)) rfl (pv 10)) (ac_cons (ev_bin2 op_addD addD_ok (EV.o (ev_var (i := 7) (d := d82) rfl (pv 7))) (EV.o (ev_lstC (ac_consV ev_bl (ac_consV ev_bl (ac_consV ev_bl ac_nil)))))) ac_nil)))))))))))))))))))))))))))))))))))))))))))))))))))))))))))))))))))))))))))))))))))))))))) rfl rfl)
def m_law_by_hand_right : Rs D := ((Rs.ok (.tup [(.tup [(.tup [(.int 1), (.int 1)]), (.tup [(.int 0), (.int 1)])]), (.tup [(.tup [(.int 0), (.int 1)]), (.tup [(.int 1), (.int 2)])])]))).bind fun d0 => ((Rs.ok (.tup [(.tup [(.tup [(.int 1), (.int 1)]), (.tup [(.int 0), (.int 1)]), (.tup [(.int 2), (.int 1)])]), (.tup [(.tup [(.int 2), (.int 1)]), (.tup [(.int 1), (.int 1)]), (.tup [(.int 0), (.int 1)])]), (.tup [(.tup [(.int 0), (.int 1)]), (.tup [(.int 2), (.int 1)]), (.tup [(.int 1), (.int 1)])])]))).bind fun d1 => ((Rs.ok (.tup [(.tup [(.tup [(.int 4), (.int 1)]), (.tup [(.int 1), (.int 1)])]), (.tup [(.tup [(.int 1), (.int 1)]), (.tup [(.int 3), (.int 1)])]), (.tup [(.tup [(.int 3), (.int 1)]), (.tup [(.int 2), (.int 1)])])]))).bind fun d2 => ((((Rs.of (mulD (.tup [(.tup [(.int 0), (.int 1)])]) (.int 3))).bind fun x3 => Rs.ok (.tup [x3])).bind fun x4 => Rs.of (mulD x4 (.int 2))).bind fun x5 => Rs.ok [d0, d1, d2, (.tup [(.tup [(.tup [(.int 3), (.int 1)]), (.tup [(.int 5), (.int 1)])])]), (.tup [(.tup [(.tup [(.int 3), (.int 1)])]), (.tup [(.tup [(.int 5), (.int 2)])]), (.tup [(.tup [(.int 9), (.int 1)])])]), x5]).bind fun l6 => ((((((Rs.of (rangeD (.int 8))).bind fun l15 => compM some (fun y7 => Rs.ok true) (fun y7 => (((Rs.of (rangeD (.int 62))).bind fun l12 => compM some (fun y8 => Rs.ok true) (fun y8 => (((Rs.of (modD y8 (.int 8))).bind fun x9 => Rs.of (eqD x9 y7)).bind fun x10 => Rs.of (intD [x10])).bind fun x11 => Rs.ok (.tup [x11, (.int 1)])) l12).bind fun l13 => Rs.ok (.lst l13)).bind fun x14 => Rs.of (tupleD [x14])) l15).bind fun l16 => Rs.ok (.lst l16)).bind fun x17 => Rs.of (tupleD [x17])).bind fun x18 => Rs.ok (.lst [(.tup [(.tup [(.tup [(.int 0), (.int 1)]), (.tup [(.int 0), (.int 1)])]), (.tup [(.tup [(.int 1), (.int 1)]), (.tup [(.int 2), (.int 1)])])]), x18])).bind fun x19 => Rs.of (catL (.lst l6) x19)).bind fun l20 => (Rs.of (powD (.int 10) (.int 40))).bind fun d21 => (Rs.of (appL l20 (.tup [(.tup [(.tup [d21, (.int 1)]), (.tup [(.int 0), (.int 1)])]), (.tup [(.tup [(.int 0), (.int 1)]), (.tup [(.int 1), d21])])]))).bind fun l22 => ((Rs.ok (.lst [(.tup [(.int 1), (.int 3)]), (.tup [(.int 1), (.int 1)]), (.tup [(.int 11), (.int 5)]), (.tup [(.int 5), (.int 1)]), (.tup [(.int 5), (.int 2)]), (.tup [(.int 0), (.int 1)]), (.tup [(.int 0), (.int 1)]), (.tup [(.int 1), (.int 8)])]))).bind fun d23 => (((((Rs.of (mulD d21 d21)).bind fun x24 => Rs.of (addD x24 (.int 1))).bind fun x25 => Rs.ok (.tup [d21, x25])).bind fun x26 => Rs.ok (.lst [x26])).bind fun x27 => Rs.of (addD d23 x27)).bind fun d28 => (((((((Rs.of (itemsD (.lst l22))).bind fun l30 => compM some (fun y29 => Rs.ok true) (fun y29 => m_worth y29) l30).bind fun l31 => Rs.ok (.lst l31)).bind fun x32 => m_law_same 14 x32 d28).bind fun x33 => Rs.of (asB x33)).bind fun k => Rs.ok (!k)).bind fun k => if k then Rs.ok true else (((((Rs.of (itemsD (.lst l22))).bind fun l35 => compM some (fun y34 => Rs.ok true) (fun y34 => m_law_case_right y34) l35).bind fun l36 => Rs.ok (.lst l36)).bind fun x37 => Rs.of (allD [x37])).bind fun x38 => Rs.of (asB x38)).bind fun k => Rs.ok (!k)).bind fun k => if k then (Rs.ok (.bl false)) else ((m_best_columns d0).bind fun x39 => (m_best_rows d0).bind fun x40 => (m_best_columns d1).bind fun x41 => (m_best_rows d1).bind fun x42 => Rs.ok [x39, x40, x41, x42]).bind fun l43 => ((Rs.of (mulD (.tup [(.tup [(.int 1), (.int 3)])]) (.int 3))).bind fun x44 => (Rs.of (mulD (.tup [(.tup [(.int 1), (.int 3)])]) (.int 3))).bind fun x45 => Rs.ok (.lst [(.tup [(.tup [(.int 1), (.int 3)]), (.tup [(.int 2), (.int 3)])]), (.tup [(.tup [(.int 1), (.int 3)]), (.tup [(.int 2), (.int 3)])]), x44, x45])).bind fun d46 => (((m_best_columns d2).bind fun x48 => (m_best_rows d2).bind fun x49 => ((Rs.of (idxD (.lst l22) (.int 3))).bind fun x47 => m_best_columns x47).bind fun x50 => Rs.ok (.lst [x48, x49, x50])).bind fun x51 => Rs.of (catL (.lst l43) x51)).bind fun l52 => ((((Rs.of (idxD (.lst l22) (.int 4))).bind fun x53 => m_best_rows x53).bind fun x54 => Rs.ok (.lst [x54])).bind fun x55 => Rs.of (catL (.lst l52) x55)).bind fun l56 => (Rs.of (addD d46 (.lst [(.tup [(.tup [(.int 2), (.int 5)]), (.tup [(.int 3), (.int 5)])]), (.tup [(.tup [(.int 2), (.int 5)]), (.tup [(.int 3), (.int 5)]), (.tup [(.int 0), (.int 1)])]), (.tup [(.tup [(.int 0), (.int 1)]), (.tup [(.int 1), (.int 1)])])]))).bind fun d57 => (Rs.of (addD d57 (.lst [(.tup [(.tup [(.int 0), (.int 1)]), (.tup [(.int 1), (.int 1)]), (.tup [(.int 0), (.int 1)])])]))).bind fun d58 => ((Rs.ok (.lst [(.tup [(.tup [(.int 1), (.int 3)]), (.tup [(.int 1), (.int 3)])]), (.tup [(.tup [(.int 2), (.int 3)]), (.tup [(.int 1), (.int 3)])]), (.tup [(.tup [(.int 1), (.int 1)]), (.tup [(.int 0), (.int 1)])]), (.tup [(.tup [(.int 0), (.int 1)]), (.tup [(.int 1), (.int 1)])]), (.tup [(.tup [(.int 2), (.int 6)]), (.tup [(.int 4), (.int 6)])]), .non, (.tup []), (.int 0), (.str "ab")]))).bind fun d59 => (((((Rs.of (negD (.int 1))).bind fun x60 => Rs.ok (.tup [x60, (.int 3)])).bind fun x61 => Rs.ok (.tup [x61, (.tup [(.int 4), (.int 3)])])).bind fun x62 => Rs.ok (.lst [(.lst [(.tup [(.int 1), (.int 3)]), (.tup [(.int 2), (.int 3)])]), (.tup [(.tup [(.int 1), (.int 3)]), (.lst [(.int 2), (.int 3)])]), (.tup [(.tup [(.int 1), (.int 3)]), (.tup [(.int 2), (.int 3)]), (.tup [(.int 0), (.int 1)])]), (.tup [(.tup [(.int 1), (.int 3)])]), x62, (.bl true)])).bind fun x63 => Rs.of (addD d59 x63)).bind fun d64 => (Rs.of (addD d64 (.lst [(.tup [(.tup [(.bl true), (.int 1)]), (.tup [(.int 0), (.int 1)])]), (.tup [(.tup [(.int 1), (.int 3)]), .non]), (.tup [(.tup [(.int 1), (.int 3)]), (.tup [(.int 2), (.int 3), (.int 1)])]), (.tup [(.int 0), (.int 1)]), (.tup [(.tup [(.int 1), (.int 3)]), (.str "23")])]))).bind fun d65 => (((((Rs.of (itemsD d65)).bind fun l67 => compM some (fun y66 => Rs.ok true) (fun y66 => m_is_best_columns d0 y66) l67).bind fun l68 => Rs.ok (.lst l68)).bind fun x69 => Rs.ok (.lst [x69])).bind fun x70 => Rs.of (catL (.lst l56) x70)).bind fun l71 => (((((Rs.of (itemsD d65)).bind fun l73 => compM some (fun y72 => Rs.ok true) (fun y72 => m_is_best_rows d0 y72) l73).bind fun l74 => Rs.ok (.lst l74)).bind fun x75 => Rs.ok (.lst [x75])).bind fun x76 => Rs.of (catL (.lst l71) x76)).bind fun l77 => (((((Rs.of (lenD [d65])).bind fun x78 => Rs.of (mulD (.lst [(.bl false)]) x78)).bind fun x79 => Rs.ok (.lst [x79])).bind fun x80 => Rs.of (mulD x80 (.int 2))).bind fun x81 => Rs.of (addD d58 x81)).bind fun d82 => (((m_is_best_columns d0 (.tup [(.tup [(.int 1), (.int 3)]), (.tup [(.int 2), (.int 3)])])).bind fun x83 => Rs.ok (.lst [x83])).bind fun x84 => Rs.of (catL (.lst l77) x84)).bind fun l85 => (((m_is_best_rows d0 (.tup [(.tup [(.int 1), (.int 3)]), (.tup [(.int 2), (.int 3)])])).bind fun x86 => Rs.ok (.lst [x86])).bind fun x87 => Rs.of (catL (.lst l85) x87)).bind fun l88 => ((Rs.of (idxD (.lst l22) (.int 5))).bind fun x89 => m_is_best_columns x89 (.tup [(.tup [(.int 1), (.int 2)]), (.tup [(.int 0), (.int 1)]), (.tup [(.int 1), (.int 2)])])).bind fun x92 => (Rs.of (appL l88 x92)).bind fun l90 => (Rs.of (addD d82 (.lst [(.bl true), (.bl true), (.bl true)]))).bind fun x91 => m_law_same 14 (.lst l90) x91
theorem k_law_by_hand_right (T : Txt K mg) : Keeps P w K mg base 26 (He.ga K "_law_by_hand_right") T.fd_law_by_hand_right [] (fun ds => match ds with | [] => m_law_by_hand_right | _ => Rs.no) := g_law_by_hand_right T m_law_case_right k_law_case_right m_law_same k_law_same m_best_columns k_best_columns m_best_rows k_best_rows m_is_best_columns k_is_best_columns m_is_best_rows k_is_best_rows m_worth k_worth
end
end LW
set_option Elab.async false
set_option linter.all false
set_option maxRecDepth 100000
set_option autoImplicit false
set_option pp.maxSteps 400
set_option maxHeartbeats 8000000
namespace LW
open PySem PySem.Spec L2 VL
open PyProof.Rows hiding St
section
variable {P : Program} {w : World} {K : PySem.W.Frag} {mg : Str → Option Value} {base : Heap}
theorem sc_law_right : FnScope ["_law_box_here", "_law_turn", "_law_rows_so", "_law_value_so", "_law_wide_so", "_law_high_so", "_law_due"] ["_law_box_here"] (defScope (top 57)) := ⟨rfl, rfl, rfl, by decide +kernel, rfl, by decide +kernel, by decide +kernel⟩
def m_law_right (a_law_box_here : List D) : Rs (D × List D) := (Rs.of (rangeD (.int 8))).bind fun l2 => (loopM (β := Unit) (fun z0 d => (Rs.of (some d)).bind fun y1 => (((Rs.ok ((.int 4), z0))).bind fun u11 => ((Rs.ok ((.int 5), u11.2))).bind fun u10 => m_law_grid u10.2 u11.1 u10.1).noX.bind fun u5 => (((m_law_case_right u5.1).bind fun x12 => Rs.of (asB x12)).bind fun k => Rs.ok (!k)).bind fun k => if k then liftF (Rs.ok (.rt (.bl false) [.lst u5.2])) else ((m_worth u5.1).bind fun g => Rs.ok (g, u5.2)).noX.bind fun u16 => (((((Rs.of (idxD u5.1 (.int 0))).bind fun x18 => Rs.of (lenD [x18])).bind fun d => Rs.ok (d, u16.2))).bind fun u21 => m_law_shares u21.2 u21.1).noX.bind fun u22 => ((((Rs.of (lenD [u5.1])).bind fun d => Rs.ok (d, u22.2))).bind fun u26 => m_law_shares u26.2 u26.1).noX.bind fun u27 => ((((m_law_sums u5.1 u22.1).bind fun x29 => m_law_least x29).bind fun x30 => Rs.of (eqD x30 u16.1)).bind fun x31 => Rs.ok [x31]).bind fun l32 => ((((m_law_across u5.1).bind fun x33 => m_law_sums x33 u27.1).bind fun x34 => m_law_most x34).bind fun x35 => Rs.of (eqD x35 u16.1)).bind fun x41 => (Rs.of (appL l32 x41)).bind fun l36 => (((((m_is_best_columns u5.1 u22.1).bind fun x37 => (m_is_best_rows u5.1 u27.1).bind fun x38 => Rs.ok (.lst [x37, x38])).bind fun x39 => m_law_same 14 x39 (.lst l36)).bind fun x40 => Rs.of (asB x40)).bind fun k => Rs.ok (!k)).bind fun k => if k then liftF (Rs.ok (.rt (.bl false) [.lst u27.2])) else Rs.ok (.nx u27.2)) l2 a_law_box_here).bind (Fl.toIO fun z0 => Rs.ok ((.bl true), z0))
theorem k_law_right (T : Txt K mg) : KeepsIO P w K mg base 26 (He.ga K "_law_right") T.fd_law_right ["_law_box_here"] (fun a_law_box_here ds => match ds with | [] => m_law_right a_law_box_here | _ => Rs.no) :=
  keeps_io T.F_law_right sc_law_right (fun cdv A outer s H E F b a_law_box_here ds hl hr => match ds, hl with | [], _ => bi_as [some (.own false (.lst a_law_box_here)), none, none, none, none, none, none] (bi_nox (bi_at [some (.own false (.lst a_law_box_here)), none, none, none, none, none, none] (bi_forIO (post := fun (z0 : List D) => [some (.own false (.lst z0)), none, none, none, none, none, none]) (z0 := a_law_box_here) (passes_of rfl) rfl rfl (it_range rfl T.f_range ev_int) (Wk.keep (Wk.drop (Wk.drop (Wk.drop (Wk.drop (Wk.drop (Wk.drop Wk.nil))))))) (fun z0 => tt_name (i := 1) sc_law_right.nd) (fun z0 y1 => (bk_of (bi_setS (l := false) (i := 0) (j := 2) (asb_eb sc_law_right.nd (eb_ioC (l := false) (k_law_grid T) (hr.mono (by decide)) T.g_law_grid T.F_law_grid.kp T.b_law_grid (pv 0) (bc_cons (l := false) (eb_val (l := false) (s := z0) ev_int) (fun s6 => (bc_cons (l := false) (eb_val (l := false) (s := s6) ev_int) (fun s8 => (bc_nil (l := false) (s := s8))))))))  (fun d4 s3 => bi_gen (bk_ifr (tv_not (tv_val (ev_callC (L2N.takes_of rfl rfl rfl rfl) (k_law_case_right T) (hr.mono (by decide)) T.g_law_case_right T.F_law_case_right.kp T.b_law_case_right (ac_consV (ev_var (i := 2) (d := d4) rfl (pv 2)) ac_nil)))) (bk_retIO (i := 0) (s := .lst s3) ev_bl) (bk_of (bi_pardB3 (l := false) (i := 0) (i1 := 3) (i2 := 4) (i3 := 5) rfl sc_law_right.nd (EC.ecb (l := false) (s := s3) (EV.ec (ev_callC takes0N (k_worth T) (hr.mono (by decide)) T.g_worth T.F_worth.kp T.b_worth (ac_consV (ev_var (i := 2) (d := d4) rfl (pv 2)) ac_nil)))) (fun s17 => (EB.ecb (eb_ioC (l := false) (k_law_shares T) (hr.mono (by decide)) T.g_law_shares T.F_law_shares.kp T.b_law_shares (pv 0) (bc_cons (l := false) (eb_pure (l := false) (s := s17) (ev_callBC call_len lenD_ok T.f_len boot_len (oc_cons (EV.o (ev_ix2 ix_D idxD_ok (EV.o (ev_var (i := 2) (d := d4) rfl (pv 2))) (EV.o ev_int) (fun _ _ => rfl))) oc_nil))) (fun s19 => (bc_nil (l := false) (s := s19))))))) (fun s23 => (EB.ecb (eb_ioC (l := false) (k_law_shares T) (hr.mono (by decide)) T.g_law_shares T.F_law_shares.kp T.b_law_shares (pv 0) (bc_cons (l := false) (eb_pure (l := false) (s := s23) (ev_callBC call_len lenD_ok T.f_len boot_len (oc_consV (EV.o (ev_var (i := 2) (d := d4) rfl (pv 2))) oc_nil))) (fun s24 => (bc_nil (l := false) (s := s24))))))) (fun d13 d14 d15 s28 => bi_gen (bk_own (af_ef (i := 6) sc_law_right.nd (ef_lstC (ac_cons (ev_cmpR (op_eqA hr.units) eqD_ok (EV.o (ev_callC (L2N.takes_of rfl rfl rfl rfl) (k_law_least T) (hr.mono (by decide)) T.g_law_least T.F_law_least.kp T.b_law_least (ac_cons (ev_callC (L2N.takes_of rfl rfl rfl rfl) (k_law_sums T) (hr.mono (by decide)) T.g_law_sums T.F_law_sums.kp T.b_law_sums (ac_consV (ev_var (i := 2) (d := d4) rfl (pv 2)) (ac_consV (ev_var (i := 4) (d := d14) rfl (pv 4)) ac_nil))) ac_nil))) (EV.o (ev_var (i := 3) (d := d13) rfl (pv 3))) (nomark _)) ac_nil))) (fun l32 => (bk_append (i := 6) (c := l32) (pv 6) (ev_cmpR (op_eqA hr.units) eqD_ok (EV.o (ev_callC (L2N.takes_of rfl rfl rfl rfl) (k_law_most T) (hr.mono (by decide)) T.g_law_most T.F_law_most.kp T.b_law_most (ac_cons (ev_callC (L2N.takes_of rfl rfl rfl rfl) (k_law_sums T) (hr.mono (by decide)) T.g_law_sums T.F_law_sums.kp T.b_law_sums (ac_cons (ev_callC (L2N.takes_of rfl rfl rfl rfl) (k_law_across T) (hr.mono (by decide)) T.g_law_across T.F_law_across.kp T.b_law_across (ac_consV (ev_var (i := 2) (d := d4) rfl (pv 2)) ac_nil)) (ac_consV (ev_var (i := 5) (d := d15) rfl (pv 5)) ac_nil))) ac_nil))) (EV.o (ev_var (i := 3) (d := d13) rfl (pv 3))) (nomark _)) (fun l36 => (bk_frz (i := 6) rfl (bk_ifr (tv_not (tv_val (ev_callC (L2N.takes_of rfl rfl rfl rfl) (k_law_same T 14) (hr.mono (by decide)) T.g_law_same T.F_law_same.kp T.b_law_same (ac_cons (ev_lstC (ac_cons (ev_callC (L2N.takes_of rfl rfl rfl rfl) (k_is_best_columns T) (hr.mono (by decide)) T.g_is_best_columns T.F_is_best_columns.kp T.b_is_best_columns (ac_consV (ev_var (i := 2) (d := d4) rfl (pv 2)) (ac_consV (ev_var (i := 4) (d := d14) rfl (pv 4)) ac_nil))) (ac_cons (ev_callC (L2N.takes_of rfl rfl rfl rfl) (k_is_best_rows T) (hr.mono (by decide)) T.g_is_best_rows T.F_is_best_rows.kp T.b_is_best_rows (ac_consV (ev_var (i := 2) (d := d4) rfl (pv 2)) (ac_consV (ev_var (i := 5) (d := d15) rfl (pv 5)) ac_nil))) ac_nil))) (ac_consV (ev_var (i := 6) (d := (.lst l36)) rfl (pv 6)) ac_nil))))) (bk_retIO (i := 0) (s := .lst s28) ev_bl) (bk_nil (z := s28) (Wk.keep (Wk.drop (Wk.drop (Wk.drop (Wk.drop (Wk.drop (Wk.drop Wk.nil)))))))))))))))))))))) (fun z0 => (bi_at [some (.own false (.lst z0)), none, none, none, none, none, none] (bi_retP (i := 0) (s := z0) ev_bl)))))) rfl rfl)
end
end LW
set_option Elab.async false
set_option linter.all false
set_option maxRecDepth 100000
set_option autoImplicit false
set_option pp.maxSteps 400
set_option maxHeartbeats 8000000
namespace LW
open PySem PySem.Spec L2 VL
open PyProof.Rows hiding St
section
variable {P : Program} {w : World} {K : PySem.W.Frag} {mg : Str → Option Value} {base : Heap}
theorem sc_law : FnScope ["_law_script", "_law_cells_here", "_law_k"] ["_law_script"] (defScope (top 58)) := ⟨rfl, rfl, rfl, by decide +kernel, rfl, by decide +kernel, by decide +kernel⟩
def m_law (a_law_script : D) : Rs D := ((((m_law_by_hand_right).noX).bind fun x0 => Rs.of (asB x0)).bind fun k => Rs.ok (!k)).bind fun k => if k then (Rs.ok (.bl false)) else (m_law_cells a_law_script (.int 3)).bind fun d1 => ((((Rs.of (lenD [d1])).bind fun x2 => Rs.of (rangeD x2)).bind fun l5 => compM some (fun y3 => Rs.ok true) (fun y3 => ((m_law_box d1 y3).noX).bind fun l4 => (m_law_right l4).noX.bind fun u => Rs.ok u.1) l5).bind fun l6 => Rs.ok (.lst l6)).bind fun x7 => Rs.of (allD [x7])
theorem k_law (T : Txt K mg) : Keeps P w K mg base 28 (He.ga K "law") T.fd_law ["_law_script"] (fun ds => match ds with | [a_law_script] => m_law a_law_script | _ => Rs.no) :=
  keeps_ret T.F_law sc_law (fun cdv A outer s H E F ds hl hr => match ds, hl with | [a_law_script], _ => bi_as [some (.val a_law_script), none, none] (bi_ifr (tv_not (tv_val (ev_call0 (k_law_by_hand_right T) (hr.mono (by decide)) T.g_law_by_hand_right T.F_law_by_hand_right.kp T.b_law_by_hand_right))) (bi_ret ev_bl) (bi_set (as_ev (i := 1) sc_law.nd (ev_callC (L2N.takes_of rfl rfl rfl rfl) (k_law_cells T) (hr.mono (by decide)) T.g_law_cells T.F_law_cells.kp T.b_law_cells (ac_consV (ev_var (i := 0) (d := a_law_script) rfl (pv 0)) (ac_consV ev_int ac_nil)))) (fun d1 => (bi_ret (ev_callBC (cr_all rfl) allD_ok T.f_all boot_all (oc_cons (EV.o (EF.ev (ef_comp rfl sc_law.nd (it_range rfl T.f_range (ev_callBC call_len lenD_ok T.f_len boot_len (oc_consV (EV.o (ev_var (i := 1) (d := d1) rfl (pv 1))) oc_nil))) (blkOk_by (own := [("_law_k", 2)]) (by kernel_rfl)) (by decide) (fun _ _ _ _ _ => tt_name (i := 2) sc_law.nd) (fun _ _ _ _ _ y3 => tvs_nil) (fun _ _ _ _ _ y3 => (ev_box (k_law_right T) (hr.mono (by decide)) T.g_law_right T.F_law_right.kp T.b_law_right (ef_callC (k_law_box T) (hr.mono (by decide)) T.g_law_box T.F_law_box.kp T.b_law_box (ac_consV (ev_var (i := 1) (d := d1) rfl (pv 1)) (ac_consV (ev_var (i := 2) (d := y3) rfl (pv 2)) ac_nil))) ac_nil))))) oc_nil)))))) rfl rfl)
end
end LW
set_option Elab.async false
set_option linter.all false
set_option maxRecDepth 100000
set_option autoImplicit false
namespace VL
open PySem PySem.Spec
theorem compM_map {α γ : Type} {u : D → Option γ} {fc : γ → Rs Bool} {fe : γ → Rs D} (e : α → D) (g : α → γ) (p : α → Bool) (h : α → D) :
    ∀ xs : List α, (∀ x ∈ xs, u (e x) = some (g x)) → (∀ x ∈ xs, fc (g x) = .ok (p x)) → (∀ x ∈ xs, p x = true → fe (g x) = .ok (h x)) → compM u fc fe (xs.map e) = .ok ((xs.filter p).map h)
  | [], _, _, _ => rfl
  | x :: xs, h1, h2, h3 => by
    have ih := compM_map e g p h xs (fun y hy => h1 y (List.mem_cons_of_mem _ hy)) (fun y hy => h2 y (List.mem_cons_of_mem _ hy)) (fun y hy => h3 y (List.mem_cons_of_mem _ hy))
    have m : x ∈ x :: xs := List.mem_cons_self
    simp only [List.map_cons, compM, h1 x m, Rs.of_some, Rs.bind_ok, h2 x m, Rs.noX_ok, ih]
    cases hp : p x with
    | true => simp [h3 x m hp, List.filter_cons, hp]
    | false => simp [List.filter_cons, hp]
theorem compM_all {α : Type} {fe : D → Rs D} (e h : α → D) (xs : List α) (h3 : ∀ x ∈ xs, fe (e x) = .ok (h x)) : compM some (fun _ => .ok true) fe (xs.map e) = .ok (xs.map h) := by
  have z := compM_map (u := some) (fc := fun _ => .ok true) (fe := fe) e e (fun _ => true) h xs (fun _ _ => rfl) (fun _ _ => rfl) (fun x hx _ => h3 x hx)
  rw [z, List.filter_eq_self.mpr (fun _ _ => rfl)]
theorem compM_allU {α γ : Type} {u : D → Option γ} {fe : γ → Rs D} (e : α → D) (g : α → γ) (h : α → D) (xs : List α) (h1 : ∀ x ∈ xs, u (e x) = some (g x)) (h3 : ∀ x ∈ xs, fe (g x) = .ok (h x)) : compM u (fun _ => .ok true) fe (xs.map e) = .ok (xs.map h) := by
  have z := compM_map (u := u) (fc := fun _ => .ok true) (fe := fe) e g (fun _ => true) h xs h1 (fun _ _ => rfl) (fun x hx _ => h3 x hx)
  rw [z, List.filter_eq_self.mpr (fun _ _ => rfl)]
theorem foldM_ix {α ε : Type} {f : ε → D → Rs ε} (e : α → D) (I : Nat → ε → Prop) : ∀ (xs : List α) (k : Nat) (z : ε), I k z → (∀ j z, ∀ x ∈ xs, j < k + xs.length → I j z → ∃ z', f z (e x) = .ok z' ∧ I (j + 1) z') →
    ∃ z', foldM f (xs.map e) z = .ok z' ∧ I (k + xs.length) z'
  | [], k, z, h0, _ => ⟨z, rfl, h0⟩
  | x :: xs, k, z, h0, h => by
    obtain ⟨z1, e1, i1⟩ := h k z x List.mem_cons_self (by simp only [List.length_cons]; omega) h0
    obtain ⟨z2, e2, i2⟩ := foldM_ix e I xs (k + 1) z1 i1 fun j z y hy hj hi => h j z y (List.mem_cons_of_mem _ hy) (by simp only [List.length_cons]; omega) hi
    refine ⟨z2, ?_, ?_⟩
    · simp only [List.map_cons, foldM, e1, Rs.bind_ok, e2]
    · simp only [List.length_cons]
      rw [show k + (xs.length + 1) = k + 1 + xs.length by omega]
      exact i2
theorem loopM_inv {α ε β : Type} {f : ε → D → Rs (Fl ε ε)} (e : α → D) (I : Nat → ε → Prop) : ∀ (xs : List α) (k : Nat) (z : ε), I k z → (∀ j z, ∀ x ∈ xs, j < k + xs.length → I j z → ∃ z', f z (e x) = .ok (.nx z') ∧ I (j + 1) z') →
    ∃ z', loopM (β := β) f (xs.map e) z = .ok (.nx z') ∧ I (k + xs.length) z'
  | [], k, z, h0, _ => ⟨z, rfl, h0⟩
  | x :: xs, k, z, h0, h => by
    obtain ⟨z1, e1, i1⟩ := h k z x List.mem_cons_self (by simp only [List.length_cons]; omega) h0
    obtain ⟨z2, e2, i2⟩ := loopM_inv (β := β) e I xs (k + 1) z1 i1 fun j z y hy hj hi => h j z y (List.mem_cons_of_mem _ hy) (by simp only [List.length_cons]; omega) hi
    refine ⟨z2, ?_, ?_⟩
    · simp only [List.map_cons, loopM, e1, Rs.bind_ok, e2]
    · simp only [List.length_cons]
      rw [show k + (xs.length + 1) = k + 1 + xs.length by omega]
      exact i2
theorem intsD_map : ∀ ns : List Int, intsD (ns.map .int) = some ns
  | [] => rfl
  | n :: ns => by simp only [List.map_cons, intsD, intsD_map ns, Option.map_some]
theorem boolsD_map : ∀ ns : List Bool, boolsD (ns.map .bl) = some ns
  | [] => rfl
  | n :: ns => by simp only [List.map_cons, boolsD, boolsD_map ns, Option.map_some]
theorem sumD_map (ns : List Int) : sumD [.lst (ns.map .int)] = some (.int ns.sum) := by simp only [sumD, intsD_map, Option.map_some]
theorem allD_map (bs : List Bool) : allD [.lst (bs.map .bl)] = some (.bl (bs.all id)) := by simp only [allD, boolsD_map, Option.map_some]
theorem allD_of {α : Type} (xs : List α) (f : α → Bool) : allD [.lst (xs.map fun x => .bl (f x))] = some (.bl (xs.all f)) := by
  have z := allD_map (xs.map f)
  rw [List.map_map] at z
  rw [show (fun x => D.bl (f x)) = (D.bl ∘ f) from rfl, z]
  simp [List.all_map]
theorem sumD_of {α : Type} (xs : List α) (f : α → Int) : sumD [.lst (xs.map fun x => .int (f x))] = some (.int (xs.map f).sum) := by
  have z := sumD_map (xs.map f)
  rw [List.map_map] at z
  exact z
theorem enumL_map {α : Type} (f : α → D) : ∀ (xs : List α) (i : Nat), enumL i (xs.map f) = (xs.zipIdx i).map fun p => .tup [.int (p.2 : Int), f p.1]
  | [], _ => rfl
  | x :: xs, i => by simp only [List.map_cons, enumL, enumL_map f xs (i + 1), List.zipIdx_cons, Int.zero_add]
@[simp] theorem asB_bl (b : Bool) : asB (.bl b) = some b := rfl
@[simp] theorem eqB_int (i j : Int) : eqB (.int i) (.int j) = some (decide (i = j)) := by
  unfold eqB
  show (if (D.int i).okD && (D.int j).okD then some (PyData.eqv (D.int i).py (D.int j).py) else none) = _
  have h : ∀ k : Int, (D.int k).okD = true := fun k => by simp [D.okD, D.isData, D.py, SeqAt.shaped, PyData.canLay0, PyData.depth]
  rw [h, h]
  simp only [D.py, PyData.eqv, Bool.and_self, if_true]
  congr 1
@[simp] theorem eqB_bl (i j : Bool) : eqB (.bl i) (.bl j) = some (i == j) := by cases i <;> cases j <;> rfl
@[simp] theorem eqB_str (x y : Str) : eqB (.str x) (.str y) = some (decide (x = y)) := rfl
@[simp] theorem neB_int (i j : Int) : neB (.int i) (.int j) = some (!decide (i = j)) := by simp [neB]
@[simp] theorem neB_bl (i j : Bool) : neB (.bl i) (.bl j) = some (!(i == j)) := by simp [neB]
@[simp] theorem neB_str (x y : Str) : neB (.str x) (.str y) = some (!decide (x = y)) := by simp [neB]
@[simp] theorem eqD_int (i j : Int) : eqD (.int i) (.int j) = some (.bl (decide (i = j))) := by simp [eqD]
@[simp] theorem eqD_bl (i j : Bool) : eqD (.bl i) (.bl j) = some (.bl (i == j)) := by simp [eqD]
@[simp] theorem eqD_str (x y : Str) : eqD (.str x) (.str y) = some (.bl (decide (x = y))) := by simp [eqD]
@[simp] theorem neD_int (i j : Int) : neD (.int i) (.int j) = some (.bl (!decide (i = j))) := by simp [neD]
@[simp] theorem neD_str (i j : Str) : neD (.str i) (.str j) = some (.bl (!decide (i = j))) := by simp [neD]
@[simp] theorem ltB_int (i j : Int) : ltB (.int i) (.int j) = some (decide (i < j)) := rfl
@[simp] theorem leB_int (i j : Int) : leB (.int i) (.int j) = some (decide (i ≤ j)) := rfl
@[simp] theorem gtB_int (i j : Int) : gtB (.int i) (.int j) = some (decide (j < i)) := rfl
@[simp] theorem geB_int (i j : Int) : geB (.int i) (.int j) = some (decide (j ≤ i)) := rfl
@[simp] theorem geD_int (i j : Int) : geD (.int i) (.int j) = some (.bl (decide (j ≤ i))) := rfl
@[simp] theorem ltD_int (i j : Int) : ltD (.int i) (.int j) = some (.bl (decide (i < j))) := rfl
@[simp] theorem leD_int (i j : Int) : leD (.int i) (.int j) = some (.bl (decide (i ≤ j))) := rfl
@[simp] theorem gtD_int (i j : Int) : gtD (.int i) (.int j) = some (.bl (decide (j < i))) := rfl
@[simp] theorem ltD_str (x y : Str) : ltD (.str x) (.str y) = some (.bl (decide (x.cps.toList < y.cps.toList))) := rfl
@[simp] theorem addD_int (i j : Int) : addD (.int i) (.int j) = some (.int (i + j)) := rfl
@[simp] theorem subD_int (i j : Int) : subD (.int i) (.int j) = some (.int (i - j)) := rfl
@[simp] theorem negD_int (i : Int) : negD (.int i) = some (.int (-i)) := rfl
@[simp] theorem intD_int (i : Int) : intD [.int i] = some (.int i) := rfl
theorem log2_lt {n k : Nat} (h : n < 2 ^ k) (hk : 0 < k) : n.log2 < k := by
  by_cases h0 : n = 0
  · subst h0
    simp
    exact hk
  · exact (Nat.log2_lt h0).mpr h
theorem mulD_int {i j : Int} {a b : Nat} (hi : i.natAbs < 2 ^ a) (hj : j.natAbs < 2 ^ b) (h : a + b ≤ 134000000) (ha : 0 < a) (hb : 0 < b) : mulD (.int i) (.int j) = some (.int (i * j)) := by
  have h1 := log2_lt hi ha
  have h2 := log2_lt hj hb
  simp only [mulD]
  rw [if_pos (by omega)]
theorem modD_int {i j : Int} (h : 0 < j) : modD (.int i) (.int j) = some (.int (i % j)) := by
  simp only [modD]
  rw [if_pos (by omega), Int.fmod_eq_emod_of_nonneg _ (by omega)]
theorem fdivD_int {i j : Int} (h : 0 < j) (hl : j.natAbs < 2 ^ 9000) : fdivD (.int i) (.int j) = some (.int (i / j)) := by
  simp only [fdivD]
  rw [if_pos ⟨by omega, log2_lt hl (by decide)⟩, Int.fdiv_eq_ediv_of_nonneg _ (by omega)]
theorem idxD_tup (xs : List D) (n : Nat) (d : D) (h : xs[n]? = some d) : idxD (.tup xs) (.int n) = some d := by
  have hl : n < xs.length := (List.getElem?_eq_some_iff.mp h).1
  simp only [idxD, L2.atI, L2.ixN]
  rw [if_pos (by omega), if_pos (by omega)]
  simpa using h
theorem idxD_lst (xs : List D) (n : Nat) (d : D) (h : xs[n]? = some d) : idxD (.lst xs) (.int n) = some d := by
  have hl : n < xs.length := (List.getElem?_eq_some_iff.mp h).1
  simp only [idxD, L2.atI, L2.ixN]
  rw [if_pos (by omega), if_pos (by omega)]
  simpa using h
theorem line_ge : 1000000 ≤ sizeLine := by rw [sizeLine_eq]; omega
theorem zipL_self : ∀ xs : List D, zipL xs xs = xs.map fun x => .tup [x, x]
  | [] => rfl
  | x :: xs => by simp only [zipL, zipL_self xs, List.map_cons]
theorem appL_ok {xs : List D} {d : D} (h : xs.length < 1000000) : appL xs d = some (xs ++ [d]) := by
  unfold appL
  rw [if_pos (Nat.lt_of_lt_of_le h line_ge)]
theorem rangeD_nat {n : Nat} (h : n < 1000000) : rangeD (.int n) = some ((List.range n).map fun (i : Nat) => D.int (0 + (i : Int))) := by
  simp only [rangeD]
  rw [if_pos (by omega)]
  rfl
theorem idx3_0 (x y z : D) : idxD (.lst [x, y, z]) (.int 0) = some x := rfl
theorem idx3_1 (x y z : D) : idxD (.lst [x, y, z]) (.int 1) = some y := rfl
theorem idx3_2 (x y z : D) : idxD (.lst [x, y, z]) (.int 2) = some z := rfl
theorem set3_0 (x y z w : D) : setL [x, y, z] (.int 0) w = some [w, y, z] := rfl
theorem set3_2 (x y z w : D) : setL [x, y, z] (.int 2) w = some [x, y, w] := rfl
def Box (N : Nat) (s : List D) : Prop := ∃ a b c : Int, s = [.int a, .int b, .int c] ∧ 0 ≤ a ∧ 0 ≤ b ∧ b < 2 ^ 70 ∧ 0 ≤ c ∧ c ≤ N
theorem Box.mono {N M : Nat} {s : List D} (h : Box N s) (hm : N ≤ M) : Box M s := by
  obtain ⟨a, b, c, e, h1, h2, h3, h4, h5⟩ := h
  exact ⟨a, b, c, e, h1, h2, h3, h4, by omega⟩
end VL
set_option Elab.async false
set_option linter.all false
set_option maxRecDepth 100000
set_option autoImplicit false
namespace VL
open PySem PySem.Spec
abbrev SLt (x y : Str) : Prop := x.cps.toList < y.cps.toList
def nmOk (x : Str) : Bool := decide (1 ≤ x.cps.size) && (decide (x.cps.size ≤ 8) && x.cps.toList.all fun c => decide (97 ≤ c) && decide (c ≤ 122))
abbrev Lk := Str × Str × Int
def lpr (l : Lk) : Str × Str := (l.1, l.2.1)
def PLt (p q : Str × Str) : Prop := SLt p.1 q.1 ∨ (p.1 = q.1 ∧ SLt p.2 q.2)
structure HsOk (hs : List Str) : Prop where
  nm : ∀ x ∈ hs, nmOk x = true
  asc : hs.Pairwise SLt
  two : 2 ≤ hs.length
  six : hs.length ≤ 6
structure LsOk (hs : List Str) (ls : List Lk) : Prop where
  at1 : ∀ l ∈ ls, l.1 ∈ hs
  at2 : ∀ l ∈ ls, l.2.1 ∈ hs
  ne : ∀ l ∈ ls, l.1 ≠ l.2.1
  cap : ∀ l ∈ ls, 1 ≤ l.2.2
  asc : ls.Pairwise fun l m => PLt (lpr l) (lpr m)
theorem areData_map {α : Type} {f : α → D} : ∀ {xs : List α}, (∀ x ∈ xs, (f x).isData = true) → areData (xs.map f) = true
  | [], _ => by simp [areData]
  | x :: xs, h => by simp only [List.map_cons, areData, h x List.mem_cons_self, Bool.true_and]; exact areData_map fun y hy => h y (List.mem_cons_of_mem _ hy)
theorem canLay_map {α : Type} {f : α → D} : ∀ {xs : List α}, (∀ x ∈ xs, (f x).py.canLay0 = true) → PyData.canLayAll0 (pys (xs.map f)) = true
  | [], _ => by simp [pys, PyData.canLayAll0]
  | x :: xs, h => by simp only [List.map_cons, pys, PyData.canLayAll0, h x List.mem_cons_self, Bool.true_and]; exact canLay_map fun y hy => h y (List.mem_cons_of_mem _ hy)
theorem depth_map {α : Type} {f : α → D} {n : Nat} : ∀ {xs : List α}, (∀ x ∈ xs, (f x).py.depth ≤ n) → PyData.depthAll (pys (xs.map f)) ≤ n
  | [], _ => by simp [pys, PyData.depthAll]
  | x :: xs, h => by
    simp only [List.map_cons, pys, PyData.depthAll]
    have h1 := h x List.mem_cons_self
    have h2 := depth_map (n := n) fun y hy => h y (List.mem_cons_of_mem _ hy)
    omega
theorem okD_lst {α : Type} {f : α → D} {xs : List α} (h : ∀ x ∈ xs, (f x).isData = true ∧ (f x).py.canLay0 = true ∧ (f x).py.depth ≤ 60) : (D.lst (xs.map f)).okD = true := by
  simp only [D.okD, D.isData, D.py, SeqAt.shaped, PyData.canLay0, PyData.depth, Bool.and_eq_true, decide_eq_true_eq]
  refine ⟨areData_map fun x hx => (h x hx).1, canLay_map fun x hx => (h x hx).2.1, ?_⟩
  have z := depth_map (f := f) (n := 60) fun x hx => (h x hx).2.2
  omega
theorem okD_tup {α : Type} {f : α → D} {xs : List α} (h : ∀ x ∈ xs, (f x).isData = true ∧ (f x).py.canLay0 = true ∧ (f x).py.depth ≤ 60) : (D.tup (xs.map f)).okD = true := by
  have z := okD_lst h
  simp only [D.okD, D.isData, D.py, SeqAt.shaped, PyData.canLay0, PyData.depth] at z ⊢
  exact z
end VL
set_option Elab.async false
set_option linter.all false
set_option maxRecDepth 100000
set_option autoImplicit false
namespace VL
open PySem PySem.Spec
def hlt : List Str → List Str → Bool
  | [], [] => false
  | [], _ :: _ => true
  | _ :: _, [] => false
  | x :: xs, y :: ys => if x = y then hlt xs ys else decide (SLt x y)
def hle (xs ys : List Str) : Bool := !hlt ys xs
def fits : Nat → D → Bool
  | _, .non => true
  | _, .bl _ => true
  | _, .int _ => true
  | _, .str _ => true
  | n + 1, .tup xs => xs.all (fits n)
  | n + 1, .lst xs => xs.all (fits n)
  | _, _ => false
end VL
set_option Elab.async false
set_option linter.all false
set_option maxRecDepth 100000
set_option autoImplicit false
namespace VL
open PySem PySem.Spec
theorem gcd_loop {c : D × D → Rs Bool} {f : D × D → Rs (D × D)} (hc : ∀ a b : Nat, c (.int (a : Int), .int (b : Int)) = .ok (!decide (b = 0))) (hf : ∀ a b : Nat, b ≠ 0 → f (.int (a : Int), .int (b : Int)) = .ok (.int (b : Int), .int ((a % b : Nat) : Int))) :
    ∀ (k n a b : Nat), b < 2 ^ k → 2 * k + 1 ≤ n → whileN c f n (.int (a : Int), .int (b : Int)) = .ok (.int ((Nat.gcd a b : Nat) : Int), .int 0) := by
  have stop : ∀ (n a : Nat), 1 ≤ n → whileN c f n (.int (a : Int), .int ((0 : Nat) : Int)) = .ok (.int (a : Int), .int 0) := fun n a hn => by
    obtain ⟨m, rfl⟩ : ∃ m, n = m + 1 := ⟨n - 1, by omega⟩
    simp only [whileN, hc, Rs.bind_ok]
    simp
  have one : ∀ (n a b : Nat), b ≠ 0 → whileN c f (n + 1) (.int (a : Int), .int (b : Int)) = whileN c f n (.int (b : Int), .int ((a % b : Nat) : Int)) := fun n a b hb => by
    simp only [whileN, hc, Rs.bind_ok, hf a b hb]
    simp [hb]
  intro k
  induction k with
  | zero =>
    intro n a b hb hn
    have e : b = 0 := by omega
    subst e
    rw [stop n a (by omega), Nat.gcd_zero_right]
  | succ k ih =>
    intro n a b hb hn
    by_cases h0 : b = 0
    · subst h0
      rw [stop n a (by omega), Nat.gcd_zero_right]
    · obtain ⟨m, rfl⟩ : ∃ m, n = m + 1 + 1 := ⟨n - 2, by omega⟩
      rw [one _ a b h0]
      have hr : a % b < b := Nat.mod_lt _ (by omega)
      have g1 : Nat.gcd a b = Nat.gcd b (a % b) := by rw [Nat.gcd_comm b, Nat.gcd_comm a b, Nat.gcd_rec b a]
      by_cases h1 : a % b = 0
      · rw [h1] at g1 ⊢
        rw [stop _ b (by omega), g1, Nat.gcd_zero_right]
      · rw [one _ b (a % b) h1, g1]
        have g2 : Nat.gcd b (a % b) = Nat.gcd (a % b) (b % (a % b)) := by rw [Nat.gcd_comm (a % b) (b % (a % b)), Nat.gcd_comm b, Nat.gcd_rec (a % b) b]
        rw [g2]
        have hlt : b % (a % b) < a % b := Nat.mod_lt _ (by omega)
        have hdm := Nat.mod_add_div b (a % b)
        have hq : 1 ≤ b / (a % b) := Nat.div_pos (by omega) (by omega)
        have hmul : a % b ≤ (a % b) * (b / (a % b)) := Nat.le_mul_of_pos_right _ hq
        refine ih _ _ _ ?_ (by omega)
        rw [Nat.pow_succ] at hb
        omega
theorem itemsD_tup (xs : List D) : itemsD (.tup xs) = some xs := rfl
theorem itemsD_lst (xs : List D) : itemsD (.lst xs) = some xs := rfl
theorem lenD_tup (xs : List D) : lenD [.tup xs] = some (.int xs.length) := rfl
theorem lenD_lst (xs : List D) : lenD [.lst xs] = some (.int xs.length) := rfl
theorem tupleD_lst (xs : List D) : tupleD [.lst xs] = some (.tup xs) := rfl
def sq (k : Bool) (xs : List D) : D := if k then .lst xs else .tup xs
@[simp] theorem sq_t (xs : List D) : sq true xs = .lst xs := rfl
@[simp] theorem sq_f (xs : List D) : sq false xs = .tup xs := rfl
@[simp] theorem seqD_sq (k : Bool) (xs : List D) : seqD (sq k xs) = some xs := by cases k <;> rfl
@[simp] theorem itemsD_sq (k : Bool) (xs : List D) : itemsD (sq k xs) = some xs := by cases k <;> rfl
@[simp] theorem lenD_sq (k : Bool) (xs : List D) : lenD [sq k xs] = some (.int xs.length) := by cases k <;> rfl
theorem addD_tup {xs ys : List D} (h : xs.length + ys.length ≤ 1000000) : addD (.tup xs) (.tup ys) = some (.tup (xs ++ ys)) := by
  simp only [addD]
  rw [if_pos (Nat.le_trans h line_ge)]
theorem addD_lst {xs ys : List D} (h : xs.length + ys.length ≤ 1000000) : addD (.lst xs) (.lst ys) = some (.lst (xs ++ ys)) := by
  simp only [addD]
  rw [if_pos (Nat.le_trans h line_ge)]
theorem slice_tail (xs : List D) : sliceD (.tup xs) (some 1) none = some (.tup (xs.drop 1)) := by
  simp only [sliceD, cutD, HT.sIx]
  rw [if_neg (by omega)]
  cases xs with
  | nil => rfl
  | cons x xs => simp
end VL
set_option Elab.async false
set_option linter.all false
set_option maxRecDepth 100000
set_option autoImplicit false
namespace VL
open PySem PySem.Spec
end VL
set_option Elab.async false
set_option linter.all false
set_option maxRecDepth 100000
set_option autoImplicit false
set_option maxHeartbeats 1000000
namespace VL
open PySem PySem.Spec
structure LInv (hs : List Str) (m : Int) (acc : List Lk) : Prop where
  at1 : ∀ l ∈ acc, l.1 ∈ hs
  at2 : ∀ l ∈ acc, l.2.1 ∈ hs
  ne : ∀ l ∈ acc, l.1 ≠ l.2.1
  cap : ∀ l ∈ acc, 1 ≤ l.2.2 ∧ l.2.2 ≤ m
  asc : acc.Pairwise fun l k => PLt (lpr l) (lpr k)
end VL
set_option Elab.async false
set_option linter.all false
set_option maxRecDepth 100000
set_option autoImplicit false
set_option maxHeartbeats 1000000
namespace VL
open PySem PySem.Spec
abbrev Fra := Option (Nat × Nat)
def frD : Fra → D
  | none => .non
  | some p => .tup [.int (p.1 : Int), .int (p.2 : Int)]
theorem ok_fine {d : D} (h : d.isData = true ∧ d.py.canLay0 = true ∧ d.py.depth ≤ 60) : d.okD = true := by
  obtain ⟨a, b, c⟩ := h
  simp only [D.okD, SeqAt.shaped, a, b, Bool.true_and, decide_eq_true_eq]
  omega
theorem fits_fr (n : Nat) (a : Fra) : fits (n + 1) (frD a) = true := by cases a <;> simp [frD, fits]
def flt (a b : Nat × Nat) : Bool := decide (a.1 * b.2 < b.1 * a.2)
def fmax (a b : Nat × Nat) : Nat × Nat := if flt a b then b else a
def best (rs : List Fra) : Fra := if none ∈ rs then none else some ((rs.filterMap id).foldl fmax (0, 1))
end VL
set_option Elab.async false
set_option linter.all false
set_option maxRecDepth 100000
set_option autoImplicit false
set_option maxHeartbeats 1000000
set_option exponentiation.threshold 10000
namespace VL
open PySem PySem.Spec
def frQ (q : Rat) : D := .tup [.int q.num, .int (q.den : Int)]
structure BQ (k : Nat) (q : Rat) : Prop where
  num : q.num.natAbs < 2 ^ k
  den : q.den < 2 ^ k
theorem BQ.mono {k l : Nat} {q : Rat} (h : BQ k q) (hl : k ≤ l) : BQ l q :=
  ⟨Nat.lt_of_lt_of_le h.num (Nat.pow_le_pow_right (by decide) hl), Nat.lt_of_lt_of_le h.den (Nat.pow_le_pow_right (by decide) hl)⟩
theorem BQ.mk' {k : Nat} {a : Int} {b : Nat} (ha : a.natAbs < 2 ^ k) (hb : b < 2 ^ k) (hk : 0 < k) : BQ k (mkRat a b) := by
  constructor
  · rw [Rat.num_mkRat]
    split
    · exact Nat.pow_pos (by decide)
    · exact Nat.lt_of_le_of_lt (Int.natAbs_ediv_le_natAbs _ _) ha
  · rw [Rat.den_mkRat]
    split
    · exact Nat.one_lt_two_pow (by omega)
    · exact Nat.lt_of_le_of_lt (Nat.div_le_self _ _) hb
theorem mul_lt_pow {a b k l : Nat} (ha : a < 2 ^ k) (hb : b < 2 ^ l) : a * b < 2 ^ (k + l) := by
  rw [Nat.pow_add]
  exact Nat.mul_lt_mul'' ha hb
theorem BQ.mul {k l : Nat} {p q : Rat} (hp : BQ k p) (hq : BQ l q) : BQ (k + l + 1) (p * q) := by
  rw [Rat.mul_def']
  refine (BQ.mk' (k := k + l + 1) ?_ ?_ (by omega))
  · rw [Int.natAbs_mul]
    exact Nat.lt_of_lt_of_le (mul_lt_pow hp.num hq.num) (Nat.pow_le_pow_right (by decide) (by omega))
  · exact Nat.lt_of_lt_of_le (mul_lt_pow hp.den hq.den) (Nat.pow_le_pow_right (by decide) (by omega))
theorem cross_lt {k l : Nat} {p q : Rat} (hp : BQ k p) (hq : BQ l q) : (p.num * q.den).natAbs < 2 ^ (k + l) := by
  rw [Int.natAbs_mul]
  exact mul_lt_pow hp.num (by simpa using hq.den)
theorem cross_lt' {k l : Nat} {p q : Rat} (hp : BQ k p) (hq : BQ l q) : (q.num * p.den).natAbs < 2 ^ (k + l) := by
  have h := cross_lt hq hp
  rwa [Nat.add_comm]  at h
theorem BQ.sub {k l : Nat} {p q : Rat} (hp : BQ k p) (hq : BQ l q) : BQ (k + l + 1) (p - q) := by
  rw [Rat.sub_def']
  have h1 := cross_lt hp hq
  have h2 := cross_lt' hp hq
  refine (BQ.mk' (k := k + l + 1) ?_ ?_ (by omega))
  · have := Int.natAbs_sub_le (p.num * q.den) (q.num * p.den)
    rw [Nat.pow_succ]
    omega
  · exact Nat.lt_of_lt_of_le (mul_lt_pow hp.den hq.den) (Nat.pow_le_pow_right (by decide) (by omega))
theorem BQ.int {k : Nat} {a : Int} (ha : a.natAbs < 2 ^ k) (hk : 0 < k) : BQ k (a : Rat) := ⟨by simpa using ha, by simpa using Nat.one_lt_two_pow (by omega)⟩
theorem gcd_step (a : Int) (b r : Nat) (h : a % (b : Int) = (r : Int)) : Nat.gcd b r = Nat.gcd a.natAbs b := by
  have e := Int.emod_add_mul_ediv a (b : Int)
  refine Nat.dvd_antisymm (Nat.dvd_gcd ?_ (Nat.gcd_dvd_left _ _)) (Nat.dvd_gcd (Nat.gcd_dvd_right _ _) ?_)
  · refine Int.natCast_dvd_natCast.mp (Int.dvd_natAbs.mpr ?_)
    have h1 : ((Nat.gcd b r : Nat) : Int) ∣ (b : Int) := Int.natCast_dvd_natCast.mpr (Nat.gcd_dvd_left _ _)
    have h2 : ((Nat.gcd b r : Nat) : Int) ∣ (r : Int) := Int.natCast_dvd_natCast.mpr (Nat.gcd_dvd_right _ _)
    rw [← e, h]
    exact Int.dvd_add h2 (Int.dvd_mul_of_dvd_left h1)
  · have h1 : ((Nat.gcd a.natAbs b : Nat) : Int) ∣ (b : Int) := Int.natCast_dvd_natCast.mpr (Nat.gcd_dvd_right _ _)
    have h2 : ((Nat.gcd a.natAbs b : Nat) : Int) ∣ a := Int.dvd_natAbs.mp (Int.natCast_dvd_natCast.mpr (Nat.gcd_dvd_left _ _))
    rw [← Int.natCast_dvd_natCast, ← h]
    have h3 : a % (b : Int) = a - (b : Int) * (a / b) := by omega
    rw [h3]
    exact Int.dvd_sub h2 (Int.dvd_mul_of_dvd_left h1)
theorem gcd_loopI {c : D × D → Rs Bool} {f : D × D → Rs (D × D)} (hc : ∀ (a : Int) (b : Nat), c (.int a, .int (b : Int)) = .ok (!decide (b = 0))) (hf : ∀ (a : Int) (b : Nat), b ≠ 0 → f (.int a, .int (b : Int)) = .ok (.int (b : Int), .int (a % (b : Int))))
    {k n : Nat} {a : Int} {b : Nat} (h0 : b ≠ 0) (hb : b < 2 ^ k) (hn : 2 * k + 2 ≤ n) : whileN c f n (.int a, .int (b : Int)) = .ok (.int ((Nat.gcd a.natAbs b : Nat) : Int), .int 0) := by
  obtain ⟨m, rfl⟩ : ∃ m, n = m + 1 := ⟨n - 1, by omega⟩
  obtain ⟨r, hr⟩ : ∃ r : Nat, a % (b : Int) = (r : Int) := ⟨(a % (b : Int)).toNat, by have := Int.emod_nonneg a (show (b : Int) ≠ 0 by omega); omega⟩
  have hlt : r < b := by have := Int.emod_lt_of_pos a (show (0 : Int) < b by omega); omega
  simp only [whileN, hc, Rs.bind_ok, hf a b h0, hr]
  have z := gcd_loop (c := c) (f := f) (fun a b => hc a b) (fun a b h => by rw [hf a b h]; rfl) k m b r (Nat.lt_trans hlt hb) (by omega)
  simp only [h0, decide_false, Bool.not_false, if_true, z, gcd_step a b r hr]
theorem mkRat_parts {a : Int} {b : Nat} (h : b ≠ 0) : frQ (mkRat a b) = .tup [.int (a / ((Nat.gcd a.natAbs b : Nat) : Int)), .int ((b / Nat.gcd a.natAbs b : Nat) : Int)] := by
  unfold frQ
  rw [Rat.num_mkRat, Rat.den_mkRat, if_neg h, if_neg h, Nat.gcd_comm b]
theorem fdivD_gcd {a : Int} {g : Nat} (h : 0 < g) (hl : g < 2 ^ 8000) : fdivD (.int a) (.int (g : Int)) = some (.int (a / (g : Int))) :=
  fdivD_int (by omega) (Nat.lt_of_lt_of_le (show (g : Int).natAbs < 2 ^ 8000 by simpa using hl) (Nat.pow_le_pow_right (by decide) (by decide)))
theorem mul_big {a b : Int} {k l : Nat} (ha : a.natAbs < 2 ^ k) (hb : b.natAbs < 2 ^ l) (h : k + l ≤ 8000) : mulD (.int a) (.int b) = some (.int (a * b)) :=
  mulD_int (a := k + 1) (b := l + 1) (Nat.lt_of_lt_of_le ha (Nat.pow_le_pow_right (by decide) (by omega))) (Nat.lt_of_lt_of_le hb (Nat.pow_le_pow_right (by decide) (by omega))) (by omega) (by omega) (by omega)
theorem frQ_fine (q : Rat) : (frQ q).isData = true ∧ (frQ q).py.canLay0 = true ∧ (frQ q).py.depth ≤ 60 := by
  simp [frQ, D.isData, areData, D.py, pys, PyData.canLay0, PyData.canLayAll0, PyData.depth, PyData.depthAll]
theorem eqv_frQ (a b : Rat) : PyData.eqv (frQ a).py (frQ b).py = decide (a = b) := by
  simp only [frQ, D.py, pys, PyData.eqv, PyData.eqvAll]
  by_cases h : a = b
  · subst h
    simp [PyData.eqv]
  · have : ¬ (a.num = b.num ∧ a.den = b.den) := fun z => h (Rat.ext z.1 z.2)
    simp only [h, decide_false]
    by_cases h1 : a.num = b.num
    · have h2 : ¬ a.den = b.den := fun z => this ⟨h1, z⟩
      have h3 : ¬ (a.den : Int) = (b.den : Int) := fun z => h2 (Int.ofNat.inj z)
      simp [h1, h2, h3]
    · simp [h1]
theorem eqB_frQ (a b : Rat) : eqB (frQ a) (frQ b) = some (decide (a = b)) := by
  have h1 : (frQ a).okD = true := ok_fine (frQ_fine a)
  have h2 : (frQ b).okD = true := ok_fine (frQ_fine b)
  have e : eqB (frQ a) (frQ b) = if (frQ a).okD && (frQ b).okD then some (PyData.eqv (frQ a).py (frQ b).py) else none := rfl
  rw [e, h1, h2, eqv_frQ]
  rfl
theorem lt_cross (a b : Rat) : decide (a.num * (b.den : Int) < b.num * (a.den : Int)) = decide (a < b) := decide_eq_decide.mpr (Rat.lt_iff a b).symm
end VL
set_option Elab.async false
set_option linter.all false
set_option maxRecDepth 100000
set_option autoImplicit false
set_option maxHeartbeats 1000000
set_option exponentiation.threshold 10000
namespace VL
open PySem PySem.Spec
def rq (s w : Int) : Option Rat := if s = 0 then some 0 else if w = 0 then none else some (mkRat s w.toNat)
theorem BQ.rq {s w : Int} {k : Nat} (hs : s.natAbs < 2 ^ k) (hw : w.natAbs < 2 ^ k) (hk : 0 < k) : ∀ q, rq s w = some q → BQ k q := by
  intro q h
  unfold VL.rq at h
  split at h
  · cases h
    exact ⟨Nat.pow_pos (by decide), Nat.one_lt_two_pow (by omega)⟩
  · split at h
    · cases h
    · cases h
      exact BQ.mk' hs (by omega) hk
def qmax (a b : Rat) : Rat := if a < b then b else a
theorem BQ.qmax {k : Nat} {a b : Rat} (ha : BQ k a) (hb : BQ k b) : BQ k (qmax a b) := by
  unfold VL.qmax
  split <;> assumption
def bestQ (rs : List (Option Rat)) : Option Rat := if none ∈ rs then none else some ((rs.filterMap id).foldl qmax 0)
theorem BQ.foldl {k : Nat} : ∀ (ps : List Rat) (z : Rat), BQ k z → (∀ p ∈ ps, BQ k p) → BQ k (ps.foldl VL.qmax z)
  | [], z, hz, _ => hz
  | p :: ps, z, hz, h => BQ.foldl ps _ (hz.qmax (h p List.mem_cons_self)) fun q hq => h q (List.mem_cons_of_mem _ hq)
theorem BQ.best {k : Nat} {rs : List (Option Rat)} (hk : 0 < k) (h : ∀ p, some p ∈ rs → BQ k p) : ∀ q, bestQ rs = some q → BQ k q := by
  intro q e
  unfold bestQ at e
  split at e
  · cases e
  · cases e
    refine BQ.foldl _ _ ⟨Nat.pow_pos (by decide), Nat.one_lt_two_pow (by omega)⟩ fun p hp => ?_
    obtain ⟨r, hr, e⟩ := List.mem_filterMap.mp hp
    cases e
    exact h p hr
end VL
set_option Elab.async false
set_option linter.all false
set_option maxRecDepth 100000
set_option autoImplicit false
set_option maxHeartbeats 1000000
namespace SX
def sm : Nat → (Nat → Int) → Int
  | 0, _ => 0
  | n + 1, f => sm n f + f n
theorem sm_congr : ∀ {n : Nat} {f g : Nat → Int}, (∀ i, i < n → f i = g i) → sm n f = sm n g
  | 0, _, _, _ => rfl
  | n + 1, f, g, h => by rw [sm, sm, sm_congr fun i hi => h i (by omega), h n (by omega)]
theorem sm_zero : ∀ {n : Nat} {f : Nat → Int}, (∀ i, i < n → f i = 0) → sm n f = 0
  | 0, _, _ => rfl
  | n + 1, f, h => by rw [sm, sm_zero fun i hi => h i (by omega), h n (by omega)]; rfl
theorem sm_add : ∀ (n : Nat) (f g : Nat → Int), sm n (fun i => f i + g i) = sm n f + sm n g
  | 0, _, _ => rfl
  | n + 1, f, g => by rw [sm, sm, sm, sm_add n f g]; omega
theorem sm_mul (c : Int) : ∀ (n : Nat) (f : Nat → Int), sm n (fun i => c * f i) = c * sm n f
  | 0, _ => by simp [sm]
  | n + 1, f => by rw [sm, sm, sm_mul c n f, Int.mul_add]
theorem sm_mulr (c : Int) (n : Nat) (f : Nat → Int) : sm n (fun i => f i * c) = sm n f * c := by
  rw [Int.mul_comm, ← sm_mul]
  exact sm_congr fun i _ => Int.mul_comm _ _
theorem sm_sub (n : Nat) (f g : Nat → Int) : sm n (fun i => f i - g i) = sm n f - sm n g := by
  have h := sm_add n (fun i => f i - g i) g
  have e : sm n (fun i => f i - g i + g i) = sm n f := sm_congr fun i _ => by omega
  omega
theorem sm_one {k : Nat} : ∀ {n : Nat} {f : Nat → Int}, k < n → (∀ i, i < n → i ≠ k → f i = 0) → sm n f = f k
  | 0, _, h, _ => by omega
  | n + 1, f, h, z => by
    rw [sm]
    rcases Nat.lt_or_ge k n with g | g
    · rw [sm_one g fun i hi => z i (by omega), z n (by omega) (by omega)]
      omega
    · have e : k = n := by omega
      rw [e] at z ⊢
      rw [sm_zero fun i hi => z i (by omega) (by omega)]
      omega
theorem sm_split {k : Nat} : ∀ {n : Nat} {f : Nat → Int}, k < n → sm n f = f k + sm n (fun i => if i = k then 0 else f i) := by
  intro n f h
  have e := sm_add n (fun i => if i = k then f i else 0) (fun i => if i = k then 0 else f i)
  have e1 : sm n (fun i => (if i = k then f i else 0) + (if i = k then 0 else f i)) = sm n f := sm_congr fun i _ => by split <;> simp
  have e2 : sm n (fun i => if i = k then f i else 0) = f k := by
    rw [sm_one h fun i _ hi => by rw [if_neg hi]]
    rw [if_pos rfl]
  omega
theorem sm_two {k l : Nat} {n : Nat} {f : Nat → Int} (h : k < n) (h2 : l < n) (ne : k ≠ l) (z : ∀ i, i < n → i ≠ k → i ≠ l → f i = 0) : sm n f = f k + f l := by
  rw [sm_split h, sm_one h2 fun i hi hl => by
    by_cases e : i = k
    · rw [if_pos e]
    · rw [if_neg e]; exact z i hi e hl]
  rw [if_neg (fun e => ne e.symm)]
theorem sm_nn : ∀ {n : Nat} {f : Nat → Int}, (∀ i, i < n → 0 ≤ f i) → 0 ≤ sm n f
  | 0, _, _ => Int.le_refl _
  | n + 1, f, h => by
    have a := sm_nn (n := n) (f := f) fun i hi => h i (Nat.lt_succ_of_lt hi)
    have b := h n (by omega)
    rw [sm]
    omega
theorem sm_le : ∀ {n : Nat} {f g : Nat → Int}, (∀ i, i < n → f i ≤ g i) → sm n f ≤ sm n g
  | 0, _, _, _ => Int.le_refl _
  | n + 1, f, g, h => by
    have a := sm_le (n := n) (f := f) (g := g) fun i hi => h i (Nat.lt_succ_of_lt hi)
    have b := h n (by omega)
    rw [sm, sm]
    omega
theorem sm_neg_ex : ∀ {n : Nat} {f : Nat → Int}, sm n f < 0 → ∃ i, i < n ∧ f i < 0
  | 0, f, h => by simp [sm] at h
  | n + 1, f, h => by
    rcases Int.lt_or_le (f n) 0 with g | g
    · exact ⟨n, by omega, g⟩
    · rw [sm] at h
      obtain ⟨i, hi, e⟩ := sm_neg_ex (n := n) (f := f) (by omega)
      exact ⟨i, by omega, e⟩
theorem sm_comm (n m : Nat) (f : Nat → Nat → Int) : sm n (fun i => sm m fun j => f i j) = sm m (fun j => sm n fun i => f i j) := by
  induction n with
  | zero => exact (sm_zero fun _ _ => rfl).symm
  | succ n ih =>
    rw [sm, ih, ← sm_add]
    rfl
abbrev Vc := Nat → Int
abbrev Mt := Nat → Vc
def skp (j k : Nat) : Nat := if k < j then k else k + 1
def minor (M : Mt) (j : Nat) : Mt := fun k t => M (skp j k) (t + 1)
def sg (j : Nat) : Int := if j % 2 = 0 then 1 else -1
def det : Nat → Mt → Int
  | 0, _ => 1
  | n + 1, M => sm (n + 1) fun j => sg j * M j 0 * det n (minor M j)
def upd (M : Mt) (k : Nat) (v : Vc) : Mt := fun i => if i = k then v else M i
theorem upd_at (M : Mt) (k : Nat) (v : Vc) : upd M k v k = v := if_pos rfl
theorem upd_ne (M : Mt) {k i : Nat} (v : Vc) (h : i ≠ k) : upd M k v i = M i := if_neg h
theorem upd_same (M : Mt) (k : Nat) : upd M k (M k) = M := funext fun i => by
  by_cases h : i = k
  · rw [h, upd_at]
  · rw [upd_ne _ _ h]
theorem upd_comm (M : Mt) {k l : Nat} (v w : Vc) (h : k ≠ l) : upd (upd M k v) l w = upd (upd M l w) k v := funext fun i => by
  unfold upd
  by_cases a : i = k
  · rw [if_neg (fun e => h (a.symm.trans e)), if_pos a, if_pos a]
  · rw [if_neg a, if_neg a]
theorem det_congr : ∀ {n : Nat} {M N : Mt}, (∀ k, k < n → ∀ t, t < n → M k t = N k t) → det n M = det n N
  | 0, _, _, _ => rfl
  | n + 1, M, N, h => by
    refine sm_congr fun j hj => ?_
    have e : det n (minor M j) = det n (minor N j) := det_congr fun k hk t ht => h _ (by unfold skp; split <;> omega) _ (by omega)
    show sg j * M j 0 * det n (minor M j) = sg j * N j 0 * det n (minor N j)
    rw [e, h j hj 0 (by omega)]
def shf (j k : Nat) : Nat := if k < j then k else k - 1
theorem minor_upd (M : Mt) {j k : Nat} (v : Vc) (h : k ≠ j) : minor (upd M k v) j = upd (minor M j) (shf j k) (fun t => v (t + 1)) := funext fun i => funext fun t => by
  unfold minor upd
  have e : (skp j i = k) ↔ (i = shf j k) := by
    unfold skp shf
    constructor
    · intro q
      split at q <;> split <;> omega
    · intro q
      split at q <;> split <;> omega
  by_cases g : skp j i = k
  · rw [if_pos g, if_pos (e.mp g)]
  · rw [if_neg g, if_neg (fun q => g (e.mpr q))]
theorem minor_skip (M : Mt) (j : Nat) (v : Vc) : minor (upd M j v) j = minor M j := funext fun i => funext fun t => by
  unfold minor upd
  rw [if_neg (by unfold skp; split <;> omega)]
theorem det_lin : ∀ {n : Nat} (M : Mt) {k : Nat}, k < n → ∀ (a b : Int) (v w : Vc), det n (upd M k fun t => a * v t + b * w t) = a * det n (upd M k v) + b * det n (upd M k w)
  | 0, _, _, h, _, _, _, _ => by omega
  | n + 1, M, k, h, a, b, v, w => by
    have e : ∀ j, j < n + 1 → sg j * upd M k (fun t => a * v t + b * w t) j 0 * det n (minor (upd M k fun t => a * v t + b * w t) j)
        = a * (sg j * upd M k v j 0 * det n (minor (upd M k v) j)) + b * (sg j * upd M k w j 0 * det n (minor (upd M k w) j)) := fun j hj => by
      by_cases g : k = j
      · subst g
        rw [upd_at, upd_at, upd_at, minor_skip, minor_skip, minor_skip]
        generalize det n (minor M k) = d
        rw [Int.mul_add, Int.add_mul]
        congr 1
        · rw [← Int.mul_assoc, ← Int.mul_assoc, ← Int.mul_assoc, Int.mul_comm (sg k) a]
        · rw [← Int.mul_assoc, ← Int.mul_assoc, ← Int.mul_assoc, Int.mul_comm (sg k) b]
      · have g' : j ≠ k := fun q => g q.symm
        rw [upd_ne _ _ g', upd_ne _ _ g', upd_ne _ _ g', minor_upd _ _ g, minor_upd _ _ g, minor_upd _ _ g]
        have z := det_lin (n := n) (minor M j) (k := shf j k) (by unfold shf; split <;> omega) a b (fun t => v (t + 1)) (fun t => w (t + 1))
        rw [z, Int.mul_add, Int.mul_left_comm, Int.mul_left_comm _ b]
    show sm (n + 1) _ = _
    rw [sm_congr e, sm_add, sm_mul, sm_mul]
    rfl
theorem sg_succ (j : Nat) : sg (j + 1) = - sg j := by
  unfold sg
  rcases Nat.mod_two_eq_zero_or_one j with h | h
  · rw [if_neg (by omega), if_pos h]
  · rw [if_pos (by omega), if_neg (by omega)]
    rfl
theorem det_adj : ∀ {n : Nat} {M : Mt} {k : Nat}, k + 1 < n → M k = M (k + 1) → det n M = 0
  | 0, _, _, h, _ => by omega
  | n + 1, M, k, h, e => by
    show sm (n + 1) _ = 0
    have z := sm_two (k := k) (l := k + 1) (n := n + 1) (f := fun j => sg j * M j 0 * det n (minor M j)) (by omega) h (by omega) (fun j hj n1 n2 => by
      have d : det n (minor M j) = 0 := by
        by_cases g : j < k
        · refine det_adj (k := k - 1) (by omega) ?_
          unfold minor skp
          rw [if_neg (by omega), if_neg (by omega)]
          have a : k - 1 + 1 = k := by omega
          rw [a, e]
        · refine det_adj (k := k) (by omega) ?_
          unfold minor skp
          rw [if_pos (by omega), if_pos (by omega), e]
      show sg j * M j 0 * det n (minor M j) = 0
      rw [d, Int.mul_zero])
    rw [z]
    have m : minor M k = minor M (k + 1) := funext fun i => by
      unfold minor skp
      by_cases g : i < k
      · rw [if_pos g, if_pos (by omega)]
      · by_cases g2 : i = k
        · subst g2
          rw [if_neg g, if_pos (by omega), e]
        · rw [if_neg g, if_neg (by omega)]
    show sg k * M k 0 * det n (minor M k) + sg (k + 1) * M (k + 1) 0 * det n (minor M (k + 1)) = 0
    rw [← m, ← e, sg_succ]
    generalize M k 0 = a
    generalize det n (minor M k) = b
    rw [Int.neg_mul, Int.neg_mul]
    omega
theorem one_lin (v w : Vc) : (fun t => v t + w t) = fun t => 1 * v t + 1 * w t := funext fun t => by omega
theorem det_plus {n : Nat} (M : Mt) {k : Nat} (h : k < n) (v w : Vc) : det n (upd M k fun t => v t + w t) = det n (upd M k v) + det n (upd M k w) := by
  rw [one_lin, det_lin M h]
  omega
theorem det_swap {n : Nat} (M : Mt) {k : Nat} (h : k + 1 < n) (v w : Vc) : det n (upd (upd M k v) (k + 1) w) = - det n (upd (upd M k w) (k + 1) v) := by
  have ne : k ≠ k + 1 := by omega
  have z : ∀ x : Vc, det n (upd (upd M k x) (k + 1) x) = 0 := fun x => det_adj h (by rw [upd_ne _ _ ne, upd_at, upd_at])
  have a := z fun t => v t + w t
  have b : ∀ x : Vc, det n (upd (upd M k fun t => v t + w t) (k + 1) x) = det n (upd (upd M k v) (k + 1) x) + det n (upd (upd M k w) (k + 1) x) := fun x => by
    rw [upd_comm _ _ _ ne, det_plus _ (by omega : k < n), ← upd_comm _ _ _ ne, ← upd_comm _ _ _ ne]
  rw [det_plus _ h, b, b, z v, z w] at a
  omega
theorem det_eq {n : Nat} : ∀ (d : Nat) {M : Mt} {i : Nat}, i + d + 1 < n → M i = M (i + d + 1) → det n M = 0
  | 0, M, i, h, e => det_adj h e
  | d + 1, M, i, h, e => by
    have s := det_swap M (k := i + d + 1) (n := n) (by omega) (M (i + d + 1)) (M (i + d + 1 + 1))
    rw [upd_same, upd_same] at s
    have z := det_eq (n := n) d (M := upd (upd M (i + d + 1) (M (i + d + 1 + 1))) (i + d + 1 + 1) (M (i + d + 1))) (i := i) (by omega) (by
      have p1 : i ≠ i + d + 1 + 1 := by omega
      have p2 : i ≠ i + d + 1 := by omega
      have p3 : i + d + 1 ≠ i + d + 1 + 1 := by omega
      rw [upd_ne _ _ p1, upd_ne _ _ p2, upd_ne _ _ p3, upd_at]
      exact e)
    rw [s, z]
    rfl
theorem det_same {n : Nat} {M : Mt} {i k : Nat} (hi : i < n) (hk : k < n) (ne : i ≠ k) (e : M i = M k) : det n M = 0 := by
  rcases Nat.lt_or_gt_of_ne ne with g | g
  · exact det_eq (k - i - 1) (i := i) (by omega) (by rw [show i + (k - i - 1) + 1 = k by omega]; exact e)
  · exact det_eq (i - k - 1) (i := k) (by omega) (by rw [show k + (i - k - 1) + 1 = i by omega]; exact e.symm)
theorem det_null {n : Nat} (M : Mt) {k : Nat} (h : k < n) : det n (upd M k fun _ => 0) = 0 := by
  have z := det_lin M h 0 0 (fun _ => 0) (fun _ => 0)
  have e : (fun t : Nat => (0 : Int) * (fun _ => 0) t + 0 * (fun _ => 0) t) = fun _ => (0 : Int) := funext fun t => by simp
  rw [e] at z
  omega
theorem det_sc {n : Nat} (M : Mt) {k : Nat} (h : k < n) (c : Int) (v : Vc) : det n (upd M k fun t => c * v t) = c * det n (upd M k v) := by
  have z := det_lin M h c 0 v v
  have e : (fun t : Nat => c * v t + 0 * v t) = fun t => c * v t := funext fun t => by simp
  rw [e] at z
  omega
theorem det_sum {n : Nat} (M : Mt) {k : Nat} (h : k < n) (c : Nat → Int) (v : Nat → Vc) : ∀ m : Nat, det n (upd M k fun t => sm m fun i => c i * v i t) = sm m fun i => c i * det n (upd M k (v i))
  | 0 => det_null M h
  | m + 1 => by
    rw [sm, ← det_sum M h c v m, ← det_sc M h, ← det_plus M h]
    rfl
theorem det_xch {n : Nat} (M : Mt) {i k : Nat} (hi : i < n) (hk : k < n) (ne : i ≠ k) : det n (upd (upd M i (M k)) k (M i)) = - det n M := by
  have z : ∀ x : Vc, det n (upd (upd M i x) k x) = 0 := fun x => det_same hi hk ne (by rw [upd_ne _ _ ne, upd_at, upd_at])
  have a := z fun t => M i t + M k t
  have b : ∀ x : Vc, det n (upd (upd M i fun t => M i t + M k t) k x) = det n (upd (upd M i (M i)) k x) + det n (upd (upd M i (M k)) k x) := fun x => by
    rw [upd_comm _ _ _ ne, det_plus _ hi, ← upd_comm _ _ _ ne, ← upd_comm _ _ _ ne]
  rw [det_plus _ hk, b, b, z (M i), z (M k)] at a
  rw [upd_same, upd_same] at a
  omega
def unit (k : Nat) : Vc := fun t => if t = k then 1 else 0
theorem det_unit : ∀ n : Nat, det n unit = 1
  | 0 => rfl
  | n + 1 => by
    show sm (n + 1) _ = 1
    have z := sm_one (k := 0) (n := n + 1) (f := fun j => sg j * unit j 0 * det n (minor unit j)) (by omega) fun j hj h => by
      have : unit j 0 = 0 := if_neg (fun e => h e.symm)
      show sg j * unit j 0 * det n (minor unit j) = 0
      rw [this, Int.mul_zero, Int.zero_mul]
    rw [z]
    have e : minor unit 0 = unit := funext fun k => funext fun t => by
      have q : skp 0 k = k + 1 := if_neg (by omega)
      unfold minor unit
      rw [q]
      by_cases g : t = k
      · rw [if_pos g, if_pos (by omega)]
      · rw [if_neg g, if_neg (by omega)]
    show sg 0 * unit 0 0 * det n (minor unit 0) = 1
    rw [e, det_unit n]
    rfl
theorem sm_abs {B : Nat} : ∀ {n : Nat} {f : Nat → Int}, (∀ i, i < n → (f i).natAbs ≤ B) → (sm n f).natAbs ≤ n * B
  | 0, _, _ => by simp [sm]
  | n + 1, f, h => by
    have a := sm_abs (n := n) (f := f) (B := B) fun i hi => h i (Nat.lt_succ_of_lt hi)
    have b := h n (Nat.lt_succ_self n)
    rw [sm]
    have c := Int.natAbs_add_le (sm n f) (f n)
    rw [Nat.succ_mul]
    omega
def dB (B : Nat) : Nat → Nat
  | 0 => 1
  | n + 1 => (n + 1) * (B * dB B n)
theorem det_abs {B : Nat} : ∀ {n : Nat} {M : Mt}, (∀ k, k < n → ∀ t, t < n → (M k t).natAbs ≤ B) → (det n M).natAbs ≤ dB B n
  | 0, _, _ => Nat.le_refl _
  | n + 1, M, h => by
    refine sm_abs fun j hj => ?_
    have a := det_abs (n := n) (M := minor M j) (B := B) fun k hk t ht => h _ (by unfold skp; split <;> omega) _ (by omega)
    have b := h j hj 0 (by omega)
    have s : (sg j).natAbs = 1 := by
      unfold sg
      split <;> rfl
    rw [Int.natAbs_mul, Int.natAbs_mul, s, Nat.one_mul]
    exact Nat.mul_le_mul b a
end SX
set_option Elab.async false
set_option linter.all false
set_option maxRecDepth 100000
set_option autoImplicit false
set_option maxHeartbeats 1000000
namespace SX
structure Tb where
  T : Nat → Nat → Int
  u : Int
  un : Nat → Nat
  ac : Nat → Nat
structure Pb where
  C : Nat
  R : Nat
  col : Nat → Vc
  q : Vc
section
variable (P : Pb)
def bas (s : Tb) : Mt := fun i => if i < P.C then P.col (s.un i) else unit P.C
def nbc (s : Tb) (j : Nat) : Vc := if j < P.R then P.col (s.ac j) else P.q
structure TOk (s : Tb) : Prop where
  pos : 0 < s.u
  dt : det (P.C + 1) (bas P s) = s.u
  rel : ∀ j, j ≤ P.R → ∀ t, t ≤ P.C → s.u * nbc P s j t = sm (P.C + 1) fun i => s.T i j * bas P s i t
def Nm (s : Tb) : Prop := ∀ f : Nat → Int, sm (P.R + P.C) f = sm P.C (fun i => f (s.un i)) + sm P.R fun j => f (s.ac j)
def piv (s : Tb) (r c : Nat) : Tb where
  T := fun i j => if i = r then (if j = c then s.u else s.T r j) else if j = c then - s.T i c else (s.T i j * s.T r c - s.T i c * s.T r j) / s.u
  u := s.T r c
  un := fun i => if i = r then s.ac c else s.un i
  ac := fun j => if j = c then s.un r else s.ac j
end
section
variable {P : Pb} {s : Tb}
theorem det_rel (ok : TOk P s) (N : Mt) {k : Nat} (hk : k < P.C + 1) {j : Nat} (hj : j ≤ P.R) : s.u * det (P.C + 1) (upd N k (nbc P s j)) = sm (P.C + 1) fun i => s.T i j * det (P.C + 1) (upd N k (bas P s i)) := by
  rw [← det_sc N hk, ← det_sum N hk]
  refine det_congr fun i hi t ht => ?_
  unfold upd
  split
  · exact ok.rel j hj t (by omega)
  · rfl
theorem cancel {u a b : Int} (h : 0 < u) (e : u * a = u * b) : a = b := Int.eq_of_mul_eq_mul_left (by omega) e
theorem cramer (ok : TOk P s) {i j : Nat} (hi : i < P.C + 1) (hj : j ≤ P.R) : det (P.C + 1) (upd (bas P s) i (nbc P s j)) = s.T i j := by
  refine cancel ok.pos ?_
  rw [det_rel ok _ hi hj, sm_one hi fun k hk ne => by
    rw [det_same (i := i) (k := k) hi hk (fun e => ne e.symm) (by rw [upd_at, upd_ne _ _ ne]), Int.mul_zero]]
  rw [upd_same, ok.dt, Int.mul_comm]
theorem det_back (ok : TOk P s) {r c i : Nat} (hr : r < P.C + 1) (hc : c ≤ P.R) (hi : i < P.C + 1) (ne : i ≠ r) : det (P.C + 1) (upd (upd (bas P s) r (nbc P s c)) i (bas P s r)) = - s.T i c := by
  refine cancel ok.pos ?_
  have nr : r ≠ i := fun e => ne e.symm
  rw [upd_comm _ _ _ nr, det_rel ok _ hr hc, sm_one hi fun k hk nk => by
    by_cases e : k = r
    · subst e
      rw [det_same (i := i) (k := k) hi hk ne (by rw [upd_ne _ _ ne, upd_at, upd_at]), Int.mul_zero]
    · rw [det_same (i := r) (k := k) hr hk (fun q => e q.symm) (by rw [upd_at, upd_ne _ _ e, upd_ne _ _ nk]), Int.mul_zero]]
  have x := det_xch (n := P.C + 1) (bas P s) hi hr ne
  rw [x, ok.dt, Int.mul_neg, Int.mul_neg, Int.mul_comm]
theorem even_ (ok : TOk P s) {r c i j : Nat} (hr : r < P.C + 1) (hc : c ≤ P.R) (hi : i < P.C + 1) (hj : j ≤ P.R) (ne : i ≠ r) :
    s.u * det (P.C + 1) (upd (upd (bas P s) r (nbc P s c)) i (nbc P s j)) = s.T i j * s.T r c - s.T i c * s.T r j := by
  rw [det_rel ok _ hi hj, sm_two hi hr ne fun k hk n1 n2 => by
    rw [det_same (i := i) (k := k) hi hk (fun e => n1 e.symm) (by rw [upd_at, upd_ne _ _ n1, upd_ne _ _ n2]), Int.mul_zero]]
  rw [det_back ok hr hc hi ne]
  have e : upd (upd (bas P s) r (nbc P s c)) i (bas P s i) = upd (bas P s) r (nbc P s c) := by
    conv => rhs; rw [← upd_same (upd (bas P s) r (nbc P s c)) i]
    rw [upd_ne (bas P s) (nbc P s c) ne]
  rw [e, cramer ok hr hc, Int.mul_neg, Int.mul_comm (s.T r j)]
  omega
theorem even_T (ok : TOk P s) {r c i j : Nat} (hr : r < P.C + 1) (hc : c ≤ P.R) (hi : i < P.C + 1) (hj : j ≤ P.R) (ne : i ≠ r) (nj : j ≠ c) : s.u * (piv s r c).T i j = s.T i j * s.T r c - s.T i c * s.T r j := by
  have e := even_ ok hr hc hi hj ne
  have h : (piv s r c).T i j = (s.T i j * s.T r c - s.T i c * s.T r j) / s.u := by
    show (if i = r then _ else if j = c then _ else _) = _
    rw [if_neg ne, if_neg nj]
  rw [h, ← e, Int.mul_ediv_cancel_left _ (by have := ok.pos; omega)]
theorem bas_piv {r c : Nat} (hr : r < P.C) (hc : c < P.R) : bas P (piv s r c) = upd (bas P s) r (nbc P s c) := funext fun i => by
  unfold bas upd nbc
  rw [if_pos hc]
  by_cases e : i = r
  · rw [if_pos (by omega), if_pos e]
    show P.col (if i = r then _ else _) = _
    rw [if_pos e]
  · rw [if_neg e]
    show (if i < P.C then P.col (if i = r then _ else _) else _) = _
    rw [if_neg e]
theorem nbc_piv {r c j : Nat} (hr : r < P.C) (hc : c < P.R) : nbc P (piv s r c) j = if j = c then bas P s r else nbc P s j := by
  unfold bas nbc
  by_cases e : j = c
  · rw [if_pos e, if_pos hr, if_pos (by omega)]
    show P.col (if j = c then _ else _) = _
    rw [if_pos e]
  · rw [if_neg e]
    show (if j < P.R then P.col (if j = c then _ else _) else _) = _
    rw [if_neg e]
theorem piv_ok (ok : TOk P s) {r c : Nat} (hr : r < P.C) (hc : c < P.R) (hp : 0 < s.T r c) : TOk P (piv s r c) := by
  refine ⟨hp, ?_, fun j hj t ht => ?_⟩
  · rw [bas_piv hr hc]
    exact cramer ok (by omega) (by omega)
  · rw [bas_piv hr hc, nbc_piv hr hc]
    have rc := ok.rel c (by omega) t ht
    show s.T r c * _ = _
    by_cases e : j = c
    · subst e
      rw [if_pos rfl]
      have f : ∀ i, i < P.C + 1 → (piv s r j).T i j * upd (bas P s) r (nbc P s j) i t = (- 1) * (s.T i j * bas P s i t) + if i = r then s.u * nbc P s j t + s.T r j * bas P s r t else 0 := fun i hi => by
        by_cases g : i = r
        · subst g
          rw [upd_at, if_pos rfl]
          show (if i = i then (if j = j then s.u else _) else _) * _ = _
          rw [if_pos rfl, if_pos rfl]
          omega
        · rw [upd_ne _ _ g, if_neg g]
          show (if i = r then _ else (if j = j then - s.T i j else _)) * _ = _
          rw [if_neg g, if_pos rfl, Int.neg_mul]
          omega
      rw [sm_congr f, sm_add, sm_mul, ← rc, sm_one (k := r) (by omega) fun i _ h => if_neg h, if_pos rfl]
      omega
    · rw [if_neg e]
      refine cancel ok.pos ?_
      have rj := ok.rel j hj t ht
      rw [← sm_mul]
      have f : ∀ i, i < P.C + 1 → s.u * ((piv s r c).T i j * upd (bas P s) r (nbc P s c) i t) = (s.T r c * (s.T i j * bas P s i t) + (- s.T r j) * (s.T i c * bas P s i t)) + if i = r then s.T r j * (s.u * nbc P s c t) else 0 := fun i hi => by
        by_cases g : i = r
        · subst g
          rw [upd_at, if_pos rfl]
          have h : (piv s i c).T i j = s.T i j := by
            show (if i = i then (if j = c then _ else _) else _) = _
            rw [if_pos rfl, if_neg e]
          rw [h, Int.neg_mul, Int.mul_left_comm (s.T i c) (s.T i j), Int.mul_left_comm s.u]
          omega
        · rw [upd_ne _ _ g, if_neg g, ← Int.mul_assoc, even_T ok (by omega) (by omega) hi hj g e, Int.sub_mul, Int.neg_mul]
          have a1 : s.T i j * s.T r c * bas P s i t = s.T r c * (s.T i j * bas P s i t) := by rw [Int.mul_comm (s.T i j), Int.mul_assoc]
          have a2 : s.T i c * s.T r j * bas P s i t = s.T r j * (s.T i c * bas P s i t) := by rw [Int.mul_comm (s.T i c), Int.mul_assoc]
          rw [a1, a2]
          omega
      rw [sm_congr f, sm_add, sm_add, sm_mul, sm_mul, ← rj, ← rc, sm_one (k := r) (by omega) fun i _ h => if_neg h, if_pos rfl, Int.neg_mul, Int.mul_left_comm s.u]
      omega
theorem piv_nm (h : Nm P s) {r c : Nat} (hr : r < P.C) (hc : c < P.R) : Nm P (piv s r c) := fun f => by
  rw [h f, sm_split (k := r) hr, sm_split (k := c) hc, sm_split (n := P.C) (k := r) (f := fun i => f ((piv s r c).un i)) hr, sm_split (n := P.R) (k := c) (f := fun j => f ((piv s r c).ac j)) hc]
  have e1 : sm P.C (fun i => if i = r then 0 else f (s.un i)) = sm P.C (fun i => if i = r then 0 else f ((piv s r c).un i)) := sm_congr fun i _ => by
    by_cases g : i = r
    · rw [if_pos g, if_pos g]
    · rw [if_neg g, if_neg g]
      show _ = f (if i = r then _ else _)
      rw [if_neg g]
  have e2 : sm P.R (fun j => if j = c then 0 else f (s.ac j)) = sm P.R (fun j => if j = c then 0 else f ((piv s r c).ac j)) := sm_congr fun j _ => by
    by_cases g : j = c
    · rw [if_pos g, if_pos g]
    · rw [if_neg g, if_neg g]
      show _ = f (if j = c then _ else _)
      rw [if_neg g]
  have e3 : (piv s r c).un r = s.ac c := if_pos rfl
  have e4 : (piv s r c).ac c = s.un r := if_pos rfl
  rw [e1, e2, e3, e4]
  omega
def Sol (P : Pb) (x : Nat → Int) (z h : Int) : Prop := ∀ t, t ≤ P.C → sm (P.R + P.C) (fun v => x v * P.col v t) + z * unit P.C t = h * P.q t
def xz (P : Pb) (s : Tb) (x : Nat → Int) (z : Int) (i : Nat) : Int := if i < P.C then x (s.un i) else z
def Rows (P : Pb) (s : Tb) (x : Nat → Int) (z h : Int) : Prop := ∀ i, i < P.C + 1 → s.u * xz P s x z i + sm P.R (fun j => s.T i j * x (s.ac j)) = s.T i P.R * h
theorem rows_sum (ok : TOk P s) (nm : Nm P s) (x : Nat → Int) (z h : Int) {t : Nat} (ht : t ≤ P.C) :
    sm (P.C + 1) (fun i => (s.u * xz P s x z i + sm P.R (fun j => s.T i j * x (s.ac j)) - s.T i P.R * h) * bas P s i t) = s.u * (sm (P.R + P.C) (fun v => x v * P.col v t) + z * unit P.C t - h * P.q t) := by
  have e1 : ∀ i, i < P.C + 1 → (s.u * xz P s x z i + sm P.R (fun j => s.T i j * x (s.ac j)) - s.T i P.R * h) * bas P s i t = (s.u * (xz P s x z i * bas P s i t) + sm P.R (fun j => x (s.ac j) * (s.T i j * bas P s i t))) - h * (s.T i P.R * bas P s i t) := fun i _ => by
    rw [Int.sub_mul, Int.add_mul, Int.mul_assoc, ← sm_mulr]
    congr 1
    · congr 1
      refine sm_congr fun j _ => ?_
      rw [Int.mul_comm (s.T i j), Int.mul_assoc]
    · rw [Int.mul_comm (s.T i P.R), Int.mul_assoc]
  have nq : nbc P s P.R = P.q := if_neg (by omega)
  have rq := ok.rel P.R (Nat.le_refl _) t ht
  rw [nq] at rq
  rw [sm_congr e1, sm_sub, sm_add, sm_mul, sm_mul, ← rq, sm_comm]
  have e2 : ∀ j, j < P.R → sm (P.C + 1) (fun i => x (s.ac j) * (s.T i j * bas P s i t)) = s.u * (x (s.ac j) * P.col (s.ac j) t) := fun j hj => by
    rw [sm_mul, ← ok.rel j (by omega) t ht, nbc, if_pos hj, Int.mul_left_comm]
  rw [sm_congr e2, sm_mul, nm fun v => x v * P.col v t]
  have e3 : sm (P.C + 1) (fun i => xz P s x z i * bas P s i t) = sm P.C (fun i => x (s.un i) * P.col (s.un i) t) + z * unit P.C t := by
    rw [sm]
    congr 1
    · refine sm_congr fun i hi => ?_
      unfold xz bas
      rw [if_pos hi, if_pos hi]
    · unfold xz bas
      rw [if_neg (by omega), if_neg (by omega)]
  rw [e3, Int.mul_left_comm h, ← Int.mul_add, ← Int.mul_sub]
  congr 1
  omega
theorem indep (ok : TOk P s) {y : Nat → Int} (h : ∀ t, t ≤ P.C → sm (P.C + 1) (fun i => y i * bas P s i t) = 0) {k : Nat} (hk : k < P.C + 1) : y k = 0 := by
  have a := det_sum (n := P.C + 1) (bas P s) hk y (bas P s) (P.C + 1)
  rw [sm_one hk fun i hi ne => by
    rw [det_same (i := k) (k := i) hk hi (fun e => ne e.symm) (by rw [upd_at, upd_ne _ _ ne]), Int.mul_zero]] at a
  rw [upd_same, ok.dt] at a
  have b : det (P.C + 1) (upd (bas P s) k fun t => sm (P.C + 1) fun i => y i * bas P s i t) = det (P.C + 1) (upd (bas P s) k fun _ => 0) := det_congr fun i _ t ht => by
    unfold upd
    split
    · exact h t (by omega)
    · rfl
  rw [b, det_null _ hk] at a
  rcases Int.mul_eq_zero.mp a.symm with q | q
  · exact q
  · have := ok.pos
    omega
theorem sol_rows (ok : TOk P s) (nm : Nm P s) {x : Nat → Int} {z h : Int} : Sol P x z h ↔ Rows P s x z h := by
  constructor
  · intro sl i hi
    have a := indep ok (y := fun i => s.u * xz P s x z i + sm P.R (fun j => s.T i j * x (s.ac j)) - s.T i P.R * h) (fun t ht => by
      rw [rows_sum ok nm x z h ht, sl t ht, Int.sub_self, Int.mul_zero]) hi
    omega
  · intro rw_ t ht
    have a := rows_sum ok nm x z h ht
    rw [sm_zero fun i hi => by rw [rw_ i hi, Int.sub_self, Int.zero_mul]] at a
    rcases Int.mul_eq_zero.mp a.symm with q | q
    · have := ok.pos
      omega
    · omega
end
end SX
set_option Elab.async false
set_option linter.all false
set_option maxRecDepth 100000
set_option autoImplicit false
set_option maxHeartbeats 1000000
namespace SX
section
variable {P : Pb} {s : Tb}
def ind (v : Nat) (w : Nat) : Int := if w = v then 1 else 0
theorem ind_nn (v w : Nat) : 0 ≤ ind v w := by unfold ind; split <;> omega
theorem ind_all (v n : Nat) : sm n (ind v) = if v < n then 1 else 0 := by
  by_cases h : v < n
  · rw [if_pos h, sm_one (f := ind v) h fun i _ ne => if_neg ne]
    exact if_pos rfl
  · rw [if_neg h]
    exact sm_zero fun i hi => if_neg (by omega)
theorem nm_un (nm : Nm P s) {i k : Nat} (hi : i < P.C) (hk : k < P.C) (e : s.un i = s.un k) : i = k := Decidable.byContradiction fun ne => by
  have a := nm (ind (s.un k))
  rw [ind_all, sm_split (n := P.C) hk, sm_split (n := P.C) (k := i) hi] at a
  have b : (if i = k then (0 : Int) else ind (s.un k) (s.un i)) = 1 := by
    rw [if_neg ne, e]
    exact if_pos rfl
  have c : 0 ≤ sm P.C (fun i_1 => if i_1 = i then (0 : Int) else if i_1 = k then 0 else ind (s.un k) (s.un i_1)) := sm_nn fun j _ => by
    split
    · omega
    · split
      · omega
      · exact ind_nn _ _
  have d : 0 ≤ sm P.R (fun j => ind (s.un k) (s.ac j)) := sm_nn fun j _ => ind_nn _ _
  have f : ind (s.un k) (s.un k) = 1 := if_pos rfl
  rw [b, f] at a
  split at a <;> omega
theorem nm_ac (nm : Nm P s) {i k : Nat} (hi : i < P.R) (hk : k < P.R) (e : s.ac i = s.ac k) : i = k := Decidable.byContradiction fun ne => by
  have a := nm (ind (s.ac k))
  rw [ind_all, sm_split (n := P.R) hk, sm_split (n := P.R) (k := i) hi] at a
  have b : (if i = k then (0 : Int) else ind (s.ac k) (s.ac i)) = 1 := by
    rw [if_neg ne, e]
    exact if_pos rfl
  have c : 0 ≤ sm P.R (fun i_1 => if i_1 = i then (0 : Int) else if i_1 = k then 0 else ind (s.ac k) (s.ac i_1)) := sm_nn fun j _ => by
    split
    · omega
    · split
      · omega
      · exact ind_nn _ _
  have d : 0 ≤ sm P.C (fun j => ind (s.ac k) (s.un j)) := sm_nn fun j _ => ind_nn _ _
  have f : ind (s.ac k) (s.ac k) = 1 := if_pos rfl
  rw [b, f] at a
  split at a <;> omega
theorem nm_dis (nm : Nm P s) {i j : Nat} (hi : i < P.C) (hj : j < P.R) : s.un i ≠ s.ac j := fun e => by
  have a := nm (ind (s.ac j))
  rw [ind_all, sm_split (n := P.R) hj, sm_split (n := P.C) (k := i) hi] at a
  have b : ind (s.ac j) (s.un i) = 1 := by
    rw [e]
    exact if_pos rfl
  have f : ind (s.ac j) (s.ac j) = 1 := if_pos rfl
  have c : 0 ≤ sm P.C (fun k => if k = i then (0 : Int) else ind (s.ac j) (s.un k)) := sm_nn fun k _ => by
    split
    · omega
    · exact ind_nn _ _
  have d : 0 ≤ sm P.R (fun k => if k = j then (0 : Int) else ind (s.ac j) (s.ac k)) := sm_nn fun k _ => by
    split
    · omega
    · exact ind_nn _ _
  rw [b, f] at a
  split at a <;> omega
theorem sm_ex : ∀ {n : Nat} {f : Nat → Int}, sm n f ≠ 0 → ∃ i, i < n ∧ f i ≠ 0
  | 0, f, h => absurd rfl h
  | n + 1, f, h => by
    by_cases g : f n = 0
    · obtain ⟨i, hi, e⟩ := sm_ex (n := n) (f := f) (fun q => h (by rw [sm, q, g]; rfl))
      exact ⟨i, by omega, e⟩
    · exact ⟨n, by omega, g⟩
def inB (P : Pb) (s : Tb) (v : Nat) : Prop := ∃ i, i < P.C ∧ s.un i = v
def inN (P : Pb) (s : Tb) (v : Nat) : Prop := ∃ j, j < P.R ∧ s.ac j = v
theorem nm_lt (nm : Nm P s) {i : Nat} (hi : i < P.C) : s.un i < P.R + P.C := Decidable.byContradiction fun n => by
  have a := nm (ind (s.un i))
  rw [ind_all, if_neg n, sm_split (n := P.C) hi] at a
  have f : ind (s.un i) (s.un i) = 1 := if_pos rfl
  have c : 0 ≤ sm P.C (fun k => if k = i then (0 : Int) else ind (s.un i) (s.un k)) := sm_nn fun k _ => by
    split
    · omega
    · exact ind_nn _ _
  have d : 0 ≤ sm P.R (fun k => ind (s.un i) (s.ac k)) := sm_nn fun k _ => ind_nn _ _
  omega
theorem nm_al (nm : Nm P s) {j : Nat} (hj : j < P.R) : s.ac j < P.R + P.C := Decidable.byContradiction fun n => by
  have a := nm (ind (s.ac j))
  rw [ind_all, if_neg n, sm_split (n := P.R) hj] at a
  have f : ind (s.ac j) (s.ac j) = 1 := if_pos rfl
  have c : 0 ≤ sm P.R (fun k => if k = j then (0 : Int) else ind (s.ac j) (s.ac k)) := sm_nn fun k _ => by
    split
    · omega
    · exact ind_nn _ _
  have d : 0 ≤ sm P.C (fun k => ind (s.ac j) (s.un k)) := sm_nn fun k _ => ind_nn _ _
  omega
theorem nm_cov (nm : Nm P s) {v : Nat} (hv : v < P.R + P.C) : inB P s v ∨ inN P s v := by
  have a := nm (ind v)
  rw [ind_all, if_pos hv] at a
  by_cases g : sm P.C (fun i => ind v (s.un i)) = 0
  · obtain ⟨j, hj, e⟩ := sm_ex (n := P.R) (f := fun j => ind v (s.ac j)) (by omega)
    refine .inr ⟨j, hj, Decidable.byContradiction fun n => e (if_neg n)⟩
  · obtain ⟨j, hj, e⟩ := sm_ex g
    refine .inl ⟨j, hj, Decidable.byContradiction fun n => e (if_neg n)⟩
theorem nm_not (nm : Nm P s) {v : Nat} (hb : inB P s v) (hn : inN P s v) : False := by
  obtain ⟨i, hi, e⟩ := hb
  obtain ⟨j, hj, f⟩ := hn
  exact nm_dis nm hi hj (e.trans f.symm)
def X (P : Pb) (s : Tb) (v : Nat) : Int := sm P.C fun i => if s.un i = v then s.T i P.R else 0
theorem X_un (nm : Nm P s) {i : Nat} (hi : i < P.C) : X P s (s.un i) = s.T i P.R := by
  unfold X
  rw [sm_one hi fun k hk ne => if_neg fun e => ne (nm_un nm hk hi e)]
  exact if_pos rfl
theorem X_ac (nm : Nm P s) {j : Nat} (hj : j < P.R) : X P s (s.ac j) = 0 := sm_zero fun i hi => if_neg (nm_dis nm hi hj)
theorem X_non (nm : Nm P s) {v : Nat} (h : inN P s v) : X P s v = 0 := by
  obtain ⟨j, hj, rfl⟩ := h
  exact X_ac nm hj
theorem X_sol (ok : TOk P s) (nm : Nm P s) : Sol P (X P s) (s.T P.C P.R) s.u := by
  refine (sol_rows ok nm).mpr fun i hi => ?_
  rw [sm_zero fun j hj => by rw [X_ac nm hj, Int.mul_zero]]
  unfold xz
  by_cases g : i < P.C
  · rw [if_pos g, X_un nm g, Int.mul_comm]
    omega
  · have e : i = P.C := by omega
    rw [if_neg g, e, Int.mul_comm]
    omega
theorem sol_at (ok : TOk P s) (nm : Nm P s) {x : Nat → Int} {z h : Int} (sl : Sol P x z h) (h0 : ∀ v, inN P s v → x v = 0) : (∀ i, i < P.C → s.u * x (s.un i) = s.T i P.R * h) ∧ s.u * z = s.T P.C P.R * h := by
  have rw_ := (sol_rows ok nm).mp sl
  have e : ∀ i, sm P.R (fun j => s.T i j * x (s.ac j)) = 0 := fun i => sm_zero fun j hj => by rw [h0 _ ⟨j, hj, rfl⟩, Int.mul_zero]
  refine ⟨fun i hi => ?_, ?_⟩
  · have a := rw_ i (by omega)
    rw [e] at a
    unfold xz at a
    rw [if_pos hi] at a
    omega
  · have a := rw_ P.C (by omega)
    rw [e] at a
    unfold xz at a
    rw [if_neg (by omega)] at a
    omega
structure Ent (P : Pb) (s : Tb) (c : Nat) : Prop where
  lt : c < P.R
  neg : s.T P.C c < 0
  low : ∀ j, j < P.R → s.T P.C j < 0 → s.ac c ≤ s.ac j
structure Lea (P : Pb) (s : Tb) (c r : Nat) : Prop where
  lt : r < P.C
  pos : 0 < s.T r c
  low : ∀ i, i < P.C → 0 < s.T i c → s.T r P.R * s.T i c < s.T i P.R * s.T r c ∨ (s.T r P.R * s.T i c = s.T i P.R * s.T r c ∧ s.un r ≤ s.un i)
structure Fin (P : Pb) (s : Tb) : Prop where
  ok : TOk P s
  nm : Nm P s
  fe : ∀ i, i < P.C → 0 ≤ s.T i P.R
theorem fin_piv (f : Fin P s) {r c : Nat} (E : Ent P s c) (L : Lea P s c r) : Fin P (piv s r c) := by
  refine ⟨piv_ok f.ok L.lt E.lt L.pos, piv_nm f.nm L.lt E.lt, fun i hi => ?_⟩
  by_cases g : i = r
  · subst g
    have e : (piv s i c).T i P.R = s.T i P.R := by
      show (if i = i then (if P.R = c then _ else _) else _) = _
      rw [if_pos rfl, if_neg (by have := E.lt; omega)]
    rw [e]
    exact f.fe i hi
  · have e := even_T f.ok (r := r) (c := c) (i := i) (j := P.R) (by have := L.lt; omega) (by have := E.lt; omega) (by omega) (Nat.le_refl _) g (by have := E.lt; omega)
    have nn : 0 ≤ s.T i P.R * s.T r c - s.T i c * s.T r P.R := by
      rcases Int.lt_or_le 0 (s.T i c) with h | h
      · rw [Int.mul_comm (s.T i c)]
        rcases L.low i hi h with q | ⟨q, _⟩ <;> omega
      · have a := Int.mul_nonneg (f.fe i hi) (Int.le_of_lt L.pos)
        have b := Int.mul_nonpos_of_nonpos_of_nonneg h (f.fe r L.lt)
        omega
    rw [← e] at nn
    exact Int.nonneg_of_mul_nonneg_right nn f.ok.pos |> fun q => q
theorem gain (f : Fin P s) {r c : Nat} (E : Ent P s c) (L : Lea P s c r) : s.u * (piv s r c).T P.C P.R = s.T P.C P.R * (piv s r c).u + (- s.T P.C c) * s.T r P.R := by
  have e := even_T f.ok (r := r) (c := c) (i := P.C) (j := P.R) (by have := L.lt; omega) (by have := E.lt; omega) (by omega) (Nat.le_refl _) (by have := L.lt; omega) (by have := E.lt; omega)
  rw [e, Int.neg_mul]
  show _ = s.T P.C P.R * s.T r c + _
  omega
theorem piv_in (nm : Nm P s) {r c : Nat} (hr : r < P.C) (hc : c < P.R) (v : Nat) : inB P (piv s r c) v ↔ v = s.ac c ∨ (inB P s v ∧ v ≠ s.un r) := by
  constructor
  · rintro ⟨i, hi, e⟩
    have e' : (if i = r then s.ac c else s.un i) = v := e
    by_cases g : i = r
    · rw [if_pos g] at e'
      exact .inl e'.symm
    · rw [if_neg g] at e'
      exact .inr ⟨⟨i, hi, e'⟩, fun q => g (nm_un nm hi hr (e'.trans q))⟩
  · rintro (rfl | ⟨⟨i, hi, rfl⟩, n⟩)
    · exact ⟨r, hr, if_pos rfl⟩
    · exact ⟨i, hi, if_neg fun q => n (by rw [q])⟩
end
end SX
set_option Elab.async false
set_option linter.all false
set_option maxRecDepth 100000
set_option autoImplicit false
set_option maxHeartbeats 1000000
namespace SX
structure Chain (P : Pb) (st : Nat → Tb) (rc cc : Nat → Nat) (k : Nat) : Prop where
  fin : ∀ i, i ≤ k → Fin P (st i)
  ent : ∀ i, i < k → Ent P (st i) (cc i)
  lea : ∀ i, i < k → Lea P (st i) (cc i) (rc i)
  nxt : ∀ i, i < k → st (i + 1) = piv (st i) (rc i) (cc i)
def Same (P : Pb) (a b : Tb) : Prop := ∀ v, inB P a v ↔ inB P b v
section
variable {P : Pb} {st : Nat → Tb} {rc cc : Nat → Nat} {k : Nat}
theorem same_non {a b : Tb} (fa : Fin P a) (fb : Fin P b) (h : Same P a b) {v : Nat} (hv : inN P b v) : inN P a v := by
  obtain ⟨j, hj, e⟩ := hv
  have lt : v < P.R + P.C := by rw [← e]; exact nm_al fb.nm hj
  rcases nm_cov fa.nm lt with q | q
  · exact (nm_not fb.nm ((h v).mp q) ⟨j, hj, e⟩).elim
  · exact q
theorem Chain.in_ (ch : Chain P st rc cc k) {i : Nat} (hi : i < k) (v : Nat) : inB P (st (i + 1)) v ↔ v = (st i).ac (cc i) ∨ (inB P (st i) v ∧ v ≠ (st i).un (rc i)) := by
  rw [ch.nxt i hi]
  exact piv_in (ch.fin i (by omega)).nm (ch.lea i hi).lt (ch.ent i hi).lt v
theorem Chain.up (ch : Chain P st rc cc k) {i : Nat} (hi : i < k) : (st i).u * (st (i + 1)).T P.C P.R = (st i).T P.C P.R * (st (i + 1)).u + (- (st i).T P.C (cc i)) * (st i).T (rc i) P.R := by
  rw [ch.nxt i hi]
  exact gain (ch.fin i (by omega)) (ch.ent i hi) (ch.lea i hi)
theorem Chain.gn (ch : Chain P st rc cc k) {i : Nat} (hi : i < k) : 0 ≤ (- (st i).T P.C (cc i)) * (st i).T (rc i) P.R :=
  Int.mul_nonneg (by have := (ch.ent i hi).neg; omega) ((ch.fin i (by omega)).fe _ (ch.lea i hi).lt)
theorem ratio_trans {a b c u v w : Int} (hu : 0 < u) (hv : 0 < v) (hw : 0 < w) (h1 : a * v ≤ b * u) (h2 : b * w ≤ c * v) : a * w ≤ c * u := by
  have x := Int.mul_le_mul_of_nonneg_right h1 (Int.le_of_lt hw)
  have y := Int.mul_le_mul_of_nonneg_right h2 (Int.le_of_lt hu)
  have e1 : a * v * w = v * (a * w) := by rw [Int.mul_assoc, Int.mul_left_comm]
  have e2 : b * u * w = b * w * u := by rw [Int.mul_assoc, Int.mul_comm u, ← Int.mul_assoc]
  have e3 : c * v * u = v * (c * u) := by rw [Int.mul_assoc, Int.mul_left_comm]
  exact Int.le_of_mul_le_mul_left (by omega) hv
theorem Chain.mono (ch : Chain P st rc cc k) {i : Nat} : ∀ (d : Nat), i + d ≤ k → (st i).T P.C P.R * (st (i + d)).u ≤ (st (i + d)).T P.C P.R * (st i).u
  | 0, _ => Int.le_refl _
  | d + 1, h => by
    have ih := ch.mono (i := i) d (by omega)
    have up := ch.up (i := i + d) (by omega)
    have gn := ch.gn (i := i + d) (by omega)
    refine ratio_trans (ch.fin i (by omega)).ok.pos (ch.fin (i + d) (by omega)).ok.pos (ch.fin (i + (d + 1)) h).ok.pos ih ?_
    rw [Int.mul_comm ((st (i + (d + 1))).T P.C P.R)]
    show _ ≤ (st (i + d)).u * (st (i + d + 1)).T P.C P.R
    rw [up]
    show _ * (st (i + d + 1)).u ≤ _
    omega
theorem Chain.level (ch : Chain P st rc cc k) (same : Same P (st 0) (st k)) : (st 0).T P.C P.R * (st k).u = (st k).T P.C P.R * (st 0).u := by
  have f0 := ch.fin 0 (by omega)
  have fk := ch.fin k (Nat.le_refl _)
  have a := sol_at fk.ok fk.nm (X_sol f0.ok f0.nm) fun v hv => X_non f0.nm (same_non f0 fk same hv)
  rw [← a.2, Int.mul_comm]
theorem Chain.flat (ch : Chain P st rc cc k) (same : Same P (st 0) (st k)) {i : Nat} (hi : i < k) : (st i).T (rc i) P.R = 0 := by
  have l := ch.level same
  have m1 := ch.mono (i := 0) i (by omega)
  have m2 := ch.mono (i := i + 1) (k - (i + 1)) (by omega)
  have e0 : 0 + i = i := by omega
  have ek : i + 1 + (k - (i + 1)) = k := by omega
  rw [e0] at m1
  rw [ek] at m2
  have up := ch.up hi
  have gn := ch.gn hi
  have p0 := (ch.fin 0 (by omega)).ok.pos
  have pi := (ch.fin i (by omega)).ok.pos
  have pj := (ch.fin (i + 1) (by omega)).ok.pos
  have pk := (ch.fin k (Nat.le_refl _)).ok.pos
  have b : (st (i + 1)).T P.C P.R * (st 0).u ≤ (st 0).T P.C P.R * (st (i + 1)).u := ratio_trans pj pk p0 m2 (by rw [l]; exact Int.le_refl _)
  have c : (st (i + 1)).T P.C P.R * (st i).u ≤ (st i).T P.C P.R * (st (i + 1)).u := ratio_trans pj p0 pi b m1
  rw [Int.mul_comm, up] at c
  have z : (- (st i).T P.C (cc i)) * (st i).T (rc i) P.R = 0 := by omega
  rcases Int.mul_eq_zero.mp z with q | q
  · have := (ch.ent i hi).neg
    omega
  · exact q
theorem Chain.corner1 (ch : Chain P st rc cc k) {i : Nat} (hi : i < k) (flat : (st i).T (rc i) P.R = 0) (v : Nat) : (st (i + 1)).u * X P (st i) v = X P (st (i + 1)) v * (st i).u := by
  have f := ch.fin i (by omega)
  have g := ch.fin (i + 1) (by omega)
  have z : ∀ w, inN P (st (i + 1)) w → X P (st i) w = 0 := fun w hw => by
    obtain ⟨j, hj, e⟩ := hw
    rw [ch.nxt i hi] at e
    have e' : (if j = cc i then (st i).un (rc i) else (st i).ac j) = w := e
    by_cases q : j = cc i
    · rw [if_pos q] at e'
      rw [← e', X_un f.nm (ch.lea i hi).lt]
      exact flat
    · rw [if_neg q] at e'
      rw [← e']
      exact X_ac f.nm hj
  have a := (sol_at g.ok g.nm (X_sol f.ok f.nm) z).1
  by_cases hb : inB P (st (i + 1)) v
  · obtain ⟨j, hj, rfl⟩ := hb
    rw [a j hj, X_un g.nm hj]
  · have n1 : X P (st (i + 1)) v = 0 := sm_zero fun j hj => if_neg fun e => hb ⟨j, hj, e⟩
    rw [n1]
    by_cases hn : inN P (st (i + 1)) v
    · rw [z v hn, Int.mul_zero, Int.zero_mul]
    · have nb : ¬ inB P (st i) v := fun q => by
        obtain ⟨j, hj, e⟩ := q
        have lt : v < P.R + P.C := by rw [← e]; exact nm_lt f.nm hj
        rcases nm_cov g.nm lt with q | q
        · exact hb q
        · exact hn q
      have n2 : X P (st i) v = 0 := sm_zero fun j hj => if_neg fun e => nb ⟨j, hj, e⟩
      rw [n2, Int.mul_zero, Int.zero_mul]
theorem Chain.corner (ch : Chain P st rc cc k) (flat : ∀ i, i < k → (st i).T (rc i) P.R = 0) (v : Nat) : ∀ i, i ≤ k → (X P (st i) v = 0 ↔ X P (st 0) v = 0)
  | 0, _ => Iff.rfl
  | i + 1, h => by
    rw [← ch.corner flat v i (by omega)]
    have e := ch.corner1 (i := i) (by omega) (flat i (by omega)) v
    have p1 := (ch.fin i (by omega)).ok.pos
    have p2 := (ch.fin (i + 1) h).ok.pos
    constructor
    · intro z
      rw [z, Int.zero_mul] at e
      rcases Int.mul_eq_zero.mp e with q | q
      · omega
      · exact q
    · intro z
      rw [z, Int.mul_zero] at e
      rcases Int.mul_eq_zero.mp e.symm with q | q
      · exact q
      · omega
theorem Chain.came (ch : Chain P st rc cc k) {v a : Nat} (h : ¬ inB P (st a) v) : ∀ d, a + d ≤ k → inB P (st (a + d)) v → ∃ i, i < k ∧ (st i).ac (cc i) = v
  | 0, _, q => absurd q h
  | d + 1, l, q => by
    rcases (ch.in_ (i := a + d) (by omega) v).mp q with e | ⟨e, _⟩
    · exact ⟨a + d, by omega, e.symm⟩
    · exact ch.came h d (by omega) e
theorem Chain.went (ch : Chain P st rc cc k) {v a : Nat} (h : inB P (st a) v) : ∀ d, a + d ≤ k → ¬ inB P (st (a + d)) v → ∃ i, i < k ∧ (st i).un (rc i) = v
  | 0, _, q => absurd h q
  | d + 1, l, q => by
    by_cases e : inB P (st (a + d)) v
    · refine ⟨a + d, by omega, Decidable.byContradiction fun n => q ((ch.in_ (i := a + d) (by omega) v).mpr (.inr ⟨e, fun w => n w.symm⟩))⟩
    · exact ch.went h d (by omega) e
theorem Chain.moved (ch : Chain P st rc cc k) (same : Same P (st 0) (st k)) {v a b : Nat} (ha : a ≤ k) (hb : b ≤ k) (na : ¬ inB P (st a) v) (nb : inB P (st b) v) : ∃ i, i < k ∧ (st i).ac (cc i) = v := by
  by_cases q : inB P (st k) v
  · exact ch.came na (k - a) (by omega) (by rw [show a + (k - a) = k by omega]; exact q)
  · have q0 : ¬ inB P (st 0) v := fun z => q ((same v).mp z)
    exact ch.came q0 b (by omega) (by rw [show 0 + b = b by omega]; exact nb)
theorem Chain.left (ch : Chain P st rc cc k) (same : Same P (st 0) (st k)) {v a b : Nat} (ha : a ≤ k) (hb : b ≤ k) (na : ¬ inB P (st a) v) (nb : inB P (st b) v) : ∃ i, i < k ∧ (st i).un (rc i) = v := by
  by_cases q : inB P (st k) v
  · exact ch.went ((same v).mpr q) a (by omega) (by rw [show 0 + a = a by omega]; exact na)
  · exact ch.went nb (k - b) (by omega) (by rw [show b + (k - b) = k by omega]; exact q)
theorem great (f : Nat → Nat) : ∀ n : Nat, 0 < n → ∃ p, p < n ∧ ∀ i, i < n → f i ≤ f p
  | 0, h => by omega
  | 1, _ => ⟨0, by omega, fun i hi => by rw [show i = 0 by omega]; exact Nat.le_refl _⟩
  | n + 2, _ => by
    obtain ⟨p, hp, h⟩ := great f (n + 1) (by omega)
    rcases Nat.lt_or_ge (f p) (f (n + 1)) with g | g
    · refine ⟨n + 1, by omega, fun i hi => ?_⟩
      rcases Nat.lt_or_ge i (n + 1) with q | q
      · exact Nat.le_trans (h i q) (Nat.le_of_lt g)
      · rw [show i = n + 1 by omega]
        exact Nat.le_refl _
    · refine ⟨p, by omega, fun i hi => ?_⟩
      rcases Nat.lt_or_ge i (n + 1) with q | q
      · exact h i q
      · rw [show i = n + 1 by omega]
        exact g
theorem no_ring (ch : Chain P st rc cc k) (hk : 0 < k) (same : Same P (st 0) (st k)) : False := by
  have flat := fun i (hi : i < k) => ch.flat same hi
  obtain ⟨p, hp, top⟩ := great (fun i => (st i).ac (cc i)) k hk
  have fp := ch.fin p (by omega)
  have Ep := ch.ent p hp
  have t0 : ¬ inB P (st p) ((st p).ac (cc p)) := fun q => nm_not fp.nm q ⟨_, Ep.lt, rfl⟩
  have t1 : inB P (st (p + 1)) ((st p).ac (cc p)) := (ch.in_ hp _).mpr (.inl rfl)
  obtain ⟨q, hq, tq⟩ := ch.left same (by omega) (by omega) t0 t1
  have fq := ch.fin q (by omega)
  have Eq := ch.ent q hq
  have Lq := ch.lea q hq
  have D : Sol P (fun v => if v = (st q).ac (cc q) then (st q).u else - sm P.C fun i => if (st q).un i = v then (st q).T i (cc q) else 0) (- (st q).T P.C (cc q)) 0 := by
    refine (sol_rows fq.ok fq.nm).mpr fun i hi => ?_
    rw [sm_one Eq.lt fun j hj ne => by
      rw [if_neg (fun e => ne (nm_ac fq.nm hj Eq.lt e)), sm_zero fun i hi => if_neg (nm_dis fq.nm hi hj)]
      simp]
    rw [if_pos rfl, Int.mul_zero]
    unfold xz
    by_cases g : i < P.C
    · rw [if_pos g]
      dsimp only
      rw [if_neg (nm_dis fq.nm g Eq.lt), sm_one g fun k hk ne => if_neg fun e => ne (nm_un fq.nm hk g e), if_pos rfl, Int.mul_neg, Int.mul_comm]
      omega
    · rw [if_neg g, show i = P.C by omega, Int.mul_neg, Int.mul_comm]
      omega
  have last := (sol_rows fp.ok fp.nm).mp D P.C (by omega)
  unfold xz at last
  rw [if_neg (by omega), Int.mul_zero] at last
  have neg : sm P.R (fun j => (st p).T P.C j * (if (st p).ac j = (st q).ac (cc q) then (st q).u else - sm P.C fun i => if (st q).un i = (st p).ac j then (st q).T i (cc q) else 0)) < 0 := by
    have z := Int.mul_pos fp.ok.pos (show 0 < - (st q).T P.C (cc q) by have := Eq.neg; omega)
    omega
  obtain ⟨j, hj, hneg⟩ := sm_neg_ex neg
  have nv : ¬ inB P (st p) ((st p).ac j) := fun z => nm_not fp.nm z ⟨j, hj, rfl⟩
  by_cases c1 : (st p).ac j = (st q).ac (cc q)
  · rw [if_pos c1] at hneg
    have tn : (st p).T P.C j < 0 := by
      rcases Int.lt_or_le ((st p).T P.C j) 0 with g | g
      · exact g
      · have := Int.mul_nonneg g (Int.le_of_lt fq.ok.pos)
        omega
    have l1 := Ep.low j hj tn
    have l2 := top q hq
    have e : (st q).un (rc q) = (st q).ac (cc q) := by rw [tq]; omega
    exact nm_dis fq.nm Lq.lt Eq.lt e
  · rw [if_neg c1] at hneg
    have ne0 : sm P.C (fun i => if (st q).un i = (st p).ac j then (st q).T i (cc q) else 0) ≠ 0 := fun z => by
      rw [z] at hneg
      simp at hneg
    obtain ⟨i, hi, hne⟩ := sm_ex ne0
    have ei : (st q).un i = (st p).ac j := Decidable.byContradiction fun n => hne (if_neg n)
    have val : sm P.C (fun i => if (st q).un i = (st p).ac j then (st q).T i (cc q) else 0) = (st q).T i (cc q) := by
      rw [sm_one hi fun k hk ne => if_neg fun e => ne (nm_un fq.nm hk hi (e.trans ei.symm)), if_pos ei]
    rw [val] at hneg
    obtain ⟨i', hi', e'⟩ := ch.moved same (by omega) (by omega) nv (⟨i, hi, ei⟩ : inB P (st q) ((st p).ac j))
    have le := top i' hi'
    rw [e'] at le
    rcases Int.lt_or_le ((st p).T P.C j) 0 with g | g
    · have l1 := Ep.low j hj g
      have et : (st p).ac j = (st p).ac (cc p) := by omega
      have er : i = rc q := nm_un fq.nm hi Lq.lt (by rw [ei, tq, et])
      have pos := Lq.pos
      rw [← er] at pos
      have := Int.mul_nonneg_of_nonpos_of_nonpos (Int.le_of_lt g) (show - (st q).T i (cc q) ≤ 0 by omega)
      omega
    · have ti : 0 < (st q).T i (cc q) := by
        rcases Int.lt_or_le 0 ((st q).T i (cc q)) with h | h
        · exact h
        · have := Int.mul_nonneg g (show 0 ≤ - (st q).T i (cc q) by omega)
          omega
      have x0 : X P (st p) ((st p).ac j) = 0 := X_ac fp.nm hj
      have x1 : X P (st q) ((st p).ac j) = 0 := (ch.corner flat _ q (by omega)).mpr ((ch.corner flat _ p (by omega)).mp x0)
      rw [← ei, X_un fq.nm hi] at x1
      have fl := flat q hq
      rcases Lq.low i hi ti with h | ⟨_, h⟩
      · rw [x1, fl, Int.zero_mul, Int.zero_mul] at h
        omega
      · rw [tq, ei] at h
        have et : (st p).ac j = (st p).ac (cc p) := by omega
        have ec := nm_ac fp.nm hj Ep.lt et
        have := Ep.neg
        rw [← ec] at this
        omega
end
end SX
set_option Elab.async false
set_option linter.all false
set_option maxRecDepth 100000
set_option autoImplicit false
set_option maxHeartbeats 1000000
namespace SX
def cd (P : Pb) (s : Tb) : List Bool := (List.range (P.R + P.C)).map fun v => (List.range P.C).any fun i => decide (s.un i = v)
theorem cd_same {P : Pb} {a b : Tb} (fa : Fin P a) (fb : Fin P b) (e : cd P a = cd P b) : Same P a b := fun v => by
  have key : ∀ {s : Tb}, Fin P s → (inB P s v ↔ v < P.R + P.C ∧ ((List.range P.C).any fun i => decide (s.un i = v)) = true) := fun {s} f => by
    rw [List.any_eq_true]
    constructor
    · rintro ⟨i, hi, q⟩
      exact ⟨q ▸ nm_lt f.nm hi, i, List.mem_range.mpr hi, decide_eq_true q⟩
    · rintro ⟨_, i, hi, q⟩
      exact ⟨i, List.mem_range.mp hi, of_decide_eq_true q⟩
  rw [key fa, key fb]
  by_cases h : v < P.R + P.C
  · have z := congrArg (fun l : List Bool => l[v]?) e
    simp only [cd, List.getElem?_map, List.getElem?_range h, Option.map_some, Option.some.injEq] at z
    rw [z]
  · constructor <;> intro q <;> exact absurd q.1 h
def allB : Nat → List (List Bool)
  | 0 => [[]]
  | n + 1 => (allB n).map (true :: ·) ++ (allB n).map (false :: ·)
theorem allB_len : ∀ n : Nat, (allB n).length = 2 ^ n
  | 0 => rfl
  | n + 1 => by rw [allB, List.length_append, List.length_map, List.length_map, allB_len n, Nat.pow_succ]; omega
theorem allB_mem : ∀ l : List Bool, l ∈ allB l.length
  | [] => List.mem_cons_self
  | true :: l => List.mem_append_left _ (List.mem_map_of_mem (allB_mem l))
  | false :: l => List.mem_append_right _ (List.mem_map_of_mem (allB_mem l))
theorem fitB {α : Type} [DecidableEq α] {xs ys : List α} (hd : xs.Nodup) (hs : ∀ x ∈ xs, x ∈ ys) : xs.length ≤ ys.length := by
  induction xs generalizing ys with
  | nil => simp
  | cons x xs ih =>
    have hx : x ∈ ys := hs x (by simp)
    have hd' := List.nodup_cons.mp hd
    have z := ih (ys := ys.erase x) hd'.2 (fun y hy => (List.mem_erase_of_ne (fun (e : y = x) => hd'.1 (e ▸ hy))).mpr (hs y (by simp [hy])))
    rw [List.length_erase_of_mem hx] at z
    have : 0 < ys.length := List.length_pos_of_mem hx
    simp only [List.length_cons]
    omega
section
variable {P : Pb} {st : Nat → Tb} {rc cc : Nat → Nat} {k : Nat}
theorem Chain.sub (ch : Chain P st rc cc k) {i j : Nat} (h : i ≤ j) (hj : j ≤ k) : Chain P (fun m => st (i + m)) (fun m => rc (i + m)) (fun m => cc (i + m)) (j - i) :=
  ⟨fun m hm => ch.fin (i + m) (by omega), fun m hm => ch.ent (i + m) (by omega), fun m hm => ch.lea (i + m) (by omega), fun m hm => ch.nxt (i + m) (by omega)⟩
theorem Chain.few (ch : Chain P st rc cc k) : k < 2 ^ (P.R + P.C) := by
  have nd : ((List.range (k + 1)).map fun i => cd P (st i)).Nodup := by
    rw [List.nodup_iff_pairwise_ne, List.pairwise_map]
    refine (List.pairwise_lt_range (n := k + 1)).imp_of_mem fun {a b} ha hb lt e => ?_
    have hb' := List.mem_range.mp hb
    have c := ch.sub (i := a) (j := b) (by omega) (by omega)
    refine no_ring c (by omega) ?_
    show Same P (st (a + 0)) (st (a + (b - a)))
    rw [show a + (b - a) = b by omega]
    exact cd_same (ch.fin a (by omega)) (ch.fin b (by omega)) e
  have z := fitB (ys := allB (P.R + P.C)) nd fun x hx => by
    obtain ⟨i, _, rfl⟩ := List.mem_map.mp hx
    have := allB_mem (cd P (st i))
    rwa [show (cd P (st i)).length = P.R + P.C by simp [cd]] at this
  rw [List.length_map, List.length_range, allB_len] at z
  omega
def Run (P : Pb) (s : Tb) (k : Nat) : Prop := ∃ st rc cc, Chain P st rc cc k ∧ st k = s
theorem Run.zero {s : Tb} (f : Fin P s) : Run P s 0 := ⟨fun _ => s, fun _ => 0, fun _ => 0, ⟨fun _ _ => f, fun i h => by omega, fun i h => by omega, fun i h => by omega⟩, rfl⟩
theorem Run.fin {s : Tb} (h : Run P s k) : Fin P s := by
  obtain ⟨st, rc, cc, ch, e⟩ := h
  rw [← e]
  exact ch.fin k (Nat.le_refl _)
theorem Run.few {s : Tb} (h : Run P s k) : k < 2 ^ (P.R + P.C) := by
  obtain ⟨st, rc, cc, ch, e⟩ := h
  exact ch.few
theorem Run.step {s : Tb} (h : Run P s k) {r c : Nat} (E : Ent P s c) (L : Lea P s c r) : Run P (piv s r c) (k + 1) := by
  have f := fin_piv h.fin E L
  obtain ⟨st, rc, cc, ch, rfl⟩ := h
  refine ⟨fun i => if i ≤ k then st i else piv (st k) r c, fun i => if i < k then rc i else r, fun i => if i < k then cc i else c, ⟨fun i hi => ?_, fun i hi => ?_, fun i hi => ?_, fun i hi => ?_⟩, ?_⟩
  · by_cases g : i ≤ k
    · simp only [if_pos g]; exact ch.fin i g
    · simp only [if_neg g]; exact f
  · by_cases g : i < k
    · simp only [if_pos (Nat.le_of_lt g), if_pos g]; exact ch.ent i g
    · rw [show i = k by omega]
      simp only [if_pos (Nat.le_refl k), if_neg (Nat.lt_irrefl k)]; exact E
  · by_cases g : i < k
    · simp only [if_pos (Nat.le_of_lt g), if_pos g]; exact ch.lea i g
    · rw [show i = k by omega]
      simp only [if_pos (Nat.le_refl k), if_neg (Nat.lt_irrefl k)]; exact L
  · by_cases g : i < k
    · simp only [if_pos (Nat.le_of_lt g), if_pos g, if_pos (show i + 1 ≤ k from g)]; exact ch.nxt i g
    · rw [show i = k by omega]
      simp only [if_pos (Nat.le_refl k), if_neg (Nat.lt_irrefl k), if_neg (show ¬ k + 1 ≤ k by omega)]
  · simp only [if_neg (show ¬ k + 1 ≤ k by omega)]
def Bnd (P : Pb) : Prop := ∀ x z, Sol P x z 0 → (∀ v, v < P.R + P.C → 0 ≤ x v) → ∀ v, v < P.R + P.C → x v = 0
theorem bar_ex {s : Tb} (b : Bnd P) (f : Fin P s) {c : Nat} (hc : c < P.R) : ∃ i, i < P.C ∧ 0 < s.T i c := Decidable.byContradiction fun no => by
  have le : ∀ i, i < P.C → s.T i c ≤ 0 := fun i hi => Int.not_lt.mp fun g => no ⟨i, hi, g⟩
  have D : Sol P (fun v => if v = s.ac c then s.u else - sm P.C fun i => if s.un i = v then s.T i c else 0) (- s.T P.C c) 0 := by
    refine (sol_rows f.ok f.nm).mpr fun i hi => ?_
    rw [sm_one hc fun j hj ne => by
      rw [if_neg (fun e => ne (nm_ac f.nm hj hc e)), sm_zero fun i hi => if_neg (nm_dis f.nm hi hj)]
      simp]
    rw [if_pos rfl, Int.mul_zero]
    unfold xz
    by_cases g : i < P.C
    · rw [if_pos g]
      dsimp only
      rw [if_neg (nm_dis f.nm g hc), sm_one g fun k hk ne => if_neg fun e => ne (nm_un f.nm hk g e), if_pos rfl, Int.mul_neg, Int.mul_comm]
      omega
    · rw [if_neg g, show i = P.C by omega, Int.mul_neg, Int.mul_comm]
      omega
  have z := b _ _ D (fun v hv => by
    show 0 ≤ if v = s.ac c then s.u else _
    split
    · exact Int.le_of_lt f.ok.pos
    · have : 0 ≤ sm P.C (fun i => - (if s.un i = v then s.T i c else 0)) := sm_nn fun i hi => by
        split
        · have := le i hi
          omega
        · omega
      have e : sm P.C (fun i => - (if s.un i = v then s.T i c else 0)) = - sm P.C fun i => if s.un i = v then s.T i c else 0 := by
        have := sm_mul (-1) P.C fun i => if s.un i = v then s.T i c else 0
        rw [sm_congr (g := fun i => (-1) * if s.un i = v then s.T i c else 0) fun i _ => by omega, this]
        omega
      omega) (s.ac c) (nm_al f.nm hc)
  rw [if_pos rfl] at z
  have := f.ok.pos
  omega
end
end SX
set_option Elab.async false
set_option linter.all false
set_option maxRecDepth 100000
set_option autoImplicit false
set_option maxHeartbeats 1000000
namespace SX
def pbA (C R : Nat) (A : Nat → Nat → Int) (b : Int) : Pb where
  C := C
  R := R
  col := fun v t => if v < R then (if t < C then A t v else -1) else if t = v - R then 1 else 0
  q := fun t => if t < C then b else 0
def tb0 (C R : Nat) (A : Nat → Nat → Int) (b : Int) : Tb where
  T := fun i j => if i < C then (if j < R then A i j else b) else if j < R then -1 else 0
  u := 1
  un := fun i => R + i
  ac := fun j => j
theorem sm_app (f : Nat → Int) (n : Nat) : ∀ m : Nat, sm (n + m) f = sm n f + sm m fun i => f (n + i)
  | 0 => by simp [sm]
  | m + 1 => by
    show sm (n + m) f + f (n + m) = _
    rw [sm_app f n m, sm]
    omega
section
variable {C R : Nat} {A : Nat → Nat → Int} {b : Int}
theorem sol_pb {x : Nat → Int} {z h : Int} : Sol (pbA C R A b) x z h ↔ (∀ t, t < C → sm R (fun r => x r * A t r) + x (R + t) = h * b) ∧ z = sm R x := by
  have sum1 : ∀ t, t < C → sm (R + C) (fun v => x v * (pbA C R A b).col v t) + z * unit C t = sm R (fun r => x r * A t r) + x (R + t) := fun t ht => by
    rw [sm_app]
    have e1 : sm R (fun v => x v * (pbA C R A b).col v t) = sm R fun r => x r * A t r := sm_congr fun r hr => by
      show x r * (if r < R then (if t < C then A t r else -1) else _) = _
      rw [if_pos hr, if_pos ht]
    have e2 : sm C (fun i => x (R + i) * (pbA C R A b).col (R + i) t) = x (R + t) := by
      rw [sm_one ht fun i hi ne => by
        show x (R + i) * (if R + i < R then _ else if t = R + i - R then 1 else 0) = 0
        rw [if_neg (by omega), if_neg (by omega), Int.mul_zero]]
      show x (R + t) * (if R + t < R then _ else if t = R + t - R then 1 else 0) = _
      rw [if_neg (by omega), if_pos (by omega), Int.mul_one]
    have e3 : unit C t = 0 := if_neg (by omega)
    rw [e1, e2, e3, Int.mul_zero]
    omega
  have sum2 : sm (R + C) (fun v => x v * (pbA C R A b).col v C) + z * unit C C = z - sm R x := by
    rw [sm_app]
    have e1 : sm R (fun v => x v * (pbA C R A b).col v C) = - sm R x := by
      have := sm_mul (-1) R x
      rw [sm_congr (g := fun r => (-1) * x r) fun r hr => by
        show x r * (if r < R then (if C < C then A C r else -1) else _) = _
        rw [if_pos hr, if_neg (by omega), Int.mul_comm], this]
      omega
    have e2 : sm C (fun i => x (R + i) * (pbA C R A b).col (R + i) C) = 0 := sm_zero fun i hi => by
      show x (R + i) * (if R + i < R then _ else if C = R + i - R then 1 else 0) = 0
      rw [if_neg (by omega), if_neg (by omega), Int.mul_zero]
    have e3 : unit C C = 1 := if_pos rfl
    rw [e1, e2, e3, Int.mul_one]
    omega
  constructor
  · intro sl
    refine ⟨fun t ht => ?_, ?_⟩
    · have a := sl t (show t ≤ C by omega)
      show _ = _
      rw [← sum1 t ht]
      refine Eq.trans a ?_
      show h * (if t < C then b else 0) = _
      rw [if_pos ht]
    · have a := sl C (Nat.le_refl C)
      have a' : sm (R + C) (fun v => x v * (pbA C R A b).col v C) + z * unit C C = h * (if C < C then b else 0) := a
      rw [sum2, if_neg (by omega), Int.mul_zero] at a'
      omega
  · rintro ⟨h1, h2⟩ t ht
    have ht' : t ≤ C := ht
    show sm (R + C) (fun v => x v * (pbA C R A b).col v t) + z * unit C t = h * (if t < C then b else 0)
    by_cases g : t < C
    · rw [sum1 t g, if_pos g, h1 t g]
    · have e : t = C := by omega
      rw [e, sum2, if_neg (by omega), h2, Int.mul_zero]
      omega
theorem fin0 (hb : 0 ≤ b) : Fin (pbA C R A b) (tb0 C R A b) := by
  have bu : ∀ i, i < C + 1 → bas (pbA C R A b) (tb0 C R A b) i = unit i := fun i hi => by
    show (if i < C then (fun t => if R + i < R then _ else if t = R + i - R then 1 else 0) else unit C) = _
    by_cases g : i < C
    · rw [if_pos g]
      funext t
      rw [if_neg (by omega)]
      unfold unit
      by_cases q : t = i
      · rw [if_pos q, if_pos (by omega)]
      · rw [if_neg q, if_neg (by omega)]
    · rw [if_neg g, show i = C by omega]
  refine ⟨⟨Int.zero_lt_one, ?_, fun j hj t ht => ?_⟩, fun f => ?_, fun i hi => ?_⟩
  · show det (C + 1) _ = 1
    rw [← det_unit (C + 1)]
    exact det_congr fun k hk t _ => by rw [bu k hk]
  · have hj' : j ≤ R := hj
    have ht' : t ≤ C := ht
    show 1 * nbc (pbA C R A b) (tb0 C R A b) j t = sm (C + 1) fun i => (tb0 C R A b).T i j * bas (pbA C R A b) (tb0 C R A b) i t
    rw [sm_one (k := t) (by omega) fun i hi ne => by
      rw [bu i hi]
      show _ * (if t = i then 1 else 0) = 0
      rw [if_neg (fun e => ne e.symm), Int.mul_zero]]
    rw [bu t (by omega), show unit t t = 1 from if_pos rfl, Int.mul_one, Int.one_mul]
    show (if j < R then (fun t => if j < R then (if t < C then A t j else -1) else if t = j - R then 1 else 0) else fun t => if t < C then b else 0) t = if t < C then (if j < R then A t j else b) else if j < R then -1 else 0
    by_cases g : j < R
    · simp only [if_pos g]
    · simp only [if_neg g]
  · show sm (R + C) f = sm C (fun i => f (R + i)) + sm R fun j => f j
    rw [sm_app]
    exact Int.add_comm _ _
  · have hi' : i < C := hi
    show 0 ≤ if i < C then (if R < R then A i R else b) else _
    rw [if_pos hi', if_neg (by omega)]
    exact hb
theorem bnd0 (hC : 0 < C) (hA : ∀ t, t < C → ∀ r, r < R → 0 < A t r) : Bnd (pbA C R A b) := fun x z sl nn v hv => by
  obtain ⟨h1, _⟩ := sol_pb.mp sl
  have hv' : v < R + C := hv
  have xn : ∀ v, v < R + C → 0 ≤ x v := nn
  have zero : ∀ {n : Nat} {f : Nat → Int}, (∀ i, i < n → 0 ≤ f i) → sm n f = 0 → ∀ i, i < n → f i = 0 := fun {n f} hf e i hi => by
    rw [sm_split hi] at e
    have : 0 ≤ sm n (fun k => if k = i then 0 else f k) := sm_nn fun k hk => by
      split
      · omega
      · exact hf k hk
    have := hf i hi
    omega
  have parts : ∀ t, t < C → sm R (fun r => x r * A t r) = 0 ∧ x (R + t) = 0 := fun t ht => by
    have a := h1 t ht
    have p : 0 ≤ sm R (fun r => x r * A t r) := sm_nn fun r hr => Int.mul_nonneg (xn r (by omega)) (Int.le_of_lt (hA t ht r hr))
    have q := xn (R + t) (by omega)
    omega
  by_cases g : v < R
  · have e := zero (fun r hr => Int.mul_nonneg (xn r (by omega)) (Int.le_of_lt (hA 0 hC r hr))) (parts 0 hC).1 v g
    rcases Int.mul_eq_zero.mp e with q | q
    · exact q
    · have := hA 0 hC v g
      omega
  · have e := (parts (v - R) (by omega)).2
    rwa [show R + (v - R) = v by omega] at e
def Yp (C R : Nat) (s : Tb) (t : Nat) : Int := sm R fun j => if s.ac j = R + t then s.T C j else 0
structure Out (C R : Nat) (A : Nat → Nat → Int) (b : Int) (s : Tb) : Prop where
  y0 : ∀ t, t < C → 0 ≤ Yp C R s t
  dual : ∀ r, r < R → s.u ≤ sm C fun t => Yp C R s t * A t r
  ysum : sm C (Yp C R s) * b = s.T C R
  x0 : ∀ r, r < R → 0 ≤ X (pbA C R A b) s r
  prim : ∀ t, t < C → sm R (fun r => X (pbA C R A b) s r * A t r) ≤ b * s.u
  xsum : sm R (X (pbA C R A b) s) = s.T C R
  tot : 0 < s.T C R
theorem out_ok {s : Tb} (f : Fin (pbA C R A b) s) (hR : 0 < R) (hb : 0 < b) (hA : ∀ t, t < C → ∀ r, r < R → 0 < A t r) (h : ∀ j, j < R → 0 ≤ s.T C j) : Out C R A b s := by
  have nm := f.nm
  have xn : ∀ v, 0 ≤ X (pbA C R A b) s v := fun v => sm_nn fun i hi => by
    split
    · exact f.fe i hi
    · omega
  obtain ⟨p1, p2⟩ := sol_pb.mp (X_sol f.ok nm)
  have p2' : s.T C R = sm R (X (pbA C R A b) s) := p2
  have last : ∀ {x : Nat → Int} {z h : Int}, Sol (pbA C R A b) x z h → s.u * z + sm R (fun j => s.T C j * x (s.ac j)) = s.T C R * h := fun {x z h} sl => by
    have a := (sol_rows f.ok nm).mp sl C (Nat.lt_succ_self C)
    unfold xz at a
    have g : ¬ C < (pbA C R A b).C := Nat.lt_irrefl C
    rw [if_neg g] at a
    exact a
  have y0 : ∀ t, t < C → 0 ≤ Yp C R s t := fun t _ => sm_nn fun j hj => by
    split
    · exact h j hj
    · omega
  have over : ∀ g : Nat → Int, sm R (fun j => s.T C j * if s.ac j < R then 0 else g (s.ac j - R)) = sm C fun t => Yp C R s t * g t := fun g => by
    have e1 : ∀ t, t < C → Yp C R s t * g t = sm R fun j => (if s.ac j = R + t then s.T C j else 0) * g t := fun t _ => (sm_mulr (g t) R _).symm
    rw [sm_congr e1, sm_comm]
    refine sm_congr fun j hj => ?_
    have lt : s.ac j < R + C := nm_al nm (show j < (pbA C R A b).R from hj)
    by_cases q : s.ac j < R
    · rw [if_pos q, Int.mul_zero]
      exact (sm_zero fun t ht => by rw [if_neg (by omega), Int.zero_mul]).symm
    · rw [if_neg q, sm_one (k := s.ac j - R) (by omega) fun t ht ne => by rw [if_neg (by omega), Int.zero_mul], if_pos (by omega)]
  have dual : ∀ r, r < R → s.u ≤ sm C fun t => Yp C R s t * A t r := fun r hr => by
    have sl : Sol (pbA C R A b) (fun v => if v < R then (if v = r then 1 else 0) else - A (v - R) r) 1 0 := sol_pb.mpr ⟨fun t ht => by
      rw [sm_one hr fun k hk ne => by
        show (if k < R then (if k = r then (1 : Int) else 0) else _) * A t k = 0
        rw [if_pos hk, if_neg ne, Int.zero_mul]]
      show (if r < R then (if r = r then (1 : Int) else 0) else _) * A t r + (if R + t < R then _ else - A (R + t - R) r) = 0 * b
      rw [if_pos hr, if_pos rfl, if_neg (by omega), show R + t - R = t by omega]
      omega, by
      rw [sm_one hr fun k hk ne => by
        show (if k < R then (if k = r then (1 : Int) else 0) else _) = 0
        rw [if_pos hk, if_neg ne]]
      show 1 = if r < R then (if r = r then (1 : Int) else 0) else _
      rw [if_pos hr, if_pos rfl]⟩
    have a := last sl
    have e : sm R (fun j => s.T C j * if s.ac j < R then (if s.ac j = r then (1 : Int) else 0) else - A (s.ac j - R) r) = sm R (fun j => s.T C j * if s.ac j < R then (if s.ac j = r then (1 : Int) else 0) else 0) - sm R (fun j => s.T C j * if s.ac j < R then 0 else A (s.ac j - R) r) := by
      rw [← sm_sub]
      refine sm_congr fun j _ => ?_
      split
      · omega
      · rw [Int.mul_zero, Int.mul_neg]
        omega
    rw [e, over fun t => A t r] at a
    have p : 0 ≤ sm R (fun j => s.T C j * if s.ac j < R then (if s.ac j = r then (1 : Int) else 0) else 0) := sm_nn fun j hj => Int.mul_nonneg (h j hj) (by
      split
      · split <;> omega
      · omega)
    omega
  have ysum : sm C (Yp C R s) * b = s.T C R := by
    have sl : Sol (pbA C R A b) (fun v => if v < R then 0 else b) 0 1 := sol_pb.mpr ⟨fun t ht => by
      rw [sm_zero fun k hk => by
        show (if k < R then (0 : Int) else b) * A t k = 0
        rw [if_pos hk, Int.zero_mul]]
      show 0 + (if R + t < R then (0 : Int) else b) = 1 * b
      rw [if_neg (by omega)]
      omega, (sm_zero fun k hk => if_pos hk).symm⟩
    have a := last sl
    have o := over fun _ => b
    rw [sm_mulr] at o
    rw [← o]
    have e : sm R (fun j => s.T C j * if s.ac j < R then (0 : Int) else b) = s.T C R := by
      have a' : s.u * 0 + sm R (fun j => s.T C j * if s.ac j < R then (0 : Int) else b) = s.T C R * 1 := a
      omega
    exact e
  refine ⟨y0, dual, ysum, fun r _ => xn r, fun t ht => ?_, p2'.symm, ?_⟩
  · have a := p1 t ht
    have c := xn (R + t)
    have e : b * s.u = s.u * b := Int.mul_comm _ _
    omega
  · rw [← ysum]
    refine Int.mul_pos ?_ hb
    have d := dual 0 hR
    have up := f.ok.pos
    rcases Int.lt_or_le 0 (sm C (Yp C R s)) with g | g
    · exact g
    · exfalso
      have z : ∀ t, t < C → Yp C R s t = 0 := fun t ht => by
        rw [sm_split ht] at g
        have : 0 ≤ sm C (fun k => if k = t then 0 else Yp C R s k) := sm_nn fun k hk => by
          split
          · omega
          · exact y0 k hk
        have := y0 t ht
        omega
      rw [sm_zero fun t ht => by rw [z t ht, Int.zero_mul]] at d
      omega
end
end SX
set_option Elab.async false
set_option linter.all false
set_option maxRecDepth 100000
set_option autoImplicit false
set_option maxHeartbeats 1000000
namespace SX
theorem dB_pow {B b : Nat} (hB : B ≤ 2 ^ b) : ∀ {n : Nat}, n ≤ 256 → dB B n ≤ 2 ^ ((b + 8) * n)
  | 0, _ => Nat.le_refl _
  | n + 1, h => by
    have a := dB_pow hB (n := n) (by omega)
    show (n + 1) * (B * dB B n) ≤ _
    have e : 2 ^ ((b + 8) * (n + 1)) = 2 ^ 8 * (2 ^ b * 2 ^ ((b + 8) * n)) := by
      rw [← Nat.pow_add, ← Nat.pow_add]
      congr 1
      rw [Nat.mul_succ]
      omega
    rw [e]
    exact Nat.mul_le_mul (by omega) (Nat.mul_le_mul hB a)
section
variable {C R : Nat} {A : Nat → Nat → Int} {b : Int} {s : Tb}
theorem T_abs {B : Nat} (f : Fin (pbA C R A b) s) (hA : ∀ t, t < C → ∀ r, r < R → (A t r).natAbs ≤ B) (hb : b.natAbs ≤ B) (h1 : 1 ≤ B) :
    (∀ i, i ≤ C → ∀ j, j ≤ R → (s.T i j).natAbs ≤ dB B (C + 1)) ∧ s.u.natAbs ≤ dB B (C + 1) := by
  have hc : ∀ v t, ((pbA C R A b).col v t).natAbs ≤ B := fun v t => by
    show (if v < R then (if t < C then A t v else -1) else if t = v - R then (1 : Int) else 0).natAbs ≤ B
    split
    · split
      · exact hA _ (by assumption) _ (by assumption)
      · exact h1
    · split
      · exact h1
      · exact Nat.zero_le _
  have hq : ∀ t, ((pbA C R A b).q t).natAbs ≤ B := fun t => by
    show (if t < C then b else 0).natAbs ≤ B
    split
    · exact hb
    · exact Nat.zero_le _
  have hB : ∀ i t, (bas (pbA C R A b) s i t).natAbs ≤ B := fun i t => by
    unfold bas
    split
    · exact hc _ _
    · unfold unit
      split
      · exact h1
      · exact Nat.zero_le _
  have hN : ∀ j t, (nbc (pbA C R A b) s j t).natAbs ≤ B := fun j t => by
    unfold nbc
    split
    · exact hc _ _
    · exact hq _
  refine ⟨fun i hi j hj => ?_, ?_⟩
  · rw [← cramer f.ok (show i < (pbA C R A b).C + 1 from Nat.lt_succ_of_le hi) (show j ≤ (pbA C R A b).R from hj)]
    refine det_abs fun k _ t _ => ?_
    unfold upd
    split
    · exact hN _ _
    · exact hB _ _
  · rw [← f.ok.dt]
    exact det_abs fun k _ t _ => hB _ _
end
def rsm : Nat → (Nat → Rat) → Rat
  | 0, _ => 0
  | n + 1, f => rsm n f + f n
theorem rsm_congr : ∀ {n : Nat} {f g : Nat → Rat}, (∀ i, i < n → f i = g i) → rsm n f = rsm n g
  | 0, _, _, _ => rfl
  | n + 1, f, g, h => by rw [rsm, rsm, rsm_congr fun i hi => h i (by omega), h n (by omega)]
theorem rsm_mul (c : Rat) : ∀ (n : Nat) (f : Nat → Rat), rsm n (fun i => c * f i) = c * rsm n f
  | 0, _ => by simp [rsm]
  | n + 1, f => by rw [rsm, rsm, rsm_mul c n f, Rat.mul_add]
theorem rsm_zero : ∀ n : Nat, rsm n (fun _ => 0) = 0
  | 0 => rfl
  | n + 1 => by
    rw [rsm, rsm_zero n]
    exact Rat.add_zero 0
theorem div_le_ {a c t : Rat} (ht : 0 < t) (h : a ≤ c * t) : a / t ≤ c := Rat.not_lt.mp fun g => by
  rw [Rat.lt_div_iff ht] at g
  exact absurd g (Rat.not_lt.mpr h)
theorem le_div_ {a c t : Rat} (ht : 0 < t) (h : c * t ≤ a) : c ≤ a / t := Rat.not_lt.mp fun g => by
  rw [Rat.div_lt_iff ht] at g
  exact absurd g (Rat.not_lt.mpr h)
theorem rsm_add : ∀ (n : Nat) (f g : Nat → Rat), rsm n (fun i => f i + g i) = rsm n f + rsm n g
  | 0, _, _ => (Rat.add_zero 0).symm
  | n + 1, f, g => by
    rw [rsm, rsm, rsm, rsm_add n f g]
    grind
theorem rsm_le : ∀ {n : Nat} {f g : Nat → Rat}, (∀ i, i < n → f i ≤ g i) → rsm n f ≤ rsm n g
  | 0, _, _, _ => Rat.le_refl
  | n + 1, f, g, h => by
    have a := rsm_le (n := n) (f := f) (g := g) fun i hi => h i (by omega)
    have b := h n (by omega)
    rw [rsm, rsm]
    grind
theorem rsm_nn {n : Nat} {f : Nat → Rat} (h : ∀ i, i < n → 0 ≤ f i) : 0 ≤ rsm n f := by
  have a := rsm_le (n := n) (f := fun _ => 0) (g := f) h
  rwa [rsm_zero] at a
theorem rsm_cast : ∀ (n : Nat) (f : Nat → Int), ((sm n f : Int) : Rat) = rsm n fun i => ((f i : Int) : Rat)
  | 0, _ => rfl
  | n + 1, f => by
    rw [sm, rsm, ← rsm_cast n f]
    exact Rat.intCast_add _ _
theorem rsm_comm (n m : Nat) (f : Nat → Nat → Rat) : rsm n (fun i => rsm m fun j => f i j) = rsm m (fun j => rsm n fun i => f i j) := by
  induction n with
  | zero =>
    show 0 = rsm m fun j => rsm 0 fun i => f i j
    exact (rsm_zero m).symm
  | succ n ih =>
    show rsm n (fun i => rsm m fun j => f i j) + _ = rsm m fun j => rsm n (fun i => f i j) + f n j
    rw [rsm_add, ih]
structure Wts (n : Nat) (p : Nat → Rat) : Prop where
  nn : ∀ i, i < n → 0 ≤ p i
  one : rsm n p = 1
structure Mix (C R : Nat) (Q : Nat → Nat → Rat) (v : Rat) (p q : Nat → Rat) : Prop where
  wp : Wts C p
  wq : Wts R q
  low : ∀ r, r < R → v ≤ rsm C fun c => p c * Q c r
  high : ∀ c, c < C → rsm R (fun r => q r * Q c r) ≤ v
theorem mix_ok {C R : Nat} {A : Nat → Nat → Int} {b : Int} {s : Tb} {Q : Nat → Nat → Rat} (hu : 0 < s.u) (o : Out C R A b s) (hb : 0 < b) (hQ : ∀ t, t < C → ∀ r, r < R → ((A t r : Int) : Rat) = (b : Rat) * (Q t r + 1)) :
    Mix C R Q ((s.u : Rat) / (s.T C R : Rat) - 1) (fun t => (Yp C R s t : Rat) / (sm C (Yp C R s) : Int)) (fun r => (X (pbA C R A b) s r : Rat) / (sm R (X (pbA C R A b) s) : Int)) := by
  obtain ⟨T, hT⟩ : ∃ T : Rat, T = ((s.T C R : Int) : Rat) := ⟨_, rfl⟩
  obtain ⟨β, hβ⟩ : ∃ β : Rat, β = ((b : Int) : Rat) := ⟨_, rfl⟩
  obtain ⟨u, hu'⟩ : ∃ u : Rat, u = ((s.u : Int) : Rat) := ⟨_, rfl⟩
  obtain ⟨S, hS⟩ : ∃ S : Rat, S = ((sm C (Yp C R s) : Int) : Rat) := ⟨_, rfl⟩
  have T0 : 0 < T := by rw [hT]; exact Rat.intCast_pos.mpr o.tot
  have b0 : 0 < β := by rw [hβ]; exact Rat.intCast_pos.mpr hb
  have SB : S * β = T := by
    rw [hS, hβ, hT, ← o.ysum]
    exact (Rat.intCast_mul _ _).symm
  have S0 : 0 < S := by
    rcases Int.lt_or_le 0 (sm C (Yp C R s)) with g | g
    · rw [hS]; exact Rat.intCast_pos.mpr g
    · exfalso
      have := sm_nn (n := C) (f := Yp C R s) o.y0
      have e : sm C (Yp C R s) = 0 := by omega
      have z := o.ysum
      rw [e, Int.zero_mul] at z
      have := o.tot
      omega
  have XT : ((sm R (X (pbA C R A b) s) : Int) : Rat) = T := by rw [o.xsum, hT]
  have Tn : T ≠ 0 := Rat.ne_of_gt T0
  have Sn : S ≠ 0 := Rat.ne_of_gt S0
  have hone : ∀ (n : Nat) (f : Nat → Int) (V : Rat), V ≠ 0 → ((sm n f : Int) : Rat) = V → rsm n (fun i => (f i : Rat) / V) = 1 := fun n f V hV e => by
    rw [rsm_congr (g := fun i => V⁻¹ * (f i : Rat)) fun i _ => by rw [Rat.div_def, Rat.mul_comm], rsm_mul, ← rsm_cast, e]
    exact Rat.inv_mul_cancel _ hV
  have nn : ∀ (a : Int) (V : Rat), 0 ≤ a → 0 < V → 0 ≤ (a : Rat) / V := fun a V ha hV => by
    rw [Rat.div_def]
    exact Rat.mul_nonneg (Rat.intCast_nonneg.mpr ha) (Rat.le_of_lt (Rat.inv_pos.mpr hV))
  rw [← hT, ← hS, XT, ← hu']
  refine ⟨⟨fun t ht => nn _ _ (o.y0 t ht) S0, hone _ _ _ Sn hS.symm⟩, ⟨fun r hr => nn _ _ (o.x0 r hr) T0, hone _ _ _ Tn XT⟩, fun r hr => ?_, fun t ht => ?_⟩
  · have d := Rat.intCast_le_intCast.mpr (o.dual r hr)
    rw [rsm_cast, ← hu'] at d
    have e1 : rsm C (fun t => ((Yp C R s t * A t r : Int) : Rat)) = β * (S * (rsm C fun t => (Yp C R s t : Rat) / S * Q t r)) + β * S := by
      have a1 : ∀ t, t < C → ((Yp C R s t * A t r : Int) : Rat) = (β * S) * ((Yp C R s t : Rat) / S * Q t r) + (β * S) * ((Yp C R s t : Rat) / S) := fun t ht => by
        rw [Rat.intCast_mul, hQ t ht r hr, ← hβ]
        grind
      rw [rsm_congr a1, rsm_add, rsm_mul, rsm_mul, hone _ _ _ Sn hS.symm]
      grind
    rw [e1] at d
    have z : u ≤ T * ((rsm C fun t => (Yp C R s t : Rat) / S * Q t r) + 1) := by
      rw [← SB]
      grind
    obtain ⟨W, hW⟩ : ∃ W, W = rsm C fun t => (Yp C R s t : Rat) / S * Q t r := ⟨_, rfl⟩
    rw [← hW] at z ⊢
    have : u / T ≤ W + 1 := div_le_ T0 (by grind)
    grind
  · have d := Rat.intCast_le_intCast.mpr (o.prim t ht)
    rw [rsm_cast, Rat.intCast_mul, ← hu', ← hβ] at d
    have e1 : rsm R (fun r => ((X (pbA C R A b) s r * A t r : Int) : Rat)) = (β * T) * (rsm R fun r => (X (pbA C R A b) s r : Rat) / T * Q t r) + β * T := by
      have a1 : ∀ r, r < R → ((X (pbA C R A b) s r * A t r : Int) : Rat) = (β * T) * ((X (pbA C R A b) s r : Rat) / T * Q t r) + (β * T) * ((X (pbA C R A b) s r : Rat) / T) := fun r hr => by
        rw [Rat.intCast_mul, hQ t ht r hr, ← hβ]
        grind
      rw [rsm_congr a1, rsm_add, rsm_mul, rsm_mul, hone _ _ _ Tn XT]
      grind
    rw [e1] at d
    obtain ⟨W, hW⟩ : ∃ W, W = rsm R fun r => (X (pbA C R A b) s r : Rat) / T * Q t r := ⟨_, rfl⟩
    rw [← hW] at d ⊢
    have z : T * (W + 1) ≤ u := by
      have : β * (T * (W + 1)) ≤ β * u := by grind
      exact Rat.le_of_mul_le_mul_left this b0
    have : W + 1 ≤ u / T := le_div_ T0 (by grind)
    grind
end SX
set_option Elab.async false
set_option linter.all false
set_option maxRecDepth 100000
set_option autoImplicit false
set_option maxHeartbeats 1000000
namespace LW
open PySem PySem.Spec VL
theorem tix2_0 (x y : D) : idxD (.tup [x, y]) (.int 0) = some x := rfl
theorem tix2_1 (x y : D) : idxD (.tup [x, y]) (.int 1) = some y := rfl
theorem six_0 (k : Bool) (x y : D) : idxD (sq k [x, y]) (.int 0) = some x := by cases k <;> rfl
theorem six_1 (k : Bool) (x y : D) : idxD (sq k [x, y]) (.int 1) = some y := by cases k <;> rfl
def frK (k : Bool) (q : Rat) : D := sq k [.int q.num, .int (q.den : Int)]
theorem common_ok {a : Int} {b : Nat} (h0 : b ≠ 0) (hb : b < 2 ^ 8000) : m_common_part (.int a) (.int (b : Int)) = .ok (.int ((Nat.gcd a.natAbs b : Nat) : Int)) := by
  have e := gcd_loopI (c := fun z0 : D × D => Rs.of (neB z0.2 (.int 0))) (f := fun z0 => (Rs.of (modD z0.1 z0.2)).bind fun d2 => Rs.ok (z0.2, d2))
    (fun a b => by simp only [neB_int, Rs.of_some]; congr 2; simp) (fun a b h => by simp only [modD_int (show (0 : Int) < (b : Int) by omega), Rs.of_some, Rs.bind_ok]) (k := 8000) (n := FUEL) (a := a) h0 hb (by decide)
  simp only [m_common_part, e, Rs.bind_ok, absD]
  rw [if_neg (by omega)]
  rfl
theorem fraction_ok {a : Int} {b : Nat} (h0 : b ≠ 0) (hb : b < 2 ^ 8000) : m_fraction (.int a) (.int (b : Int)) = .ok (frQ (mkRat a b)) := by
  have g0 : 0 < Nat.gcd a.natAbs b := Nat.gcd_pos_of_pos_right _ (by omega)
  have g1 : Nat.gcd a.natAbs b < 2 ^ 8000 := Nat.lt_of_le_of_lt (Nat.gcd_le_right _ (by omega)) hb
  have hn : decide ((b : Int) < 0) = false := decide_eq_false (by omega)
  simp only [m_fraction, common_ok h0 hb, Rs.bind_ok, ltB_int, hn, Rs.of_some, Bool.false_eq_true, if_false, fdivD_gcd g0 g1, mkRat_parts h0]
  rfl
theorem times_ok {k l : Nat} {p q : Rat} (j : Bool) (hp : BQ k p) (hq : BQ l q) (h : k + l ≤ 8000) : m_times (frK j p) (frQ q) = .ok (frQ (p * q)) := by
  have e1 : mulD (.int p.num) (.int q.num) = some (.int (p.num * q.num)) := mul_big hp.num hq.num h
  have e2 : mulD (.int (p.den : Int)) (.int (q.den : Int)) = some (.int ((p.den * q.den : Nat) : Int)) := by
    rw [mul_big (k := k) (l := l) (by simpa using hp.den) (by simpa using hq.den) h]
    rfl
  simp only [m_times, frK, frQ, six_0, six_1, tix2_0, tix2_1, Rs.of_some, Rs.bind_ok, e1, e2]
  rw [fraction_ok (Nat.mul_ne_zero p.den_nz q.den_nz) (Nat.lt_of_lt_of_le (mul_lt_pow hp.den hq.den) (Nat.pow_le_pow_right (by decide) h)), Rat.mul_def']
  rfl
theorem minus_ok {k l : Nat} {p q : Rat} (hp : BQ k p) (hq : BQ l q) (h : k + l ≤ 8000) : m_minus (frQ p) (frQ q) = .ok (frQ (p - q)) := by
  have e1 : mulD (.int p.num) (.int (q.den : Int)) = some (.int (p.num * (q.den : Int))) := mul_big hp.num (by simpa using hq.den) h
  have e3 : mulD (.int q.num) (.int (p.den : Int)) = some (.int (q.num * (p.den : Int))) := mul_big hq.num (by simpa using hp.den) (by omega)
  have e2 : mulD (.int (p.den : Int)) (.int (q.den : Int)) = some (.int ((p.den * q.den : Nat) : Int)) := by
    rw [mul_big (k := k) (l := l) (by simpa using hp.den) (by simpa using hq.den) h]
    rfl
  simp only [m_minus, frQ, tix2_0, tix2_1, Rs.of_some, Rs.bind_ok, e1, e2, e3, subD]
  rw [fraction_ok (Nat.mul_ne_zero p.den_nz q.den_nz) (Nat.lt_of_lt_of_le (mul_lt_pow hp.den hq.den) (Nat.pow_le_pow_right (by decide) h)), Rat.sub_def']
  rfl
theorem is_less_ok {k l : Nat} {p q : Rat} (hp : BQ k p) (hq : BQ l q) (h : k + l ≤ 8000) : m_is_less (frQ p) (frQ q) = .ok (.bl (decide (p < q))) := by
  have e1 : mulD (.int p.num) (.int (q.den : Int)) = some (.int (p.num * (q.den : Int))) := mul_big hp.num (by simpa using hq.den) h
  have e3 : mulD (.int q.num) (.int (p.den : Int)) = some (.int (q.num * (p.den : Int))) := mul_big hq.num (by simpa using hp.den) (by omega)
  simp only [m_is_less, frQ, tix2_0, tix2_1, Rs.of_some, Rs.bind_ok, e1, e3, ltD, ltB_int, Option.map_some, lt_cross]
theorem greater_ok {k l : Nat} {p q : Rat} (hp : BQ k p) (hq : BQ l q) (h : k + l ≤ 8000) : m_greater (frQ p) (frQ q) = .ok (frQ (qmax p q)) := by
  have t : ∀ p : Rat, tupleD [frQ p] = some (frQ p) := fun p => rfl
  simp only [m_greater, is_less_ok hp hq h, Rs.bind_ok, asB_bl, Rs.of_some, t]
  unfold qmax
  by_cases z : p < q <;> simp [z]
end LW
set_option Elab.async false
set_option linter.all false
set_option maxRecDepth 100000
set_option autoImplicit false
namespace VL
open PySem PySem.Spec L2 TL
theorem tl_tjoin (a : Str) (ys : List Str) : tl (Txt.join a ys) = joinL (tl a) (ys.map tl) := by rw [join_eq, tl_join]
theorem two {a b : Str} : a ++ " " ++ b = Txt.join " " [a, b] := by
  apply ext_tl
  rw [tl_tjoin]
  simp only [tl_append, List.map_cons, List.map_nil, joinL, List.append_assoc]
theorem idx_last (ys : List D) (y : D) : idxD (.lst (ys ++ [y])) (.int (-1)) = some y := by
  simp only [idxD, L2.atI, L2.ixN]
  rw [if_neg (by omega), if_pos (by simp; omega)]
  have e : ((-1 : Int) + ((ys ++ [y]).length : Int)).toNat = ys.length := by simp; omega
  simp only [Option.bind_some, e]
  simp
end VL
set_option Elab.async false
set_option linter.all false
set_option maxRecDepth 100000
set_option autoImplicit false
set_option maxHeartbeats 1000000
namespace LW
open PySem PySem.Spec VL SX
theorem enum_rg (g : Nat → D) : ∀ n k : Nat, enumL k ((List.range' k n).map g) = (List.range' k n).map fun (i : Nat) => .tup [.int (0 + (i : Int)), g i]
  | 0, k => rfl
  | n + 1, k => by
    rw [List.range'_succ, List.map_cons, List.map_cons, enumL, enum_rg g n (k + 1)]
theorem enumD_rg (g : Nat → D) (n : Nat) : enumD (.lst ((List.range n).map g)) = some ((List.range n).map fun (i : Nat) => .tup [.int (0 + (i : Int)), g i]) := by
  rw [List.range_eq_range']
  simp only [enumD, seqD, Option.map_some, enum_rg]
theorem foldM_rg' {ε : Type} {f : ε → D → Rs ε} {e : Nat → D} {I : Nat → ε → Prop} {N : Nat} (h : ∀ k z, k < N → I k z → ∃ z', f z (e k) = .ok z' ∧ I (k + 1) z') :
    ∀ (n k : Nat) (z : ε), k + n ≤ N → I k z → ∃ z', foldM f ((List.range' k n).map e) z = .ok z' ∧ I (k + n) z'
  | 0, k, z, _, i => ⟨z, rfl, i⟩
  | n + 1, k, z, hn, i => by
    obtain ⟨z1, e1, i1⟩ := h k z (by omega) i
    obtain ⟨z2, e2, i2⟩ := foldM_rg' h n (k + 1) z1 (by omega) i1
    refine ⟨z2, ?_, by rwa [show k + (n + 1) = k + 1 + n by omega]⟩
    rw [List.range'_succ, List.map_cons]
    simp only [foldM, e1, Rs.bind_ok, e2]
theorem foldM_rg {ε : Type} {f : ε → D → Rs ε} {e : Nat → D} {I : Nat → ε → Prop} {N : Nat} {z : ε} (h0 : I 0 z) (h : ∀ k z, k < N → I k z → ∃ z', f z (e k) = .ok z' ∧ I (k + 1) z') : ∃ z', foldM f ((List.range N).map e) z = .ok z' ∧ I N z' := by
  obtain ⟨z', e1, i⟩ := foldM_rg' h N 0 z (by omega) h0
  rw [Nat.zero_add] at i
  exact ⟨z', by rw [List.range_eq_range']; exact e1, i⟩
theorem loopM_rg' {ε β : Type} {f : ε → D → Rs (Fl ε ε)} {e : Nat → D} {I : Nat → ε → Prop} {N : Nat} (h : ∀ k z, k < N → I k z → ∃ z', (f z (e k) = .ok (.nx z') ∨ f z (e k) = .ok (.ct z')) ∧ I (k + 1) z') :
    ∀ (n k : Nat) (z : ε), k + n ≤ N → I k z → ∃ z', loopM (β := β) f ((List.range' k n).map e) z = .ok (.nx z') ∧ I (k + n) z'
  | 0, k, z, _, i => ⟨z, rfl, i⟩
  | n + 1, k, z, hn, i => by
    obtain ⟨z1, e1, i1⟩ := h k z (by omega) i
    obtain ⟨z2, e2, i2⟩ := loopM_rg' (β := β) h n (k + 1) z1 (by omega) i1
    refine ⟨z2, ?_, by rwa [show k + (n + 1) = k + 1 + n by omega]⟩
    rw [List.range'_succ, List.map_cons]
    rcases e1 with e1 | e1 <;> simp only [loopM, e1, Rs.bind_ok, e2]
theorem loopM_rg {ε β : Type} {f : ε → D → Rs (Fl ε ε)} {e : Nat → D} {I : Nat → ε → Prop} {N : Nat} {z : ε} (h0 : I 0 z) (h : ∀ k z, k < N → I k z → ∃ z', (f z (e k) = .ok (.nx z') ∨ f z (e k) = .ok (.ct z')) ∧ I (k + 1) z') : ∃ z', loopM (β := β) f ((List.range N).map e) z = .ok (.nx z') ∧ I N z' := by
  obtain ⟨z', e1, i⟩ := loopM_rg' (β := β) h N 0 z (by omega) h0
  rw [Nat.zero_add] at i
  exact ⟨z', by rw [List.range_eq_range']; exact e1, i⟩
theorem compM_rg {γ : Type} {u : D → Option γ} {fe : γ → Rs D} {e : Nat → D} {n : Nat} (g : Nat → γ) (h : Nat → D) (hu : ∀ i, u (e i) = some (g i)) (hf : ∀ i, i < n → fe (g i) = .ok (h i)) : compM u (fun _ => .ok true) fe ((List.range n).map e) = .ok ((List.range n).map h) :=
  compM_allU e g h (List.range n) (fun i _ => hu i) fun i hi => hf i (List.mem_range.mp hi)
theorem rangeD_rg {n : Nat} (h : n < 1000000) : rangeD (.int n) = some ((List.range n).map fun (i : Nat) => D.int (0 + (i : Int))) := rangeD_nat h
theorem idx_rg (g : Nat → D) {n k : Nat} (h : k < n) : idxD (.lst ((List.range n).map g)) (.int (k : Int)) = some (g k) := idxD_lst _ _ _ (by simp [h])
theorem idx_rg0 (g : Nat → D) {n k : Nat} (h : k < n) : idxD (.lst ((List.range n).map g)) (.int (0 + (k : Int))) = some (g k) := by rw [Int.zero_add, idx_rg g h]
theorem idxT_rg (g : Nat → D) {n k : Nat} (h : k < n) : idxD (.tup ((List.range n).map g)) (.int (k : Int)) = some (g k) := idxD_tup _ _ _ (by simp [h])
theorem idxT_rg0 (g : Nat → D) {n k : Nat} (h : k < n) : idxD (.tup ((List.range n).map g)) (.int (0 + (k : Int))) = some (g k) := by rw [Int.zero_add, idxT_rg g h]
theorem idx_rgl (g : Nat → D) (n : Nat) : idxD (.lst ((List.range (n + 1)).map g)) (.int (-1)) = some (g n) := by
  rw [List.range_succ, List.map_append, List.map_singleton]
  exact idx_last _ _
theorem set_rg (g : Nat → D) {n k : Nat} (h : k < n) (v : D) : setL ((List.range n).map g) (.int (k : Int)) v = some ((List.range n).map fun i => if i = k then v else g i) := by
  simp only [setL, L2.ixN, List.length_map, List.length_range]
  rw [if_pos (by omega), if_pos (by omega)]
  simp only [Option.map_some, Int.toNat_natCast, Option.some.injEq]
  refine List.ext_getElem (by simp) fun i h1 h2 => ?_
  rw [List.getElem_set]
  simp only [List.getElem_map, List.getElem_range]
  by_cases e : k = i
  · rw [if_pos e, if_pos e.symm]
  · rw [if_neg e, if_neg fun z => e z.symm]
def iL (n : Nat) (f : Nat → Int) : D := .lst ((List.range n).map fun i => .int (f i))
def nmD (n : Nat) (f : Nat → Nat) : List D := (List.range n).map fun i => .int (f i : Int)
def bdD (C R : Nat) (s : Tb) : D := .lst ((List.range (C + 1)).map fun i => iL (R + 1) (s.T i))
theorem iL_at (f : Nat → Int) {n k : Nat} (h : k < n) : idxD (iL n f) (.int (k : Int)) = some (.int (f k)) := idx_rg _ h
theorem iL_at0 (f : Nat → Int) {n k : Nat} (h : k < n) : idxD (iL n f) (.int (0 + (k : Int))) = some (.int (f k)) := idx_rg0 _ h
theorem iL_last (f : Nat → Int) (n : Nat) : idxD (iL (n + 1) f) (.int (-1)) = some (.int (f n)) := idx_rgl _ n
theorem nm_at (f : Nat → Nat) {n k : Nat} (h : k < n) : idxD (.lst (nmD n f)) (.int (k : Int)) = some (.int (f k : Int)) := idx_rg _ h
theorem nm_at0 (f : Nat → Nat) {n k : Nat} (h : k < n) : idxD (.lst (nmD n f)) (.int (0 + (k : Int))) = some (.int (f k : Int)) := idx_rg0 _ h
theorem bd_at (s : Tb) {C R k : Nat} (h : k ≤ C) : idxD (bdD C R s) (.int (k : Int)) = some (iL (R + 1) (s.T k)) := idx_rg _ (by omega)
theorem bd_last (s : Tb) (C R : Nat) : idxD (bdD C R s) (.int (-1)) = some (iL (R + 1) (s.T C)) := idx_rgl _ C
theorem neg1 : negD (.int 1) = some (.int (-1)) := rfl
theorem minQ_spec : ∀ (ps : List (Int × Int)) (p : Int × Int), minQ p ps ∈ p :: ps ∧ ∀ z ∈ p :: ps, (minQ p ps).1 ≤ z.1
  | [], p => ⟨List.mem_cons_self, fun z hz => by rw [List.mem_singleton.mp hz]; exact Int.le_refl _⟩
  | q :: ps, p => by
    obtain ⟨a, b⟩ := minQ_spec ps (if pltI q p then q else p)
    have e : minQ p (q :: ps) = minQ (if pltI q p then q else p) ps := rfl
    rw [e]
    have hp : (if pltI q p then q else p).1 ≤ p.1 ∧ (if pltI q p then q else p).1 ≤ q.1 := by
      by_cases c : pltI q p = true
      · rw [if_pos c]
        simp only [pltI, decide_eq_true_eq] at c
        exact ⟨by omega, Int.le_refl _⟩
      · rw [if_neg c]
        simp only [pltI, decide_eq_true_eq] at c
        exact ⟨Int.le_refl _, by omega⟩
    have l := b _ List.mem_cons_self
    refine ⟨?_, fun z hz => ?_⟩
    · rcases List.mem_cons.mp a with a | a
      · by_cases c : pltI q p = true
        · rw [if_pos c] at a ⊢
          rw [a]
          simp
        · rw [if_neg c] at a ⊢
          rw [a]
          simp
      · exact List.mem_cons_of_mem _ (List.mem_cons_of_mem _ a)
    · rcases List.mem_cons.mp hz with rfl | hz
      · omega
      · rcases List.mem_cons.mp hz with rfl | hz
        · omega
        · exact b z (List.mem_cons_of_mem _ hz)
section
variable {P : Pb} {s : Tb} {C R : Nat}
theorem entering_ok (hR : R < 100000) (hP : P.R = R) (hC : P.C = C) : (m_entering (iL (R + 1) (s.T C)) (.lst (nmD R s.ac)) = .ok .non ∧ ∀ j, j < R → 0 ≤ s.T C j) ∨ ∃ c : Nat, m_entering (iL (R + 1) (s.T C)) (.lst (nmD R s.ac)) = .ok (.int (c : Int)) ∧ Ent P s c := by
  have hl : lenD [.lst (nmD R s.ac)] = some (.int (R : Int)) := by simp only [nmD, lenD_lst, List.length_map, List.length_range]
  have c0 := compM_map (u := some) (fc := fun y1 => (Rs.of (idxD (iL (R + 1) (s.T C)) y1)).bind fun x2 => Rs.of (ltB x2 (.int 0))) (fe := fun y1 => (Rs.of (idxD (.lst (nmD R s.ac)) y1)).bind fun x3 => Rs.ok (.tup [x3, y1]))
    (fun (i : Nat) => D.int (0 + (i : Int))) (fun (i : Nat) => D.int (0 + (i : Int))) (fun i => decide (s.T C i < 0)) (fun i => prI ((s.ac i : Int), 0 + (i : Int))) (List.range R) (fun _ _ => rfl)
    (fun i hi => by rw [iL_at0 _ (by have := List.mem_range.mp hi; omega)]; simp only [Rs.of_some, Rs.bind_ok, ltB_int])
    (fun i hi _ => by rw [nm_at0 _ (List.mem_range.mp hi)]; rfl)
  obtain ⟨F, hF⟩ : ∃ F, F = (List.range R).filter fun i => decide (s.T C i < 0) := ⟨_, rfl⟩
  rw [← hF] at c0
  have memF : ∀ i, i ∈ F ↔ i < R ∧ s.T C i < 0 := fun i => by rw [hF, List.mem_filter, List.mem_range, decide_eq_true_eq]
  have em : F.map (fun i => prI ((s.ac i : Int), 0 + (i : Int))) = (F.map fun i => ((s.ac i : Int), 0 + (i : Int))).map prI := by rw [List.map_map]; rfl
  cases hf : F with
  | nil =>
    refine .inl ⟨?_, fun j hj => ?_⟩
    · rw [hf] at c0
      simp only [m_entering, hl, Rs.of_some, Rs.bind_ok, rangeD_rg (n := R) (by omega), c0, List.map_nil, lenD_lst, gtB_int]
      rfl
    · refine Int.not_lt.mp fun n => ?_
      have := (memF j).mpr ⟨hj, n⟩
      rw [hf] at this
      exact List.not_mem_nil this
  | cons i0 is =>
    right
    rw [em, hf] at c0
    obtain ⟨m1, m2⟩ := minQ_spec (is.map fun i => ((s.ac i : Int), 0 + (i : Int))) ((s.ac i0 : Int), 0 + (i0 : Int))
    rw [← List.map_cons (f := fun (i : Nat) => ((s.ac i : Int), 0 + (i : Int)))] at m1 m2
    obtain ⟨c, hc, ec⟩ := List.mem_map.mp m1
    rw [← hf] at hc m2
    obtain ⟨c1, c2⟩ := (memF c).mp hc
    refine ⟨c, ?_, ⟨by rw [hP]; exact c1, by rw [hC]; exact c2, fun j hj hn => ?_⟩⟩
    · have mp : minP (.lst ((((i0 :: is).map fun i => ((s.ac i : Int), 0 + (i : Int)))).map prI)) = some (prI ((s.ac c : Int), 0 + (c : Int))) := by
        simp only [minP, prsI_map, Option.bind_some]
        show some (prI (minQ _ _)) = _
        rw [← ec]
      simp only [m_entering, hl, Rs.of_some, Rs.bind_ok, rangeD_rg (n := R) (by omega), c0, lenD_lst, gtB_int, List.length_map, List.length_cons, mp]
      rw [if_pos (decide_eq_true (by omega))]
      simp only [prI, tix2_1, Rs.of_some, Int.zero_add]
    · rw [hP] at hj
      rw [hC] at hn
      have := m2 _ (List.mem_map_of_mem ((memF j).mpr ⟨hj, hn⟩))
      rw [← ec] at this
      simp only at this
      omega
end
theorem ltB_prI (p q : Int × Int) : ltB (prI p) (prI q) = some (pltI p q) := by
  have o : ∀ p : Int × Int, (prI p).okD = true := fun p => by
    obtain ⟨a, b⟩ := p
    exact okD_tup (f := D.int) (xs := [a, b]) fun x _ => ⟨rfl, by simp [D.py, PyData.canLay0], by simp [D.py, PyData.depth]⟩
  have e := dataLt_ltP _ _ (prI_alike p q) (by simp [prI, D.py, pys, cmpP, cmpPs])
  rw [prI_lt] at e
  have c : cmpP (prI p).py (prI q).py = true := by simp [prI, D.py, pys, cmpP, cmpPs]
  have o1 := o p
  have o2 := o q
  simp only [prI] at o1 o2 c e ⊢
  simp only [ltB, ordB, o1, o2, c, Bool.and_self, if_true, ← e]
structure Low (R : Nat) (s : Tb) (c k r : Nat) : Prop where
  lt : r < k
  pos : 0 < s.T r c
  low : ∀ i, i < k → 0 < s.T i c → s.T r R * s.T i c < s.T i R * s.T r c ∨ (s.T r R * s.T i c = s.T i R * s.T r c ∧ s.un r ≤ s.un i)
theorem low_next {R : Nat} {s : Tb} {c k r : Nat} (h : Low R s c k r) (hk : 0 < s.T k c) (lt : s.T k R * s.T r c < s.T r R * s.T k c ∨ (s.T k R * s.T r c = s.T r R * s.T k c ∧ s.un k < s.un r)) : Low R s c (k + 1) k := by
  refine ⟨Nat.lt_succ_self _, hk, fun i hi ip => ?_⟩
  rcases Nat.lt_or_ge i k with g | g
  · have l := h.low i g ip
    have hr := h.pos
    obtain ⟨a, ha⟩ : ∃ a, a = s.T k R := ⟨_, rfl⟩
    obtain ⟨b, hb⟩ : ∃ b, b = s.T k c := ⟨_, rfl⟩
    obtain ⟨p, hp⟩ : ∃ p, p = s.T r R := ⟨_, rfl⟩
    obtain ⟨q, hq⟩ : ∃ q, q = s.T r c := ⟨_, rfl⟩
    obtain ⟨x, hx⟩ : ∃ x, x = s.T i R := ⟨_, rfl⟩
    obtain ⟨y, hy⟩ : ∃ y, y = s.T i c := ⟨_, rfl⟩
    rw [← ha, ← hb, ← hp, ← hq] at lt
    rw [← hp, ← hq, ← hx, ← hy] at l
    rw [← hq] at hr
    rw [← hb] at hk
    rw [← hy] at ip
    rw [← ha, ← hb, ← hx, ← hy]
    have s1 : a * q * y ≤ p * b * y := Int.mul_le_mul_of_nonneg_right (by omega) (Int.le_of_lt ip)
    have s2 : p * y * b ≤ x * q * b := Int.mul_le_mul_of_nonneg_right (by omega) (Int.le_of_lt hk)
    have e1 : a * q * y = q * (a * y) := by rw [Int.mul_comm a q, Int.mul_assoc]
    have e2 : p * b * y = p * y * b := by rw [Int.mul_assoc, Int.mul_comm b y, ← Int.mul_assoc]
    have e3 : x * q * b = q * (x * b) := by rw [Int.mul_comm x q, Int.mul_assoc]
    by_cases t : a * y < x * b
    · exact .inl t
    · right
      have t1 : q * (x * b) ≤ q * (a * y) := Int.mul_le_mul_of_nonneg_left (by omega) (Int.le_of_lt hr)
      have t2 : a * y = x * b := Int.eq_of_mul_eq_mul_left (a := q) (by omega) (by omega)
      refine ⟨t2, ?_⟩
      have u1 : a * q = p * b := Int.eq_of_mul_eq_mul_right (a := y) (by omega) (by omega)
      have u2 : p * y = x * q := Int.eq_of_mul_eq_mul_right (a := b) (by omega) (by omega)
      omega
  · have e : i = k := by omega
    subst e
    exact .inr ⟨rfl, Nat.le_refl _⟩
theorem low_stay {R : Nat} {s : Tb} {c k r : Nat} (h : Low R s c k r) (lt : 0 < s.T k c → ¬ (s.T k R * s.T r c < s.T r R * s.T k c ∨ (s.T k R * s.T r c = s.T r R * s.T k c ∧ s.un k < s.un r))) : Low R s c (k + 1) r := by
  refine ⟨Nat.lt_succ_of_lt h.lt, h.pos, fun i hi ip => ?_⟩
  rcases Nat.lt_or_ge i k with g | g
  · exact h.low i g ip
  · have e : i = k := by omega
    subst e
    have := lt ip
    omega
theorem leaving_ok {P : Pb} {s : Tb} {C R c k : Nat} (hP : P.R = R) (hC : P.C = C) (hb : ∀ i, i ≤ C → ∀ j, j ≤ R → (s.T i j).natAbs < 2 ^ k) (hk : k ≤ 4000) (hc : c < R) (ex : ∃ i, i < C ∧ 0 < s.T i c) :
    ∃ r : Nat, m_leaving (bdD C R s) (.lst (nmD C s.un)) (.int (c : Int)) = .ok (.int (r : Int)) ∧ Lea P s c r := by
  have sl : sliceD (bdD C R s) none (some (-1)) = some (.lst ((List.range C).map fun i => iL (R + 1) (s.T i))) := by
    have e : ((List.range (C + 1)).map fun i => iL (R + 1) (s.T i)) = ((List.range C).map fun i => iL (R + 1) (s.T i)) ++ [iL (R + 1) (s.T C)] := by rw [List.range_succ, List.map_append, List.map_singleton]
    simp only [bdD, sliceD, cutD, HT.sIx, Nat.sub_zero, List.drop_zero, List.length_map, List.length_range]
    rw [if_pos (by omega)]
    rw [show ((-1 : Int) + ((C + 1 : Nat) : Int)).toNat = C by omega, e]
    rw [List.take_append_of_le_length (by simp), List.take_of_length_le (by simp)]
  have mu : ∀ i j i' j', i ≤ C → j ≤ R → i' ≤ C → j' ≤ R → mulD (.int (s.T i j)) (.int (s.T i' j')) = some (.int (s.T i j * s.T i' j')) := fun i j i' j' h1 h2 h3 h4 => mul_big (k := k) (l := k) (hb i h1 j h2) (hb i' h3 j' h4) (by omega)
  have fin : ∀ {f : D → D → Rs D}, (∀ i : Nat, i < C → ¬ 0 < s.T i c → ∀ z, f z (.tup [.int (0 + (i : Int)), iL (R + 1) (s.T i)]) = .ok z) →
      (∀ i : Nat, i < C → 0 < s.T i c → f .non (.tup [.int (0 + (i : Int)), iL (R + 1) (s.T i)]) = .ok (.tup [prI (s.T i R, s.T i c), .int (i : Int)])) →
      (∀ i r : Nat, i < C → r < C → 0 < s.T i c → f (.tup [prI (s.T r R, s.T r c), .int (r : Int)]) (.tup [.int (0 + (i : Int)), iL (R + 1) (s.T i)]) = .ok (if pltI (s.T i R * s.T r c, (s.un i : Int)) (s.T r R * s.T i c, (s.un r : Int)) then .tup [prI (s.T i R, s.T i c), .int (i : Int)] else .tup [prI (s.T r R, s.T r c), .int (r : Int)])) →
      ∃ r : Nat, ((foldM f ((List.range C).map fun (i : Nat) => .tup [.int (0 + (i : Int)), iL (R + 1) (s.T i)]) .non).bind fun z0 => Rs.of (idxD z0 (.int 1))) = .ok (.int (r : Int)) ∧ Lea P s c r := fun {f} h1 h2 h3 => by
    obtain ⟨z', e, i⟩ := foldM_rg (f := f) (e := fun (i : Nat) => .tup [.int (0 + (i : Int)), iL (R + 1) (s.T i)]) (N := C) (z := .non) (I := fun k z => (z = .non ∧ ∀ i, i < k → ¬ 0 < s.T i c) ∨ ∃ r, z = .tup [prI (s.T r R, s.T r c), .int (r : Int)] ∧ Low R s c k r) (.inl ⟨rfl, fun i hi => by omega⟩) (fun k z hk i => by
      by_cases p : 0 < s.T k c
      · rcases i with ⟨rfl, no⟩ | ⟨r, rfl, lw⟩
        · refine ⟨_, h2 k hk p, .inr ⟨k, rfl, Nat.lt_succ_self _, p, fun i hi ip => ?_⟩⟩
          rcases Nat.lt_or_ge i k with g | g
          · exact absurd ip (no i g)
          · have e : i = k := by omega
            subst e
            exact .inr ⟨rfl, Nat.le_refl _⟩
        · have q := h3 k r hk (Nat.lt_trans lw.lt hk) p
          by_cases t : pltI (s.T k R * s.T r c, (s.un k : Int)) (s.T r R * s.T k c, (s.un r : Int)) = true
          · rw [if_pos t] at q
            simp only [pltI, decide_eq_true_eq] at t
            exact ⟨_, q, .inr ⟨k, rfl, low_next lw p (by omega)⟩⟩
          · rw [if_neg t] at q
            simp only [pltI, decide_eq_true_eq] at t
            exact ⟨_, q, .inr ⟨r, rfl, low_stay lw fun _ => by omega⟩⟩
      · refine ⟨z, h1 k hk p z, ?_⟩
        rcases i with ⟨rfl, no⟩ | ⟨r, rfl, lw⟩
        · refine .inl ⟨rfl, fun i hi => ?_⟩
          rcases Nat.lt_or_ge i k with g | g
          · exact no i g
          · rw [show i = k by omega]
            exact p
        · exact .inr ⟨r, rfl, low_stay lw fun q => absurd q p⟩)
    rcases i with ⟨_, no⟩ | ⟨r, rfl, lw⟩
    · obtain ⟨i, hi, ip⟩ := ex
      exact absurd ip (no i hi)
    · refine ⟨r, by rw [e]; rfl, ?_⟩
      subst hP hC
      exact ⟨lw.lt, lw.pos, lw.low⟩
  simp only [m_leaving, neg1, Rs.of_some, Rs.bind_ok, asI, sl, enumD_rg]
  refine fin ?_ ?_ ?_
  · intro i hi hn z
    simp only [un2, Rs.of_some, Rs.bind_ok, iL_at _ (show c < R + 1 by omega), gtB_int, decide_eq_false hn, Bool.false_eq_true, if_false]
  · intro i hi hp
    simp only [un2, Rs.of_some, Rs.bind_ok, iL_at _ (show c < R + 1 by omega), gtB_int, decide_eq_true hp, if_true, iL_last, isNB, D.isNon, Int.zero_add]
    rfl
  · intro i r hi hr hp
    have n1 : isNB (.tup [prI (s.T r R, s.T r c), .int (r : Int)]) .non = some false := rfl
    have m1 := mu i R r c (by omega) (by omega) (by omega) (by omega)
    have m2 := mu r R i c (by omega) (by omega) (by omega) (by omega)
    have l := ltB_prI (s.T i R * s.T r c, (s.un i : Int)) (s.T r R * s.T i c, (s.un r : Int))
    simp only [prI] at l n1 ⊢
    simp only [un2, Rs.of_some, Rs.bind_ok, iL_at _ (show c < R + 1 by omega), gtB_int, decide_eq_true hp, if_true, iL_last, n1, Bool.false_eq_true, if_false, tix2_0, tix2_1, m1, m2, nm_at s.un hi, nm_at s.un hr, l, Int.zero_add]
    split <;> rfl
theorem pivoted_ok {s : Tb} {C R r c k : Nat} (hb : ∀ i, i ≤ C → ∀ j, j ≤ R → (s.T i j).natAbs < 2 ^ k) (hk : k ≤ 4000) (hu : 0 < s.u) (hu2 : s.u.natAbs < 2 ^ k) (hr : r < C) (hc : c < R) (hC : C < 100000) :
    m_pivoted (bdD C R s) (.int s.u) (.int (r : Int)) (.int (c : Int)) = .ok (bdD C R (piv s r c)) := by
  have mu : ∀ i j i' j', i ≤ C → j ≤ R → i' ≤ C → j' ≤ R → mulD (.int (s.T i j)) (.int (s.T i' j')) = some (.int (s.T i j * s.T i' j')) := fun i j i' j' h1 h2 h3 h4 => mul_big (k := k) (l := k) (hb i h1 j h2) (hb i' h3 j' h4) (by omega)
  have fd : ∀ a : Int, fdivD (.int a) (.int s.u) = some (.int (a / s.u)) := fun a => fdivD_int hu (Nat.lt_of_lt_of_le hu2 (Nat.pow_le_pow_right (by decide) (by omega)))
  have fin : ∀ {f : List D → D → Rs (Fl (List D) (List D))}, (∀ i : Nat, i ≤ C → ∀ z : List D, z.length = i → (f z (.tup [.int (0 + (i : Int)), iL (R + 1) (s.T i)]) = .ok (.nx (z ++ [iL (R + 1) ((piv s r c).T i)])) ∨ f z (.tup [.int (0 + (i : Int)), iL (R + 1) (s.T i)]) = .ok (.ct (z ++ [iL (R + 1) ((piv s r c).T i)])))) →
      ((loopM (β := Unit) f ((List.range (C + 1)).map fun (i : Nat) => .tup [.int (0 + (i : Int)), iL (R + 1) (s.T i)]) []).bind (Fl.toX fun z3 => (Rs.ok (.lst z3)))) = .ok (bdD C R (piv s r c)) := fun {f} h => by
    obtain ⟨z', e, i⟩ := loopM_rg (β := Unit) (f := f) (e := fun (i : Nat) => .tup [.int (0 + (i : Int)), iL (R + 1) (s.T i)]) (N := C + 1) (z := []) (I := fun k z => z = (List.range k).map fun i => iL (R + 1) ((piv s r c).T i)) rfl (fun k z hk i => by
      refine ⟨_, h k (by omega) z (by rw [i]; simp), ?_⟩
      rw [i, List.range_succ, List.map_append, List.map_singleton])
    rw [e, i]
    rfl
  have en : enumD (bdD C R s) = some ((List.range (C + 1)).map fun (i : Nat) => .tup [.int (0 + (i : Int)), iL (R + 1) (s.T i)]) := enumD_rg _ _
  simp only [m_pivoted, bd_at s (show r ≤ C by omega), Rs.of_some, Rs.bind_ok, iL_at _ (show c < R + 1 by omega), en]
  refine fin ?_
  intro i hi z hz
  have eni : enumD (iL (R + 1) (s.T i)) = some ((List.range (R + 1)).map fun (j : Nat) => .tup [.int (0 + (j : Int)), .int (s.T i j)]) := enumD_rg _ _
  by_cases e : i = r
  · right
    subst e
    have c0 := compM_allU (u := un2) (fe := fun y6 : D × D => (Rs.of (eqB y6.1 (.int (c : Int)))).bind fun k => if k then (Rs.ok (.int s.u)) else (Rs.ok y6.2)) (fun (j : Nat) => D.tup [.int (0 + (j : Int)), .int (s.T i j)]) (fun j => (.int (0 + (j : Int)), .int (s.T i j))) (fun j => .int ((piv s i c).T i j)) (List.range (R + 1)) (fun _ _ => rfl) (fun j hj => by
      have p : (piv s i c).T i j = if j = c then s.u else s.T i j := if_pos rfl
      rw [p]
      by_cases q : j = c
      · subst q
        simp
      · have q' : ¬ ((j : Int) = (c : Int)) := by omega
        simp [q, q'])
    have q1 : decide ((0 + (i : Int)) = (i : Int)) = true := decide_eq_true (by omega)
    simp only [un2, Rs.of_some, Rs.bind_ok, eqB_int, q1, if_true, eni, c0]
    rw [appL_ok (by omega)]
    rfl
  · left
    have q1 : decide ((0 + (i : Int)) = (r : Int)) = false := decide_eq_false (by omega)
    have st := set_rg (fun j => .int ((s.T i j * s.T r c - s.T i c * s.T r j) / s.u)) (n := R + 1) (k := c) (by omega) (.int (- s.T i c))
    have er : ((List.range (R + 1)).map fun j => if j = c then D.int (- s.T i c) else .int ((s.T i j * s.T r c - s.T i c * s.T r j) / s.u)) = (List.range (R + 1)).map fun j => .int ((piv s r c).T i j) := by
      refine List.map_congr_left fun j _ => ?_
      have p : (piv s r c).T i j = if j = c then - s.T i c else (s.T i j * s.T r c - s.T i c * s.T r j) / s.u := if_neg e
      rw [p]
      split <;> rfl
    rw [er] at st
    simp only [un2, Rs.of_some, Rs.bind_ok, eqB_int, q1, Bool.false_eq_true, if_false, eni]
    rw [compM_rg (fun (j : Nat) => (.int (0 + (j : Int)), .int (s.T i j))) (fun j => .int ((s.T i j * s.T r c - s.T i c * s.T r j) / s.u)) (fun _ => rfl) fun j hj => by
      simp only [mu i j r c hi (by omega) (by omega) (by omega), Rs.of_some, Rs.bind_ok, iL_at _ (show c < R + 1 by omega), bd_at s (show r ≤ C by omega), iL_at0 _ hj, mu i c r j hi (by omega) (by omega) (by omega), subD, fd]]
    simp only [Rs.bind_ok, iL_at _ (show c < R + 1 by omega), Rs.of_some, negD, st]
    rw [appL_ok (by omega)]
    rfl
end LW
set_option Elab.async false
set_option linter.all false
set_option maxRecDepth 100000
set_option autoImplicit false
namespace VL
open PySem PySem.Spec
inductive Grown (row : List (Str × Str)) (r : Str) : List Str → Prop
  | one : Grown row r [r]
  | more {l : List Str} {x y : Str} : Grown row r l → (x, y) ∈ row → x ∈ l → y ∉ l → Grown row r (l ++ [y])
theorem Grown.sub {row : List (Str × Str)} {r : Str} {l hs : List Str} (h : Grown row r l) (hr : r ∈ hs) (hp : ∀ p ∈ row, p.2 ∈ hs) : ∀ x ∈ l, x ∈ hs := by
  induction h with
  | one => intro x hx; rw [List.mem_singleton.mp hx]; exact hr
  | more a b c d ih =>
    intro x hx
    rcases List.mem_append.mp hx with hx | hx
    · exact ih x hx
    · rw [List.mem_singleton.mp hx]; exact hp _ b
inductive Down (row : List (Str × Str)) (r : Str) : Nat → Str → Prop
  | here : Down row r 0 r
  | step {k : Nat} {x y : Str} : Down row r k x → (x, y) ∈ row → Down row r (k + 1) y
end VL
set_option Elab.async false
set_option linter.all false
set_option maxRecDepth 100000
set_option autoImplicit false
namespace VL
open PySem PySem.Spec
abbrev Rw := List (Str × Str)
structure TreeOk (hs : List Str) (r : Str) (t : Rw) : Prop where
  at1 : ∀ p ∈ t, p.1 ∈ hs
  at2 : ∀ p ∈ t, p.2 ∈ hs ∧ p.2 ≠ r
  uni : (t.map (·.2)).Nodup
  dwn : ∀ y ∈ hs, ∃ k, k < hs.length ∧ Down t r k y
end VL
set_option Elab.async false
set_option linter.all false
set_option maxRecDepth 100000
set_option autoImplicit false
namespace VL
open PySem PySem.Spec L2
inductive Way (t : Rw) (r : Str) : List Str → Str → Prop
  | here : Way t r [r] r
  | step {w : List Str} {x y : Str} : Way t r w x → (x, y) ∈ t → Way t r (w ++ [y]) y
theorem Way.mem {t : Rw} {r : Str} {w hs : List Str} {y : Str} (h : Way t r w y) (hr : r ∈ hs) (hp : ∀ p ∈ t, p.2 ∈ hs) : ∀ x ∈ w, x ∈ hs := by
  induction h with
  | here => intro x hx; rw [List.mem_singleton.mp hx]; exact hr
  | step a b ih =>
    intro x hx
    rcases List.mem_append.mp hx with hx | hx
    · exact ih x hx
    · rw [List.mem_singleton.mp hx]; exact hp _ b
end VL
set_option Elab.async false
set_option linter.all false
set_option maxRecDepth 100000
set_option autoImplicit false
namespace VL
open PySem PySem.Spec L2
structure TreeX (hs : List Str) (ls : List Lk) (r : Str) (t : Rw) : Prop extends TreeOk hs r t where
  lnk : ∀ p ∈ t, p ∈ ls.map lpr
  len : t.length + 1 = hs.length
  asc : t.Pairwise PLt
theorem compI_all {α γ : Type} {u : D → Option γ} {fl : γ → Rs (List D)} (e : α → D) (g : α → γ) (h : α → List D) :
    ∀ xs : List α, (∀ x ∈ xs, u (e x) = some (g x)) → (∀ x ∈ xs, fl (g x) = .ok (h x)) → compI u (fun _ => .ok true) fl (xs.map e) = .ok (xs.flatMap h)
  | [], _, _ => rfl
  | x :: xs, h1, h2 => by
    have ih := compI_all e g h xs (fun y hy => h1 y (List.mem_cons_of_mem _ hy)) (fun y hy => h2 y (List.mem_cons_of_mem _ hy))
    have m : x ∈ x :: xs := List.mem_cons_self
    simp only [List.map_cons, compI, h1 x m, Rs.of_some, Rs.bind_ok, Rs.noX_ok, if_true, h2 x m, ih, List.flatMap_cons]
end VL
set_option Elab.async false
set_option linter.all false
set_option maxRecDepth 100000
set_option autoImplicit false
set_option maxHeartbeats 1000000
namespace LW
open PySem PySem.Spec VL SX
theorem common_fold {e : Nat} {f : D → D → Rs D} (hf : ∀ (a : Nat) (q : Rat) (k : Nat), 0 < a → a < 2 ^ k → k ≤ 4000 → q.den < 2 ^ e → f (.int (a : Int)) (frQ q) = .ok (.int ((Nat.lcm a q.den : Nat) : Int))) :
    ∀ (qs : List Rat) (a k : Nat), 0 < a → a < 2 ^ k → k + qs.length * e ≤ 4000 → (∀ q ∈ qs, q.den < 2 ^ e) → ∃ b : Nat, foldM f (qs.map frQ) (.int (a : Int)) = .ok (.int (b : Int)) ∧ 0 < b ∧ b < 2 ^ (k + qs.length * e) ∧ a ∣ b ∧ ∀ q ∈ qs, q.den ∣ b
  | [], a, k, h0, h1, h2, _ => ⟨a, rfl, h0, by simpa using h1, Nat.dvd_refl a, fun q hq => by simp at hq⟩
  | q :: qs, a, k, h0, h1, h2, h3 => by
    have hq := h3 q List.mem_cons_self
    simp only [List.length_cons, Nat.succ_mul] at h2 ⊢
    have l0 : 0 < Nat.lcm a q.den := Nat.lcm_pos h0 q.den_pos
    have l1 : Nat.lcm a q.den < 2 ^ (k + e) := Nat.lt_of_le_of_lt (Nat.le_of_dvd (Nat.mul_pos h0 q.den_pos) (Nat.lcm_dvd_mul a q.den)) (mul_lt_pow h1 hq)
    obtain ⟨b, e1, b0, b1, b2, b3⟩ := common_fold hf qs _ (k + e) l0 l1 (by omega) fun p hp => h3 p (List.mem_cons_of_mem _ hp)
    refine ⟨b, ?_, b0, by rwa [show k + (qs.length * e + e) = k + e + qs.length * e by omega], Nat.dvd_trans (Nat.dvd_lcm_left a q.den) b2, fun p hp => ?_⟩
    · rw [List.map_cons]
      simp only [foldM, hf a q k h0 h1 (by omega) hq, Rs.bind_ok, e1]
    · rcases List.mem_cons.mp hp with rfl | hp
      · exact Nat.dvd_trans (Nat.dvd_lcm_right a p.den) b2
      · exact b3 p hp
theorem common_bottom_ok {qs : List Rat} {e : Nat} (he : e ≤ 4000) (h : ∀ q ∈ qs, q.den < 2 ^ e) (hn : 1 + qs.length * e ≤ 4000) :
    ∃ b : Nat, m_common_bottom (.lst (qs.map frQ)) = .ok (.int (b : Int)) ∧ 0 < b ∧ b < 2 ^ (1 + qs.length * e) ∧ ∀ q ∈ qs, q.den ∣ b := by
  have fin : ∀ {f : D → D → Rs D}, (∀ (a : Nat) (q : Rat) (k : Nat), 0 < a → a < 2 ^ k → k ≤ 4000 → q.den < 2 ^ e → f (.int (a : Int)) (frQ q) = .ok (.int ((Nat.lcm a q.den : Nat) : Int))) →
      ∃ b : Nat, ((foldM f (qs.map frQ) (.int 1)).bind fun z0 => (Rs.ok z0)) = .ok (.int (b : Int)) ∧ 0 < b ∧ b < 2 ^ (1 + qs.length * e) ∧ ∀ q ∈ qs, q.den ∣ b := fun {f} hf => by
    obtain ⟨b, e1, b0, b1, _, b3⟩ := common_fold hf qs 1 1 (by decide) (by decide) hn h
    have e1' : foldM f (qs.map frQ) (.int 1) = .ok (.int (b : Int)) := e1
    exact ⟨b, by rw [e1']; rfl, b0, b1, b3⟩
  simp only [m_common_bottom, itemsD_lst, Rs.of_some, Rs.bind_ok]
  refine fin ?_
  intro a q k h0 h1 hk hq
  have u2 : unL2 (frQ q) = some (.int q.num, .int (q.den : Int)) := rfl
  have m1 : mulD (.int (a : Int)) (.int (q.den : Int)) = some (.int ((a * q.den : Nat) : Int)) := by
    rw [mul_big (k := k) (l := e) (by simpa using h1) (by simpa using hq) (by omega)]
    rfl
  have g := common_ok (a := (a : Int)) (b := q.den) q.den_nz (Nat.lt_of_lt_of_le hq (Nat.pow_le_pow_right (by decide) (by omega)))
  rw [Int.natAbs_natCast] at g
  have g0 : 0 < Nat.gcd a q.den := Nat.gcd_pos_of_pos_left _ h0
  have g1 : Nat.gcd a q.den < 2 ^ 8000 := Nat.lt_of_le_of_lt (Nat.gcd_le_left _ h0) (Nat.lt_of_lt_of_le h1 (Nat.pow_le_pow_right (by decide) (by omega)))
  have d : fdivD (.int ((a * q.den : Nat) : Int)) (.int ((Nat.gcd a q.den : Nat) : Int)) = some (.int ((Nat.lcm a q.den : Nat) : Int)) := fdivD_gcd g0 g1
  simp only [u2, Rs.of_some, Rs.bind_ok, m1, g, d]
theorem fraction_int {a b : Int} {k : Nat} (h0 : 0 < b) (hb : b.natAbs < 2 ^ k) (hk : k ≤ 8000) : m_fraction (.int a) (.int b) = .ok (frQ ((a : Rat) / (b : Rat))) := by
  obtain ⟨n, rfl⟩ := Int.eq_ofNat_of_zero_le (Int.le_of_lt h0)
  rw [fraction_ok (by omega) (Nat.lt_of_lt_of_le (show n < 2 ^ k by simpa using hb) (Nat.pow_le_pow_right (by decide) hk)), Rat.mkRat_eq_div]
  rfl
theorem BQ.div {a b : Int} {k : Nat} (h0 : 0 < b) (ha : a.natAbs < 2 ^ k) (hb : b.natAbs < 2 ^ k) (hk : 0 < k) : BQ k ((a : Rat) / (b : Rat)) := by
  obtain ⟨n, rfl⟩ := Int.eq_ofNat_of_zero_le (Int.le_of_lt h0)
  have z := BQ.mk' (a := a) (b := n) ha (by simpa using hb) hk
  rwa [Rat.mkRat_eq_div] at z
theorem sum_sm (g : Nat → Int) : ∀ n : Nat, ((List.range n).map g).sum = sm n g
  | 0 => rfl
  | n + 1 => by
    rw [List.range_succ, List.map_append, List.sum_append, sum_sm g n]
    simp [sm]
theorem shares_ok {n k : Nat} {g : Nat → Int} (h0 : 0 < sm n g) (hk : (sm n g).natAbs < 2 ^ k) (hk2 : k ≤ 8000) : m_shares (.lst ((List.range n).map fun i => .int (g i))) = .ok (.tup ((List.range n).map fun i => frQ ((g i : Rat) / (sm n g : Rat)))) := by
  have s : sumD [.lst ((List.range n).map fun i => .int (g i))] = some (.int (sm n g)) := by rw [sumD_of, sum_sm]
  have c0 := compM_all (fe := fun y0 => (Rs.of (sumD [.lst ((List.range n).map fun i => .int (g i))])).bind fun x1 => m_fraction y0 x1) (fun i => D.int (g i)) (fun i => frQ ((g i : Rat) / (sm n g : Rat))) (List.range n) fun i _ => by
    simp only [s, Rs.of_some, Rs.bind_ok, fraction_int h0 hk hk2]
  simp only [m_shares, itemsD_lst, Rs.of_some, Rs.bind_ok, c0, tupleD_lst]
def tbD (R C : Nat) (Q : Nat → Nat → Rat) : D := .tup ((List.range R).map fun r => .tup ((List.range C).map fun c => frQ (Q c r)))
theorem flat_rg (R C : Nat) (Q : Nat → Nat → Rat) : ((List.range R).flatMap fun r => (List.range C).map fun c => frQ (Q c r)) = ((List.range R).flatMap fun r => (List.range C).map fun c => Q c r).map frQ := by
  rw [List.map_flatMap]
  simp only [List.map_map]
  rfl
theorem flat_len (R C : Nat) (Q : Nat → Nat → Rat) : ((List.range R).flatMap fun r => (List.range C).map fun c => Q c r).length = R * C := by
  induction R with
  | zero => simp
  | succ R ih =>
    rw [List.range_succ, List.flatMap_append, List.length_append, ih, Nat.succ_mul]
    simp
theorem rep_rg {α : Type} (x : α) : ∀ n : Nat, (List.replicate n [x]).flatten = (List.range n).map fun _ => x
  | 0 => rfl
  | n + 1 => by rw [List.range_succ, List.map_append, ← rep_rg x n, List.replicate_succ', List.flatten_append]; rfl
theorem nm_piv_un {s : Tb} {C r c : Nat} : ((List.range C).map fun i => if i = r then (.int (s.ac c : Int) : D) else .int (s.un i : Int)) = nmD C (piv s r c).un := by
  refine List.map_congr_left fun i _ => ?_
  show (if i = r then (.int (s.ac c : Int) : D) else .int (s.un i : Int)) = .int (((if i = r then s.ac c else s.un i) : Nat) : Int)
  split <;> rfl
theorem nm_piv_ac {s : Tb} {R r c : Nat} : ((List.range R).map fun j => if j = c then (.int (s.un r : Int) : D) else .int (s.ac j : Int)) = nmD R (piv s r c).ac := by
  refine List.map_congr_left fun j _ => ?_
  show (if j = c then (.int (s.un r : Int) : D) else .int (s.ac j : Int)) = .int (((if j = c then s.un r else s.ac j) : Nat) : Int)
  split <;> rfl
theorem whileN_lv {ε : Type} {c : ε → Rs Bool} {f : ε → Rs ε} (I : Nat → ε → Prop) (Z : ε → Prop)
    (h : ∀ n z, I n z → (c z = .ok false ∧ Z z) ∨ (c z = .ok true ∧ ∃ z' m, m < n ∧ f z = .ok z' ∧ I m z')) :
    ∀ (N n : Nat) (z : ε), I n z → n < N → ∃ z', whileN c f N z = .ok z' ∧ Z z'
  | 0, n, z, _, hn => absurd hn (Nat.not_lt_zero _)
  | N + 1, n, z, hi, hn => by
    rcases h n z hi with ⟨e, hz⟩ | ⟨e, z2, m, lm, e2, i2⟩
    · exact ⟨z, by simp only [whileN, e, Rs.bind_ok, Bool.false_eq_true, if_false], hz⟩
    · obtain ⟨z3, e3, h3⟩ := whileN_lv I Z h N m z2 i2 (by omega)
      exact ⟨z3, by simp only [whileN, e, Rs.bind_ok, if_true, e2, e3], h3⟩
abbrev St5 := D × D × List D × List D × D
def stD (C R : Nat) (s : Tb) (col : D) : St5 := (bdD C R s, .int s.u, nmD C s.un, nmD R s.ac, col)
theorem simplex_ok {C R K : Nat} {A : Nat → Nat → Int} {b : Int} (hC : 0 < C) (hR : 0 < R) (hCR : R + C ≤ 19) (hb0 : 0 < b) (hA0 : ∀ t, t < C → ∀ r, r < R → 0 < A t r)
    (hK : K ≤ 3900) (bd : ∀ s, Fin (pbA C R A b) s → (∀ i, i ≤ C → ∀ j, j ≤ R → (s.T i j).natAbs < 2 ^ K) ∧ s.u.natAbs < 2 ^ K) {d0 : D}
    {c : St5 → Rs Bool} {f : St5 → Rs St5} (c1 : ∀ s, c (stD C R s .non) = .ok false) (c2 : ∀ s (j : Nat), c (stD C R s (.int (j : Int))) = .ok true)
    (hf : ∀ s (r k : Nat), Fin (pbA C R A b) s → Ent (pbA C R A b) s k → m_leaving (bdD C R s) (.lst (nmD C s.un)) (.int (k : Int)) = .ok (.int (r : Int)) → Lea (pbA C R A b) s k r → m_pivoted (bdD C R s) (.int s.u) (.int (r : Int)) (.int (k : Int)) = .ok (bdD C R (piv s r k)) →
      f (stD C R s (.int (k : Int))) = ((m_entering (iL (R + 1) ((piv s r k).T C)) (.lst (nmD R (piv s r k).ac))).noX.bind fun d => Rs.of (lentD d)).bind fun d49 => Rs.ok (stD C R (piv s r k) d49))
    (h0 : ((m_entering (iL (R + 1) ((tb0 C R A b).T C)) (.lst (nmD R (tb0 C R A b).ac))).noX.bind fun d => Rs.of (lentD d)) = .ok d0) :
    ∃ s, whileN c f FUEL (stD C R (tb0 C R A b) d0) = .ok (stD C R s .non) ∧ Fin (pbA C R A b) s ∧ Out C R A b s := by
  have en : ∀ s, (((m_entering (iL (R + 1) (s.T C)) (.lst (nmD R s.ac))).noX.bind fun d => Rs.of (lentD d)) = .ok .non ∧ ∀ j, j < R → 0 ≤ s.T C j) ∨ ∃ k : Nat, ((m_entering (iL (R + 1) (s.T C)) (.lst (nmD R s.ac))).noX.bind fun d => Rs.of (lentD d)) = .ok (.int (k : Int)) ∧ Ent (pbA C R A b) s k := fun s => by
    rcases entering_ok (P := pbA C R A b) (s := s) (C := C) (R := R) (by omega) rfl rfl with ⟨e, h⟩ | ⟨k, e, h⟩
    · exact .inl ⟨by rw [e]; rfl, h⟩
    · exact .inr ⟨k, by rw [e]; rfl, h⟩
  have pw : 2 ^ (R + C) ≤ 2 ^ 19 := Nat.pow_le_pow_right (by decide) hCR
  have w := whileN_lv (c := c) (f := f) (fun n z => ∃ s k, Run (pbA C R A b) s k ∧ n = 2 ^ (R + C) - k ∧ ((z = stD C R s .non ∧ ∀ j, j < R → 0 ≤ s.T C j) ∨ ∃ j : Nat, z = stD C R s (.int (j : Int)) ∧ Ent (pbA C R A b) s j))
    (fun z => ∃ s, z = stD C R s .non ∧ Fin (pbA C R A b) s ∧ Out C R A b s) ?_ FUEL (2 ^ (R + C)) (stD C R (tb0 C R A b) d0) ?_ (by show _ < 1000000; omega)
  · obtain ⟨z', e, s, rfl, h⟩ := w
    exact ⟨s, e, h⟩
  · rintro n z ⟨s, k, run, rfl, ⟨rfl, nn⟩ | ⟨j, rfl, E⟩⟩
    · exact .inl ⟨c1 s, s, rfl, run.fin, out_ok run.fin hR hb0 hA0 nn⟩
    · right
      refine ⟨c2 s j, ?_⟩
      have F := run.fin
      obtain ⟨b1, b2⟩ := bd s F
      obtain ⟨r, e1, L⟩ := leaving_ok (P := pbA C R A b) (C := C) (R := R) rfl rfl b1 (by omega) E.lt (bar_ex (bnd0 hC hA0) F E.lt)
      have e2 := pivoted_ok b1 (by omega) F.ok.pos b2 L.lt E.lt (by omega)
      have e3 := hf s r j F E e1 L e2
      have run2 := run.step E L
      have few := run2.few
      have few' : k + 1 < 2 ^ (R + C) := few
      rcases en (piv s r j) with ⟨e4, nn⟩ | ⟨j2, e4, E2⟩
      · exact ⟨_, 2 ^ (R + C) - (k + 1), by omega, by rw [e3, e4]; rfl, piv s r j, k + 1, run2, rfl, .inl ⟨rfl, nn⟩⟩
      · exact ⟨_, 2 ^ (R + C) - (k + 1), by omega, by rw [e3, e4]; rfl, piv s r j, k + 1, run2, rfl, .inr ⟨j2, rfl, E2⟩⟩
  · refine ⟨tb0 C R A b, 0, Run.zero (fin0 (Int.le_of_lt hb0)), rfl, ?_⟩
    rcases en (tb0 C R A b) with ⟨e, h⟩ | ⟨k, e, h⟩
    · rw [e] at h0
      cases h0
      exact .inl ⟨rfl, h⟩
    · rw [e] at h0
      cases h0
      exact .inr ⟨k, rfl, h⟩
theorem mixparts_ok {C R : Nat} {A : Nat → Nat → Int} {b : Int} {s : Tb} (F : Fin (pbA C R A b) s) {f : List D → D → Rs (List D)}
    (h1 : ∀ i : Nat, i < C → s.un i < R → ∀ z, f z (.tup [.int (0 + (i : Int)), .int (s.un i : Int)]) = (Rs.of (setL z (.int (s.un i : Int)) (.int (s.T i R)))).bind fun l => .ok l)
    (h2 : ∀ i : Nat, i < C → ¬ s.un i < R → ∀ z, f z (.tup [.int (0 + (i : Int)), .int (s.un i : Int)]) = .ok z) :
    foldM f ((List.range C).map fun (i : Nat) => .tup [.int (0 + (i : Int)), .int (s.un i : Int)]) ((List.range R).map fun _ => .int 0) = .ok ((List.range R).map fun r => .int (X (pbA C R A b) s r)) := by
  obtain ⟨z', e, i⟩ := foldM_rg (f := f) (e := fun (i : Nat) => .tup [.int (0 + (i : Int)), .int (s.un i : Int)]) (N := C) (z := (List.range R).map fun _ => D.int 0) (I := fun k z => z = (List.range R).map fun r => .int (sm k fun i => if s.un i = r then s.T i R else 0)) rfl (fun k z hk i => by
    subst i
    by_cases g : s.un k < R
    · refine ⟨_, by rw [h1 k hk g, set_rg _ g]; rfl, List.map_congr_left fun r hr => ?_⟩
      rw [sm]
      by_cases q : r = s.un k
      · have z0 : sm k (fun i => if s.un i = r then s.T i R else 0) = 0 := sm_zero fun i hi => if_neg fun q2 => by
          have := nm_un F.nm (show i < (pbA C R A b).C from Nat.lt_trans hi hk) (show k < (pbA C R A b).C from hk) (by rw [q2, q])
          omega
        rw [if_pos q, z0, if_pos q.symm, Int.zero_add]
      · rw [if_neg q, if_neg fun z => q z.symm, Int.add_zero]
    · refine ⟨_, h2 k hk g _, List.map_congr_left fun r hr => ?_⟩
      have hr' := List.mem_range.mp hr
      rw [sm, if_neg (fun z => by omega), Int.add_zero])
  rw [e, i]
  rfl
theorem prices_ok {C R : Nat} {A : Nat → Nat → Int} {b : Int} {s : Tb} (F : Fin (pbA C R A b) s) {f : List D → D → Rs (List D)}
    (h1 : ∀ j : Nat, j < R → R ≤ s.ac j → ∀ z, f z (.tup [.int (0 + (j : Int)), .int (s.ac j : Int)]) = (Rs.of (setL z (.int ((s.ac j - R : Nat) : Int)) (.int (s.T C j)))).bind fun l => .ok l)
    (h2 : ∀ j : Nat, j < R → ¬ R ≤ s.ac j → ∀ z, f z (.tup [.int (0 + (j : Int)), .int (s.ac j : Int)]) = .ok z) :
    foldM f ((List.range R).map fun (j : Nat) => .tup [.int (0 + (j : Int)), .int (s.ac j : Int)]) ((List.range C).map fun _ => .int 0) = .ok ((List.range C).map fun t => .int (Yp C R s t)) := by
  obtain ⟨z', e, i⟩ := foldM_rg (f := f) (e := fun (j : Nat) => .tup [.int (0 + (j : Int)), .int (s.ac j : Int)]) (N := R) (z := (List.range C).map fun _ => D.int 0) (I := fun k z => z = (List.range C).map fun t => .int (sm k fun j => if s.ac j = R + t then s.T C j else 0)) rfl (fun k z hk i => by
    subst i
    have lt : s.ac k < R + C := nm_al F.nm (show k < (pbA C R A b).R from hk)
    by_cases g : R ≤ s.ac k
    · refine ⟨_, by rw [h1 k hk g, set_rg _ (show s.ac k - R < C by omega)]; rfl, List.map_congr_left fun t ht => ?_⟩
      rw [sm]
      by_cases q : t = s.ac k - R
      · have z0 : sm k (fun j => if s.ac j = R + t then s.T C j else 0) = 0 := sm_zero fun i hi => if_neg fun q2 => by
          have := nm_ac F.nm (show i < (pbA C R A b).R from Nat.lt_trans hi hk) (show k < (pbA C R A b).R from hk) (by omega)
          omega
        rw [if_pos q, z0, if_pos (by omega), Int.zero_add]
      · rw [if_neg q, if_neg (by omega), Int.add_zero]
    · refine ⟨_, h2 k hk g _, List.map_congr_left fun t ht => ?_⟩
      rw [sm, if_neg (by omega), Int.add_zero])
  rw [e, i]
  rfl
theorem best_mixture_ok {d : D} {R C e : Nat} {Q : Nat → Nat → Rat} (ht : m_tupled 14 d = .ok (tbD R C Q)) (hR : 0 < R) (hC : 0 < C) (hCR : R + C ≤ 19) (he0 : 0 < e) (hQ : ∀ c, c < C → ∀ r, r < R → 0 ≤ Q c r ∧ BQ e (Q c r)) {K : Nat} (hK : (e + 1 + R * C * e + 1 + 8) * (C + 1) + 1 = K) (hK2 : K ≤ 1900) :
    ∃ v p q, m_best_mixture d = .ok (.tup [frQ v, .tup ((List.range C).map fun c => frQ (p c)), .tup ((List.range R).map fun r => frQ (q r))]) ∧ Mix C R Q v p q ∧ BQ (K + 2) v ∧ (∀ c, c < C → BQ K (p c)) ∧ ∀ r, r < R → BQ K (q r) := by
  have RC : R * C ≤ 19 * 19 := Nat.mul_le_mul (by omega) (by omega)
  have eK : e + R * C * e + 10 ≤ 1900 := by
    have : (e + 1 + R * C * e + 1 + 8) * 1 ≤ (e + 1 + R * C * e + 1 + 8) * (C + 1) := Nat.mul_le_mul_left _ (by omega)
    omega
  have len0 : lenD [tbD R C Q] = some (.int (R : Int)) := by simp only [tbD, lenD_tup, List.length_map, List.length_range]
  have row : ∀ r : Nat, r < R → idxD (tbD R C Q) (.int (r : Int)) = some (.tup ((List.range C).map fun c => frQ (Q c r))) := fun r hr => idxT_rg _ hr
  have row0 : idxD (tbD R C Q) (.int 0) = some (.tup ((List.range C).map fun c => frQ (Q c 0))) := row 0 hR
  have len1 : lenD [.tup ((List.range C).map fun c => frQ (Q c 0))] = some (.int (C : Int)) := by simp only [lenD_tup, List.length_map, List.length_range]
  have ci := compI_all (u := some) (fl := fun y5 => (Rs.of (itemsD y5)).bind fun l8 => compM some (fun y6 => Rs.ok true) (fun y6 => (Rs.ok y6)) l8) (fun r => D.tup ((List.range C).map fun c => frQ (Q c r))) (fun r => D.tup ((List.range C).map fun c => frQ (Q c r))) (fun r => (List.range C).map fun c => frQ (Q c r)) (List.range R) (fun _ _ => rfl) (fun r _ => by
    have z := compM_all (fe := fun y6 => (Rs.ok y6)) (fun c => frQ (Q c r)) (fun c => frQ (Q c r)) (List.range C) fun _ _ => rfl
    simp only [itemsD_tup, Rs.of_some, Rs.bind_ok, z])
  rw [flat_rg] at ci
  obtain ⟨qs, hqs⟩ : ∃ qs, qs = (List.range R).flatMap fun r => (List.range C).map fun c => Q c r := ⟨_, rfl⟩
  have ql : qs.length = R * C := by rw [hqs, flat_len]
  rw [← hqs] at ci
  have memq : ∀ c, c < C → ∀ r, r < R → Q c r ∈ qs := fun c hc r hr => by
    rw [hqs, List.mem_flatMap]
    exact ⟨r, List.mem_range.mpr hr, List.mem_map.mpr ⟨c, List.mem_range.mpr hc, rfl⟩⟩
  have lr : lenR (qs.map frQ) = some (qs.map frQ) := by
    unfold lenR
    rw [if_pos (Nat.le_trans (by rw [List.length_map, ql]; omega) line_ge)]
  obtain ⟨b, eb, b0, b1, b2⟩ := common_bottom_ok (qs := qs) (e := e) (by omega) (fun q hq => by
    rw [hqs, List.mem_flatMap] at hq
    obtain ⟨r, hr, hq⟩ := hq
    obtain ⟨c, hc, rfl⟩ := List.mem_map.mp hq
    exact (hQ c (List.mem_range.mp hc) r (List.mem_range.mp hr)).2.den) (by rw [ql]; omega)
  rw [ql] at b1
  obtain ⟨A, hA⟩ : ∃ A : Nat → Nat → Int, A = fun t r => (Q t r).num * ((b / (Q t r).den : Nat) : Int) + (b : Int) := ⟨_, rfl⟩
  have num0 : ∀ c, c < C → ∀ r, r < R → 0 ≤ (Q c r).num := fun c hc r hr => Rat.num_nonneg.mpr (hQ c hc r hr).1
  have hA0 : ∀ t, t < C → ∀ r, r < R → 0 < A t r := fun t ht r hr => by
    rw [hA]
    have := Int.mul_nonneg (num0 t ht r hr) (Int.natCast_nonneg (b / (Q t r).den))
    show 0 < (Q t r).num * ((b / (Q t r).den : Nat) : Int) + (b : Int)
    omega
  have hAb : ∀ t, t < C → ∀ r, r < R → (A t r).natAbs ≤ 2 ^ (e + 1 + R * C * e + 1) := fun t ht r hr => by
    have h1 := (hQ t ht r hr).2.num
    have h2 : b / (Q t r).den < 2 ^ (1 + R * C * e) := Nat.lt_of_le_of_lt (Nat.div_le_self _ _) b1
    have h3 : (Q t r).num.natAbs * (b / (Q t r).den) < 2 ^ (e + (1 + R * C * e)) := mul_lt_pow h1 h2
    have h4 : 2 ^ (1 + R * C * e) ≤ 2 ^ (e + (1 + R * C * e)) := Nat.pow_le_pow_right (by decide) (by omega)
    have h5 : 2 ^ (e + 1 + R * C * e + 1) = 2 * 2 ^ (e + (1 + R * C * e)) := by
      rw [show e + 1 + R * C * e + 1 = (e + (1 + R * C * e)) + 1 by omega, Nat.pow_succ]
      omega
    have h6 := Int.natAbs_add_le ((Q t r).num * ((b / (Q t r).den : Nat) : Int)) (b : Int)
    rw [Int.natAbs_mul, Int.natAbs_natCast, Int.natAbs_natCast] at h6
    rw [hA, h5]
    show ((Q t r).num * ((b / (Q t r).den : Nat) : Int) + (b : Int)).natAbs ≤ _
    omega
  have hbb : ((b : Nat) : Int).natAbs ≤ 2 ^ (e + 1 + R * C * e + 1) := by
    rw [Int.natAbs_natCast]
    exact Nat.le_of_lt (Nat.lt_of_lt_of_le b1 (Nat.pow_le_pow_right (by decide) (by omega)))
  have bd : ∀ s, Fin (pbA C R A (b : Int)) s → (∀ i, i ≤ C → ∀ j, j ≤ R → (s.T i j).natAbs < 2 ^ K) ∧ s.u.natAbs < 2 ^ K := fun s F => by
    obtain ⟨x1, x2⟩ := T_abs F hAb hbb (Nat.pow_pos (by decide))
    have dp := dB_pow (Nat.le_refl (2 ^ (e + 1 + R * C * e + 1))) (n := C + 1) (by omega)
    have lt : dB (2 ^ (e + 1 + R * C * e + 1)) (C + 1) < 2 ^ K := Nat.lt_of_le_of_lt dp (Nat.pow_lt_pow_right (by decide) (by omega))
    exact ⟨fun i hi j hj => Nat.lt_of_le_of_lt (x1 i hi j hj) lt, Nat.lt_of_le_of_lt x2 lt⟩
  have ent : ∀ t : Nat, t < C → ∀ r : Nat, r < R → ((((Rs.of (idxD (tbD R C Q) (.int (0 + (r : Int))))).bind fun x15 => Rs.of (idxD x15 (.int (0 + (t : Int))))).bind fun x16 => Rs.of (idxD x16 (.int 0))).bind fun x20 => ((((Rs.of (idxD (tbD R C Q) (.int (0 + (r : Int))))).bind fun x17 => Rs.of (idxD x17 (.int (0 + (t : Int))))).bind fun x18 => Rs.of (idxD x18 (.int 1))).bind fun x19 => Rs.of (fdivD (.int (b : Int)) x19)).bind fun x21 => Rs.of (mulD x20 x21)).bind (fun x22 => Rs.of (addD x22 (.int (b : Int)))) = .ok (.int (A t r)) := fun t ht r hr => by
    have q := (hQ t ht r hr).2
    have i1 : idxD (.tup ((List.range C).map fun c => frQ (Q c r))) (.int (0 + (t : Int))) = some (frQ (Q t r)) := idxT_rg0 _ ht
    have fd : fdivD (.int (b : Int)) (.int ((Q t r).den : Int)) = some (.int ((b / (Q t r).den : Nat) : Int)) := fdivD_gcd (Q t r).den_pos (Nat.lt_of_lt_of_le q.den (Nat.pow_le_pow_right (by decide) (by omega)))
    have ml := mul_big (a := (Q t r).num) (b := ((b / (Q t r).den : Nat) : Int)) (k := e) (l := 1 + R * C * e) q.num (by rw [Int.natAbs_natCast]; exact Nat.lt_of_le_of_lt (Nat.div_le_self _ _) b1) (by omega)
    rw [Int.zero_add, row r hr]
    have f0 : idxD (frQ (Q t r)) (.int 0) = some (.int (Q t r).num) := rfl
    have f1 : idxD (frQ (Q t r)) (.int 1) = some (.int ((Q t r).den : Int)) := rfl
    simp only [Rs.of_some, Rs.bind_ok, i1, f0, f1, fd, ml, addD_int, hA]
  have cin : ∀ t : Nat, t < C → (((Rs.of (rangeD (.int (R : Int)))).bind fun l23 => compM some (fun y14 => Rs.ok true) (fun y14 => ((((Rs.of (idxD (tbD R C Q) y14)).bind fun x15 => Rs.of (idxD x15 (.int (0 + (t : Int))))).bind fun x16 => Rs.of (idxD x16 (.int 0))).bind fun x20 => ((((Rs.of (idxD (tbD R C Q) y14)).bind fun x17 => Rs.of (idxD x17 (.int (0 + (t : Int))))).bind fun x18 => Rs.of (idxD x18 (.int 1))).bind fun x19 => Rs.of (fdivD (.int (b : Int)) x19)).bind fun x21 => Rs.of (mulD x20 x21)).bind fun x22 => Rs.of (addD x22 (.int (b : Int)))) l23).bind fun l24 => Rs.ok (.lst l24)).bind (fun x25 => Rs.of (addD x25 (.lst [(.int (b : Int))]))) = .ok (iL (R + 1) ((tb0 C R A (b : Int)).T t)) := fun t ht => by
    have c0 := compM_all (fe := fun y14 => ((((Rs.of (idxD (tbD R C Q) y14)).bind fun x15 => Rs.of (idxD x15 (.int (0 + (t : Int))))).bind fun x16 => Rs.of (idxD x16 (.int 0))).bind fun x20 => ((((Rs.of (idxD (tbD R C Q) y14)).bind fun x17 => Rs.of (idxD x17 (.int (0 + (t : Int))))).bind fun x18 => Rs.of (idxD x18 (.int 1))).bind fun x19 => Rs.of (fdivD (.int (b : Int)) x19)).bind fun x21 => Rs.of (mulD x20 x21)).bind fun x22 => Rs.of (addD x22 (.int (b : Int)))) (fun (r : Nat) => D.int (0 + (r : Int))) (fun r => .int (A t r)) (List.range R) fun r hr => ent t ht r (List.mem_range.mp hr)
    rw [rangeD_rg (by omega)]
    simp only [Rs.of_some, Rs.bind_ok] at c0 ⊢
    rw [c0]
    simp only [Rs.bind_ok]
    rw [addD_lst (by simp; omega)]
    refine congrArg (fun l => Rs.ok (D.lst l)) (a₂ := (List.range (R + 1)).map fun i => D.int ((tb0 C R A (b : Int)).T t i)) ?_
    rw [List.range_succ, List.map_append, List.map_singleton]
    have l2 : (tb0 C R A (b : Int)).T t R = (b : Int) := by
      show (if t < C then (if R < R then A t R else (b : Int)) else _) = _
      rw [if_pos ht, if_neg (Nat.lt_irrefl R)]
    rw [l2]
    congr 1
    refine List.map_congr_left fun r hr => ?_
    show _ = D.int (if t < C then (if r < R then A t r else (b : Int)) else _)
    rw [if_pos ht, if_pos (List.mem_range.mp hr)]
  have cout := compM_all (fe := fun y13 => (((Rs.of (rangeD (.int (R : Int)))).bind fun l23 => compM some (fun y14 => Rs.ok true) (fun y14 => ((((Rs.of (idxD (tbD R C Q) y14)).bind fun x15 => Rs.of (idxD x15 y13)).bind fun x16 => Rs.of (idxD x16 (.int 0))).bind fun x20 => ((((Rs.of (idxD (tbD R C Q) y14)).bind fun x17 => Rs.of (idxD x17 y13)).bind fun x18 => Rs.of (idxD x18 (.int 1))).bind fun x19 => Rs.of (fdivD (.int (b : Int)) x19)).bind fun x21 => Rs.of (mulD x20 x21)).bind fun x22 => Rs.of (addD x22 (.int (b : Int)))) l23).bind fun l24 => Rs.ok (.lst l24)).bind fun x25 => Rs.of (addD x25 (.lst [(.int (b : Int))]))) (fun (t : Nat) => D.int (0 + (t : Int))) (fun t => iL (R + 1) ((tb0 C R A (b : Int)).T t)) (List.range C) fun t ht => cin t (List.mem_range.mp ht)
  have lastr : ((Rs.of (mulD (.lst [.int (-1)]) (.int (R : Int)))).bind fun x30 => Rs.of (addD x30 (.lst [(.int 0)]))) = .ok (iL (R + 1) ((tb0 C R A (b : Int)).T C)) := by
    have m1 : mulD (.lst [.int (-1)]) (.int (R : Int)) = some (.lst ((List.range R).map fun _ => .int (-1))) := by
      simp only [mulD, List.length_cons, List.length_nil]
      rw [if_pos ⟨by omega, by omega, Nat.le_trans (by omega) line_ge⟩, Int.toNat_natCast, rep_rg]
    rw [m1]
    simp only [Rs.of_some, Rs.bind_ok]
    rw [addD_lst (by simp; omega)]
    refine congrArg (fun l => Rs.ok (D.lst l)) (a₂ := (List.range (R + 1)).map fun i => D.int ((tb0 C R A (b : Int)).T C i)) ?_
    rw [List.range_succ, List.map_append, List.map_singleton]
    have l2 : (tb0 C R A (b : Int)).T C R = 0 := by
      show (if C < C then _ else if R < R then (-1 : Int) else 0) = _
      rw [if_neg (Nat.lt_irrefl C), if_neg (Nat.lt_irrefl R)]
    rw [l2]
    refine congrArg (· ++ [D.int 0]) (List.map_congr_left fun r hr => ?_)
    show _ = D.int (if C < C then _ else if r < R then (-1 : Int) else 0)
    rw [if_neg (Nat.lt_irrefl C), if_pos (List.mem_range.mp hr)]
  have app : appL ((List.range C).map fun t => iL (R + 1) ((tb0 C R A (b : Int)).T t)) (iL (R + 1) ((tb0 C R A (b : Int)).T C)) = some ((List.range (C + 1)).map fun t => iL (R + 1) ((tb0 C R A (b : Int)).T t)) := by
    rw [appL_ok (by simp; omega), List.range_succ, List.map_append, List.map_singleton]
  have rg2 : rangeD2 (.int (R : Int)) (.int ((R : Int) + (C : Int))) = some (nmD C (tb0 C R A (b : Int)).un) := by
    simp only [rangeD2]
    rw [if_pos ⟨by omega, by omega⟩, rangeL, show ((R : Int) + (C : Int) - (R : Int)).toNat = C by omega]
    rfl
  have rg1 : rangeD (.int (R : Int)) = some (nmD R (tb0 C R A (b : Int)).ac) := by
    rw [rangeD_rg (by omega)]
    refine congrArg some (List.map_congr_left fun j _ => ?_)
    show D.int (0 + (j : Int)) = .int (j : Int)
    rw [Int.zero_add]
  have hx : ∀ c, c < C → ∀ r, r < R → ((A c r : Int) : Rat) = ((b : Int) : Rat) * (Q c r + 1) := fun c hc r hr => by
    have dv := b2 _ (memq c hc r hr)
    obtain ⟨m, hm⟩ := dv
    have dd : b / (Q c r).den = m := by rw [hm, Nat.mul_div_cancel_left _ (Q c r).den_pos]
    rw [hA]
    show (((Q c r).num * ((b / (Q c r).den : Nat) : Int) + (b : Int) : Int) : Rat) = _
    rw [dd, Rat.intCast_add, Rat.intCast_mul]
    have e1 : ((b : Int) : Rat) = (((Q c r).den : Nat) : Rat) * ((m : Nat) : Rat) := by
      rw [hm]
      exact Rat.natCast_mul _ _
    have e2 : (Q c r) * (((Q c r).den : Nat) : Rat) = ((Q c r).num : Rat) := by
      have z : ((Q c r).num : Rat) / (((Q c r).den : Nat) : Rat) = Q c r := by rw [← Rat.mkRat_eq_div, Rat.mkRat_self]
      have dn : (((Q c r).den : Nat) : Rat) ≠ 0 := Rat.ne_of_gt (Rat.natCast_pos.mpr (Q c r).den_pos)
      conv => lhs; lhs; rw [← z]
      exact Rat.div_mul_cancel dn
    have e3 : ((m : Int) : Rat) = ((m : Nat) : Rat) := rfl
    rw [e1, ← e2, e3]
    grind
  have fin : ∀ {c : St5 → Rs Bool} {f : St5 → Rs St5} {g : St5 → Rs D} {d0 : D}, (∀ s, c (stD C R s .non) = .ok false) → (∀ s (j : Nat), c (stD C R s (.int (j : Int))) = .ok true) →
      (∀ s (r k : Nat), Fin (pbA C R A (b : Int)) s → Ent (pbA C R A (b : Int)) s k → m_leaving (bdD C R s) (.lst (nmD C s.un)) (.int (k : Int)) = .ok (.int (r : Int)) → Lea (pbA C R A (b : Int)) s k r → m_pivoted (bdD C R s) (.int s.u) (.int (r : Int)) (.int (k : Int)) = .ok (bdD C R (piv s r k)) →
        f (stD C R s (.int (k : Int))) = ((m_entering (iL (R + 1) ((piv s r k).T C)) (.lst (nmD R (piv s r k).ac))).noX.bind fun d => Rs.of (lentD d)).bind fun d49 => Rs.ok (stD C R (piv s r k) d49)) →
      ((m_entering (iL (R + 1) ((tb0 C R A (b : Int)).T C)) (.lst (nmD R (tb0 C R A (b : Int)).ac))).noX.bind fun d => Rs.of (lentD d)) = .ok d0 →
      (∀ s, Fin (pbA C R A (b : Int)) s → Out C R A (b : Int) s → g (stD C R s .non) = .ok (.tup [frQ ((s.u : Rat) / (s.T C R : Rat) - 1), .tup ((List.range C).map fun t => frQ ((Yp C R s t : Rat) / (sm C (Yp C R s) : Int))), .tup ((List.range R).map fun r => frQ ((X (pbA C R A (b : Int)) s r : Rat) / (sm R (X (pbA C R A (b : Int)) s) : Int)))])) →
      ∃ v p q, ((whileN c f FUEL (stD C R (tb0 C R A (b : Int)) d0)).bind g) = .ok (.tup [frQ v, .tup ((List.range C).map fun c => frQ (p c)), .tup ((List.range R).map fun r => frQ (q r))]) ∧ Mix C R Q v p q ∧ BQ (K + 2) v ∧ (∀ c, c < C → BQ K (p c)) ∧ ∀ r, r < R → BQ K (q r) := fun {c f g d0} c1 c2 hf h0 hg => by
    obtain ⟨s, e1, F, O⟩ := simplex_ok hC hR hCR (show (0 : Int) < (b : Int) by omega) hA0 (show K ≤ 3900 by omega) bd c1 c2 hf h0
    obtain ⟨z1, z2⟩ := bd s F
    have K0 : 0 < K := by omega
    have tR := z1 C (Nat.le_refl C) R (Nat.le_refl R)
    have YS : (sm C (Yp C R s)).natAbs ≤ (s.T C R).natAbs ∧ 0 < sm C (Yp C R s) := by
      have t := O.tot
      have ys := O.ysum
      have y0 := sm_nn (n := C) (f := Yp C R s) O.y0
      have : 0 < sm C (Yp C R s) := by
        rcases Int.lt_or_le 0 (sm C (Yp C R s)) with g | g
        · exact g
        · rw [show sm C (Yp C R s) = 0 by omega, Int.zero_mul] at ys
          omega
      have b1' : sm C (Yp C R s) * 1 ≤ sm C (Yp C R s) * (b : Int) := Int.mul_le_mul_of_nonneg_left (by omega) y0
      omega
    have le_sm : ∀ (n : Nat) (g : Nat → Int), (∀ i, i < n → 0 ≤ g i) → ∀ i, i < n → g i ≤ sm n g := fun n g hg i hi => by
      rw [sm_split hi]
      have : 0 ≤ sm n (fun k => if k = i then 0 else g k) := sm_nn fun k hk => by
        split
        · omega
        · exact hg k hk
      omega
    refine ⟨_, _, _, by rw [e1]; exact hg s F O, mix_ok F.ok.pos O (show (0 : Int) < (b : Int) by omega) hx, ?_, fun c hc => ?_, fun r hr => ?_⟩
    · exact (BQ.div O.tot z2 tR K0).sub (l := 1) ⟨by decide, by decide⟩
    · refine BQ.div YS.2 ?_ (Nat.lt_of_le_of_lt YS.1 tR) K0
      have a1 := O.y0 c hc
      have a2 := le_sm C _ O.y0 c hc
      have a3 := YS.1
      omega
    · refine BQ.div (by rw [O.xsum]; exact O.tot) ?_ (by rw [O.xsum]; exact tR) K0
      have a1 := O.x0 r hr
      have a2 := le_sm R _ O.x0 r hr
      rw [O.xsum] at a2
      omega
  have u2 : unL2 (.tup [.int (R : Int), .int (C : Int)]) = some (.int (R : Int), .int (C : Int)) := rfl
  obtain ⟨d0, h0⟩ : ∃ d0, ((m_entering (iL (R + 1) ((tb0 C R A (b : Int)).T C)) (.lst (nmD R (tb0 C R A (b : Int)).ac))).noX.bind fun d => Rs.of (lentD d)) = .ok d0 := by
    rcases entering_ok (P := pbA C R A (b : Int)) (s := tb0 C R A (b : Int)) (C := C) (R := R) (by omega) rfl rfl with ⟨e, _⟩ | ⟨k, e, _⟩ <;> exact ⟨_, by rw [e]; rfl⟩
  have l0 : idxD (.lst ((List.range (C + 1)).map fun t => iL (R + 1) ((tb0 C R A (b : Int)).T t))) (.int (-1)) = some (iL (R + 1) ((tb0 C R A (b : Int)).T C)) := bd_last _ C R
  have iT : itemsD (tbD R C Q) = some ((List.range R).map fun r => .tup ((List.range C).map fun c => frQ (Q c r))) := rfl
  have bo : ∀ (α β : Type) (a : α) (f : α → Rs β), (Rs.ok a).bind f = f a := fun _ _ _ _ => rfl
  have so : ∀ (α : Type) (a : α), Rs.of (some a) = Rs.ok a := fun _ _ => rfl
  rw [m_best_mixture]
  simp only [ht, bo, len0, so, row0, len1, u2, iT]
  simp only [so] at ci cout lastr
  rw [ci]
  simp only [bo, lr, so, eb]
  rw [rangeD_rg (n := C) (by omega)]
  simp only [so, bo]
  rw [cout]
  simp only [bo, neg1, so]
  rw [lastr]
  simp only [bo, app, so, addD_int, rg2, rg1, l0]
  rw [h0]
  simp only [bo]
  refine fin ?_ ?_ ?_ h0 ?_
  · intro s
    rfl
  · intro s j
    rfl
  · intro s r k F E e1 L e2
    obtain ⟨z1, z2⟩ := bd s F
    have hk : k < R := E.lt
    have hr : r < C := L.lt
    have s1 := set_rg (fun i => .int (s.un i : Int)) (n := C) (k := r) hr (.int (s.ac k : Int))
    have s2 := set_rg (fun j => .int (s.ac j : Int)) (n := R) (k := k) hk (.int (s.un r : Int))
    rw [nm_piv_un] at s1
    rw [nm_piv_ac] at s2
    have s1' : setL (nmD C s.un) (.int (r : Int)) (.int (s.ac k : Int)) = some (nmD C (piv s r k).un) := s1
    have s2' : setL (nmD R s.ac) (.int (k : Int)) (.int (s.un r : Int)) = some (nmD R (piv s r k).ac) := s2
    have lt : ∀ i : Nat, lentD (.int (i : Int)) = some (.int (i : Int)) := fun _ => rfl
    have lr := bd_last (piv s r k) C R
    simp only [stD, e1, Rs.noX_ok, Rs.bind_ok, lt, Rs.of_some, bd_at s (show r ≤ C by omega), iL_at _ (show k < R + 1 by omega), e2, nm_at s.ac hk, nm_at s.un hr, s1', s2', lr]
    rfl
  · intro s F O
    obtain ⟨z1, z2⟩ := bd s F
    have pt : ∀ {f : List D → D → Rs (List D)}, (∀ i : Nat, i < C → s.un i < R → ∀ z, f z (.tup [.int (0 + (i : Int)), .int (s.un i : Int)]) = (Rs.of (setL z (.int (s.un i : Int)) (.int (s.T i R)))).bind fun l => .ok l) → (∀ i : Nat, i < C → ¬ s.un i < R → ∀ z, f z (.tup [.int (0 + (i : Int)), .int (s.un i : Int)]) = .ok z) → _ := fun {f} h1 h2 => mixparts_ok (f := f) F h1 h2
    have pr : ∀ {f : List D → D → Rs (List D)}, (∀ j : Nat, j < R → R ≤ s.ac j → ∀ z, f z (.tup [.int (0 + (j : Int)), .int (s.ac j : Int)]) = (Rs.of (setL z (.int ((s.ac j - R : Nat) : Int)) (.int (s.T C j)))).bind fun l => .ok l) → (∀ j : Nat, j < R → ¬ R ≤ s.ac j → ∀ z, f z (.tup [.int (0 + (j : Int)), .int (s.ac j : Int)]) = .ok z) → _ := fun {f} h1 h2 => prices_ok (f := f) F h1 h2
    have r0 : ∀ n : Nat, n ≤ 19 → repL (.lst [(.int 0)]) (.int (n : Int)) = some ((List.range n).map fun _ => D.int 0) := fun n hn => by
      simp only [repL, List.length_cons, List.length_nil]
      rw [if_pos ⟨by omega, by omega, Nat.le_trans (by omega) line_ge⟩, Int.toNat_natCast, rep_rg]
    have en1 : enumD (.lst (nmD C s.un)) = some ((List.range C).map fun (i : Nat) => .tup [.int (0 + (i : Int)), .int (s.un i : Int)]) := enumD_rg _ _
    have en2 : enumD (.lst (nmD R s.ac)) = some ((List.range R).map fun (i : Nat) => .tup [.int (0 + (i : Int)), .int (s.ac i : Int)]) := enumD_rg _ _
    have tR := z1 C (Nat.le_refl C) R (Nat.le_refl R)
    have lb := bd_last s C R
    have K0 : 0 < K := by omega
    have fr := fraction_int (a := s.u) O.tot tR (by omega)
    have mi := minus_ok (BQ.div O.tot z2 tR K0) (q := 1) (l := 1) ⟨by decide, by decide⟩ (by omega)
    have mi' : m_minus (frQ ((s.u : Rat) / (s.T C R : Rat))) (.tup [.int 1, .int 1]) = .ok (frQ ((s.u : Rat) / (s.T C R : Rat) - 1)) := mi
    have YS : 0 < sm C (Yp C R s) ∧ (sm C (Yp C R s)).natAbs < 2 ^ K := by
      have t := O.tot
      have ys := O.ysum
      have y0 := sm_nn (n := C) (f := Yp C R s) O.y0
      have p : 0 < sm C (Yp C R s) := by
        rcases Int.lt_or_le 0 (sm C (Yp C R s)) with g | g
        · exact g
        · rw [show sm C (Yp C R s) = 0 by omega, Int.zero_mul] at ys
          omega
      have b1' : sm C (Yp C R s) * 1 ≤ sm C (Yp C R s) * (b : Int) := Int.mul_le_mul_of_nonneg_left (by omega) y0
      omega
    have sh1 := shares_ok YS.1 YS.2 (by omega)
    have sh2 := shares_ok (n := R) (g := X (pbA C R A (b : Int)) s) (k := K) (by rw [O.xsum]; exact O.tot) (by rw [O.xsum]; exact tR) (by omega)
    simp only [stD, r0 R (by omega), r0 C (by omega), Rs.of_some, Rs.bind_ok, en1, en2]
    rw [pt]
    · simp only [Rs.bind_ok]
      rw [pr]
      · simp only [Rs.bind_ok, lb, iL_last, Rs.of_some, fr, mi', sh1, sh2]
      · intro j hj g z
        have sb : subD (.int (s.ac j : Int)) (.int (R : Int)) = some (.int ((s.ac j - R : Nat) : Int)) := by
          simp only [subD]
          exact congrArg (fun z => some (D.int z)) (by omega)
        have g' : (R : Int) ≤ (s.ac j : Int) := by omega
        simp only [un2, Rs.of_some, Rs.bind_ok, geB_int, decide_eq_true g', if_true, lb, iL_at0 _ (show j < R + 1 by omega), sb]
      · intro j hj g z
        have g' : ¬ (R : Int) ≤ (s.ac j : Int) := by omega
        simp only [un2, Rs.of_some, Rs.bind_ok, geB_int, decide_eq_false g', Bool.false_eq_true, if_false]
    · intro i hi g z
      have g' : (s.un i : Int) < (R : Int) := by omega
      have b' : idxD (bdD C R s) (.int (0 + (i : Int))) = some (iL (R + 1) (s.T i)) := by rw [Int.zero_add, bd_at s (by omega)]
      simp only [un2, Rs.of_some, Rs.bind_ok, ltB_int, decide_eq_true g', if_true, b', iL_last]
    · intro i hi g z
      have g' : ¬ (s.un i : Int) < (R : Int) := by omega
      simp only [un2, Rs.of_some, Rs.bind_ok, ltB_int, decide_eq_false g', Bool.false_eq_true, if_false]
end LW
set_option Elab.async false
set_option linter.all false
set_option maxRecDepth 100000
set_option autoImplicit false
set_option maxHeartbeats 1000000
namespace SX
def rmx (a b : Rat) : Rat := if a < b then b else a
def rmn (a b : Rat) : Rat := if b < a then b else a
theorem rmx_fold : ∀ (xs : List Rat) (z : Rat), (xs.foldl rmx z = z ∨ xs.foldl rmx z ∈ xs) ∧ z ≤ xs.foldl rmx z ∧ ∀ x ∈ xs, x ≤ xs.foldl rmx z
  | [], z => ⟨.inl rfl, Rat.le_refl, fun x hx => by simp at hx⟩
  | y :: xs, z => by
    obtain ⟨a, b, c⟩ := rmx_fold xs (rmx z y)
    have h : z ≤ rmx z y ∧ y ≤ rmx z y ∧ (rmx z y = z ∨ rmx z y = y) := by
      unfold rmx
      split
      · rename_i g; exact ⟨Rat.le_of_lt g, Rat.le_refl, .inr rfl⟩
      · rename_i g; exact ⟨Rat.le_refl, Rat.not_lt.mp g, .inl rfl⟩
    rw [List.foldl_cons]
    refine ⟨?_, Rat.le_trans h.1 b, fun x hx => ?_⟩
    · rcases a with a | a
      · rw [a]
        rcases h.2.2 with e | e
        · exact .inl e
        · right
          rw [e]
          exact List.mem_cons_self
      · exact .inr (List.mem_cons_of_mem _ a)
    · rcases List.mem_cons.mp hx with rfl | hx
      · exact Rat.le_trans h.2.1 b
      · exact c x hx
theorem rmn_fold : ∀ (xs : List Rat) (z : Rat), (xs.foldl rmn z = z ∨ xs.foldl rmn z ∈ xs) ∧ xs.foldl rmn z ≤ z ∧ ∀ x ∈ xs, xs.foldl rmn z ≤ x
  | [], z => ⟨.inl rfl, Rat.le_refl, fun x hx => by simp at hx⟩
  | y :: xs, z => by
    obtain ⟨a, b, c⟩ := rmn_fold xs (rmn z y)
    have h : rmn z y ≤ z ∧ rmn z y ≤ y ∧ (rmn z y = z ∨ rmn z y = y) := by
      unfold rmn
      split
      · rename_i g; exact ⟨Rat.le_of_lt g, Rat.le_refl, .inr rfl⟩
      · rename_i g; exact ⟨Rat.le_refl, Rat.not_lt.mp g, .inl rfl⟩
    rw [List.foldl_cons]
    refine ⟨?_, Rat.le_trans b h.1, fun x hx => ?_⟩
    · rcases a with a | a
      · rw [a]
        rcases h.2.2 with e | e
        · exact .inl e
        · right
          rw [e]
          exact List.mem_cons_self
      · exact .inr (List.mem_cons_of_mem _ a)
    · rcases List.mem_cons.mp hx with rfl | hx
      · exact Rat.le_trans b h.2.1
      · exact c x hx
def mxL : List Rat → Rat
  | [] => 0
  | x :: xs => (x :: xs).foldl rmx x
def mnL : List Rat → Rat
  | [] => 0
  | x :: xs => (x :: xs).foldl rmn x
theorem mxL_spec {xs : List Rat} (h : xs ≠ []) : mxL xs ∈ xs ∧ ∀ x ∈ xs, x ≤ mxL xs := by
  cases xs with
  | nil => exact absurd rfl h
  | cons x xs =>
    obtain ⟨a, b, c⟩ := rmx_fold (x :: xs) x
    refine ⟨?_, c⟩
    rcases a with a | a
    · show (x :: xs).foldl rmx x ∈ _
      rw [a]
      exact List.mem_cons_self
    · exact a
theorem mnL_spec {xs : List Rat} (h : xs ≠ []) : mnL xs ∈ xs ∧ ∀ x ∈ xs, mnL xs ≤ x := by
  cases xs with
  | nil => exact absurd rfl h
  | cons x xs =>
    obtain ⟨a, b, c⟩ := rmn_fold (x :: xs) x
    refine ⟨?_, c⟩
    rcases a with a | a
    · show (x :: xs).foldl rmn x ∈ _
      rw [a]
      exact List.mem_cons_self
    · exact a
theorem wts_le {n : Nat} {p f : Nat → Rat} {v : Rat} (w : Wts n p) (h : ∀ i, i < n → f i ≤ v) : rsm n (fun i => p i * f i) ≤ v := by
  have a : rsm n (fun i => p i * f i) ≤ rsm n fun i => v * p i := rsm_le fun i hi => by
    rw [Rat.mul_comm v]
    exact Rat.mul_le_mul_of_nonneg_left (h i hi) (w.nn i hi)
  rwa [rsm_mul, w.one, Rat.mul_one] at a
def ln (t : Rat) (z : Rat × Rat) : Rat := t * z.1 + (1 - t) * z.2
end SX
set_option Elab.async false
set_option linter.all false
set_option maxRecDepth 100000
set_option autoImplicit false
set_option maxHeartbeats 1000000
namespace LW
open PySem PySem.Spec VL
theorem take_ok {N : Nat} {s : List D} {n : Int} (hb : Box N s) (hN : N ≤ 1000000000) (hn : 0 < n) (hl : n < 2 ^ 200) : ∃ r s', m_law_take s (.int n) = .ok (.int r, s') ∧ 0 ≤ r ∧ r < n ∧ Box (N + 1) s' := by
  obtain ⟨a, b, c, rfl, ha, hb1, hb2, hc1, hc2⟩ := hb
  have hnl : n.natAbs < 2 ^ 9000 := Nat.lt_of_lt_of_le (show n.natAbs < 2 ^ 200 by omega) (Nat.pow_le_pow_right (by decide) (by decide))
  by_cases h0 : 0 < a
  · refine ⟨a % n, [.int (a / n), .int b, .int c], ?_, Int.emod_nonneg _ (by omega), Int.emod_lt_of_pos _ hn, _, _, _, rfl, Int.ediv_nonneg ha (by omega), hb1, hb2, hc1, by omega⟩
    simp only [m_law_take, idx3_0, Rs.of_some, Rs.bind_ok, gtB_int, decide_eq_true h0, if_true, intD_int, modD_int hn, fdivD_int hn hnl, set3_0]
  · have e1 : mulD (.int 48271) (.int (c + 1)) = some (.int (48271 * (c + 1))) := mulD_int (a := 20) (b := 40) (by decide) (by omega) (by decide) (by decide) (by decide)
    have e2 : mulD (.int (b + 48271 * (c + 1))) (.int (39373 + (c + 1))) = some (.int ((b + 48271 * (c + 1)) * (39373 + (c + 1)))) := mulD_int (a := 80) (b := 40) (by omega) (by omega) (by decide) (by decide) (by decide)
    have m1 : (0 : Int) < 2147483647 := by decide
    have m2 : (0 : Int) < 40009 := by decide
    have m3 : (0 : Int) < 2147483629 := by decide
    have m4 : (0 : Int) < 2147483587 := by decide
    obtain ⟨o, ho⟩ : ∃ o, o = (b + 48271 * (c + 1)) * (39373 + (c + 1)) % 2147483647 := ⟨_, rfl⟩
    have o1 : 0 ≤ o := ho ▸ Int.emod_nonneg _ (by decide)
    have o2 : o < 2147483647 := ho ▸ Int.emod_lt_of_pos _ (by decide)
    have f1 : 0 ≤ o % 40009 := Int.emod_nonneg _ (by decide)
    have f2 : o % 40009 < 40009 := Int.emod_lt_of_pos _ (by decide)
    have d1 : fdivD (.int b) (.int 1000003) = some (.int (b / 1000003)) := fdivD_int (by decide) (Nat.lt_of_lt_of_le (show (1000003 : Int).natAbs < 2 ^ 20 by decide) (Nat.pow_le_pow_right (by decide) (by decide)))
    have d2 : ∀ k : Int, fdivD (.int k) (.int 64) = some (.int (k / 64)) := fun k => fdivD_int (by decide) (Nat.lt_of_lt_of_le (show (64 : Int).natAbs < 2 ^ 20 by decide) (Nat.pow_le_pow_right (by decide) (by decide)))
    have b1 : 0 ≤ b / 1000003 := Int.ediv_nonneg hb1 (by decide)
    have b2 : b / 1000003 ≤ b := Int.ediv_le_self _ hb1
    have e3 : mulD (.int (o + (c + 1) + b / 1000003)) (.int (o % 40009 + 7)) = some (.int ((o + (c + 1) + b / 1000003) * (o % 40009 + 7))) := mulD_int (a := 80) (b := 40) (by omega) (by omega) (by decide) (by decide) (by decide)
    obtain ⟨g, hg⟩ : ∃ g, g = (o + (c + 1) + b / 1000003) * (o % 40009 + 7) % 2147483629 := ⟨_, rfl⟩
    have g1 : 0 ≤ g := hg ▸ Int.emod_nonneg _ (by decide)
    have g2 : g < 2147483629 := hg ▸ Int.emod_lt_of_pos _ (by decide)
    have e4 : mulD (.int g) (.int 48271) = some (.int (g * 48271)) := mulD_int (a := 80) (b := 40) (by omega) (by decide) (by decide) (by decide) (by decide)
    refine ⟨(g * 48271 + o) % 2147483587 / 64 % n, [.int a, .int b, .int (c + 1)], ?_, Int.emod_nonneg _ (by omega), Int.emod_lt_of_pos _ hn, _, _, _, rfl, ha, hb1, hb2, by omega, by omega⟩
    simp only [m_law_take, idx3_0, Rs.of_some, Rs.bind_ok, gtB_int, decide_eq_false h0, Bool.false_eq_true, if_false, idx3_1, idx3_2, addD_int, set3_2, intD_int, e1, e2, modD_int m1, ← ho, modD_int m2, d1, e3, modD_int m3, ← hg, e4, modD_int m4, d2, modD_int hn]
theorem same_refl : ∀ (n : Nat) (d : D), fits n d = true → m_law_same (n + 1) d d = .ok (.bl true)
  | n, .exn c xs, h => by cases n <;> simp [fits] at h
  | n, .non, _ => rfl
  | n, .bl b, _ => by cases b <;> rfl
  | n, .int i, _ => by simp [m_law_same, isiD2, isiD, isiB, kindD, isiK, isNB, D.isNon]
  | n, .str x, _ => by simp [m_law_same, isiD2, isiD, isiB, kindD, isiK, isNB, D.isNon, isND]
  | n + 1, .tup xs, h => by
    have h' : ∀ x ∈ xs, fits n x = true := List.all_eq_true.mp (by simpa only [fits] using h)
    have e : compM un2 (fun y7 => Rs.ok true) (fun y7 => m_law_same (n + 1) y7.1 y7.2) (zipL xs xs) = .ok (xs.map fun _ => .bl true) := by
      have z := compM_allU (u := un2) (fe := fun y7 : D × D => m_law_same (n + 1) y7.1 y7.2) (fun x : D => .tup [x, x]) (fun x => (x, x)) (fun _ => .bl true) xs (fun _ _ => rfl) (fun x hx => same_refl n x (h' x hx))
      rw [← z, zipL_self]
    have e2 := allD_of xs fun _ => true
    rw [m_law_same]
    simp [isiD2, isiD, isiB, kindD, isiK, lenD, zipD, seqD, e, e2]
  | n + 1, .lst xs, h => by
    have h' : ∀ x ∈ xs, fits n x = true := List.all_eq_true.mp (by simpa only [fits] using h)
    have e : compM un2 (fun y7 => Rs.ok true) (fun y7 => m_law_same (n + 1) y7.1 y7.2) (zipL xs xs) = .ok (xs.map fun _ => .bl true) := by
      have z := compM_allU (u := un2) (fe := fun y7 : D × D => m_law_same (n + 1) y7.1 y7.2) (fun x : D => .tup [x, x]) (fun x => (x, x)) (fun _ => .bl true) xs (fun _ _ => rfl) (fun x hx => same_refl n x (h' x hx))
      rw [← z, zipL_self]
    have e2 := allD_of xs fun _ => true
    rw [m_law_same]
    simp [isiD2, isiD, isiB, kindD, isiK, lenD, zipD, seqD, e, e2]
  | 0, .tup xs, h => by simp [fits] at h
  | 0, .lst xs, h => by simp [fits] at h
  | n, .scr xs, h => by cases n <;> simp [fits] at h
  | n, .obj c xs, h => by cases n <;> simp [fits] at h
  | n, .dT xs, h => by cases n <;> simp [fits] at h
  | n, .dK xs, h => by cases n <;> simp [fits] at h
  | n, .dN w xs, h => by cases n <;> simp [fits] at h
  | n, .tupL xs, h => by cases n <;> simp [fits] at h
end LW
set_option Elab.async false
set_option linter.all false
set_option maxRecDepth 100000
set_option autoImplicit false
set_option maxHeartbeats 1000000
namespace LW
open PySem PySem.Spec VL
theorem cells_ok {ns : List Int} {p : Nat} (hl : ns.length ≤ 63) (hp : p ≤ 2000000) (hb : ∀ n ∈ ns, n.natAbs < 2 ^ p) :
    ∃ cs : List Int, m_law_cells (.scr (ns.map .int)) (.int 3) = .ok (.lst (cs.map .int)) ∧ 0 < cs.length ∧ cs.length ≤ 3 ∧ ∀ c ∈ cs, c.natAbs < 2 ^ (p + 20) := by
  obtain ⟨B, hB⟩ : ∃ B, B = 2 ^ p := ⟨_, rfl⟩
  have hB1 : 0 < B := hB ▸ Nat.pow_pos (by decide)
  have hBt : B * 4096 < 2 ^ (p + 20) := by
    rw [Nat.pow_add, ← hB]
    exact Nat.mul_lt_mul_of_pos_left (by decide) hB1
  have c1 : cutD (ns.map .int) none (some 3) = (ns.take 3).map .int := by
    simp only [cutD, HT.sIx, List.length_map, Nat.sub_zero, List.drop_zero]
    rw [if_neg (by omega), List.map_take]
    by_cases h : 3 ≤ ns.length
    · rw [show min (3 : Int).toNat ns.length = 3 by simp; omega]
    · rw [show min (3 : Int).toNat ns.length = ns.length by simp; omega, List.take_of_length_le (by simp), List.take_of_length_le (by simp; omega)]
  have c2 : cutD (ns.map .int) (some 3) (some 63) = (ns.drop 3).map .int := by
    simp only [cutD, HT.sIx, List.length_map]
    rw [if_neg (by omega), if_neg (by omega), List.map_drop]
    by_cases h : 3 ≤ ns.length
    · rw [show min (3 : Int).toNat ns.length = 3 by simp; omega, show min (63 : Int).toNat ns.length = ns.length by simp; omega, List.take_of_length_le (by simp)]
    · rw [show min (3 : Int).toNat ns.length = ns.length by simp; omega, List.drop_eq_nil_of_le (by simp), List.drop_eq_nil_of_le (by simp; omega)]
      simp
  have s1 : sliceD (.scr (ns.map .int)) none (some 3) = some (.lst ((ns.take 3).map .int)) := by simp only [sliceD, c1]
  have s2 : sliceD (.scr (ns.map .int)) (some 3) (some 63) = some (.lst ((ns.drop 3).map .int)) := by simp only [sliceD, c2]
  have e1 : enumD (.lst ((ns.drop 3).map .int)) = some (((ns.drop 3).zipIdx 0).map fun q => .tup [.int (q.2 : Int), .int q.1]) := by
    simp only [enumD, seqD, Option.map_some, enumL_map D.int (ns.drop 3) 0]
  obtain ⟨f, hf⟩ : ∃ f, f = fun (z4 : List D) (d : D) => (Rs.of (un2 d)).bind fun y5 => ((Rs.of (intD [y5.1])).bind fun x7 => Rs.of (modD x7 (.int 3))).bind fun d8 => ((Rs.of (idxD (.lst z4) d8)).bind fun x10 => ((Rs.of (addD y5.1 (.int 2))).bind fun x9 => Rs.of (mulD y5.2 x9)).bind fun x11 => Rs.of (addD x10 x11)).bind fun x13 => (Rs.of (setL z4 d8 x13)).bind fun l12 => Rs.ok l12 := ⟨_, rfl⟩
  have fin : ∀ cs0 : List Int, (0 < (ns.drop 3).length → cs0.length = 3) → (∀ c ∈ cs0, c.natAbs < B) → ∃ cs : List Int, foldM f (((ns.drop 3).zipIdx 0).map fun q => .tup [.int (q.2 : Int), .int q.1]) (cs0.map .int) = .ok (cs.map .int) ∧ cs.length = cs0.length ∧ ∀ c ∈ cs, c.natAbs < B * 4096 := by
    intro cs0 h0 h1
    have key : ∃ z', foldM f (((ns.drop 3).zipIdx 0).map fun q => .tup [.int (q.2 : Int), .int q.1]) (cs0.map .int) = .ok z' ∧ ∃ cs : List Int, z' = cs.map .int ∧ cs.length = cs0.length ∧ ∀ c ∈ cs, c.natAbs ≤ B + (0 + ((ns.drop 3).zipIdx 0).length) * (B * 65) := by
      refine foldM_ix (fun q : Int × Nat => .tup [.int (q.2 : Int), .int q.1]) (fun j (z : List D) => ∃ cs : List Int, z = cs.map D.int ∧ cs.length = cs0.length ∧ ∀ c ∈ cs, c.natAbs ≤ B + j * (B * 65)) _ 0 _ ⟨cs0, rfl, rfl, fun c hc => by have := h1 c hc; omega⟩ ?_
      rintro j z ⟨a, k⟩ hx hj ⟨cs, rfl, l1, l2⟩
      have hk := List.mem_zipIdx hx
      obtain ⟨_, hk2, hk3⟩ := hk
      simp only [Nat.zero_add, List.length_drop] at hk2
      have ha : a ∈ ns := by
        have : a ∈ ns.drop 3 := by rw [hk3]; exact List.getElem_mem _
        exact List.mem_of_mem_drop this
      have hlen : cs.length = 3 := by rw [l1]; exact h0 (by simp only [List.length_drop]; omega)
      have hm : modD (.int (k : Int)) (.int 3) = some (.int ((k % 3 : Nat) : Int)) := by rw [modD_int (by decide)]; rfl
      have hi : k % 3 < cs.length := by rw [hlen]; exact Nat.mod_lt _ (by decide)
      have hidx : idxD (.lst (cs.map .int)) (.int ((k % 3 : Nat) : Int)) = some (.int cs[k % 3]) := idxD_lst _ _ _ (by simp [hi])
      have hmul : mulD (.int a) (.int ((k : Int) + 2)) = some (.int (a * ((k : Int) + 2))) := mulD_int (a := p + 1) (b := 10) (by have := hb a ha; rw [Nat.pow_succ]; omega) (by omega) (by omega) (by omega) (by decide)
      have hset : setL (cs.map .int) (.int ((k % 3 : Nat) : Int)) (.int (cs[k % 3] + a * ((k : Int) + 2))) = some ((cs.set (k % 3) (cs[k % 3] + a * ((k : Int) + 2))).map .int) := by
        simp only [setL, L2.ixN, List.length_map]
        rw [if_pos (by omega), if_pos (by omega)]
        simp only [Option.map_some, Int.toNat_natCast, List.map_set]
      refine ⟨(cs.set (k % 3) (cs[k % 3] + a * ((k : Int) + 2))).map .int, ?_, _, rfl, by simp [l1], fun c hc => ?_⟩
      · simp only [hf, un2, Rs.of_some, Rs.bind_ok, intD_int, hm, hidx, addD_int, hmul, hset]
      · have e : (j + 1) * (B * 65) = j * (B * 65) + B * 65 := Nat.succ_mul _ _
        rcases List.mem_or_eq_of_mem_set hc with hc | rfl
        · have := l2 c hc
          omega
        · have z1 := l2 cs[k % 3] (List.getElem_mem hi)
          have z2 := Int.natAbs_add_le cs[k % 3] (a * ((k : Int) + 2))
          have z3 : (a * ((k : Int) + 2)).natAbs ≤ B * 65 := by
            rw [Int.natAbs_mul]
            exact Nat.mul_le_mul (by have := hb a ha; omega) (by omega)
          omega
    obtain ⟨z', e, cs, rfl, k1, k2⟩ := key
    refine ⟨cs, e, k1, fun c hc => ?_⟩
    have z := k2 c hc
    simp only [Nat.zero_add, List.length_zipIdx, List.length_drop] at z
    have z2 : (ns.length - 3) * (B * 65) ≤ 60 * (B * 65) := Nat.mul_le_mul_right _ (by omega)
    omega
  have start : ∃ cs0 : List Int, (if ((ns.take 3).map D.int).isEmpty = true then Rs.ok [D.int 0] else Rs.ok ((ns.take 3).map D.int)) = Rs.ok (cs0.map D.int) ∧ 0 < cs0.length ∧ cs0.length ≤ 3 ∧ (0 < (ns.drop 3).length → cs0.length = 3) ∧ ∀ c ∈ cs0, c.natAbs < B := by
    cases ns with
    | nil => exact ⟨[0], rfl, by decide, by decide, fun h => by simp at h, fun c hc => by simp at hc; subst hc; exact hB1⟩
    | cons n ns =>
      refine ⟨(n :: ns).take 3, by simp, by simp, by simp; omega, fun h => ?_, fun c hc => ?_⟩
      · simp only [List.length_drop, List.length_cons] at h
        simp only [List.length_take, List.length_cons]
        omega
      · rw [hB]
        exact hb c (List.mem_of_mem_take hc)
  obtain ⟨cs0, g1, g2, g3, g4, g5⟩ := start
  obtain ⟨cs, k1, k2, k3⟩ := fin cs0 g4 g5
  refine ⟨cs, ?_, by omega, by omega, fun c hc => Nat.lt_trans (k3 c hc) hBt⟩
  subst hf
  simp only [m_law_cells, asI, Rs.of_some, Rs.bind_ok, s1, listL, g1, s2, e1, k1]
theorem pow18 : powD (.int 10) (.int 18) = some (.int 1000000000000000000) := by kernel_rfl
theorem box_ok {cs : List Int} {k q : Nat} (hk : k < cs.length) (h3 : cs.length ≤ 3) (hq : q ≤ 10000000) (hb : ∀ c ∈ cs, c.natAbs < 2 ^ q) : ∃ s, m_law_box (.lst (cs.map .int)) (.int k) = .ok s ∧ Box 0 s := by
  have hidx : idxD (.lst (cs.map .int)) (.int (k : Int)) = some (.int cs[k]) := idxD_lst _ _ _ (by simp [hk])
  obtain ⟨c, hc⟩ : ∃ c, c = cs[k] := ⟨_, rfl⟩
  have hcb : c.natAbs < 2 ^ q := hb c (hc ▸ List.getElem_mem hk)
  have hlt : decide ((k : Int) < (cs.length : Int)) = true := decide_eq_true (by omega)
  have hm : modD (.int c) (.int 2305843009213693951) = some (.int (c % 2305843009213693951)) := modD_int (by decide)
  have m1 := Int.emod_nonneg c (show (2305843009213693951 : Int) ≠ 0 by decide)
  have m2 := Int.emod_lt_of_pos c (show (0 : Int) < 2305843009213693951 by decide)
  have hk2 : mulD (.int 39373) (.int (k : Int)) = some (.int (39373 * (k : Int))) := mulD_int (a := 20) (b := 20) (by decide) (by omega) (by decide) (by decide) (by decide)
  have habs : (if c < 0 then -c else c).natAbs < 2 ^ (q + 1) := by
    rw [Nat.pow_succ]
    split <;> omega
  have ha0 : 0 ≤ (if c < 0 then -c else c) := by split <;> omega
  have fin : ∀ b : Bool, ∃ v, mulD (.int (if c < 0 then -c else c)) (.int (if b = true then 1 else 0)) = some (.int v) ∧ 0 ≤ v := fun b => by
    refine ⟨_, mulD_int (a := q + 1) (b := 2) habs (by cases b <;> decide) (by omega) (by omega) (by decide), ?_⟩
    cases b
    · simp
    · simp only [if_true, Int.mul_one]
      exact ha0
  obtain ⟨v, v1, v2⟩ := fin (decide (1000000000000000000 ≤ (if c < 0 then -c else c)))
  refine ⟨[.int v, .int (c % 2305843009213693951 + 39373 * (k : Int) + 92330), .int 0], ?_, _, _, _, rfl, v2, ?_, ?_, Int.le_refl _, Int.le_refl _⟩
  · simp only [m_law_box, lenD, List.length_map, Rs.of_some, Rs.bind_ok, ltB_int, hlt, if_true, hidx, ← hc, absD, pow18, geD_int, intD, v1, hm, hk2, addD_int]
  · omega
  · omega
end LW
set_option Elab.async false
set_option linter.all false
set_option maxRecDepth 100000
set_option autoImplicit false
set_option maxHeartbeats 1000000
namespace LW
open PySem PySem.Spec VL SX
theorem law_part_ok {a : Int} {b : Nat} (h0 : b ≠ 0) (hb : b < 2 ^ 8000) : m_law_part (.int a) (.int (b : Int)) = .ok (.int ((Nat.gcd a.natAbs b : Nat) : Int)) := by
  have e := gcd_loopI (c := fun z0 : D × D => Rs.of (neB z0.2 (.int 0))) (f := fun z0 => (Rs.of (modD z0.1 z0.2)).bind fun d2 => Rs.ok (z0.2, d2))
    (fun a b => by simp only [neB_int, Rs.of_some]; congr 2; simp) (fun a b h => by simp only [modD_int (show (0 : Int) < (b : Int) by omega), Rs.of_some, Rs.bind_ok]) (k := 8000) (n := FUEL) (a := a) h0 hb (by decide)
  simp only [m_law_part, e, Rs.bind_ok]
theorem law_ratio_ok {a : Int} {b : Nat} (h0 : b ≠ 0) (hb : b < 2 ^ 8000) : m_law_ratio (.int a) (.int (b : Int)) = .ok (frQ (mkRat a b)) := by
  have g0 : 0 < Nat.gcd a.natAbs b := Nat.gcd_pos_of_pos_right _ (by omega)
  have g1 : Nat.gcd a.natAbs b < 2 ^ 8000 := Nat.lt_of_le_of_lt (Nat.gcd_le_right _ (by omega)) hb
  simp only [m_law_ratio, law_part_ok h0 hb, Rs.bind_ok, Rs.of_some, fdivD_gcd g0 g1, mkRat_parts h0]
  rfl
theorem law_by_ok {k l : Nat} {p q : Rat} (hp : BQ k p) (hq : BQ l q) (h : k + l ≤ 8000) : m_law_by (frQ p) (frQ q) = .ok (frQ (p * q)) := by
  have e1 : mulD (.int p.num) (.int q.num) = some (.int (p.num * q.num)) := mul_big hp.num hq.num h
  have e2 : mulD (.int (p.den : Int)) (.int (q.den : Int)) = some (.int ((p.den * q.den : Nat) : Int)) := by
    rw [mul_big (k := k) (l := l) (by simpa using hp.den) (by simpa using hq.den) h]
    rfl
  simp only [m_law_by, frQ, tix2_0, tix2_1, Rs.of_some, Rs.bind_ok, e1, e2]
  rw [law_ratio_ok (Nat.mul_ne_zero p.den_nz q.den_nz) (Nat.lt_of_lt_of_le (mul_lt_pow hp.den hq.den) (Nat.pow_le_pow_right (by decide) h)), Rat.mul_def']
  rfl
theorem law_less_ok {k l : Nat} {p q : Rat} (hp : BQ k p) (hq : BQ l q) (h : k + l ≤ 8000) : m_law_less (frQ p) (frQ q) = .ok (.bl (decide (p < q))) := by
  have e1 : mulD (.int p.num) (.int (q.den : Int)) = some (.int (p.num * (q.den : Int))) := mul_big hp.num (by simpa using hq.den) h
  have e3 : mulD (.int q.num) (.int (p.den : Int)) = some (.int (q.num * (p.den : Int))) := mul_big hq.num (by simpa using hp.den) (by omega)
  simp only [m_law_less, frQ, tix2_0, tix2_1, Rs.of_some, Rs.bind_ok, e1, e3, ltD, ltB_int, Option.map_some, lt_cross]
theorem sum_fold {e : Nat} {f : D × D → D → Rs (D × D)} (hf : ∀ (t : Int) (d : Nat) (q : Rat) (k : Nat), t.natAbs < 2 ^ k → d < 2 ^ k → k ≤ 4000 → BQ e q → f (.int t, .int (d : Int)) (frQ q) = .ok (.int (t * (q.den : Int) + q.num * (d : Int)), .int ((d * q.den : Nat) : Int))) :
    ∀ (qs : List Rat) (t : Int) (d k : Nat), t.natAbs < 2 ^ k → d < 2 ^ k → d ≠ 0 → k + qs.length * (e + 1) ≤ 4000 → (∀ q ∈ qs, BQ e q) → ∃ (t' : Int) (d' : Nat), foldM f (qs.map frQ) (.int t, .int (d : Int)) = .ok (.int t', .int (d' : Int)) ∧ t'.natAbs < 2 ^ (k + qs.length * (e + 1)) ∧ d' < 2 ^ (k + qs.length * (e + 1)) ∧ d' ≠ 0 ∧ mkRat t' d' = qs.foldl (· + ·) (mkRat t d)
  | [], t, d, k, h1, h2, h3, _, _ => ⟨t, d, rfl, by simpa using h1, by simpa using h2, h3, rfl⟩
  | q :: qs, t, d, k, h1, h2, h3, h4, h5 => by
    have hq := h5 q List.mem_cons_self
    simp only [List.length_cons, Nat.succ_mul] at h4 ⊢
    have b1 : (t * (q.den : Int) + q.num * (d : Int)).natAbs < 2 ^ (k + (e + 1)) := by
      have a1 : t.natAbs * q.den < 2 ^ (k + e) := mul_lt_pow h1 hq.den
      have a2 : q.num.natAbs * d < 2 ^ (e + k) := mul_lt_pow hq.num h2
      have a3 := Int.natAbs_add_le (t * (q.den : Int)) (q.num * (d : Int))
      rw [Int.natAbs_mul, Int.natAbs_mul, Int.natAbs_natCast, Int.natAbs_natCast] at a3
      have a4 : 2 ^ (k + (e + 1)) = 2 * 2 ^ (k + e) := by rw [← Nat.add_assoc, Nat.pow_succ]; omega
      rw [Nat.add_comm e k] at a2
      omega
    have b2 : d * q.den < 2 ^ (k + (e + 1)) := Nat.lt_of_lt_of_le (mul_lt_pow h2 hq.den) (Nat.pow_le_pow_right (by decide) (by omega))
    obtain ⟨t', d', e1, c1, c2, c3, c4⟩ := sum_fold hf qs _ _ (k + (e + 1)) b1 b2 (Nat.mul_ne_zero h3 q.den_nz) (by omega) fun p hp => h5 p (List.mem_cons_of_mem _ hp)
    refine ⟨t', d', ?_, by rwa [show k + (qs.length * (e + 1) + (e + 1)) = k + (e + 1) + qs.length * (e + 1) by omega], by rwa [show k + (qs.length * (e + 1) + (e + 1)) = k + (e + 1) + qs.length * (e + 1) by omega], c3, ?_⟩
    · rw [List.map_cons]
      simp only [foldM, hf t d q k h1 h2 (by omega) hq, Rs.bind_ok, e1]
    · rw [c4, List.foldl_cons]
      congr 1
      conv => rhs; rhs; rw [← Rat.mkRat_self q]
      rw [Rat.mkRat_add_mkRat _ _ h3 q.den_nz]
theorem law_sum_ok (k : Bool) {e : Nat} {qs : List Rat} (he : e ≤ 4000) (h : ∀ q ∈ qs, BQ e q) (hn : 1 + qs.length * (e + 1) ≤ 4000) : m_law_sum (sq k (qs.map frQ)) = .ok (frQ (qs.foldl (· + ·) 0)) ∧ BQ (1 + qs.length * (e + 1)) (qs.foldl (· + ·) 0) := by
  have z0 : mkRat 0 1 = 0 := rfl
  have fin : ∀ {f : D × D → D → Rs (D × D)}, (∀ (t : Int) (d : Nat) (q : Rat) (k : Nat), t.natAbs < 2 ^ k → d < 2 ^ k → k ≤ 4000 → BQ e q → f (.int t, .int (d : Int)) (frQ q) = .ok (.int (t * (q.den : Int) + q.num * (d : Int)), .int ((d * q.den : Nat) : Int))) →
      ((foldM f (qs.map frQ) (.int 0, .int 1)).bind fun z1 => m_law_ratio z1.1 z1.2) = .ok (frQ (qs.foldl (· + ·) 0)) ∧ BQ (1 + qs.length * (e + 1)) (qs.foldl (· + ·) 0) := fun {f} hf => by
    obtain ⟨t', d', e1, c1, c2, c3, c4⟩ := sum_fold hf qs 0 1 1 (by decide) (by decide) (by decide) hn h
    have e1' : foldM f (qs.map frQ) (.int 0, .int 1) = .ok (.int t', .int (d' : Int)) := e1
    rw [z0] at c4
    rw [← c4]
    exact ⟨by rw [e1']; exact law_ratio_ok c3 (Nat.lt_of_lt_of_le c2 (Nat.pow_le_pow_right (by decide) (by omega))), BQ.mk' c1 c2 (by omega)⟩
  have u2 : unL2 (.tup [(.int 0), (.int 1)]) = some (.int 0, .int 1) := rfl
  have it : itemsD (sq k (qs.map frQ)) = some (qs.map frQ) := by cases k <;> rfl
  simp only [m_law_sum, u2, Rs.of_some, Rs.bind_ok, it]
  refine fin ?_
  intro t d q k h1 h2 hk hq
  have f0 : idxD (frQ q) (.int 0) = some (.int q.num) := rfl
  have f1 : idxD (frQ q) (.int 1) = some (.int (q.den : Int)) := rfl
  have m1 := mul_big (a := t) (b := (q.den : Int)) (k := k) (l := e) h1 (by simpa using hq.den) (by omega)
  have m2 := mul_big (a := q.num) (b := (d : Int)) (k := e) (l := k) hq.num (by simpa using h2) (by omega)
  have m3 : mulD (.int (d : Int)) (.int (q.den : Int)) = some (.int ((d * q.den : Nat) : Int)) := by
    rw [mul_big (k := k) (l := e) (by simpa using h2) (by simpa using hq.den) (by omega)]
    rfl
  simp only [Rs.of_some, Rs.bind_ok, f0, f1, m1, m2, m3, addD_int]
theorem pick_fold {k : Nat} {g : Rat → Rat → Rat} (hg : ∀ a b, g a b = a ∨ g a b = b) {f : D → D → Rs D} (hf : ∀ a b, BQ k a → BQ k b → f (frQ a) (frQ b) = .ok (frQ (g a b))) : ∀ (xs : List Rat) (z : Rat), BQ k z → (∀ x ∈ xs, BQ k x) → foldM f (xs.map frQ) (frQ z) = .ok (frQ (xs.foldl g z))
  | [], z, _, _ => rfl
  | x :: xs, z, hz, h => by
    have hx := h x List.mem_cons_self
    have hb : BQ k (g z x) := by
      rcases hg z x with e | e <;> rw [e] <;> assumption
    simp only [List.map_cons, foldM, hf z x hz hx, Rs.bind_ok, List.foldl_cons]
    exact pick_fold hg hf xs _ hb fun y hy => h y (List.mem_cons_of_mem _ hy)
theorem law_most_ok {k : Nat} {xs : List Rat} (hk : k + k ≤ 8000) (ne : xs ≠ []) (h : ∀ x ∈ xs, BQ k x) : m_law_most (.lst (xs.map frQ)) = .ok (frQ (mxL xs)) := by
  obtain ⟨x, r, rfl⟩ := List.exists_cons_of_ne_nil ne
  have i0 : idxD (.lst ((x :: r).map frQ)) (.int 0) = some (frQ x) := idxD_lst _ 0 _ (by simp)
  simp only [m_law_most, i0, Rs.of_some, Rs.bind_ok, itemsD_lst]
  rw [pick_fold (k := k) (g := rmx) (fun a b => by unfold rmx; split <;> simp) (fun a b ha hb => ?_) (x :: r) x (h x List.mem_cons_self) h]
  · rfl
  · simp only [law_less_ok ha hb hk, Rs.bind_ok, asB_bl, Rs.of_some]
    unfold rmx
    by_cases z : a < b <;> simp [z]
theorem law_least_ok {k : Nat} {xs : List Rat} (hk : k + k ≤ 8000) (ne : xs ≠ []) (h : ∀ x ∈ xs, BQ k x) : m_law_least (.lst (xs.map frQ)) = .ok (frQ (mnL xs)) := by
  obtain ⟨x, r, rfl⟩ := List.exists_cons_of_ne_nil ne
  have i0 : idxD (.lst ((x :: r).map frQ)) (.int 0) = some (frQ x) := idxD_lst _ 0 _ (by simp)
  simp only [m_law_least, i0, Rs.of_some, Rs.bind_ok, itemsD_lst]
  rw [pick_fold (k := k) (g := rmn) (fun a b => by unfold rmn; split <;> simp) (fun a b ha hb => ?_) (x :: r) x (h x List.mem_cons_self) h]
  · rfl
  · simp only [law_less_ok hb ha hk, Rs.bind_ok, asB_bl, Rs.of_some]
    unfold rmn
    by_cases z : b < a <;> simp [z]
theorem fold_rsm (f : Nat → Rat) : ∀ n : Nat, ((List.range n).map f).foldl (· + ·) 0 = rsm n f
  | 0 => rfl
  | n + 1 => by
    rw [List.range_succ, List.map_append, List.foldl_append, fold_rsm f n]
    rfl
theorem law_sum_rg (k : Bool) {e n : Nat} {f : Nat → Rat} (he : e ≤ 4000) (h : ∀ i, i < n → BQ e (f i)) (hn : 1 + n * (e + 1) ≤ 4000) : m_law_sum (sq k ((List.range n).map fun i => frQ (f i))) = .ok (frQ (rsm n f)) ∧ BQ (1 + n * (e + 1)) (rsm n f) := by
  have z := law_sum_ok k (qs := (List.range n).map f) he (fun q hq => by
    obtain ⟨i, hi, rfl⟩ := List.mem_map.mp hq
    exact h i (List.mem_range.mp hi)) (by simpa using hn)
  rw [fold_rsm, List.map_map, List.length_map, List.length_range] at z
  exact z
def tbK (k : Bool) (R C : Nat) (Q : Nat → Nat → Rat) : D := sq k ((List.range R).map fun r => sq k ((List.range C).map fun c => frK k (Q c r)))
def wtD (n : Nat) (p : Nat → Rat) : D := .tup ((List.range n).map fun i => frQ (p i))
theorem sq_items (k : Bool) (xs : List D) : itemsD (sq k xs) = some xs := by cases k <;> rfl
theorem sq_seq (k : Bool) (xs : List D) : seqD (sq k xs) = some xs := by cases k <;> rfl
theorem sq_len (k : Bool) (xs : List D) : lenD [sq k xs] = some (.int (xs.length : Int)) := by cases k <;> rfl
theorem zip_rg (k l : Bool) (f g : Nat → D) (n : Nat) : zipD (sq k ((List.range n).map f)) (sq l ((List.range n).map g)) = some ((List.range n).map fun i => .tup [f i, g i]) := by
  unfold zipD
  rw [sq_seq, sq_seq]
  show some (zipL _ _) = _
  congr 1
  have : ∀ (xs : List Nat), zipL (xs.map f) (xs.map g) = xs.map fun i => .tup [f i, g i] := fun xs => by
    induction xs with
    | nil => rfl
    | cons x xs ih => simp only [List.map_cons, zipL, ih]
  exact this _
theorem un2_tup (x y : D) : un2 (.tup [x, y]) = some (x, y) := rfl
theorem law_sums_ok {R C e e2 : Nat} {Q : Nat → Nat → Rat} {p : Nat → Rat} (k l : Bool) (h : ∀ c, c < C → ∀ r, r < R → BQ e (Q c r)) (hp : ∀ c, c < C → BQ e2 (p c)) (he : 1 + C * (e + e2 + 1 + 1) ≤ 4000) (he2 : e + e2 + 1 ≤ 4000) :
    m_law_sums (sq k ((List.range R).map fun r => sq l ((List.range C).map fun c => frQ (Q c r)))) (wtD C p) = .ok (.lst ((List.range R).map fun r => frQ (rsm C fun c => Q c r * p c))) ∧ ∀ r, r < R → BQ (1 + C * (e + e2 + 1 + 1)) (rsm C fun c => Q c r * p c) := by
  have row : ∀ r, r < R → (((Rs.of (zipD (sq l ((List.range C).map fun c => frQ (Q c r))) (wtD C p))).bind fun l2 => compM un2 (fun y1 => Rs.ok true) (fun y1 => m_law_by y1.1 y1.2) l2).bind fun l3 => Rs.ok (.lst l3)).bind (fun x4 => m_law_sum x4) = .ok (frQ (rsm C fun c => Q c r * p c)) ∧ BQ (1 + C * (e + e2 + 1 + 1)) (rsm C fun c => Q c r * p c) := fun r hr => by
    have z : zipD (sq l ((List.range C).map fun c => frQ (Q c r))) (wtD C p) = some ((List.range C).map fun c => .tup [frQ (Q c r), frQ (p c)]) := zip_rg l false (fun c => frQ (Q c r)) (fun c => frQ (p c)) C
    rw [z]
    simp only [Rs.of_some, Rs.bind_ok]
    rw [compM_rg (fun c => (frQ (Q c r), frQ (p c))) (fun c => frQ (Q c r * p c)) (fun c => un2_tup _ _) (fun c hc => law_by_ok (h c hc r hr) (hp c hc) (by omega))]
    have bq : ∀ c, c < C → BQ (e + e2 + 1) (Q c r * p c) := fun c hc => BQ.mul (h c hc r hr) (hp c hc)
    exact law_sum_rg true (e := e + e2 + 1) (by omega) bq he
  refine ⟨?_, fun r hr => (row r hr).2⟩
  simp only [m_law_sums, sq_items, Rs.of_some, Rs.bind_ok]
  rw [compM_rg (fun r => sq l ((List.range C).map fun c => frQ (Q c r))) (fun r => frQ (rsm C fun c => Q c r * p c)) (fun _ => rfl) (fun r hr => (row r hr).1)]
  rfl
theorem law_across_ok {R C : Nat} (Q : Nat → Nat → Rat) (hR : 0 < R) (hC : C < 100000) : m_law_across (tbD R C Q) = .ok (.lst ((List.range C).map fun c => .lst ((List.range R).map fun r => frQ (Q c r)))) := by
  have r0 : idxD (tbD R C Q) (.int 0) = some (.tup ((List.range C).map fun c => frQ (Q c 0))) := idxT_rg _ hR
  have l0 : lenD [.tup ((List.range C).map fun c => frQ (Q c 0))] = some (.int (C : Int)) := by simp only [lenD_tup, List.length_map, List.length_range]
  have it : itemsD (tbD R C Q) = some ((List.range R).map fun r => .tup ((List.range C).map fun c => frQ (Q c r))) := rfl
  simp only [m_law_across, r0, l0, Rs.of_some, Rs.bind_ok, rangeD_rg (show C < 1000000 by omega), it]
  rw [compM_rg (fun c : Nat => D.int (0 + (c : Int))) (fun c => .lst ((List.range R).map fun r => frQ (Q c r))) (fun _ => rfl) (fun c hc => ?_)]
  · rfl
  · rw [compM_rg (fun r => D.tup ((List.range C).map fun c => frQ (Q c r))) (fun r => frQ (Q c r)) (fun _ => rfl) (fun r hr => by rw [idxT_rg0 _ hc]; rfl)]
    rfl
end LW
set_option Elab.async false
set_option linter.all false
set_option maxRecDepth 100000
set_option autoImplicit false
set_option maxHeartbeats 1000000
namespace LW
open PySem PySem.Spec VL SX
theorem plus_ok {k l : Nat} {p q : Rat} (hp : BQ k p) (hq : BQ l q) (h : k + l ≤ 8000) : m_plus (frQ p) (frQ q) = .ok (frQ (p + q)) := by
  have e1 : mulD (.int p.num) (.int (q.den : Int)) = some (.int (p.num * (q.den : Int))) := mul_big hp.num (by simpa using hq.den) h
  have e3 : mulD (.int q.num) (.int (p.den : Int)) = some (.int (q.num * (p.den : Int))) := mul_big hq.num (by simpa using hp.den) (by omega)
  have e2 : mulD (.int (p.den : Int)) (.int (q.den : Int)) = some (.int ((p.den * q.den : Nat) : Int)) := by
    rw [mul_big (k := k) (l := l) (by simpa using hp.den) (by simpa using hq.den) h]
    rfl
  simp only [m_plus, frQ, tix2_0, tix2_1, Rs.of_some, Rs.bind_ok, e1, e2, e3, addD_int]
  rw [fraction_ok (Nat.mul_ne_zero p.den_nz q.den_nz) (Nat.lt_of_lt_of_le (mul_lt_pow hp.den hq.den) (Nat.pow_le_pow_right (by decide) h)), Rat.add_def']
  rfl
theorem rsm_BQ {e n : Nat} {f : Nat → Rat} (he : e ≤ 4000) (h : ∀ i, i < n → BQ e (f i)) (hn : 1 + n * (e + 1) ≤ 4000) : BQ (1 + n * (e + 1)) (rsm n f) := (law_sum_rg true he h hn).2
theorem total_ok (k : Bool) {e n : Nat} {f : Nat → Rat} (he : e ≤ 4000) (h : ∀ i, i < n → BQ e (f i)) (hn : 1 + n * (e + 1) ≤ 4000) : m_total (sq k ((List.range n).map fun i => frQ (f i))) = .ok (frQ (rsm n f)) := by
  have fin : ∀ {g : D → D → Rs D}, (∀ a b k l, BQ k a → BQ l b → k + l ≤ 8000 → g (frQ a) (frQ b) = .ok (frQ (a + b))) → ((foldM g ((List.range n).map fun i => frQ (f i)) (.tup [.int 0, .int 1])).bind fun z0 => Rs.ok z0) = .ok (frQ (rsm n f)) := fun {g} hg => by
    obtain ⟨z, e1, rfl⟩ := foldM_rg (f := g) (e := fun i => frQ (f i)) (I := fun k z => z = frQ (rsm k f)) (N := n) (z := .tup [.int 0, .int 1]) rfl (fun k z hk hz => by
      subst hz
      have kn : k * (e + 1) ≤ n * (e + 1) := Nat.mul_le_mul_right _ (by omega)
      exact ⟨_, hg _ _ _ _ (rsm_BQ (n := k) he (fun i hi => h i (by omega)) (by omega)) (h k hk) (by omega), rfl⟩)
    rw [e1]
    rfl
  simp only [m_total, sq_items, Rs.of_some, Rs.bind_ok]
  exact fin fun a b k l ha hb hkl => by simp only [plus_ok ha hb hkl, Rs.bind_ok]
theorem rmn_alt (a b : Rat) : (if a < b then a else b) = rmn a b := by
  unfold rmn
  by_cases h1 : a < b
  · have h2 : ¬ b < a := Rat.not_lt.mpr (Rat.le_of_lt h1)
    simp [h1, h2]
  · by_cases h2 : b < a
    · simp [h1, h2]
    · simp [h1, h2]
      exact Rat.le_antisymm (Rat.not_lt.mp h1) (Rat.not_lt.mp h2)
theorem lesser_ok {k l : Nat} {p q : Rat} (hp : BQ k p) (hq : BQ l q) (h : k + l ≤ 8000) : m_lesser (frQ p) (frQ q) = .ok (frQ (rmn p q)) := by
  have t : ∀ p : Rat, tupleD [frQ p] = some (frQ p) := fun p => rfl
  rw [← rmn_alt]
  simp only [m_lesser, is_less_ok hp hq h, Rs.bind_ok, asB_bl, Rs.of_some, t]
  by_cases z : p < q <;> simp [z]
theorem rowsum_ok {n e e2 : Nat} {f p : Nat → Rat} (k j : Bool) (h : ∀ c, c < n → BQ e (f c)) (hp : ∀ c, c < n → BQ e2 (p c)) (he : 1 + n * (e + e2 + 1 + 1) ≤ 4000) (he2 : e + e2 + 1 ≤ 4000) {l : D} (hl : seqD l = some ((List.range n).map fun c => frK j (f c))) :
    ((Rs.of (zipD l (wtD n p))).bind fun l2 => compM un2 (fun y1 => Rs.ok true) (fun y1 => m_times y1.1 y1.2) l2).bind (fun l3 => m_total (sq k l3)) = .ok (frQ (rsm n fun c => f c * p c)) ∧ BQ (1 + n * (e + e2 + 1 + 1)) (rsm n fun c => f c * p c) := by
  have z : zipD l (wtD n p) = some ((List.range n).map fun c => .tup [frK j (f c), frQ (p c)]) := by
    have z0 := zip_rg true false (fun c => frK j (f c)) (fun c => frQ (p c)) n
    unfold zipD at z0 ⊢
    rw [hl]
    rw [sq_seq] at z0
    exact z0
  have bq : ∀ c, c < n → BQ (e + e2 + 1) (f c * p c) := fun c hc => BQ.mul (h c hc) (hp c hc)
  refine ⟨?_, rsm_BQ he2 bq he⟩
  rw [z]
  simp only [Rs.of_some, Rs.bind_ok]
  rw [compM_rg (fun c => (frK j (f c), frQ (p c))) (fun c => frQ (f c * p c)) (fun c => un2_tup _ _) (fun c hc => times_ok j (h c hc) (hp c hc) (by omega))]
  exact total_ok k he2 bq he
theorem columns_worth_ok {R C e e2 : Nat} {Q : Nat → Nat → Rat} {p : Nat → Rat} (k : Bool) (hR : 0 < R) (h : ∀ c, c < C → ∀ r, r < R → BQ e (Q c r)) (hp : ∀ c, c < C → BQ e2 (p c)) (he : 1 + C * (e + e2 + 1 + 1) ≤ 4000) (he2 : e + e2 + 1 ≤ 4000) :
    m_columns_worth (tbK k R C Q) (wtD C p) = .ok (frQ (mnL ((List.range R).map fun r => rsm C fun c => Q c r * p c))) := by
  have row := fun r (hr : r < R) => rowsum_ok (l := sq k ((List.range C).map fun c => frK k (Q c r))) true k (fun c hc => h c hc r hr) hp he he2 (sq_seq _ _)
  have it : itemsD (tbK k R C Q) = some ((List.range R).map fun r => sq k ((List.range C).map fun c => frK k (Q c r))) := sq_items _ _
  simp only [m_columns_worth, it, Rs.of_some, Rs.bind_ok]
  rw [compM_rg (fun r => sq k ((List.range C).map fun c => frK k (Q c r))) (fun r => frQ (rsm C fun c => Q c r * p c)) (fun _ => rfl) (fun r hr => by
    have z := (row r hr).1
    rw [Rs.assoc]
    exact z)]
  have i0 : idxD (.lst ((List.range R).map fun r => frQ (rsm C fun c => Q c r * p c))) (.int 0) = some (frQ (rsm C fun c => Q c 0 * p c)) := idx_rg _ hR
  obtain ⟨m, rfl⟩ : ∃ m, R = m + 1 := ⟨R - 1, by omega⟩
  simp only [Rs.bind_ok, i0, Rs.of_some, itemsD_lst]
  have mp : ((List.range (m + 1)).map fun r => frQ (rsm C fun c => Q c r * p c)) = ((List.range (m + 1)).map fun r => rsm C fun c => Q c r * p c).map frQ := by rw [List.map_map]; rfl
  rw [mp, pick_fold (k := 1 + C * (e + e2 + 1 + 1)) (g := rmn) (fun a b => by unfold rmn; split <;> simp) (fun a b ha hb => by simp only [lesser_ok ha hb (by omega), Rs.bind_ok]) _ _ (row 0 hR).2 (fun x hx => by
    obtain ⟨r, hr, rfl⟩ := List.mem_map.mp hx
    exact (row r (List.mem_range.mp hr)).2)]
  simp only [Rs.bind_ok]
  congr 2
  rw [List.range_succ_eq_map]
  rfl
theorem seqs_rg (k : Bool) (g : Nat → List D) : ∀ xs : List Nat, seqsD (xs.map fun r => sq k (g r)) = some (xs.map g)
  | [] => rfl
  | x :: xs => by
    simp only [List.map_cons, seqsD, sq_seq, seqs_rg k g xs]
theorem zipS_tb {R C : Nat} {Q : Nat → Nat → Rat} (k : Bool) (hR : 0 < R) (h8 : R ≤ 8) : zipS (tbK k R C Q) = some ((List.range C).map fun c => .tup ((List.range R).map fun r => frK k (Q c r))) := by
  have hd : ((List.range R).map fun r => (List.range C).map fun c => frK k (Q c r)).headD [] = (List.range C).map fun c => frK k (Q c 0) := by
    obtain ⟨m, rfl⟩ : ∃ m, R = m + 1 := ⟨R - 1, by omega⟩
    rw [List.range_succ_eq_map]
    rfl
  unfold zipS
  show (match seqD (sq k _) with | some ds => _ | none => _) = _
  rw [sq_seq]
  show (match seqsD _ with | some rows => _ | none => _) = _
  rw [seqs_rg k (fun r => (List.range C).map fun c => frK k (Q c r))]
  show (if _ then some _ else _) = _
  rw [if_pos]
  · congr 1
    unfold zcols
    rw [hd, List.length_map, List.length_range]
    refine List.map_congr_left fun c hc => ?_
    rw [List.map_map]
    congr 1
    refine List.map_congr_left fun r _ => ?_
    have hc' := List.mem_range.mp hc
    simp [hc']
  · refine ⟨by simpa using hR, by simpa using h8, ?_⟩
    rw [hd]
    simp
theorem rows_worth_ok {R C e e2 : Nat} {Q : Nat → Nat → Rat} {q : Nat → Rat} (k : Bool) (hR : 0 < R) (h8 : R ≤ 8) (hC : 0 < C) (h : ∀ c, c < C → ∀ r, r < R → 0 ≤ Q c r ∧ BQ e (Q c r)) (hq : ∀ r, r < R → 0 ≤ q r ∧ BQ e2 (q r)) (he : 1 + R * (e + e2 + 1 + 1) ≤ 4000) (he2 : e + e2 + 1 ≤ 4000) :
    m_rows_worth (tbK k R C Q) (wtD R q) = .ok (frQ (mxL ((List.range C).map fun c => rsm R fun r => Q c r * q r))) := by
  have col := fun c (hc : c < C) => rowsum_ok (n := R) (l := .tup ((List.range R).map fun r => frK k (Q c r))) true k (fun r hr => (h c hc r hr).2) (fun r hr => (hq r hr).2) he he2 rfl
  obtain ⟨S, hS⟩ : ∃ S : Nat → Rat, S = fun c => rsm R fun r => Q c r * q r := ⟨_, rfl⟩
  have S0 : ∀ c, c < C → 0 ≤ S c := fun c hc => by
    rw [hS]
    exact rsm_nn fun r hr => Rat.mul_nonneg (h c hc r hr).1 (hq r hr).1
  have SB : ∀ c, c < C → BQ (1 + R * (e + e2 + 1 + 1)) (S c) := fun c hc => by rw [hS]; exact (col c hc).2
  have fin : ∀ {g : D → D → Rs D}, (∀ c, c < C → ∀ a, BQ (1 + R * (e + e2 + 1 + 1)) a → g (frQ a) (.tup ((List.range R).map fun r => frK k (Q c r))) = .ok (frQ (rmx a (S c)))) →
      ((foldM g ((List.range C).map fun c => D.tup ((List.range R).map fun r => frK k (Q c r))) (.tup [.int 0, .int 1])).bind fun z0 => Rs.ok z0) = .ok (frQ (mxL ((List.range C).map S))) := fun {g} hg => by
    obtain ⟨z, e1, ⟨a, rfl, e2, e3⟩⟩ := foldM_rg (f := g) (e := fun c => D.tup ((List.range R).map fun r => frK k (Q c r))) (I := fun n z => ∃ a, z = frQ a ∧ BQ (1 + R * (e + e2 + 1 + 1)) a ∧ a = ((List.range n).map S).foldl rmx 0) (N := C) (z := .tup [.int 0, .int 1])
      ⟨0, rfl, ⟨Nat.two_pow_pos _, Nat.one_lt_two_pow (by omega)⟩, rfl⟩ (fun n z hn ⟨a, e1, e2, e3⟩ => by
        subst e1
        refine ⟨_, hg n hn a e2, _, rfl, ?_, ?_⟩
        · unfold rmx
          split
          · exact SB n hn
          · exact e2
        · rw [List.range_succ, List.map_append, List.foldl_append, ← e3]
          rfl)
    rw [e1]
    simp only [Rs.bind_ok]
    congr 2
    rw [e3]
    obtain ⟨m, rfl⟩ : ∃ m, C = m + 1 := ⟨C - 1, by omega⟩
    rw [List.range_succ_eq_map]
    simp only [List.map_cons]
    show (List.map S _).foldl rmx (rmx 0 (S 0)) = (S 0 :: _).foldl rmx (S 0)
    rw [List.foldl_cons]
    congr 1
    have s0 := S0 0 hC
    unfold rmx
    by_cases z : 0 < S 0
    · simp [z]
    · simp [z]
      exact (Rat.le_antisymm s0 (Rat.not_lt.mp z))
  simp only [m_rows_worth, zipS_tb k hR h8, Rs.of_some, Rs.bind_ok]
  have z := fin (g := fun z0 d => (Rs.of (some d)).bind fun y1 => (((((Rs.of (zipD y1 (wtD R q))).bind fun l4 => compM un2 (fun y3 => Rs.ok true) (fun y3 => m_times y3.1 y3.2) l4).bind fun l5 => Rs.ok (.lst l5)).bind fun x6 => m_total x6).bind fun x7 => m_greater z0 x7).bind fun d8 => Rs.ok d8) (fun c hc a ha => by
    have e1 := (col c hc).1
    have e2 : ((((Rs.of (zipD (.tup ((List.range R).map fun r => frK k (Q c r))) (wtD R q))).bind fun l4 => compM un2 (fun y3 => Rs.ok true) (fun y3 => m_times y3.1 y3.2) l4).bind fun l5 => Rs.ok (.lst l5)).bind fun x6 => m_total x6) = .ok (frQ (S c)) := by
      rw [Rs.assoc, hS]
      exact e1
    simp only [Rs.of_some, Rs.bind_ok, e2, greater_ok ha (SB c hc) (by omega)]
    rfl)
  rw [hS] at z
  exact z
end LW
set_option Elab.async false
set_option linter.all false
set_option maxRecDepth 100000
set_option autoImplicit false
set_option maxHeartbeats 1000000
namespace LW
open PySem PySem.Spec VL SX
theorem gcd_one (q : Rat) : (Nat.gcd q.num.natAbs q.den : Nat) = 1 := q.reduced
theorem is_number_int (i : Int) : m_is_number (.int i) = .ok (.bl true) := by simp [m_is_number, isiD, isiB, kindD, isiK]
theorem is_count_int {i : Int} (h : 0 ≤ i) : m_is_count (.int i) = .ok (.bl true) := by
  have e : geD (.int i) (.int 0) = some (.bl true) := by
    simp only [geD, geB_int, Option.map_some]
    simp [h]
  simp only [m_is_count, is_number_int, Rs.bind_ok, asB_bl, Rs.of_some, if_true, e]
theorem is_amount_ok {e : Nat} {q : Rat} (h : 0 ≤ q) (hq : BQ e q) (he : e ≤ 8000) : m_is_amount (frQ q) = .ok (.bl true) := by
  have i1 : isiD "tuple" (frQ q) = some (.bl true) := by simp [frQ, isiD, isiB, kindD, isiK]
  have l1 : lenD [frQ q] = some (.int 2) := rfl
  have n2 : neB (.int 2) (.int 2) = some false := rfl
  have x0 : idxD (frQ q) (.int 0) = some (.int q.num) := rfl
  have x1 : idxD (frQ q) (.int 1) = some (.int (q.den : Int)) := rfl
  have g0 : gtD (.int (q.den : Int)) (.int 0) = some (.bl true) := by
    have := q.den_pos
    simp only [gtD, gtB_int, Option.map_some]
    simp [this]
  have c1 := common_ok (a := q.num) (b := q.den) q.den_nz (Nat.lt_of_lt_of_le hq.den (Nat.pow_le_pow_right (by decide) he))
  rw [gcd_one] at c1
  have e1 : eqD (.int ((1 : Nat) : Int)) (.int 1) = some (.bl true) := by kernel_rfl
  simp only [m_is_amount, i1, l1, n2, x0, x1, is_count_int (Rat.num_nonneg.mpr h), is_number_int, g0, c1, e1, Rs.of_some, Rs.bind_ok, asB_bl, Bool.not_true, Bool.false_eq_true, if_false, if_true]
theorem all_true (n : Nat) : allD [.lst ((List.range n).map fun _ => .bl true)] = some (.bl true) := by
  have : ∀ xs : List Nat, boolsD (xs.map fun _ => .bl true) = some (xs.map fun _ => true) := fun xs => by
    induction xs with
    | nil => rfl
    | cons x xs ih => simp only [List.map_cons, boolsD, ih, Option.map_some]
  simp only [allD, seqD, this]
  simp
structure WtB (e n : Nat) (p : Nat → Rat) : Prop where
  w : Wts n p
  b : ∀ i, i < n → BQ e (p i)
theorem eq_one : eqD (frQ 1) (.tup [.int 1, .int 1]) = some (.bl true) := by kernel_rfl
theorem are_weights_ok {e n : Nat} {p : Nat → Rat} (W : WtB e n p) (he : e ≤ 4000) (hn : 1 + n * (e + 1) ≤ 4000) : m_are_weights (wtD n p) (.int (n : Int)) = .ok (.bl true) := by
  have i1 : isiD "tuple" (wtD n p) = some (.bl true) := by simp [wtD, isiD, isiB, kindD, isiK]
  have l1 : lenD [wtD n p] = some (.int (n : Int)) := by simp only [wtD, lenD_tup, List.length_map, List.length_range]
  have q1 : eqD (.int (n : Int)) (.int (n : Int)) = some (.bl true) := by simp only [eqD, eqB_int, Option.map_some]; simp
  have it : itemsD (wtD n p) = some ((List.range n).map fun i => frQ (p i)) := rfl
  have c1 := compM_rg (u := some) (fe := fun y1 => m_is_amount y1) (e := fun i => frQ (p i)) (n := n) (fun i => frQ (p i)) (fun _ => .bl true) (fun _ => rfl) fun i hi => is_amount_ok (W.w.nn i hi) (W.b i hi) (by omega)
  have t1 := total_ok false he W.b hn
  rw [W.w.one] at t1
  have t2 : m_total (wtD n p) = .ok (frQ 1) := t1
  have r1 : m_is_row_of (wtD n p) (.int (n : Int)) = .ok (.bl true) := by
    simp only [m_is_row_of, i1, l1, q1, it, c1, all_true, Rs.of_some, Rs.bind_ok, asB_bl, if_true]
  simp only [m_are_weights, r1, t2, eq_one, Rs.bind_ok, asB_bl, Rs.of_some, if_true]
theorem are_weights_lst (xs : List D) (n : D) : m_are_weights (.lst xs) n = .ok (.bl false) := by
  have i1 : isiD "tuple" (.lst xs) = some (.bl false) := by simp [isiD, isiB, kindD, isiK]
  simp only [m_are_weights, m_is_row_of, i1, Rs.of_some, Rs.bind_ok, asB_bl, Bool.false_eq_true, if_false]
theorem are_weights_len {xs : List D} {n : Nat} (h : xs.length ≠ n) : m_are_weights (.tup xs) (.int (n : Int)) = .ok (.bl false) := by
  have i1 : isiD "tuple" (.tup xs) = some (.bl true) := by simp [isiD, isiB, kindD, isiK]
  have q1 : eqD (.int (xs.length : Int)) (.int (n : Int)) = some (.bl false) := by
    simp only [eqD, eqB_int, Option.map_some]
    simp
    omega
  simp only [m_are_weights, m_is_row_of, i1, lenD_tup, q1, Rs.of_some, Rs.bind_ok, asB_bl, Bool.false_eq_true, if_false, if_true]
theorem law_is_part_ok {e : Nat} {q : Rat} (h : 0 ≤ q) (hq : BQ e q) (he : e ≤ 8000) : m_law_is_part (frQ q) = .ok (.bl true) := by
  have i1 : isiD "tuple" (frQ q) = some (.bl true) := by simp [frQ, isiD, isiB, kindD, isiK]
  have l1 : lenD [frQ q] = some (.int 2) := rfl
  have n2 : neB (.int 2) (.int 2) = some false := rfl
  have it : itemsD (frQ q) = some [.int q.num, .int (q.den : Int)] := rfl
  have x0 : idxD (frQ q) (.int 0) = some (.int q.num) := rfl
  have x1 : idxD (frQ q) (.int 1) = some (.int (q.den : Int)) := rfl
  have ii : ∀ i : Int, isiD "int" (.int i) = some (.bl true) := fun i => by simp [isiD, isiB, kindD, isiK]
  have ib : ∀ i : Int, isiD "bool" (.int i) = some (.bl false) := fun i => by simp [isiD, isiB, kindD, isiK]
  have g0 : geD (.int q.num) (.int 0) = some (.bl true) := by
    simp only [geD, geB_int, Option.map_some]
    simp [Rat.num_nonneg.mpr h]
  have g1 : geD (.int (q.den : Int)) (.int 1) = some (.bl true) := by
    have := q.den_pos
    simp only [geD, geB_int, Option.map_some]
    simp
    omega
  have c1 := law_part_ok (a := q.num) (b := q.den) q.den_nz (Nat.lt_of_lt_of_le hq.den (Nat.pow_le_pow_right (by decide) he))
  rw [gcd_one] at c1
  have e1 : eqD (.int ((1 : Nat) : Int)) (.int 1) = some (.bl true) := by kernel_rfl
  have al : allD [.lst [.bl true, .bl true]] = some (.bl true) := rfl
  have nx : ∀ (α : Type) (a : α), (Rs.ok a).noX = Rs.ok a := fun _ _ => rfl
  simp only [m_law_is_part, i1, l1, n2, it, compM, ii, ib, nx, al, x0, x1, g0, g1, c1, e1, Rs.of_some, Rs.bind_ok, asB_bl, Bool.not_true, Bool.not_false, Bool.false_eq_true, if_false, if_true]
theorem law_are_weights_ok {e n : Nat} {p : Nat → Rat} (W : WtB e n p) (he : e ≤ 4000) (hn : 1 + n * (e + 1) ≤ 4000) : m_law_are_weights (wtD n p) (.int (n : Int)) = .ok (.bl true) := by
  have i1 : isiD "tuple" (wtD n p) = some (.bl true) := by simp [wtD, isiD, isiB, kindD, isiK]
  have l1 : lenD [wtD n p] = some (.int (n : Int)) := by simp only [wtD, lenD_tup, List.length_map, List.length_range]
  have q1 : neB (.int (n : Int)) (.int (n : Int)) = some false := by simp only [neB_int]; simp
  have it : itemsD (wtD n p) = some ((List.range n).map fun i => frQ (p i)) := rfl
  have c1 := compM_rg (u := some) (fe := fun y1 => m_law_is_part y1) (e := fun i => frQ (p i)) (n := n) (fun i => frQ (p i)) (fun _ => .bl true) (fun _ => rfl) fun i hi => law_is_part_ok (W.w.nn i hi) (W.b i hi) (by omega)
  have t1 := (law_sum_rg false he W.b hn).1
  rw [W.w.one] at t1
  have t2 : m_law_sum (wtD n p) = .ok (frQ 1) := t1
  simp only [m_law_are_weights, i1, l1, q1, it, c1, all_true, t2, eq_one, Rs.of_some, Rs.bind_ok, asB_bl, Bool.not_true, Bool.false_eq_true, if_false, if_true]
theorem wts_ge {n : Nat} {p f : Nat → Rat} {v : Rat} (w : Wts n p) (h : ∀ i, i < n → v ≤ f i) : v ≤ rsm n (fun i => p i * f i) := by
  have a := rsm_le (n := n) (f := fun i => p i * v) (g := fun i => p i * f i) fun i hi => Rat.mul_le_mul_of_nonneg_left (h i hi) (w.nn i hi)
  have b : rsm n (fun i => p i * v) = v := by
    have z := rsm_mul v n p
    rw [w.one] at z
    have e : (fun i => p i * v) = fun i => v * p i := funext fun i => Rat.mul_comm _ _
    rw [e, z, Rat.mul_one]
  rwa [b] at a
theorem mix_least {C R : Nat} {Q : Nat → Nat → Rat} {v : Rat} {p q : Nat → Rat} (M : Mix C R Q v p q) (hR : 0 < R) : mnL ((List.range R).map fun r => rsm C fun c => Q c r * p c) = v := by
  obtain ⟨s, hs⟩ : ∃ s : Nat → Rat, s = fun r => rsm C fun c => Q c r * p c := ⟨_, rfl⟩
  have sl : ∀ r, r < R → v ≤ s r := fun r hr => by
    rw [hs]
    have e : (fun c => Q c r * p c) = fun c => p c * Q c r := funext fun c => Rat.mul_comm _ _
    show v ≤ rsm C fun c => Q c r * p c
    rw [e]
    exact M.low r hr
  rw [← hs]
  have ne : (List.range R).map s ≠ [] := by
    obtain ⟨m, rfl⟩ : ∃ m, R = m + 1 := ⟨R - 1, by omega⟩
    rw [List.range_succ_eq_map]
    simp
  obtain ⟨h1, h2⟩ := mnL_spec ne
  refine Rat.le_antisymm ?_ ?_
  · have a := wts_ge M.wq (f := s) (v := mnL ((List.range R).map s)) fun i hi => h2 _ (List.mem_map.mpr ⟨i, List.mem_range.mpr hi, rfl⟩)
    refine Rat.le_trans a ?_
    have e : rsm R (fun i => q i * s i) = rsm C fun c => p c * rsm R fun r => q r * Q c r := by
      rw [hs]
      have e1 : (fun i => q i * rsm C fun c => Q c i * p c) = fun i => rsm C fun c => p c * (q i * Q c i) := funext fun i => by
        rw [← rsm_mul]
        refine rsm_congr fun c _ => ?_
        rw [Rat.mul_comm (Q c i) (p c), ← Rat.mul_assoc, ← Rat.mul_assoc, Rat.mul_comm (q i) (p c)]
      rw [e1, rsm_comm]
      refine rsm_congr fun c _ => ?_
      rw [rsm_mul]
    rw [e]
    exact wts_le M.wp fun c hc => M.high c hc
  · obtain ⟨r, hr, e⟩ := List.mem_map.mp h1
    rw [← e]
    exact sl r (List.mem_range.mp hr)
theorem mix_most {C R : Nat} {Q : Nat → Nat → Rat} {v : Rat} {p q : Nat → Rat} (M : Mix C R Q v p q) (hC : 0 < C) : mxL ((List.range C).map fun c => rsm R fun r => Q c r * q r) = v := by
  obtain ⟨s, hs⟩ : ∃ s : Nat → Rat, s = fun c => rsm R fun r => Q c r * q r := ⟨_, rfl⟩
  have sl : ∀ c, c < C → s c ≤ v := fun c hc => by
    rw [hs]
    have e : (fun r => Q c r * q r) = fun r => q r * Q c r := funext fun r => Rat.mul_comm _ _
    show (rsm R fun r => Q c r * q r) ≤ v
    rw [e]
    exact M.high c hc
  rw [← hs]
  have ne : (List.range C).map s ≠ [] := by
    obtain ⟨m, rfl⟩ : ∃ m, C = m + 1 := ⟨C - 1, by omega⟩
    rw [List.range_succ_eq_map]
    simp
  obtain ⟨h1, h2⟩ := mxL_spec ne
  refine Rat.le_antisymm ?_ ?_
  · obtain ⟨c, hc, e⟩ := List.mem_map.mp h1
    rw [← e]
    exact sl c (List.mem_range.mp hc)
  · have a := wts_le M.wp (f := s) (v := mxL ((List.range C).map s)) fun i hi => h2 _ (List.mem_map.mpr ⟨i, List.mem_range.mpr hi, rfl⟩)
    refine Rat.le_trans ?_ a
    have e : rsm C (fun c => p c * s c) = rsm R fun r => q r * rsm C fun c => p c * Q c r := by
      rw [hs]
      have e1 : (fun c => p c * rsm R fun r => Q c r * q r) = fun c => rsm R fun r => q r * (p c * Q c r) := funext fun c => by
        rw [← rsm_mul]
        refine rsm_congr fun r _ => ?_
        rw [Rat.mul_comm (Q c r) (q r), ← Rat.mul_assoc, ← Rat.mul_assoc, Rat.mul_comm (p c) (q r)]
      rw [e1, rsm_comm]
      refine rsm_congr fun r _ => ?_
      rw [rsm_mul]
    rw [e]
    exact wts_ge M.wq fun r hr => M.low r hr
end LW
set_option Elab.async false
set_option linter.all false
set_option maxRecDepth 100000
set_option autoImplicit false
set_option maxHeartbeats 1000000
namespace LW
open PySem PySem.Spec VL SX
mutual
def tpl : D → D
  | .lst xs => .tup (tpls xs)
  | .tup xs => .tup (tpls xs)
  | d => d
def tpls : List D → List D
  | [] => []
  | d :: ds => tpl d :: tpls ds
end
theorem tpls_map : ∀ ds : List D, tpls ds = ds.map tpl
  | [] => by simp [tpls]
  | d :: ds => by simp [tpls, tpls_map ds]
theorem tupled_ok : ∀ (n : Nat) (d : D), fits n d = true → m_tupled (n + 1) d = .ok (tpl d)
  | n, .exn c xs, h => by cases n <;> simp [fits] at h
  | n, .non, _ => by simp [m_tupled, isiD2, kindD, isiK, tpl]
  | n, .bl b, _ => by simp [m_tupled, isiD2, kindD, isiK, tpl]
  | n, .int i, _ => by simp [m_tupled, isiD2, kindD, isiK, tpl]
  | n, .str x, _ => by simp [m_tupled, isiD2, kindD, isiK, tpl]
  | n + 1, .tup xs, h => by
    have h' : ∀ x ∈ xs, fits n x = true := List.all_eq_true.mp (by simpa only [fits] using h)
    have e := compM_all (fe := fun y1 => m_tupled (n + 1) y1) id tpl xs fun x hx => tupled_ok n x (h' x hx)
    rw [List.map_id] at e
    rw [m_tupled]
    simp [isiD2, kindD, isiK, itemsD, e, tupleD, tpl, tpls_map]
  | n + 1, .lst xs, h => by
    have h' : ∀ x ∈ xs, fits n x = true := List.all_eq_true.mp (by simpa only [fits] using h)
    have e := compM_all (fe := fun y1 => m_tupled (n + 1) y1) id tpl xs fun x hx => tupled_ok n x (h' x hx)
    rw [List.map_id] at e
    rw [m_tupled]
    simp [isiD2, kindD, isiK, itemsD, e, tupleD, tpl, tpls_map]
  | 0, .tup xs, h => by simp [fits] at h
  | 0, .lst xs, h => by simp [fits] at h
  | n, .scr xs, h => by cases n <;> simp [fits] at h
  | n, .obj c xs, h => by cases n <;> simp [fits] at h
  | n, .dT xs, h => by cases n <;> simp [fits] at h
  | n, .dK xs, h => by cases n <;> simp [fits] at h
  | n, .dN w xs, h => by cases n <;> simp [fits] at h
  | n, .tupL xs, h => by cases n <;> simp [fits] at h
mutual
def lsd : D → D
  | .lst xs => .lst (lsds xs)
  | .tup xs => .lst (lsds xs)
  | d => d
def lsds : List D → List D
  | [] => []
  | d :: ds => lsd d :: lsds ds
end
theorem lsds_map : ∀ ds : List D, lsds ds = ds.map lsd
  | [] => by simp [lsds]
  | d :: ds => by simp [lsds, lsds_map ds]
theorem lists_ok : ∀ (n : Nat) (d : D), fits n d = true → m_law_lists (n + 1) d = .ok (lsd d) ∧ fits n (lsd d) = true ∧ tpl (lsd d) = tpl d
  | n, .exn c xs, h => by cases n <;> simp [fits] at h
  | n, .non, _ => by cases n <;> simp [m_law_lists, isiD2, kindD, isiK, lsd, fits]
  | n, .bl b, _ => by cases n <;> simp [m_law_lists, isiD2, kindD, isiK, lsd, fits]
  | n, .int i, _ => by cases n <;> simp [m_law_lists, isiD2, kindD, isiK, lsd, fits]
  | n, .str x, _ => by cases n <;> simp [m_law_lists, isiD2, kindD, isiK, lsd, fits]
  | n + 1, .tup xs, h => by
    have h' : ∀ x ∈ xs, fits n x = true := List.all_eq_true.mp (by simpa only [fits] using h)
    have e := compM_all (fe := fun y1 => m_law_lists (n + 1) y1) id lsd xs fun x hx => (lists_ok n x (h' x hx)).1
    rw [List.map_id] at e
    refine ⟨?_, ?_, ?_⟩
    · rw [m_law_lists]
      simp [isiD2, kindD, isiK, itemsD, e, lsd, lsds_map]
    · simp only [lsd, lsds_map, fits, List.all_map, List.all_eq_true]
      exact fun x hx => (lists_ok n x (h' x hx)).2.1
    · simp only [lsd, lsds_map, tpl, tpls_map, List.map_map]
      exact congrArg D.tup (List.map_congr_left fun x hx => (lists_ok n x (h' x hx)).2.2)
  | n + 1, .lst xs, h => by
    have h' : ∀ x ∈ xs, fits n x = true := List.all_eq_true.mp (by simpa only [fits] using h)
    have e := compM_all (fe := fun y1 => m_law_lists (n + 1) y1) id lsd xs fun x hx => (lists_ok n x (h' x hx)).1
    rw [List.map_id] at e
    refine ⟨?_, ?_, ?_⟩
    · rw [m_law_lists]
      simp [isiD2, kindD, isiK, itemsD, e, lsd, lsds_map]
    · simp only [lsd, lsds_map, fits, List.all_map, List.all_eq_true]
      exact fun x hx => (lists_ok n x (h' x hx)).2.1
    · simp only [lsd, lsds_map, tpl, tpls_map, List.map_map]
      exact congrArg D.tup (List.map_congr_left fun x hx => (lists_ok n x (h' x hx)).2.2)
  | 0, .tup xs, h => by simp [fits] at h
  | 0, .lst xs, h => by simp [fits] at h
  | n, .scr xs, h => by cases n <;> simp [fits] at h
  | n, .obj c xs, h => by cases n <;> simp [fits] at h
  | n, .dT xs, h => by cases n <;> simp [fits] at h
  | n, .dK xs, h => by cases n <;> simp [fits] at h
  | n, .dN w xs, h => by cases n <;> simp [fits] at h
  | n, .tupL xs, h => by cases n <;> simp [fits] at h
theorem tpl_fr (q : Rat) : tpl (frQ q) = frQ q := by simp [frQ, tpl, tpls]
theorem tpl_tb (R C : Nat) (Q : Nat → Nat → Rat) : tpl (tbD R C Q) = tbD R C Q := by
  have row : ∀ r, tpl (.tup ((List.range C).map fun c => frQ (Q c r))) = .tup ((List.range C).map fun c => frQ (Q c r)) := fun r => by
    rw [tpl, tpls_map, List.map_map]
    exact congrArg D.tup (List.map_congr_left fun c _ => tpl_fr _)
  unfold tbD
  rw [tpl, tpls_map, List.map_map]
  exact congrArg D.tup (List.map_congr_left fun r _ => row r)
theorem lsd_fr (q : Rat) : lsd (frQ q) = frK true q := by simp [frQ, frK, lsd, lsds, sq]
theorem lsd_tb (R C : Nat) (Q : Nat → Nat → Rat) : lsd (tbD R C Q) = tbK true R C Q := by
  have row : ∀ r, lsd (.tup ((List.range C).map fun c => frQ (Q c r))) = .lst ((List.range C).map fun c => frK true (Q c r)) := fun r => by
    rw [lsd, lsds_map, List.map_map]
    exact congrArg D.lst (List.map_congr_left fun c _ => lsd_fr _)
  unfold tbD tbK
  rw [lsd, lsds_map, List.map_map]
  exact congrArg D.lst (List.map_congr_left fun r _ => row r)
theorem fits_fr (n : Nat) (q : Rat) : fits (n + 1) (frQ q) = true := by cases n <;> simp [frQ, fits]
theorem fits_wt (n m : Nat) (p : Nat → Rat) : fits (n + 2) (wtD m p) = true := by
  simp only [wtD, fits, List.all_map, List.all_eq_true]
  exact fun i _ => fits_fr n _
theorem fits_tb (n R C : Nat) (Q : Nat → Nat → Rat) : fits (n + 3) (tbD R C Q) = true := by
  simp only [tbD, fits, List.all_map, List.all_eq_true]
  intro r _
  simp only [Function.comp_apply, fits, List.all_map, List.all_eq_true]
  exact fun i _ => fits_fr n _
theorem tupled_tb (k : Bool) (R C : Nat) (Q : Nat → Nat → Rat) : m_tupled 14 (tbK k R C Q) = .ok (tbD R C Q) := by
  cases k with
  | false =>
    have z := tupled_ok 13 (tbD R C Q) (fits_tb 10 R C Q)
    rw [tpl_tb] at z
    exact z
  | true =>
    obtain ⟨_, h2, h3⟩ := lists_ok 13 (tbD R C Q) (fits_tb 10 R C Q)
    rw [lsd_tb] at h2 h3
    have z := tupled_ok 13 _ h2
    rw [h3, tpl_tb] at z
    exact z
theorem lists_tb (R C : Nat) (Q : Nat → Nat → Rat) : m_law_lists 14 (tbD R C Q) = .ok (tbK true R C Q) := by
  rw [(lists_ok 13 (tbD R C Q) (fits_tb 10 R C Q)).1, lsd_tb]
theorem bm_same {d d' : D} (h : m_tupled 14 d = m_tupled 14 d') : m_best_mixture d = m_best_mixture d' := by
  unfold m_best_mixture
  rw [h]
structure TbOk (R C e K : Nat) (Q : Nat → Nat → Rat) : Prop where
  R0 : 0 < R
  C0 : 0 < C
  e0 : 0 < e
  R8 : R ≤ 8
  few : R + C ≤ 19
  q : ∀ c, c < C → ∀ r, r < R → 0 ≤ Q c r ∧ BQ e (Q c r)
  k : (e + 1 + R * C * e + 1 + 8) * (C + 1) + 1 ≤ K
  k2 : K ≤ 1900
  sc : 1 + C * (e + K + 1 + 1) ≤ 4000
  sr : 1 + R * (e + K + 1 + 1) ≤ 4000
structure Best (R C e K : Nat) (Q : Nat → Nat → Rat) (v : Rat) (p q : Nat → Rat) : Prop where
  run : ∀ k, m_best_mixture (tbK k R C Q) = .ok (.tup [frQ v, wtD C p, wtD R q])
  M : Mix C R Q v p q
  v : BQ (K + 2) v
  p : WtB K C p
  q : WtB K R q
theorem TbOk.best {R C e K : Nat} {Q : Nat → Nat → Rat} (T : TbOk R C e K Q) : ∃ v p q, Best R C e K Q v p q := by
  obtain ⟨K0, hK0⟩ : ∃ K0, (e + 1 + R * C * e + 1 + 8) * (C + 1) + 1 = K0 := ⟨_, rfl⟩
  have kk := T.k
  rw [hK0] at kk
  obtain ⟨v, p, q, e1, M, bv, bp, bq⟩ := best_mixture_ok (d := tbK false R C Q) (tupled_tb false R C Q) T.R0 T.C0 T.few T.e0 T.q hK0 (Nat.le_trans kk T.k2)
  refine ⟨v, p, q, fun k => ?_, M, bv.mono (by omega), ⟨M.wp, fun i hi => (bp i hi).mono kk⟩, ⟨M.wq, fun i hi => (bq i hi).mono kk⟩⟩
  rw [bm_same (d' := tbK false R C Q) (by rw [tupled_tb, tupled_tb])]
  exact e1
variable {R C e K : Nat} {Q : Nat → Nat → Rat} {v : Rat} {p q : Nat → Rat}
theorem Best.worth (B : Best R C e K Q v p q) (k : Bool) : m_worth (tbK k R C Q) = .ok (frQ v) := by
  simp only [m_worth, B.run k, Rs.bind_ok]
  rfl
theorem Best.cols (B : Best R C e K Q v p q) (k : Bool) : m_best_columns (tbK k R C Q) = .ok (wtD C p) := by
  simp only [m_best_columns, B.run k, Rs.bind_ok]
  rfl
theorem Best.rows (B : Best R C e K Q v p q) (k : Bool) : m_best_rows (tbK k R C Q) = .ok (wtD R q) := by
  simp only [m_best_rows, B.run k, Rs.bind_ok]
  rfl
theorem tb_0 (k : Bool) (Q : Nat → Nat → Rat) {R : Nat} (C : Nat) (h : 0 < R) : idxD (tbK k R C Q) (.int 0) = some (sq k ((List.range C).map fun c => frK k (Q c 0))) := by
  cases k
  · exact idxT_rg _ h
  · exact idx_rg _ h
theorem tb_w (k : Bool) (Q : Nat → Nat → Rat) (C : Nat) : lenD [sq k ((List.range C).map fun c => frK k (Q c 0))] = some (.int (C : Int)) := by rw [sq_len, List.length_map, List.length_range]
theorem tb_l (k : Bool) (R C : Nat) (Q : Nat → Nat → Rat) : lenD [tbK k R C Q] = some (.int (R : Int)) := by
  unfold tbK
  rw [sq_len, List.length_map, List.length_range]
theorem eqD_frQ (a b : Rat) : eqD (frQ a) (frQ b) = some (.bl (decide (a = b))) := by simp only [eqD, eqB_frQ, Option.map_some]
abbrev lowS (R C : Nat) (Q : Nat → Nat → Rat) (p : Nat → Rat) : Rat := mnL ((List.range R).map fun r => rsm C fun c => Q c r * p c)
abbrev highS (R C : Nat) (Q : Nat → Nat → Rat) (q : Nat → Rat) : Rat := mxL ((List.range C).map fun c => rsm R fun r => Q c r * q r)
theorem is_best_columns_ok (T : TbOk R C e K Q) (B : Best R C e K Q v p q) {w : Nat → Rat} (W : WtB K C w) (k : Bool) : m_is_best_columns (tbK k R C Q) (wtD C w) = .ok (.bl (decide (lowS R C Q w = v))) := by
  have sc := T.sc
  have hm : C * (K + 1) ≤ C * (e + K + 1 + 1) := Nat.mul_le_mul_left _ (by omega)
  have k2 := T.k2
  have ek : e ≤ K := by
    have z := T.k
    have : (e + 1 + R * C * e + 1 + 8) * 1 ≤ (e + 1 + R * C * e + 1 + 8) * (C + 1) := Nat.mul_le_mul_left _ (by omega)
    omega
  simp only [m_is_best_columns, tb_0 k Q C T.R0, tb_w, Rs.of_some, Rs.bind_ok, are_weights_ok W (by omega) (by omega), asB_bl, if_true, columns_worth_ok k T.R0 (fun c hc r hr => (T.q c hc r hr).2) W.b sc (by omega), B.worth k, eqD_frQ]
theorem is_best_rows_ok (T : TbOk R C e K Q) (B : Best R C e K Q v p q) {w : Nat → Rat} (W : WtB K R w) (k : Bool) : m_is_best_rows (tbK k R C Q) (wtD R w) = .ok (.bl (decide (highS R C Q w = v))) := by
  have sr := T.sr
  have hm : R * (K + 1) ≤ R * (e + K + 1 + 1) := Nat.mul_le_mul_left _ (by omega)
  have k2 := T.k2
  have ek : e ≤ K := by
    have z := T.k
    have : (e + 1 + R * C * e + 1 + 8) * 1 ≤ (e + 1 + R * C * e + 1 + 8) * (C + 1) := Nat.mul_le_mul_left _ (by omega)
    omega
  simp only [m_is_best_rows, tb_l, Rs.of_some, Rs.bind_ok, are_weights_ok W (by omega) (by omega), asB_bl, if_true, rows_worth_ok k T.R0 T.R8 T.C0 T.q (fun r hr => ⟨W.w.nn r hr, W.b r hr⟩) sr (by omega), B.worth k, eqD_frQ]
end LW
set_option Elab.async false
set_option linter.all false
set_option maxRecDepth 100000
set_option autoImplicit false
set_option maxHeartbeats 1000000
namespace LW
open PySem PySem.Spec VL SX
variable {R C e K : Nat} {Q : Nat → Nat → Rat} {v : Rat} {p q : Nat → Rat}
theorem TbOk.ek (T : TbOk R C e K Q) : e ≤ K := by
  have z := T.k
  have : (e + 1 + R * C * e + 1 + 8) * 1 ≤ (e + 1 + R * C * e + 1 + 8) * (C + 1) := Nat.mul_le_mul_left _ (by omega)
  omega
theorem map_ne {n : Nat} (f : Nat → Rat) (h : 0 < n) : (List.range n).map f ≠ [] := by
  obtain ⟨m, rfl⟩ : ∃ m, n = m + 1 := ⟨n - 1, by omega⟩
  rw [List.range_succ_eq_map]
  simp
theorem low_ok (T : TbOk R C e K Q) {w : Nat → Rat} (W : WtB K C w) : ((m_law_sums (tbK false R C Q) (wtD C w)).bind fun x => m_law_least x) = .ok (frQ (lowS R C Q w)) := by
  have k2 := T.k2
  have ek := T.ek
  have sc := T.sc
  obtain ⟨s1, s2⟩ := law_sums_ok (R := R) (C := C) (Q := Q) (p := w) false false (fun c hc r hr => (T.q c hc r hr).2) W.b sc (by omega)
  have s1' : m_law_sums (tbK false R C Q) (wtD C w) = .ok (.lst ((List.range R).map fun r => frQ (rsm C fun c => Q c r * w c))) := s1
  have mp : ((List.range R).map fun r => frQ (rsm C fun c => Q c r * w c)) = ((List.range R).map fun r => rsm C fun c => Q c r * w c).map frQ := by rw [List.map_map]; rfl
  rw [s1', mp]
  simp only [Rs.bind_ok]
  exact law_least_ok (k := 1 + C * (e + K + 1 + 1)) (by omega) (map_ne _ T.R0) fun x hx => by
    obtain ⟨r, hr, rfl⟩ := List.mem_map.mp hx
    exact s2 r (List.mem_range.mp hr)
theorem high_ok (T : TbOk R C e K Q) {w : Nat → Rat} (W : WtB K R w) : (((m_law_across (tbK false R C Q)).bind fun x => m_law_sums x (wtD R w)).bind fun x => m_law_most x) = .ok (frQ (highS R C Q w)) := by
  have k2 := T.k2
  have ek := T.ek
  have sr := T.sr
  have few := T.few
  obtain ⟨s1, s2⟩ := law_sums_ok (R := C) (C := R) (Q := fun r c => Q c r) (p := w) true true (fun r hr c hc => (T.q c hc r hr).2) W.b sr (by omega)
  have a1 : m_law_across (tbK false R C Q) = .ok (.lst ((List.range C).map fun c => .lst ((List.range R).map fun r => frQ (Q c r)))) := law_across_ok Q T.R0 (by omega)
  have s1' : m_law_sums (.lst ((List.range C).map fun c => .lst ((List.range R).map fun r => frQ (Q c r)))) (wtD R w) = .ok (.lst ((List.range C).map fun c => frQ (rsm R fun r => Q c r * w r))) := s1
  have mp : ((List.range C).map fun c => frQ (rsm R fun r => Q c r * w r)) = ((List.range C).map fun c => rsm R fun r => Q c r * w r).map frQ := by rw [List.map_map]; rfl
  rw [a1]
  simp only [Rs.bind_ok]
  rw [s1', mp]
  simp only [Rs.bind_ok]
  exact law_most_ok (k := 1 + R * (e + K + 1 + 1)) (by omega) (map_ne _ T.C0) fun x hx => by
    obtain ⟨r, hr, rfl⟩ := List.mem_map.mp hx
    exact s2 r (List.mem_range.mp hr)
theorem told_1 (a b c : D) : idxD (.lst [a, b, c]) (.int 1) = some b ∧ idxD (.lst [a, b, c]) (.int 2) = some c ∧ idxD (.lst [a, b, c]) (.int 0) = some a := ⟨rfl, rfl, rfl⟩
theorem shown_ok (T : TbOk R C e K Q) (B : Best R C e K Q v p q) : m_law_shown (tbK false R C Q) = .ok (.lst [frQ v, wtD C p, wtD R q]) := by
  have k2 := T.k2
  have hm : C * (K + 1) ≤ C * (e + K + 1 + 1) := Nat.mul_le_mul_left _ (by omega)
  have hm2 : R * (K + 1) ≤ R * (e + K + 1 + 1) := Nat.mul_le_mul_left _ (by omega)
  have sc := T.sc
  have sr := T.sr
  have l1 := low_ok T B.p
  have h1 := high_ok T B.q
  have ev : lowS R C Q p = v := mix_least B.M T.R0
  have ew : highS R C Q q = v := mix_most B.M T.C0
  rw [ev] at l1
  rw [ew] at h1
  have w1 := law_are_weights_ok B.p (by omega) (by omega)
  have w2 := law_are_weights_ok B.q (by omega) (by omega)
  have t2 : mulD (.lst [frQ v]) (.int 2) = some (.lst [frQ v, frQ v]) := rfl
  have t3 : addD (.lst [frQ v]) (.lst [frQ v]) = some (.lst [frQ v, frQ v]) := by
    simp [addD, show (2 : Nat) ≤ sizeLine by decide]
  have sm : m_law_same 14 (.lst [frQ v, frQ v]) (.lst [frQ v, frQ v]) = .ok (.bl true) := same_refl 13 _ (by simp [fits, fits_fr])
  obtain ⟨i1, i2, i0⟩ := told_1 (frQ v) (wtD C p) (wtD R q)
  rw [m_law_shown]
  simp only [B.worth false, B.cols false, B.rows false, Rs.bind_ok, i0, i1, i2, Rs.of_some, tb_0 false Q C T.R0, tb_w, tb_l, w1, w2, asB_bl, Bool.not_true, Bool.false_eq_true, if_false, l1, h1, t2, t3, sm, if_true]
theorem case_ok (T : TbOk R C e K Q) (B : Best R C e K Q v p q) : m_law_case_right (tbK false R C Q) = .ok (.bl true) := by
  have ev : lowS R C Q p = v := mix_least B.M T.R0
  have ew : highS R C Q q = v := mix_most B.M T.C0
  obtain ⟨i1, i2, i0⟩ := told_1 (frQ v) (wtD C p) (wtD R q)
  have few := T.few
  have R0 := T.R0
  have C0 := T.C0
  have sh := shown_ok T B
  have li : m_law_lists 14 (tbK false R C Q) = .ok (tbK true R C Q) := lists_tb R C Q
  have nb : isNB (.lst [frQ v, wtD C p, wtD R q]) .non = some false := rfl
  have sm : m_law_same 14 (.lst [frQ v, wtD C p, wtD R q]) (.lst [frQ v, wtD C p, wtD R q]) = .ok (.bl true) := same_refl 13 _ (by simp [fits, fits_fr, fits_wt])
  have b1 := is_best_columns_ok T B B.p false
  have b2 := is_best_rows_ok T B B.q true
  rw [decide_eq_true ev] at b1
  rw [decide_eq_true ew] at b2
  have c1 : ∀ (k : Bool) (d : D), m_are_weights d (.int (C : Int)) = .ok (.bl false) → m_is_best_columns (tbK k R C Q) d = .ok (.bl false) := fun k d h => by
    simp only [m_is_best_columns, tb_0 k Q C T.R0, tb_w, Rs.of_some, Rs.bind_ok, h, asB_bl, Bool.false_eq_true, if_false]
  have c2 : ∀ (k : Bool) (d : D), m_are_weights d (.int (R : Int)) = .ok (.bl false) → m_is_best_rows (tbK k R C Q) d = .ok (.bl false) := fun k d h => by
    simp only [m_is_best_rows, tb_l, Rs.of_some, Rs.bind_ok, h, asB_bl, Bool.false_eq_true, if_false]
  have ls : ∀ (n : Nat) (w : Nat → Rat), listD [wtD n w] = some (.lst ((List.range n).map fun i => frQ (w i))) := fun n w => rfl
  have ad : addD (wtD C p) (.tup [.tup [.int 0, .int 1]]) = some (.tup (((List.range C).map fun i => frQ (p i)) ++ [.tup [.int 0, .int 1]])) := addD_tup (by simp; omega)
  have sl : sliceD (wtD R q) (some 1) none = some (.tup (((List.range R).map fun i => frQ (q i)).drop 1)) := slice_tail _
  have d1 := c1 false _ (are_weights_lst ((List.range C).map fun i => frQ (p i)) _)
  have d2 := c2 false _ (are_weights_lst ((List.range R).map fun i => frQ (q i)) _)
  have d3 := c1 true _ (are_weights_len (xs := ((List.range C).map fun i => frQ (p i)) ++ [.tup [.int 0, .int 1]]) (n := C) (by simp))
  have d4 := c2 false _ (are_weights_len (xs := ((List.range R).map fun i => frQ (q i)).drop 1) (n := R) (by simp; omega))
  have a1 : addD (.lst [.bl true, .bl true]) (.lst [.bl false]) = some (.lst [.bl true, .bl true, .bl false]) := by kernel_rfl
  have a2 : addD (.lst [.bl true, .bl true, .bl false]) (.lst [.bl false, .bl false]) = some (.lst [.bl true, .bl true, .bl false, .bl false, .bl false]) := by kernel_rfl
  have a3 : addD (.lst [.bl true, .bl true, .bl false, .bl false, .bl false]) (.lst [.bl false]) = some (.lst [.bl true, .bl true, .bl false, .bl false, .bl false, .bl false]) := by kernel_rfl
  have a4 : mulD (.lst [.bl false]) (.int 4) = some (.lst [.bl false, .bl false, .bl false, .bl false]) := by kernel_rfl
  have a5 : addD (.lst [.bl true, .bl true]) (.lst [.bl false, .bl false, .bl false, .bl false]) = some (.lst [.bl true, .bl true, .bl false, .bl false, .bl false, .bl false]) := by kernel_rfl
  have sf : m_law_same 14 (.lst [.bl true, .bl true, .bl false, .bl false, .bl false, .bl false]) (.lst [.bl true, .bl true, .bl false, .bl false, .bl false, .bl false]) = .ok (.bl true) := same_refl 13 _ (by simp [fits])
  rw [m_law_case_right]
  simp only [sh, li, nb, Rs.bind_ok, Rs.of_some, Bool.false_eq_true, if_false, B.worth true, B.cols true, B.rows true, sm, asB_bl, Bool.not_true, i1, i2, b1, b2, ls, d1, d2, ad, d3, sl, d4, a1, a2, a3, a4, a5, sf]
end LW
set_option Elab.async false
set_option linter.all false
set_option maxRecDepth 100000
set_option autoImplicit false
set_option maxHeartbeats 1000000
namespace LW
open PySem PySem.Spec VL SX
theorem compBM_nat' {α : Type} {fe : D → List D → Rs (D × List D)} (e0 : Nat → D) (h : α → D) (P : α → Prop) (d0 : α) (I : Nat → List D → Prop) : ∀ (n k : Nat) (s : List D), I k s →
    (∀ j s, j < k + n → I j s → ∃ a s', fe (e0 j) s = .ok (h a, s') ∧ P a ∧ I (j + 1) s') →
    ∃ (x : Nat → α) (s' : List D), compBM some (fun _ s => .ok (true, s)) fe ((List.range' k n).map e0) s = .ok ((List.range' k n).map (fun i => h (x i)), s') ∧ (∀ i, k ≤ i → i < k + n → P (x i)) ∧ I (k + n) s'
  | 0, k, s, hi, _ => ⟨fun _ => d0, s, rfl, fun i h1 h2 => by omega, hi⟩
  | n + 1, k, s, hi, hf => by
    obtain ⟨a, s1, e1, p1, i1⟩ := hf k s (by omega) hi
    obtain ⟨x, s2, e2, p2, i2⟩ := compBM_nat' e0 h P d0 I n (k + 1) s1 i1 fun j s hj => hf j s (by omega)
    refine ⟨fun i => if i = k then a else x i, s2, ?_, fun i h1 h2 => ?_, by rwa [show k + (n + 1) = k + 1 + n by omega]⟩
    · have em : (List.range' (k + 1) n).map (fun i => h (x i)) = (List.range' (k + 1) n).map fun i => h (if i = k then a else x i) := List.map_congr_left fun i hi => by
        have := (List.mem_range'_1.mp hi).1
        rw [if_neg (by omega)]
      rw [em] at e2
      rw [List.range'_succ]
      simp only [List.map_cons, compBM, Rs.of_some, Rs.bind_ok, Rs.noX, e1, e2, if_true]
    · show P (if i = k then a else x i)
      by_cases c : i = k
      · rw [if_pos c]; exact p1
      · rw [if_neg c]; exact p2 i (by omega) (by omega)
theorem compBM_nat {α : Type} {fe : D → List D → Rs (D × List D)} (e0 : Nat → D) (h : α → D) (P : α → Prop) (d0 : α) (I : Nat → List D → Prop) {n : Nat} {s : List D} (hi : I 0 s)
    (hf : ∀ j s, j < n → I j s → ∃ a s', fe (e0 j) s = .ok (h a, s') ∧ P a ∧ I (j + 1) s') :
    ∃ (x : Nat → α) (s' : List D), compBM some (fun _ s => .ok (true, s)) fe ((List.range n).map e0) s = .ok ((List.range n).map (fun i => h (x i)), s') ∧ (∀ i, i < n → P (x i)) ∧ I n s' := by
  have z := compBM_nat' e0 h P d0 I n 0 s hi fun j s hj => hf j s (by omega)
  rw [← List.range_eq_range', Nat.zero_add] at z
  obtain ⟨x, s', e, p, i⟩ := z
  exact ⟨x, s', e, fun j hj => p j (by omega) hj, i⟩
theorem entry_ok {N : Nat} {s : List D} (hb : Box N s) (hN : N + 2 ≤ 1000000000) : ∃ q s', m_law_entry s = .ok (frQ q, s') ∧ (0 ≤ q ∧ BQ 3 q) ∧ Box (N + 2) s' := by
  obtain ⟨a, s1, e1, a0, a1, b1⟩ := take_ok (n := 7) hb (by omega) (by decide) (by decide)
  obtain ⟨b, s2, e2, c0, c1, b2⟩ := take_ok (n := 5) b1 (by omega) (by decide) (by decide)
  obtain ⟨d, rfl⟩ := Int.eq_ofNat_of_zero_le c0
  have e3 : addD (.int 1) (.int (d : Int)) = some (.int ((1 + d : Nat) : Int)) := by simp
  have r1 := law_ratio_ok (a := a) (b := 1 + d) (by omega) (Nat.lt_of_lt_of_le (show 1 + d < 2 ^ 3 by omega) (Nat.pow_le_pow_right (by decide) (by decide)))
  refine ⟨mkRat a (1 + d), s2, ?_, ⟨?_, BQ.mk' (by omega) (by omega) (by omega)⟩, b2⟩
  · simp only [m_law_entry, Rs.bind_ok, e1, e2, Rs.of_some, e3, r1, Rs.noX]
  · rw [Rat.mkRat_eq_div]
    refine le_div_ (Rat.natCast_pos.mpr (by omega)) ?_
    rw [Rat.zero_mul]
    exact Rat.intCast_nonneg.mpr a0
theorem grid_ok {N : Nat} {s : List D} (hb : Box N s) (hN : N + 100 ≤ 1000000000) : ∃ R C Q s', m_law_grid s (.int 4) (.int 5) = .ok (tbK false R C Q, s') ∧ 0 < R ∧ R ≤ 4 ∧ 0 < C ∧ C ≤ 5 ∧ (∀ c, c < C → ∀ r, r < R → 0 ≤ Q c r ∧ BQ 3 (Q c r)) ∧ Box (N + 100) s' := by
  obtain ⟨a, s1, e1, a0, a1, b1⟩ := take_ok (n := 4) hb (by omega) (by decide) (by decide)
  obtain ⟨b, s2, e2, c0, c1, b2⟩ := take_ok (n := 5) b1 (by omega) (by decide) (by decide)
  obtain ⟨R', rfl⟩ := Int.eq_ofNat_of_zero_le a0
  obtain ⟨C', rfl⟩ := Int.eq_ofNat_of_zero_le c0
  have e3 : addD (.int 1) (.int (R' : Int)) = some (.int ((1 + R' : Nat) : Int)) := by simp
  have e4 : addD (.int 1) (.int (C' : Int)) = some (.int ((1 + C' : Nat) : Int)) := by simp
  obtain ⟨R, hR⟩ : ∃ R, R = 1 + R' := ⟨_, rfl⟩
  obtain ⟨C, hC⟩ : ∃ C, C = 1 + C' := ⟨_, rfl⟩
  rw [← hR] at e3
  rw [← hC] at e4
  have u2 : unL2 (.tup [.int (R : Int), .int (C : Int)]) = some (.int (R : Int), .int (C : Int)) := rfl
  have inner : ∀ M s, Box M s → M + 10 ≤ 1000000000 → ∃ (x : Nat → Rat) (s' : List D), compBM some (fun y30 s31 => Rs.ok (true, s31)) (fun y30 s31 => m_law_entry s31) ((List.range C).map fun (i : Nat) => D.int (0 + (i : Int))) s = .ok ((List.range C).map (fun i => frQ (x i)), s') ∧ (∀ i, i < C → 0 ≤ x i ∧ BQ 3 (x i)) ∧ Box (M + 10) s' := fun M s hs hM => by
    obtain ⟨x, s', h1, h2, h3⟩ := compBM_nat (fe := fun _ s31 => m_law_entry s31) (fun (i : Nat) => D.int (0 + (i : Int))) frQ (fun q => 0 ≤ q ∧ BQ 3 q) 0 (fun j s => Box (M + 2 * j) s) (n := C) (s := s) (by simpa using hs) (fun j s hj hs => by
      obtain ⟨q, s', z1, z2, z3⟩ := entry_ok hs (by omega)
      exact ⟨q, s', z1, z2, by rwa [show M + 2 * (j + 1) = M + 2 * j + 2 by omega]⟩)
    exact ⟨x, s', h1, h2, h3.mono (by omega)⟩
  obtain ⟨x, s', h1, h2, h3⟩ := compBM_nat (fe := fun y27 s28 => ((((Rs.of (rangeD (.int (C : Int)))).bind fun ds => Rs.ok (ds, s28)).bind fun l32 => compBM some (fun y30 s31 => Rs.ok (true, s31)) (fun y30 s31 => m_law_entry s31) l32.1 l32.2).bind fun v33 => Rs.ok (.lst v33.1, v33.2)).bind fun u36 => (Rs.of (tupleD [u36.1])).bind fun d => Rs.ok (d, u36.2))
    (fun (i : Nat) => D.int (0 + (i : Int))) (fun a : Nat → Rat => .tup ((List.range C).map fun c => frQ (a c))) (fun a => ∀ c, c < C → 0 ≤ a c ∧ BQ 3 (a c)) (fun _ => 0) (fun j s => Box (N + 2 + 10 * j) s) (n := R) (s := s2) (by simpa using b2) (fun j s hj hs => by
      obtain ⟨x, s', z1, z2, z3⟩ := inner _ s hs (by omega)
      refine ⟨x, s', ?_, z2, by rwa [show N + 2 + 10 * (j + 1) = N + 2 + 10 * j + 10 by omega]⟩
      have t1 : tupleD [.lst ((List.range C).map fun i => frQ (x i))] = some (.tup ((List.range C).map fun i => frQ (x i))) := rfl
      simp only [rangeD_rg (show C < 1000000 by omega), Rs.of_some, Rs.bind_ok, z1, t1])
  have t2 : tupleD [.lst ((List.range R).map fun r => .tup ((List.range C).map fun c => frQ (x r c)))] = some (tbK false R C fun c r => x r c) := rfl
  refine ⟨R, C, fun c r => x r c, s', ?_, by omega, by omega, by omega, by omega, fun c hc r hr => h2 r hr c hc, h3.mono (by omega)⟩
  simp only [m_law_grid, Rs.bind_ok, e1, e2, Rs.of_some, e3, e4, Rs.noX, u2, rangeD_rg (show R < 1000000 by omega), h1, t2]
theorem law_ratio_int {a b : Int} {k : Nat} (h0 : 0 < b) (hb : b.natAbs < 2 ^ k) (hk : k ≤ 8000) : m_law_ratio (.int a) (.int b) = .ok (frQ ((a : Rat) / (b : Rat))) := by
  obtain ⟨n, rfl⟩ := Int.eq_ofNat_of_zero_le (Int.le_of_lt h0)
  rw [law_ratio_ok (by omega) (Nat.lt_of_lt_of_le (show n < 2 ^ k by simpa using hb) (Nat.pow_le_pow_right (by decide) hk)), Rat.mkRat_eq_div]
  rfl
theorem augL_rg (g : Nat → Int) {n k : Nat} (h : k < n) (b : Int) : augL ((List.range n).map fun i => .int (g i)) (.int (k : Int)) (.int b) = some ((List.range n).map fun i => .int (g i + if i = k then b else 0)) := by
  have z := set_rg (fun i => D.int (g i)) h (.int (g k + b))
  simp only [setL, List.length_map, List.length_range] at z
  cases q : L2.ixN n (k : Int) with
  | none =>
    rw [q] at z
    cases z
  | some j =>
    rw [q] at z
    have ej : j = k := by
      have := q
      unfold L2.ixN at this
      rw [if_pos (by omega)] at this
      split at this
      · simpa using this.symm
      · cases this
    subst ej
    have gj : ((List.range n).map fun i => D.int (g i))[j]? = some (.int (g j)) := by simp [h]
    simp only [augL, List.length_map, List.length_range, q, gj]
    simp only [Option.map_some, Option.some.injEq] at z
    rw [z]
    refine congrArg some (List.map_congr_left fun i _ => ?_)
    by_cases c : i = j
    · rw [if_pos c, if_pos c, c]
    · rw [if_neg c, if_neg c, Int.add_zero]
theorem shares_draw {N n K : Nat} {s : List D} (hb : Box N s) (hN : N + 20 ≤ 1000000000) (hn : 0 < n) (h8 : n ≤ 8) (hK : 10 ≤ K) : ∃ w s', m_law_shares s (.int (n : Int)) = .ok (wtD n w, s') ∧ WtB K n w ∧ Box (N + 20) s' := by
  obtain ⟨x, s1, h1, h2, h3⟩ := compBM_nat (fe := fun _ s4 => m_law_take s4 (D.int 5)) (fun (i : Nat) => D.int (0 + (i : Int))) (fun i : Int => .int i) (fun i => 0 ≤ i ∧ i < 5) 0 (fun j s => Box (N + j) s) (n := n) (s := s) hb (fun j s hj hs => by
    obtain ⟨r, s', e, r0, r1, b⟩ := take_ok (n := 5) hs (by omega) (by decide) (by decide)
    exact ⟨r, s', e, ⟨r0, r1⟩, b⟩)
  obtain ⟨k, s2, e2, k0, k1, b2⟩ := take_ok (n := (n : Int)) h3 (by omega) (by omega) (Int.lt_of_le_of_lt (show (n : Int) ≤ 8 by omega) (by decide))
  obtain ⟨k, rfl⟩ := Int.eq_ofNat_of_zero_le k0
  have hk : k < n := by omega
  obtain ⟨z, hz⟩ : ∃ z : Nat → Int, z = fun i => x i + if i = k then 1 else 0 := ⟨_, rfl⟩
  have z0 : ∀ i, i < n → 0 ≤ z i ∧ (z i).natAbs ≤ 5 ∧ ind k i ≤ z i := fun i hi => by
    have := h2 i hi
    rw [hz]
    unfold ind
    show 0 ≤ x i + (if i = k then 1 else 0) ∧ (x i + (if i = k then 1 else 0)).natAbs ≤ 5 ∧ _ ≤ x i + (if i = k then 1 else 0)
    split <;> omega
  have s0 : 0 < sm n z := by
    have a := sm_le (n := n) (f := ind k) (g := z) fun i hi => (z0 i hi).2.2
    rw [ind_all, if_pos hk] at a
    omega
  have s5 : (sm n z).natAbs < 2 ^ 10 := by
    have a := sm_abs (B := 5) (n := n) (f := z) fun i hi => (z0 i hi).2.1
    omega
  have au := augL_rg x hk 1
  have sz : sumD [.lst ((List.range n).map fun i => .int (z i))] = some (.int (sm n z)) := by rw [sumD_of, sum_sm]
  have c0 := compM_all (fe := fun y0 => (Rs.of (sumD [.lst ((List.range n).map fun i => .int (z i))])).bind fun x1 => m_law_ratio y0 x1) (fun i => D.int (z i)) (fun i => frQ ((z i : Rat) / (sm n z : Rat))) (List.range n) fun i _ => by
    simp only [sz, Rs.of_some, Rs.bind_ok, law_ratio_int s0 s5 (by decide)]
  have S0 : (0 : Rat) < (sm n z : Rat) := Rat.intCast_pos.mpr s0
  refine ⟨fun i => (z i : Rat) / (sm n z : Rat), s2, ?_, ⟨⟨fun i hi => ?_, ?_⟩, fun i hi => ?_⟩, b2.mono (by omega)⟩
  · have hz' : (fun i => D.int (x i + if i = k then 1 else 0)) = fun i => D.int (z i) := by rw [hz]
    rw [hz'] at au
    simp only [m_law_shares, rangeD_rg (show n < 1000000 by omega), Rs.of_some, Rs.bind_ok, h1, Rs.noX, e2, au, itemsD_lst, c0, tupleD_lst]
    rfl
  · refine le_div_ S0 ?_
    rw [Rat.zero_mul]
    exact Rat.intCast_nonneg.mpr (z0 i hi).1
  · have e : (fun i => (z i : Rat) / (sm n z : Rat)) = fun i => (sm n z : Rat)⁻¹ * (z i : Rat) := funext fun i => by rw [Rat.div_def, Rat.mul_comm]
    rw [e, rsm_mul, ← rsm_cast]
    exact Rat.inv_mul_cancel _ (fun q => absurd q (by intro q; rw [q] at S0; exact absurd S0 (by decide)))
  · have a := (z0 i hi).2.1
    exact (BQ.div s0 (by omega) s5 (by decide)).mono hK
end LW
set_option Elab.async false
set_option linter.all false
set_option maxRecDepth 100000
set_option maxHeartbeats 0
set_option autoImplicit false
namespace LW
open PySem PySem.Spec VL
theorem byhand : m_law_by_hand_right = .ok (.bl true) := by kernel_rfl
end LW
set_option Elab.async false
set_option linter.all false
set_option maxRecDepth 100000
set_option autoImplicit false
set_option maxHeartbeats 1000000
namespace LW
open PySem PySem.Spec VL SX
theorem tb_of {R C : Nat} {Q : Nat → Nat → Rat} (R0 : 0 < R) (R4 : R ≤ 4) (C0 : 0 < C) (C5 : C ≤ 5) (h : ∀ c, c < C → ∀ r, r < R → 0 ≤ Q c r ∧ BQ 3 (Q c r)) : TbOk R C 3 500 Q := by
  have rc : R * C ≤ 4 * 5 := Nat.mul_le_mul R4 C5
  have k1 : (3 + 1 + R * C * 3 + 1 + 8) * (C + 1) ≤ 73 * 6 := Nat.mul_le_mul (by omega) (by omega)
  have k2 : C * (3 + 500 + 1 + 1) ≤ 5 * 505 := Nat.mul_le_mul C5 (by omega)
  have k3 : R * (3 + 500 + 1 + 1) ≤ 4 * 505 := Nat.mul_le_mul R4 (by omega)
  exact ⟨R0, C0, by decide, by omega, by omega, h, by omega, by decide, by omega, by omega⟩
theorem right_ok {s : List D} (hb : Box 0 s) : ∃ s', m_law_right s = .ok (.bl true, s') := by
  have hr8 : rangeD (.int 8) = some ((List.range 8).map fun (i : Nat) => D.int (0 + (i : Int))) := rangeD_nat (n := 8) (by decide)
  rw [m_law_right]
  simp only [hr8, Rs.of_some, Rs.bind_ok]
  have fin : ∀ {f : List D → D → Rs (Fl (List D) (List D))}, (∀ j z x, x ∈ List.range 8 → j < 0 + (List.range 8).length → Box (3000 * j) z → ∃ z', f z (.int (0 + (x : Int))) = .ok (.nx z') ∧ Box (3000 * (j + 1)) z') → ∃ s', (loopM (β := Unit) f ((List.range 8).map fun (i : Nat) => D.int (0 + (i : Int))) s).bind (Fl.toIO fun z0 => Rs.ok ((D.bl true), z0)) = .ok (.bl true, s') := fun {f} h => by
    obtain ⟨z, e, _⟩ := loopM_inv (β := Unit) (f := f) (fun (i : Nat) => D.int (0 + (i : Int))) (fun j z => Box (3000 * j) z) (List.range 8) 0 s hb (fun j z x hx hj hbz => h j z x hx hj hbz)
    exact ⟨z, by rw [e]; rfl⟩
  refine fin ?_
  intro j z x hx hj hb1
  simp only [List.length_range] at hj
  obtain ⟨R, C, Q, s1, e1, R0, R4, C0, C5, hq, b1⟩ := grid_ok hb1 (by omega)
  have T := tb_of R0 R4 C0 C5 hq
  obtain ⟨v, p, q, B⟩ := T.best
  obtain ⟨w, s2, e2, W, b2⟩ := shares_draw (n := C) (K := 500) b1 (by omega) C0 (by omega) (by decide)
  obtain ⟨y, s3, e3, Y, b3⟩ := shares_draw (n := R) (K := 500) b2 (by omega) R0 (by omega) (by decide)
  have ca := case_ok T B
  have wo := B.worth false
  have lo := low_ok T W
  have hi := high_ok T Y
  have bc := is_best_columns_ok T B W false
  have br := is_best_rows_ok T B Y false
  have ap : ∀ a b : D, appL [a] b = some [a, b] := fun a b => rfl
  have sm : ∀ a b : Bool, m_law_same 14 (.lst [.bl a, .bl b]) (.lst [.bl a, .bl b]) = .ok (.bl true) := fun a b => same_refl 13 _ (by simp [fits])
  refine ⟨s3, ?_, b3.mono (by omega)⟩
  simp only [e1, e2, e3, ca, wo, lo, hi, bc, br, eqD_frQ, tb_0 false Q C T.R0, tb_w, tb_l, Rs.of_some, Rs.bind_ok, Rs.noX_ok, asB_bl, Bool.not_true, Bool.false_eq_true, if_false, ap, sm]
set_option exponentiation.threshold 256
theorem plain (ns : List Int) (hl : ns.length ≤ 63) (hb : ∀ i ∈ ns, Builtin.Int.intBits i ≤ 1048576) : m_law (.scr (ns.map .int)) = .ok (.bl true) := by
  have hb' : ∀ n ∈ ns, n.natAbs < 2 ^ 1048576 := fun n hn => by
    have z := hb n hn
    unfold Builtin.Int.intBits at z
    split at z
    · rename_i h0
      have e : n.natAbs = 0 := by simpa using h0
      rw [e]
      exact Nat.pow_pos (by decide)
    · exact Nat.lt_of_lt_of_le Nat.lt_log2_self (Nat.pow_le_pow_right (by decide) z)
  obtain ⟨cs, e1, c1, c2, c3⟩ := cells_ok hl (p := 1048576) (by decide) hb'
  have hr := rangeD_nat (n := cs.length) (by omega)
  have c0 := compM_all (fe := fun y2 => ((m_law_box (.lst (cs.map .int)) y2).noX).bind fun l3 => (m_law_right l3).noX.bind fun u => Rs.ok u.1) (fun (i : Nat) => D.int (0 + (i : Int))) (fun _ => .bl true) (List.range cs.length) fun k hk => by
    obtain ⟨s, e2, b⟩ := box_ok (List.mem_range.mp hk) c2 (by decide) c3
    obtain ⟨s', e3⟩ := right_ok b
    simp only [Int.zero_add, e2, Rs.noX_ok, Rs.bind_ok, e3]
  have a0 := allD_of (List.range cs.length) fun _ => true
  simp only [m_law, e1, Rs.bind_ok, byhand, Rs.noX_ok, asB_bl, Rs.of_some, if_true, lenD_lst, List.length_map, hr, c0, a0]
  simp
end LW
set_option Elab.async false
set_option linter.all false
set_option maxRecDepth 100000
set_option maxHeartbeats 0
set_option autoImplicit false
namespace LW
open PySem PySem.Spec L2 VL
open PyProof.Rows hiding St
theorem mkTxt {K : PySem.W.Frag} {mg : Str → Option Value} {h : Heap} (X : K.In h) (G : h.Ns mainGlobals mg) (c : SaysV fac fns K) : Nonempty (Txt K mg) := by
  obtain ⟨fd0, F0⟩ := c.fn_ 0 (d := df_is_number) rfl
  obtain ⟨fd1, F1⟩ := c.fn_ 1 (d := df_is_count) rfl
  obtain ⟨fd2, F2⟩ := c.fn_ 2 (d := df_tupled) rfl
  obtain ⟨fd3, F3⟩ := c.fn_ 3 (d := df_common_part) rfl
  obtain ⟨fd4, F4⟩ := c.fn_ 4 (d := df_fraction) rfl
  obtain ⟨fd5, F5⟩ := c.fn_ 5 (d := df_plus) rfl
  obtain ⟨fd6, F6⟩ := c.fn_ 6 (d := df_minus) rfl
  obtain ⟨fd7, F7⟩ := c.fn_ 7 (d := df_times) rfl
  obtain ⟨fd8, F8⟩ := c.fn_ 8 (d := df_is_less) rfl
  obtain ⟨fd9, F9⟩ := c.fn_ 9 (d := df_lesser) rfl
  obtain ⟨fd10, F10⟩ := c.fn_ 10 (d := df_greater) rfl
  obtain ⟨fd11, F11⟩ := c.fn_ 11 (d := df_total) rfl
  obtain ⟨fd12, F12⟩ := c.fn_ 12 (d := df_is_amount) rfl
  obtain ⟨fd13, F13⟩ := c.fn_ 13 (d := df_is_row_of) rfl
  obtain ⟨fd14, F14⟩ := c.fn_ 14 (d := df_are_weights) rfl
  obtain ⟨fd15, F15⟩ := c.fn_ 15 (d := df_common_bottom) rfl
  obtain ⟨fd16, F16⟩ := c.fn_ 16 (d := df_entering) rfl
  obtain ⟨fd17, F17⟩ := c.fn_ 17 (d := df_leaving) rfl
  obtain ⟨fd18, F18⟩ := c.fn_ 18 (d := df_pivoted) rfl
  obtain ⟨fd19, F19⟩ := c.fn_ 19 (d := df_shares) rfl
  obtain ⟨fd20, F20⟩ := c.fn_ 20 (d := df_best_mixture) rfl
  obtain ⟨fd21, F21⟩ := c.fn_ 21 (d := df_worth) rfl
  obtain ⟨fd22, F22⟩ := c.fn_ 22 (d := df_best_columns) rfl
  obtain ⟨fd23, F23⟩ := c.fn_ 23 (d := df_best_rows) rfl
  obtain ⟨fd24, F24⟩ := c.fn_ 24 (d := df_columns_worth) rfl
  obtain ⟨fd25, F25⟩ := c.fn_ 25 (d := df_rows_worth) rfl
  obtain ⟨fd26, F26⟩ := c.fn_ 26 (d := df_is_best_columns) rfl
  obtain ⟨fd27, F27⟩ := c.fn_ 27 (d := df_is_best_rows) rfl
  obtain ⟨fd28, F28⟩ := c.fn_ 28 (d := df_law_box) rfl
  obtain ⟨fd29, F29⟩ := c.fn_ 29 (d := df_law_take) rfl
  obtain ⟨fd30, F30⟩ := c.fn_ 30 (d := df_law_cells) rfl
  obtain ⟨fd31, F31⟩ := c.fn_ 31 (d := df_law_same) rfl
  obtain ⟨fd32, F32⟩ := c.fn_ 32 (d := df_law_lists) rfl
  obtain ⟨fd33, F33⟩ := c.fn_ 33 (d := df_law_part) rfl
  obtain ⟨fd34, F34⟩ := c.fn_ 34 (d := df_law_ratio) rfl
  obtain ⟨fd35, F35⟩ := c.fn_ 35 (d := df_law_sum) rfl
  obtain ⟨fd36, F36⟩ := c.fn_ 36 (d := df_law_less) rfl
  obtain ⟨fd37, F37⟩ := c.fn_ 37 (d := df_law_by) rfl
  obtain ⟨fd38, F38⟩ := c.fn_ 38 (d := df_law_least) rfl
  obtain ⟨fd39, F39⟩ := c.fn_ 39 (d := df_law_most) rfl
  obtain ⟨fd40, F40⟩ := c.fn_ 40 (d := df_law_is_part) rfl
  obtain ⟨fd41, F41⟩ := c.fn_ 41 (d := df_law_are_weights) rfl
  obtain ⟨fd42, F42⟩ := c.fn_ 42 (d := df_law_sums) rfl
  obtain ⟨fd43, F43⟩ := c.fn_ 43 (d := df_law_across) rfl
  obtain ⟨fd44, F44⟩ := c.fn_ 44 (d := df_law_entry) rfl
  obtain ⟨fd45, F45⟩ := c.fn_ 45 (d := df_law_grid) rfl
  obtain ⟨fd46, F46⟩ := c.fn_ 46 (d := df_law_shares) rfl
  obtain ⟨fd47, F47⟩ := c.fn_ 47 (d := df_law_shown) rfl
  obtain ⟨fd48, F48⟩ := c.fn_ 48 (d := df_law_case_right) rfl
  obtain ⟨fd49, F49⟩ := c.fn_ 49 (d := df_law_by_hand_right) rfl
  obtain ⟨fd50, F50⟩ := c.fn_ 50 (d := df_law_right) rfl
  obtain ⟨fd51, F51⟩ := c.fn_ 51 (d := df_law) rfl
  exact ⟨{
    f_abs := He.free_ok X G (c.fact 0 (f := freeB "abs") rfl)
    f_all := He.free_ok X G (c.fact 1 (f := freeB "all") rfl)
    f_bool := He.free_ok X G (c.fact 2 (f := freeB "bool") rfl)
    f_enumerate := He.free_ok X G (c.fact 3 (f := freeB "enumerate") rfl)
    f_int := He.free_ok X G (c.fact 4 (f := freeB "int") rfl)
    f_isinstance := He.free_ok X G (c.fact 5 (f := freeB "isinstance") rfl)
    f_len := He.free_ok X G (c.fact 6 (f := freeB "len") rfl)
    f_list := He.free_ok X G (c.fact 7 (f := freeB "list") rfl)
    f_min := He.free_ok X G (c.fact 8 (f := freeB "min") rfl)
    f_range := He.free_ok X G (c.fact 9 (f := freeB "range") rfl)
    f_str := He.free_ok X G (c.fact 10 (f := freeB "str") rfl)
    f_sum := He.free_ok X G (c.fact 11 (f := freeB "sum") rfl)
    f_tuple := He.free_ok X G (c.fact 12 (f := freeB "tuple") rfl)
    f_zip := He.free_ok X G (c.fact 13 (f := freeB "zip") rfl)
    g_NONE := He.glo_ok X G (c.fact 14 (f := gloB "NONE") rfl)
    c_NONE := gtupB_ok (c.fact 15 (f := gtupB "NONE" [0, 1]) rfl)
    c_PAIR := He.int_ok X G (c.fact 16 (f := gintB "PAIR" 2) rfl)
    g_WHOLE := He.glo_ok X G (c.fact 17 (f := gloB "WHOLE") rfl)
    c_WHOLE := gtupB_ok (c.fact 18 (f := gtupB "WHOLE" [1, 1]) rfl)
    fd_is_number := fd0
    F_is_number := F0
    g_is_number := He.glo_ok X G (c.fact 19 (f := gloB "is_number") rfl)
    b_is_number := FunD.bindsN F0 fun _ _ _ _ _ _ us hl => match us, hl with | [_], _ => rfl
    fd_is_count := fd1
    F_is_count := F1
    g_is_count := He.glo_ok X G (c.fact 20 (f := gloB "is_count") rfl)
    b_is_count := FunD.bindsN F1 fun _ _ _ _ _ _ us hl => match us, hl with | [_], _ => rfl
    fd_tupled := fd2
    F_tupled := F2
    g_tupled := He.glo_ok X G (c.fact 21 (f := gloB "tupled") rfl)
    b_tupled := FunD.bindsN F2 fun _ _ _ _ _ _ us hl => match us, hl with | [_], _ => rfl
    fd_common_part := fd3
    F_common_part := F3
    g_common_part := He.glo_ok X G (c.fact 22 (f := gloB "common_part") rfl)
    b_common_part := FunD.bindsN F3 fun _ _ _ _ _ _ us hl => match us, hl with | [_, _], _ => rfl
    fd_fraction := fd4
    F_fraction := F4
    g_fraction := He.glo_ok X G (c.fact 23 (f := gloB "fraction") rfl)
    b_fraction := FunD.bindsN F4 fun _ _ _ _ _ _ us hl => match us, hl with | [_, _], _ => rfl
    fd_plus := fd5
    F_plus := F5
    g_plus := He.glo_ok X G (c.fact 24 (f := gloB "plus") rfl)
    b_plus := FunD.bindsN F5 fun _ _ _ _ _ _ us hl => match us, hl with | [_, _], _ => rfl
    fd_minus := fd6
    F_minus := F6
    g_minus := He.glo_ok X G (c.fact 25 (f := gloB "minus") rfl)
    b_minus := FunD.bindsN F6 fun _ _ _ _ _ _ us hl => match us, hl with | [_, _], _ => rfl
    fd_times := fd7
    F_times := F7
    g_times := He.glo_ok X G (c.fact 26 (f := gloB "times") rfl)
    b_times := FunD.bindsN F7 fun _ _ _ _ _ _ us hl => match us, hl with | [_, _], _ => rfl
    fd_is_less := fd8
    F_is_less := F8
    g_is_less := He.glo_ok X G (c.fact 27 (f := gloB "is_less") rfl)
    b_is_less := FunD.bindsN F8 fun _ _ _ _ _ _ us hl => match us, hl with | [_, _], _ => rfl
    fd_lesser := fd9
    F_lesser := F9
    g_lesser := He.glo_ok X G (c.fact 28 (f := gloB "lesser") rfl)
    b_lesser := FunD.bindsN F9 fun _ _ _ _ _ _ us hl => match us, hl with | [_, _], _ => rfl
    fd_greater := fd10
    F_greater := F10
    g_greater := He.glo_ok X G (c.fact 29 (f := gloB "greater") rfl)
    b_greater := FunD.bindsN F10 fun _ _ _ _ _ _ us hl => match us, hl with | [_, _], _ => rfl
    fd_total := fd11
    F_total := F11
    g_total := He.glo_ok X G (c.fact 30 (f := gloB "total") rfl)
    b_total := FunD.bindsN F11 fun _ _ _ _ _ _ us hl => match us, hl with | [_], _ => rfl
    fd_is_amount := fd12
    F_is_amount := F12
    g_is_amount := He.glo_ok X G (c.fact 31 (f := gloB "is_amount") rfl)
    b_is_amount := FunD.bindsN F12 fun _ _ _ _ _ _ us hl => match us, hl with | [_], _ => rfl
    fd_is_row_of := fd13
    F_is_row_of := F13
    g_is_row_of := He.glo_ok X G (c.fact 32 (f := gloB "is_row_of") rfl)
    b_is_row_of := FunD.bindsN F13 fun _ _ _ _ _ _ us hl => match us, hl with | [_, _], _ => rfl
    fd_are_weights := fd14
    F_are_weights := F14
    g_are_weights := He.glo_ok X G (c.fact 33 (f := gloB "are_weights") rfl)
    b_are_weights := FunD.bindsN F14 fun _ _ _ _ _ _ us hl => match us, hl with | [_, _], _ => rfl
    fd_common_bottom := fd15
    F_common_bottom := F15
    g_common_bottom := He.glo_ok X G (c.fact 34 (f := gloB "common_bottom") rfl)
    b_common_bottom := FunD.bindsN F15 fun _ _ _ _ _ _ us hl => match us, hl with | [_], _ => rfl
    fd_entering := fd16
    F_entering := F16
    g_entering := He.glo_ok X G (c.fact 35 (f := gloB "entering") rfl)
    b_entering := FunD.bindsN F16 fun _ _ _ _ _ _ us hl => match us, hl with | [_, _], _ => rfl
    fd_leaving := fd17
    F_leaving := F17
    g_leaving := He.glo_ok X G (c.fact 36 (f := gloB "leaving") rfl)
    b_leaving := FunD.bindsN F17 fun _ _ _ _ _ _ us hl => match us, hl with | [_, _, _], _ => rfl
    fd_pivoted := fd18
    F_pivoted := F18
    g_pivoted := He.glo_ok X G (c.fact 37 (f := gloB "pivoted") rfl)
    b_pivoted := FunD.bindsN F18 fun _ _ _ _ _ _ us hl => match us, hl with | [_, _, _, _], _ => rfl
    fd_shares := fd19
    F_shares := F19
    g_shares := He.glo_ok X G (c.fact 38 (f := gloB "shares") rfl)
    b_shares := FunD.bindsN F19 fun _ _ _ _ _ _ us hl => match us, hl with | [_], _ => rfl
    fd_best_mixture := fd20
    F_best_mixture := F20
    g_best_mixture := He.glo_ok X G (c.fact 39 (f := gloB "best_mixture") rfl)
    b_best_mixture := FunD.bindsN F20 fun _ _ _ _ _ _ us hl => match us, hl with | [_], _ => rfl
    fd_worth := fd21
    F_worth := F21
    g_worth := He.glo_ok X G (c.fact 40 (f := gloB "worth") rfl)
    b_worth := FunD.bindsN F21 fun _ _ _ _ _ _ us hl => match us, hl with | [_], _ => rfl
    fd_best_columns := fd22
    F_best_columns := F22
    g_best_columns := He.glo_ok X G (c.fact 41 (f := gloB "best_columns") rfl)
    b_best_columns := FunD.bindsN F22 fun _ _ _ _ _ _ us hl => match us, hl with | [_], _ => rfl
    fd_best_rows := fd23
    F_best_rows := F23
    g_best_rows := He.glo_ok X G (c.fact 42 (f := gloB "best_rows") rfl)
    b_best_rows := FunD.bindsN F23 fun _ _ _ _ _ _ us hl => match us, hl with | [_], _ => rfl
    fd_columns_worth := fd24
    F_columns_worth := F24
    g_columns_worth := He.glo_ok X G (c.fact 43 (f := gloB "columns_worth") rfl)
    b_columns_worth := FunD.bindsN F24 fun _ _ _ _ _ _ us hl => match us, hl with | [_, _], _ => rfl
    fd_rows_worth := fd25
    F_rows_worth := F25
    g_rows_worth := He.glo_ok X G (c.fact 44 (f := gloB "rows_worth") rfl)
    b_rows_worth := FunD.bindsN F25 fun _ _ _ _ _ _ us hl => match us, hl with | [_, _], _ => rfl
    fd_is_best_columns := fd26
    F_is_best_columns := F26
    g_is_best_columns := He.glo_ok X G (c.fact 45 (f := gloB "is_best_columns") rfl)
    b_is_best_columns := FunD.bindsN F26 fun _ _ _ _ _ _ us hl => match us, hl with | [_, _], _ => rfl
    fd_is_best_rows := fd27
    F_is_best_rows := F27
    g_is_best_rows := He.glo_ok X G (c.fact 46 (f := gloB "is_best_rows") rfl)
    b_is_best_rows := FunD.bindsN F27 fun _ _ _ _ _ _ us hl => match us, hl with | [_, _], _ => rfl
    fd_law_box := fd28
    F_law_box := F28
    g_law_box := He.glo_ok X G (c.fact 47 (f := gloB "_law_box") rfl)
    b_law_box := FunD.bindsN F28 fun _ _ _ _ _ _ us hl => match us, hl with | [_, _], _ => rfl
    fd_law_take := fd29
    F_law_take := F29
    g_law_take := He.glo_ok X G (c.fact 48 (f := gloB "_law_take") rfl)
    b_law_take := FunD.bindsN F29 fun _ _ _ _ _ _ us hl => match us, hl with | [_, _], _ => rfl
    fd_law_cells := fd30
    F_law_cells := F30
    g_law_cells := He.glo_ok X G (c.fact 49 (f := gloB "_law_cells") rfl)
    b_law_cells := FunD.bindsN F30 fun _ _ _ _ _ _ us hl => match us, hl with | [_, _], _ => rfl
    fd_law_same := fd31
    F_law_same := F31
    g_law_same := He.glo_ok X G (c.fact 50 (f := gloB "_law_same") rfl)
    b_law_same := FunD.bindsN F31 fun _ _ _ _ _ _ us hl => match us, hl with | [_, _], _ => rfl
    fd_law_lists := fd32
    F_law_lists := F32
    g_law_lists := He.glo_ok X G (c.fact 51 (f := gloB "_law_lists") rfl)
    b_law_lists := FunD.bindsN F32 fun _ _ _ _ _ _ us hl => match us, hl with | [_], _ => rfl
    fd_law_part := fd33
    F_law_part := F33
    g_law_part := He.glo_ok X G (c.fact 52 (f := gloB "_law_part") rfl)
    b_law_part := FunD.bindsN F33 fun _ _ _ _ _ _ us hl => match us, hl with | [_, _], _ => rfl
    fd_law_ratio := fd34
    F_law_ratio := F34
    g_law_ratio := He.glo_ok X G (c.fact 53 (f := gloB "_law_ratio") rfl)
    b_law_ratio := FunD.bindsN F34 fun _ _ _ _ _ _ us hl => match us, hl with | [_, _], _ => rfl
    fd_law_sum := fd35
    F_law_sum := F35
    g_law_sum := He.glo_ok X G (c.fact 54 (f := gloB "_law_sum") rfl)
    b_law_sum := FunD.bindsN F35 fun _ _ _ _ _ _ us hl => match us, hl with | [_], _ => rfl
    fd_law_less := fd36
    F_law_less := F36
    g_law_less := He.glo_ok X G (c.fact 55 (f := gloB "_law_less") rfl)
    b_law_less := FunD.bindsN F36 fun _ _ _ _ _ _ us hl => match us, hl with | [_, _], _ => rfl
    fd_law_by := fd37
    F_law_by := F37
    g_law_by := He.glo_ok X G (c.fact 56 (f := gloB "_law_by") rfl)
    b_law_by := FunD.bindsN F37 fun _ _ _ _ _ _ us hl => match us, hl with | [_, _], _ => rfl
    fd_law_least := fd38
    F_law_least := F38
    g_law_least := He.glo_ok X G (c.fact 57 (f := gloB "_law_least") rfl)
    b_law_least := FunD.bindsN F38 fun _ _ _ _ _ _ us hl => match us, hl with | [_], _ => rfl
    fd_law_most := fd39
    F_law_most := F39
    g_law_most := He.glo_ok X G (c.fact 58 (f := gloB "_law_most") rfl)
    b_law_most := FunD.bindsN F39 fun _ _ _ _ _ _ us hl => match us, hl with | [_], _ => rfl
    fd_law_is_part := fd40
    F_law_is_part := F40
    g_law_is_part := He.glo_ok X G (c.fact 59 (f := gloB "_law_is_part") rfl)
    b_law_is_part := FunD.bindsN F40 fun _ _ _ _ _ _ us hl => match us, hl with | [_], _ => rfl
    fd_law_are_weights := fd41
    F_law_are_weights := F41
    g_law_are_weights := He.glo_ok X G (c.fact 60 (f := gloB "_law_are_weights") rfl)
    b_law_are_weights := FunD.bindsN F41 fun _ _ _ _ _ _ us hl => match us, hl with | [_, _], _ => rfl
    fd_law_sums := fd42
    F_law_sums := F42
    g_law_sums := He.glo_ok X G (c.fact 61 (f := gloB "_law_sums") rfl)
    b_law_sums := FunD.bindsN F42 fun _ _ _ _ _ _ us hl => match us, hl with | [_, _], _ => rfl
    fd_law_across := fd43
    F_law_across := F43
    g_law_across := He.glo_ok X G (c.fact 62 (f := gloB "_law_across") rfl)
    b_law_across := FunD.bindsN F43 fun _ _ _ _ _ _ us hl => match us, hl with | [_], _ => rfl
    fd_law_entry := fd44
    F_law_entry := F44
    g_law_entry := He.glo_ok X G (c.fact 63 (f := gloB "_law_entry") rfl)
    b_law_entry := FunD.bindsN F44 fun _ _ _ _ _ _ us hl => match us, hl with | [_], _ => rfl
    fd_law_grid := fd45
    F_law_grid := F45
    g_law_grid := He.glo_ok X G (c.fact 64 (f := gloB "_law_grid") rfl)
    b_law_grid := FunD.bindsN F45 fun _ _ _ _ _ _ us hl => match us, hl with | [_, _, _], _ => rfl
    fd_law_shares := fd46
    F_law_shares := F46
    g_law_shares := He.glo_ok X G (c.fact 65 (f := gloB "_law_shares") rfl)
    b_law_shares := FunD.bindsN F46 fun _ _ _ _ _ _ us hl => match us, hl with | [_, _], _ => rfl
    fd_law_shown := fd47
    F_law_shown := F47
    g_law_shown := He.glo_ok X G (c.fact 66 (f := gloB "_law_shown") rfl)
    b_law_shown := FunD.bindsN F47 fun _ _ _ _ _ _ us hl => match us, hl with | [_], _ => rfl
    fd_law_case_right := fd48
    F_law_case_right := F48
    g_law_case_right := He.glo_ok X G (c.fact 67 (f := gloB "_law_case_right") rfl)
    b_law_case_right := FunD.bindsN F48 fun _ _ _ _ _ _ us hl => match us, hl with | [_], _ => rfl
    fd_law_by_hand_right := fd49
    F_law_by_hand_right := F49
    g_law_by_hand_right := He.glo_ok X G (c.fact 68 (f := gloB "_law_by_hand_right") rfl)
    b_law_by_hand_right := FunD.bindsN F49 fun _ _ _ _ _ _ us hl => match us, hl with | [], _ => rfl
    fd_law_right := fd50
    F_law_right := F50
    g_law_right := He.glo_ok X G (c.fact 69 (f := gloB "_law_right") rfl)
    b_law_right := FunD.bindsN F50 fun _ _ _ _ _ _ us hl => match us, hl with | [_], _ => rfl
    fd_law := fd51
    F_law := F51
    g_law := He.glo_ok X G (c.fact 70 (f := gloB "law") rfl)
    b_law := FunD.bindsN F51 fun _ _ _ _ _ _ us hl => match us, hl with | [_], _ => rfl
  }⟩
def mLaw : List D → Rs D := fun ds => match ds with | [x] => m_law x | _ => .no
theorem fin {P : Program} {w : World} {K : PySem.W.Frag} {mg : Str → Option Value} {h : Heap} {fa : Addr} (X : K.In h) (G : h.Ns mainGlobals mg) (hmg : mg "law" = some (.ref fa)) (c : SaysV fac fns K) :
    ∃ (fd : FuncData) (sp : Sp), (∀ (s : Shared) (v : Value), BindsTo s fd ⟨[v], []⟩ [("_law_script", v)]) ∧ (∀ (H : Hp) (a : Addr) (ns : List Int), ns.length ≤ 63 → (∀ i ∈ ns, Builtin.Int.intBits i ≤ 1048576) → Only H → SqL K H a (ns.map V.int) → sp [.ref a] H (fun v _ => v = .bl true) fun _ _ _ => False) ∧ ∀ base : Heap, FnOk P w K mg base (L2N.CX P w) 28 fa fd ["_law_script"] sp := by
  obtain ⟨T⟩ := mkTxt X G c
  obtain rfl : fa = He.ga K "law" := by
    have e := hmg.symm.trans T.g_law
    injection e with e
    injection e
  exact ⟨T.fd_law, spM K 1 mLaw, fun s v => FunD.bindsA (ps := ["_law_script"]) T.F_law (fun _ _ _ _ _ _ us hl => match us, hl with | [_], _ => rfl) s [v] rfl, fun H a ns hl hb _ hS => end_ok hl hS (plain ns hl hb), fun base => k_law T⟩
end LW
open PySem PySem.W PySem.Calls PyProof.Rows
theorem PySem.Challenge.cw_allgather_k30_the_worth_of_a_table_holds : PySem.Challenge.rw_allgather_k30_the_worth_of_a_table.Holds := by
  w_on; o_law
  refine HandSHeadRun.head_any (r := LW.R) (q := view LW.R.prog [58]) (H := LW.hk) (ob := LW.ob) (M := 20000) (loose := LW.lo) (d := HandSHeadRun.topDef LW.R.prog 58) (kwd := []) LW.ob_eq
    (by kernel_rfl) (fun s => by kernel_rfl) LW.run (by kernel_rfl) (by kernel_rfl) (by kernel_rfl) (by rfl) (by first | assumption | decide +kernel) (by decide +kernel) ⟨rfl, rfl, rfl, rfl, rfl, by decide +kernel⟩ ?hw ?hc
  case hw => w_witness2
  case hc =>
    refine VL.walk_ofV (l := PySem.Challenge.rw_allgather_k30_the_worth_of_a_table) (n := 63) (k := 28) (x := "_law_script") (CX := fun w => L2N.CX LW.R.prog w) rfl (by decide) (by kernel_rfl) ⟨rfl, by decide, by decide⟩ ?F VL.cx_no
    intro w mg fa h Y G hmg0
    obtain ⟨K, KX, c⟩ := Y
    have hmg : mg ("law" : PySem.Str) = some (.ref fa) := by
      have e : (HandSHeadRun.topDef LW.R.prog 58).name = ("law" : PySem.Str) := by kernel_rfl
      rw [← e]
      exact hmg0
    obtain ⟨fd, sp, h1, h2, h3⟩ := LW.fin (P := (PySem.Challenge.rw_allgather_k30_the_worth_of_a_table).prog) (w := w) KX G hmg c
    exact ⟨K, fd, sp, KX, h1, h2, fun base _ _ => h3 base⟩
