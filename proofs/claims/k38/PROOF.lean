import PyProof.Rows.All
import Wide.All
import OpenK.AllK
import Wide.FinOn
import HandS.ForMost
import HandS.Exc
import HandS.ExcOwn
import HandS.TryOnly
import HandS.WordsExc
import HandS.CallSlots
import HandS.Flow
import HandS.Deep
import HandS.TupAny
import HandS.TupMul
import HandS.Wide
import HandS.Slots
import HandS.SlotsOwn
import HandS.IsInst
import HandS.Zip
import HandS.Conv
import HandS.Star
import HandS.Defaults
import HandS.Head0
import HandS.Head1
import HandS.Head2
import HandS.HeadEnd
import HandS.HeadHook1
import HandS.HeadHook2
import KE.KeyNested
import HandS.ExcCtx
import HandS.Hot
import HandS.HotCalls
import KE.KTupSum
import HandS.TupLe
import KE.GoesNew
import PyProof.EnumMake
import HandS.ClsMeth
import HandS.HeadNt
import KE.SortCalls
import HandS.ExcValue
import HandS.Text
import HandS.Style
import HandS.Codes
import HandS.EndBits
import PyProof.ListStr
import PyProof.CollectStr
import PyProof.TupleCall
import KE.KRevSl
import HandS.TryMany
import HandS.ExcInit
import HandS.ExcField
import KE.KExcIs
import KE.KDictZip
import HandS.Dict
import HandS.More
import HandS.DictTup
import HandS.Iter
import HandS.DictComp
import KE.DataMinMax
import HandS.SortKw
import KE.GoesZip
import KE.GoesMore
import KE.KDictPairs
import KE.KDictWalk
import KE.KDictCopyH
import KE.KDictSum
import HandS.TupSets
import HandS.Replace
import HandS.SetTxt0
import KE.KIndexOf
import HandS.Zip0
import KE.DataMinKey
import PySem.Challenge.RW_allgather_k38_surveys_that_are_told
set_option Elab.async false
set_option linter.all false
set_option maxRecDepth 100000
set_option autoImplicit false
namespace VL
open PySem PySem.Spec L2
open PyProof.Rows hiding St
inductive D where
  | non | bl (b : Bool) | int (i : Int) | str (x : Str) | tup (xs : List D) | lst (xs : List D) | scr (xs : List D)
  | obj (c : Str) (xs : List D) | dT (kvs : List (List Key × D)) | dK (kvs : List (Key × D)) | exn (c : Str) (fs : List (Str × D)) | dN (w : World) (kvs : List (NestedKey × D)) | tupL (xs : List D)
inductive Rs (α : Type) where
  | ok (a : α) | ex (c : Str) (fs : List (Str × D)) | no
def Rs.bind {α β : Type} (m : Rs α) (f : α → Rs β) : Rs β := match m with
  | .ok a => f a
  | .ex c fs => .ex c fs
  | .no => .no
instance : Monad Rs where
  pure := Rs.ok
  bind := Rs.bind
@[simp] theorem bind_ok {α β : Type} (a : α) (f : α → Rs β) : (Rs.ok a >>= f) = f a := rfl
@[simp] theorem bind_ex {α β : Type} (c : Str) (fs : List (Str × D)) (f : α → Rs β) : ((Rs.ex c fs : Rs α) >>= f) = .ex c fs := rfl
@[simp] theorem bind_no {α β : Type} (f : α → Rs β) : ((Rs.no : Rs α) >>= f) = .no := rfl
@[simp] theorem pure_ok {α : Type} (a : α) : (pure a : Rs α) = .ok a := rfl
@[simp] theorem Rs.bind_ok {α β : Type} (a : α) (f : α → Rs β) : (Rs.ok a).bind f = f a := rfl
@[simp] theorem Rs.bind_ex {α β : Type} (c : Str) (fs : List (Str × D)) (f : α → Rs β) : (Rs.ex c fs : Rs α).bind f = .ex c fs := rfl
@[simp] theorem Rs.bind_no {α β : Type} (f : α → Rs β) : (Rs.no : Rs α).bind f = .no := rfl
mutual
def nkD : NestedKey → D
  | .none => .non
  | .num i => .int i
  | .text x => .str x
  | .tup ks => .tup (nkDs ks)
def nkDs : List NestedKey → List D
  | [] => []
  | k :: ks => nkD k :: nkDs ks
end
def nEnt (w : World) (x : NestedKey × Addr × Value) : DictEntry := ⟨x.1.hash w, .ref x.2.1, x.2.2⟩
def nO (w : World) (a : Addr) (ys : List (NestedKey × Addr × V)) : HO := .ext fun h => (a == sysModules) = false ∧ (∀ y ∈ ys, y.1.depth ≤ 8) ∧ ∃ xs : List (NestedKey × Addr × Value), Paired (fun p q => p.1 = q.1 ∧ p.2.1 = q.2.1 ∧ RelV p.2.2 q.2.2) ys xs ∧
  ∃ (o : Obj) (es : Array DictEntry) (ep : Nat), h.get? a = some o ∧ o.ExactDict ∧ o.data = .dict es ep ∧ es.toList = xs.map (nEnt w) ∧ (xs.map (·.1)).Nodup
def xO (cls : Value) (d : Option Addr) (a : Addr) : HO := .ext fun h => ∃ (oe : Obj) (vs : Array Value), h.get? a = some oe ∧ L2N.Zn cls d oe ∧ oe.data = .fields vs
def TupR (K : PySem.W.Frag) (F : Hp) (a : Addr) (xs : List V) : Prop := F a = some (.tup xs) ∨ (SqT K (fun _ => none) a xs ∧ ∀ x ∈ xs, ∃ i : Int, x = .int i)
theorem TupR.sq {K : PySem.W.Frag} {F : Hp} {a : Addr} {xs : List V} (h : TupR K F a xs) : SqT K F a xs := by
  rcases h with h | ⟨(h | ⟨o, h⟩) | h, _⟩
  · exact .inl (.inl h)
  · cases h
  · cases h
  · exact .inr h
theorem sqT_frz {K : PySem.W.Frag} {F : Hp} {a : Addr} {o : Obj} {xs : List V} (h : F a = some (.frz o (.tup xs))) : SqT K F a xs := .inl (.inr ⟨o, h⟩)
theorem TupR.same {K : PySem.W.Frag} {F F' : Hp} {a : Addr} {xs : List V} (e : Same F F') (h : TupR K F a xs) : TupR K F' a xs := by
  rcases h with h | h
  · exact .inl (e _ _ h)
  · exact .inr h
mutual
inductive Rep (K : PySem.W.Frag) (F : Hp) : V → D → Prop
  | non : Rep K F .non .non
  | bl (b : Bool) : Rep K F (.bl b) (.bl b)
  | int (i : Int) : Rep K F (.int i) (.int i)
  | str (x : Str) : Rep K F (.str x) (.str x)
  | lst {a : Addr} {xs : List V} {ds : List D} : F a = some (.lst xs) → xs.length ≤ sizeLine → Reps K F xs ds → Rep K F (.ref a) (.lst ds)
  | scr {a : Addr} {xs : List V} {ds : List D} : SqL K F a xs → xs.length ≤ sizeLine → Reps K F xs ds → Rep K F (.ref a) (.scr ds)
  | tup {a : Addr} {xs : List V} {ds : List D} : TupR K F a xs → xs.length ≤ sizeLine → Reps K F xs ds → Rep K F (.ref a) (.tup ds)
  | tupL {a : Addr} {o : Obj} {xs : List V} {ds : List D} : F a = some (.frz o (.tup xs)) → o.dict = none → xs.length ≤ sizeLine → Reps K F xs ds → Rep K F (.ref a) (.tupL ds)
  | obj {a dx : Addr} {c : Str} {xs : List V} {ds : List D} : F a = some (SlX.SlO a (He.ga K c) dx (xs.map some)) → F dx = some (.xd []) → Reps K F xs ds → Rep K F (.ref a) (.obj c ds)
  | dT {a : Addr} {o : Obj} {kvs : List (List Key × V)} {es : List (List Key × D)} : F a = some (.frz o (.dT kvs)) → kvs.map (·.1) = es.map (·.1) → Reps K F (kvs.map (·.2)) (es.map (·.2)) → Rep K F (.ref a) (.dT es)
  | dK {a : Addr} {o : Obj} {kvs : List (Key × V)} {es : List (Key × D)} : F a = some (.frz o (.dK kvs)) → kvs.map (·.1) = es.map (·.1) → Reps K F (kvs.map (·.2)) (es.map (·.2)) → Rep K F (.ref a) (.dK es)
  | dN {a : Addr} {o : Obj} {w : World} {ys : List (NestedKey × Addr × V)} {es : List (NestedKey × D)} : F a = some (.frz o (nO w a ys)) → ys.map (·.1) = es.map (·.1) → Reps K F (ys.map fun y => V.ref y.2.1) (es.map fun p => nkD p.1) → Reps K F (ys.map (·.2.2)) (es.map (·.2)) → Rep K F (.ref a) (.dN w es)
  | exn {a dd : Addr} {c : Str} {vs : List (Str × V)} {fs : List (Str × D)} : F a = some (xO (.ref (He.ga K c)) (some dd) a) → F dd = some (.xd vs) → vs.map (·.1) = fs.map (·.1) → Reps K F (vs.map (·.2)) (fs.map (·.2)) → Rep K F (.ref a) (.exn c fs)
inductive Reps (K : PySem.W.Frag) (F : Hp) : List V → List D → Prop
  | nil : Reps K F [] []
  | cons {v : V} {vs : List V} {d : D} {ds : List D} : Rep K F v d → Reps K F vs ds → Reps K F (v :: vs) (d :: ds)
end
theorem SqL.same {K : PySem.W.Frag} {H H' : Hp} {a : Addr} {xs : List V} (e : Same H H') (h : SqL K H a xs) : SqL K H' a xs := by
  rcases h with (h | ⟨o, h⟩) | h
  · exact .inl (.inl (e _ _ h))
  · exact .inl (.inr ⟨o, e _ _ h⟩)
  · exact .inr h
theorem SqT.same {K : PySem.W.Frag} {H H' : Hp} {a : Addr} {xs : List V} (e : Same H H') (h : SqT K H a xs) : SqT K H' a xs := by
  rcases h with (h | ⟨o, h⟩) | h
  · exact .inl (.inl (e _ _ h))
  · exact .inl (.inr ⟨o, e _ _ h⟩)
  · exact .inr h
mutual
theorem Rep.mono {K : PySem.W.Frag} {F F' : Hp} (e : Same F F') : ∀ {v : V} {d : D}, Rep K F v d → Rep K F' v d
  | _, _, .non => .non
  | _, _, .bl b => .bl b
  | _, _, .int i => .int i
  | _, _, .str x => .str x
  | _, _, .lst h l r => .lst (e _ _ h) l (Reps.mono e r)
  | _, _, .scr h l r => .scr (SqL.same e h) l (Reps.mono e r)
  | _, _, .tup h l r => .tup (TupR.same e h) l (Reps.mono e r)
  | _, _, .tupL h h2 l r => .tupL (e _ _ h) h2 l (Reps.mono e r)
  | _, _, .obj h h2 r => .obj (e _ _ h) (e _ _ h2) (Reps.mono e r)
  | _, _, .dT h h2 r => .dT (e _ _ h) h2 (Reps.mono e r)
  | _, _, .dK h h2 r => .dK (e _ _ h) h2 (Reps.mono e r)
  | _, _, .dN h h2 k r => .dN (e _ _ h) h2 (Reps.mono e k) (Reps.mono e r)
  | _, _, .exn h h1 h2 r => .exn (e _ _ h) (e _ _ h1) h2 (Reps.mono e r)
theorem Reps.mono {K : PySem.W.Frag} {F F' : Hp} (e : Same F F') : ∀ {v : List V} {d : List D}, Reps K F v d → Reps K F' v d
  | _, _, .nil => .nil
  | _, _, .cons h r => .cons (Rep.mono e h) (Reps.mono e r)
end
section
variable {K : PySem.W.Frag} {F : Hp}
theorem Reps.length : ∀ {vs : List V} {ds : List D}, Reps K F vs ds → vs.length = ds.length
  | _, _, .nil => rfl
  | _, _, .cons _ r => congrArg (· + 1) (Reps.length r)
theorem Reps.get : ∀ {vs : List V} {ds : List D} {i : Nat} {d : D}, Reps K F vs ds → ds[i]? = some d → ∃ v, vs[i]? = some v ∧ Rep K F v d
  | _, _, _, _, .nil, h => by simp at h
  | _, _, 0, _, .cons h _, e => ⟨_, rfl, by simp at e; exact e ▸ h⟩
  | _, _, i + 1, _, .cons _ r, e => by
    obtain ⟨v, h1, h2⟩ := Reps.get (i := i) r (by simpa using e)
    exact ⟨v, by simpa using h1, h2⟩
theorem Reps.getV : ∀ {vs : List V} {ds : List D} {i : Nat} {v : V}, Reps K F vs ds → vs[i]? = some v → ∃ d, ds[i]? = some d ∧ Rep K F v d
  | _, _, _, _, .nil, h => by simp at h
  | _, _, 0, _, .cons h _, e => ⟨_, rfl, by simp at e; exact e ▸ h⟩
  | _, _, i + 1, _, .cons _ r, e => by
    obtain ⟨v, h1, h2⟩ := Reps.getV (i := i) r (by simpa using e)
    exact ⟨v, by simpa using h1, h2⟩
theorem Reps.append : ∀ {vs ws : List V} {ds es : List D}, Reps K F vs ds → Reps K F ws es → Reps K F (vs ++ ws) (ds ++ es)
  | _, _, _, _, .nil, s => s
  | _, _, _, _, .cons h r, s => .cons h (r.append s)
theorem Reps.take : ∀ {vs : List V} {ds : List D} (n : Nat), Reps K F vs ds → Reps K F (vs.take n) (ds.take n)
  | _, _, 0, _ => .nil
  | _, _, _ + 1, .nil => .nil
  | _, _, n + 1, .cons h r => .cons h (r.take n)
theorem Reps.drop : ∀ {vs : List V} {ds : List D} (n : Nat), Reps K F vs ds → Reps K F (vs.drop n) (ds.drop n)
  | _, _, 0, r => r
  | _, _, _ + 1, .nil => .nil
  | _, _, n + 1, .cons _ r => r.drop n
theorem Reps.set : ∀ {vs : List V} {ds : List D} {v : V} {d : D} (i : Nat), Rep K F v d → Reps K F vs ds → Reps K F (vs.set i v) (ds.set i d)
  | _, _, _, _, _, _, .nil => .nil
  | _, _, _, _, 0, h, .cons _ r => .cons h r
  | _, _, _, _, i + 1, h, .cons q r => .cons q (r.set i h)
theorem Reps.one {v : V} {d : D} (h : Rep K F v d) : Reps K F [v] [d] := .cons h .nil
theorem Reps.eraseIdx : ∀ {vs : List V} {ds : List D} (i : Nat), Reps K F vs ds → Reps K F (vs.eraseIdx i) (ds.eraseIdx i)
  | _, _, _, .nil => by simp only [List.eraseIdx_nil]; exact .nil
  | _, _, 0, .cons _ r => r
  | _, _, i + 1, .cons q r => .cons q (r.eraseIdx i)
end
def Tpl (o : HO) : Prop := ∃ ks : List Key, o = .tup (ks.map kV)
def nT (o : HO) : Prop := ∀ xs, o ≠ .tup xs
def Nw (H : Hp) (a : Addr) (o : HO) : Prop := H a = none ∨ (Tpl o ∧ H a = some o)
theorem Nw.not {H : Hp} {a : Addr} {o o' : HO} (n : Nw H a o) (h : H a = some o') (t : nT o') : False := by
  rcases n with n | ⟨⟨ks, rfl⟩, n⟩
  · rw [n] at h; cases h
  · rw [n] at h; cases h; exact t _ rfl
theorem Nw.back {H H' : Hp} {a : Addr} {o : HO} (n : Nw H' a o) (s : ∀ o', H a = some o' → H' a = some o') : Nw H a o := by
  cases q : H a with
  | none => exact .inl q
  | some o' =>
    rcases n with n | ⟨t, n⟩
    · rw [s _ q] at n; cases n
    · have n2 := n
      rw [s _ q] at n2; cases n2; exact .inr ⟨t, q⟩
structure Ext (F H F' H' : Hp) : Prop where
  same : Same H H'
  sub : Same F' H'
  ext : Same F F'
  new : ∀ a o, F' a = some o → F a = some o ∨ Nw H a o
theorem Ext.refl {F H : Hp} (s : Same F H) : Ext F H F H := ⟨Same.refl H, s, Same.refl F, fun _ _ h => .inl h⟩
theorem Ext.trans {F H F1 H1 F2 H2 : Hp} (a : Ext F H F1 H1) (b : Ext F1 H1 F2 H2) : Ext F H F2 H2 :=
  ⟨a.same.trans b.same, b.sub, a.ext.trans b.ext, fun x o h => by
    rcases b.new x o h with h | h
    · exact a.new x o h
    · exact .inr (h.back fun o' q => a.same _ _ q)⟩
theorem same_upd {H : Hp} {p : Addr} {o : HO} (h : H p = none) : Same H (upd H p o) := fun b x e => by
  rw [upd_ne (ne_of_none e h)]
  exact e
theorem sub_none {F H : Hp} (s : Same F H) {p : Addr} (h : H p = none) : F p = none := s.free h
theorem sub_upd {F H : Hp} (s : Same F H) (p : Addr) (o : HO) : Same (upd F p o) (upd H p o) := fun b x e => by
  by_cases hb : b = p
  · subst hb
    rw [upd_same] at e
    rw [upd_same]
    exact e
  · rw [upd_ne hb] at e
    rw [upd_ne hb]
    exact s _ _ e
theorem Ext.fresh {F H : Hp} (s : Same F H) {p : Addr} (o : HO) (h : H p = none) : Ext F H (upd F p o) (upd H p o) :=
  ⟨same_upd h, sub_upd s p o, same_upd (sub_none s h), fun b x e => by
    by_cases hb : b = p
    · subst hb
      exact .inr (.inl h)
    · rw [upd_ne hb] at e
      exact .inl e⟩
theorem Ext.loose {F H : Hp} (s : Same F H) {p : Addr} (o : HO) (h : H p = none) : Ext F H F (upd H p o) :=
  ⟨same_upd h, fun b x e => same_upd h b x (s b x e), Same.refl F, fun _ _ e => .inl e⟩
theorem passLN {X : Cx} : Passes (L2N.CX X.prog X.w) X E0 := fun pins σ H s er s' I hq => by
  rcases hq with ⟨a0, B0, Hq, cq, dq, q1, q2, q3, q4, q5, q6, q7, q8⟩
  exact q8.elim
theorem takes0N {X : Cx} : L2N.Takes X (fun _ _ _ _ => False) := fun u s' hq => by
  rcases hq with ⟨a0, B0, sI, pn, σq, Hq, cq, dq, q1, q2, q3, q4, q5, q6, q7, q8, q9⟩
  exact q9.elim
end VL
set_option Elab.async false
set_option linter.all false
set_option maxRecDepth 100000
set_option autoImplicit false
namespace VL
open PySem PySem.Spec L2
open PyProof.Rows hiding St
inductive Own (K : PySem.W.Frag) (F H : Hp) (a : Addr) : D → Prop
  | lst {xs : List V} {ds : List D} : H a = some (.lst xs) → xs.length ≤ sizeLine → Reps K F xs ds → Own K F H a (.lst ds)
  | dT {kvs : List (List Key × V)} {es : List (List Key × D)} : H a = some (.dT kvs) → kvs.map (·.1) = es.map (·.1) → Reps K F (kvs.map (·.2)) (es.map (·.2)) → Own K F H a (.dT es)
  | dK {kvs : List (Key × V)} {es : List (Key × D)} : H a = some (.dK kvs) → kvs.map (·.1) = es.map (·.1) → Reps K F (kvs.map (·.2)) (es.map (·.2)) → Own K F H a (.dK es)
  | dN {w : World} {ys : List (NestedKey × Addr × V)} {es : List (NestedKey × D)} : H a = some (nO w a ys) → ys.map (·.1) = es.map (·.1) → Reps K F (ys.map fun y => V.ref y.2.1) (es.map fun p => nkD p.1) → Reps K F (ys.map (·.2.2)) (es.map (·.2)) → Own K F H a (.dN w es)
  | obj {dx : Addr} {c : Str} {xs : List V} {ds : List D} : H a = some (SlX.SlO a (He.ga K c) dx (xs.map some)) → F dx = some (.xd []) → Reps K F xs ds → Own K F H a (.obj c ds)
theorem Own.there {K : PySem.W.Frag} {F H : Hp} {a : Addr} {d : D} (h : Own K F H a d) : ∃ o, H a = some o ∧ nT o := by
  cases h with
  | lst h _ _ => exact ⟨_, h, fun _ z => nomatch z⟩
  | dT h _ _ => exact ⟨_, h, fun _ z => nomatch z⟩
  | dK h _ _ => exact ⟨_, h, fun _ z => nomatch z⟩
  | dN h _ _ _ => exact ⟨_, h, fun _ z => nomatch z⟩
  | obj h _ _ => exact ⟨_, h, fun _ z => nomatch z⟩
theorem Own.move {K : PySem.W.Frag} {F H F' H' : Hp} {a : Addr} {d : D} (e : Same F F') (hs : H' a = H a) (h : Own K F H a d) : Own K F' H' a d := by
  cases h with
  | lst h l r => exact .lst (hs.trans h) l (r.mono e)
  | dT h l r => exact .dT (hs.trans h) l (r.mono e)
  | dK h l r => exact .dK (hs.trans h) l (r.mono e)
  | dN h l k r => exact .dN (hs.trans h) l (k.mono e) (r.mono e)
  | obj h l r => exact .obj (hs.trans h) (e _ _ l) (r.mono e)
theorem Own.ext {K : PySem.W.Frag} {F H F' H' : Hp} {a : Addr} {d : D} (e : Ext F H F' H') (h : Own K F H a d) : Own K F' H' a d := by
  obtain ⟨o, q, _⟩ := h.there
  exact h.move e.ext ((e.same _ _ q).trans q.symm)
def D.frzd : D → Bool
  | .dT _ => false
  | .dK _ => false
  | .dN _ _ => false
  | _ => true
theorem Own.rep {K : PySem.W.Frag} {F H : Hp} {a : Addr} {d : D} (h : Own K F H a d) (hd : d.frzd = true) (s : Same F H) (hn : F a = none) : ∃ o, H a = some o ∧ Rep K (upd F a o) (.ref a) d := by
  cases h with
  | lst h l r => exact ⟨_, h, .lst upd_same l (r.mono (same_upd hn))⟩
  | dT h l r => cases hd
  | dK h l r => cases hd
  | dN h l k r => cases hd
  | obj h l r => exact ⟨_, h, .obj upd_same (same_upd hn _ _ l) (r.mono (same_upd hn))⟩
inductive Cl where
  | val (d : D) | own (l : Bool) (d : D)
abbrev Rho := List (Option Cl)
structure Gd where
  F0 : Hp
  H0 : Hp
  bs : List Addr
def Gd.at (G : Gd) (F : Hp) : Gd := { G with F0 := F }
def OwnAt (G : Gd) (a : Addr) : Bool → Prop
  | true => G.H0 a = none ∧ a ∉ G.bs
  | false => a ∈ G.bs
def NwG (G : Gd) (a : Addr) (o : HO) : Prop := (G.H0 a = none ∧ a ∉ G.bs) ∨ (Tpl o ∧ G.H0 a = some o ∧ a ∉ G.bs)
structure Gnd (K : PySem.W.Frag) (G : Gd) (F H : Hp) : Prop where
  sub : Same F H
  base : ∀ a o, G.H0 a = some o → a ∉ G.bs → H a = some o
  bsT : ∀ a, a ∈ G.bs → ∃ o, H a = some o ∧ nT o
  ext : Same G.F0 F
  new : ∀ a o, F a = some o → G.F0 a = some o ∨ NwG G a o
structure Holds (K : PySem.W.Frag) (G : Gd) (ρ : Rho) (σ : St) (F H : Hp) : Prop extends Gnd K G F H where
  val : ∀ (i : Nat) (d : D), ρ[i]? = some (some (Cl.val d)) → ∃ v, σ[i]? = some (some v) ∧ Rep K F v d
  own : ∀ (i : Nat) (l : Bool) (d : D), ρ[i]? = some (some (Cl.own l d)) → ∃ a, σ[i]? = some (some (V.ref a)) ∧ F a = none ∧ OwnAt G a l ∧ Own K F H a d
  sep : ∀ (i j : Nat) (l m : Bool) (d e : D) (a : Addr), i ≠ j → ρ[i]? = some (some (Cl.own l d)) → ρ[j]? = some (some (Cl.own m e)) → σ[i]? = some (some (V.ref a)) → σ[j]? = some (some (V.ref a)) → False
  len : ρ.length ≤ σ.length
section
variable {K : PySem.W.Frag} {G : Gd} {ρ : Rho} {σ : St} {F H F' H' : Hp}
theorem Gnd.nwG {a : Addr} {o : HO} (g : Gnd K G F H) (h : Nw H a o) : NwG G a o := by
  have nb : a ∉ G.bs := fun hb => by
    obtain ⟨o2, q2, t⟩ := g.bsT a hb
    exact h.not q2 t
  cases q : G.H0 a with
  | none => exact .inl ⟨q, nb⟩
  | some o' =>
    rcases h with h | ⟨t, h⟩
    · rw [g.base a o' q nb] at h
      cases h
    · rw [g.base a o' q nb] at h
      cases h
      exact .inr ⟨t, q, nb⟩
theorem Gnd.more (g : Gnd K G F H) (e : Ext F H F' H') : Gnd K G F' H' where
  sub := e.sub
  base := fun a o h hb => e.same _ _ (g.base a o h hb)
  bsT := fun a hb => by
    obtain ⟨o, q, t⟩ := g.bsT a hb
    exact ⟨o, e.same _ _ q, t⟩
  ext := g.ext.trans e.ext
  new := fun a o h => by
    rcases e.new a o h with h | h
    · exact g.new a o h
    · exact .inr (g.nwG h)
theorem Holds.more (h : Holds K G ρ σ F H) (e : Ext F H F' H') : Holds K G ρ σ F' H' where
  toGnd := h.toGnd.more e
  val := fun i d q => by
    obtain ⟨v, h1, h2⟩ := h.val i d q
    exact ⟨v, h1, h2.mono e.ext⟩
  own := fun i l d q => by
    obtain ⟨a, h1, h2, h3, h4⟩ := h.own i l d q
    refine ⟨a, h1, ?_, h3, h4.ext e⟩
    cases q2 : F' a with
    | none => rfl
    | some o =>
      rcases e.new a o q2 with z | z
      · rw [h2] at z
        cases z
      · obtain ⟨o2, z2, t⟩ := h4.there
        exact (z.not z2 t).elim
  sep := h.sep
  len := h.len
end
def XRep (K : PySem.W.Frag) (F : Hp) (dd : Addr) (fs : List (Str × D)) : Prop := ∃ vs : List (Str × V), F dd = some (.xd vs) ∧ vs.map (·.1) = fs.map (·.1) ∧ Reps K F (vs.map (·.2)) (fs.map (·.2))
def Post {α β : Type} (K : PySem.W.Frag) (Rl : Hp → Hp → α → β → Prop) (W : XK) (F H : Hp) (Q : α → Hp → Prop) : Rs β → Prop
  | .ok d => ∀ v F' H', Ext F H F' H' → Rl F' H' v d → Q v H'
  | .ex c fs => ∀ dd F' H', Ext F H F' H' → XRep K F' dd fs → W (.ref (He.ga K c)) (some dd) H'
  | .no => False
theorem Post.more {α β : Type} {K : PySem.W.Frag} {Rl : Hp → Hp → α → β → Prop} {W : XK} {F H F' H' : Hp} {Q : α → Hp → Prop} {m : Rs β} (h : Post K Rl W F H Q m) (e : Ext F H F' H') : Post K Rl W F' H' Q m := by
  cases m with
  | ok d => exact fun v F2 H2 e2 r => h v F2 H2 (e.trans e2) r
  | ex c fs => exact fun dd F2 H2 e2 r => h dd F2 H2 (e.trans e2) r
  | no => exact h
theorem Post.bind {α β γ δ : Type} {K : PySem.W.Frag} {R1 : Hp → Hp → α → β → Prop} {R2 : Hp → Hp → γ → δ → Prop} {W : XK} {F H : Hp} {Q1 : α → Hp → Prop} {Q : γ → Hp → Prop} {m : Rs β} {f : β → Rs δ}
    (h : Post K R2 W F H Q (m.bind f)) (k : ∀ d v F' H', Ext F H F' H' → R1 F' H' v d → Post K R2 W F' H' Q (f d) → Q1 v H') : Post K R1 W F H Q1 m := by
  cases m with
  | ok d => exact fun v F2 H2 e2 r => k d v F2 H2 e2 r (Post.more h e2)
  | ex c fs => exact h
  | no => exact h
theorem Post.imp {α β γ : Type} {K : PySem.W.Frag} {R1 : Hp → Hp → α → β → Prop} {R2 : Hp → Hp → γ → β → Prop} {W : XK} {F H : Hp} {Q1 : α → Hp → Prop} {Q : γ → Hp → Prop} {m : Rs β}
    (h : Post K R2 W F H Q m) (k : ∀ d v F' H', Ext F H F' H' → R1 F' H' v d → (∀ u F2 H2, Ext F' H' F2 H2 → R2 F2 H2 u d → Q u H2) → Q1 v H') : Post K R1 W F H Q1 m := by
  cases m with
  | ok d => exact fun v F2 H2 e2 r => k d v F2 H2 e2 r fun u F3 H3 e3 r3 => h u F3 H3 (e2.trans e3) r3
  | ex c fs => exact h
  | no => exact h
def Rs.of {α : Type} : Option α → Rs α
  | some a => .ok a
  | none => .no
@[simp] theorem Rs.of_some {α : Type} (a : α) : Rs.of (some a) = .ok a := rfl
@[simp] theorem Rs.of_none {α : Type} : (Rs.of (none : Option α)) = .no := rfl
theorem Post.of {α β : Type} {K : PySem.W.Frag} {Rl : Hp → Hp → α → β → Prop} {W : XK} {F H : Hp} {Q : α → Hp → Prop} {o : Option β} (h : Post K Rl W F H Q (Rs.of o)) : ∃ d, o = some d ∧ ∀ v F' H', Ext F H F' H' → Rl F' H' v d → Q v H' := by
  cases o with
  | none => exact h.elim
  | some d => exact ⟨d, rfl, h⟩
def RepH (K : PySem.W.Frag) (F H : Hp) (v : V) (d : D) : Prop := Rep K F v d ∨ ∃ a, v = .ref a ∧ Own K F H a d
theorem RepH.more {K : PySem.W.Frag} {F H F' H' : Hp} {v : V} {d : D} (h : RepH K F H v d) (e : Ext F H F' H') : RepH K F' H' v d := by
  rcases h with h | ⟨a, h, q⟩
  · exact .inl (h.mono e.ext)
  · exact .inr ⟨a, h, q.ext e⟩
abbrev RF (K : PySem.W.Frag) : Hp → Hp → V → D → Prop := fun F _ v d => Rep K F v d
abbrev RL (K : PySem.W.Frag) : Hp → Hp → List V → List D → Prop := fun F _ v d => Reps K F v d
abbrev RB : Hp → Hp → Bool → Bool → Prop := fun _ _ b c => b = c
def EV (X : Cx) (G : Gd) (W : WX) (ρ : Rho) (e : Expr) (m : Rs D) : Prop :=
  ∃ t, PE X e t ∧ ∀ F0 σ F H Q, Holds X.K (G.at F0) ρ σ F H → Post X.K (RF X.K) (fun c d H => W c d σ H) F H Q m → t σ H Q
def EO (X : Cx) (G : Gd) (W : WX) (ρ : Rho) (e : Expr) (m : Rs D) : Prop :=
  ∃ t, PE X e t ∧ ∀ F0 σ F H Q, Holds X.K (G.at F0) ρ σ F H → Post X.K (RepH X.K) (fun c d H => W c d σ H) F H Q m → t σ H Q
abbrev RN (K : PySem.W.Frag) (H : Hp) : Hp → Hp → V → List D → Prop := fun F' H' v ds => ∃ a, v = .ref a ∧ H a = none ∧ F' a = none ∧ Own K F' H' a (.lst ds)
def EF (X : Cx) (G : Gd) (W : WX) (ρ : Rho) (e : Expr) (m : Rs (List D)) : Prop :=
  ∃ t, PE X e t ∧ ∀ F0 σ F H Q, Holds X.K (G.at F0) ρ σ F H → Post X.K (RN X.K H) (fun c d H => W c d σ H) F H Q m → t σ H Q
def AV (X : Cx) (G : Gd) (W : WX) (ρ : Rho) (es : List Expr) (m : Rs (List D)) : Prop :=
  (∀ ds, m = .ok ds → ds.length = es.length) ∧ ∃ t, PA X es t ∧ ∀ F0 σ F H Q, Holds X.K (G.at F0) ρ σ F H → Post X.K (RL X.K) (fun c d H => W c d σ H) F H Q m → t σ H Q
def TV (X : Cx) (G : Gd) (W : WX) (ρ : Rho) (e : Expr) (m : Rs Bool) : Prop :=
  ∃ t, PT X e t ∧ ∀ F0 σ F H Q, Holds X.K (G.at F0) ρ σ F H → Post X.K RB (fun c d H => W c d σ H) F H Q m → t σ H Q
section
variable {X : Cx} {G : Gd} {W : WX} {ρ : Rho} {e : Expr} {m : Rs D}
theorem EV.o (h : EV X G W ρ e m) : EO X G W ρ e m := by
  obtain ⟨t, p, q⟩ := h
  refine ⟨t, p, fun F0 σ F H Q hh hp => q F0 σ F H Q hh ?_⟩
  exact hp.imp fun d v F' H' e1 r k => k v F' H' (Ext.refl e1.sub) (.inl r)
theorem ev_var {i : Nat} {x : Str} {pos : Pos} {d : D} (hi : ρ[i]? = some (some (.val d))) (h : PE X (.Name x pos) (tVar i)) : EV X G W ρ (.Name x pos) (.ok d) :=
  ⟨_, h, fun F0 σ F H Q hh hp => by
    obtain ⟨v, h1, h2⟩ := hh.val i d hi
    exact ⟨v, h1, hp v F H (Ext.refl hh.sub) h2⟩⟩
theorem eo_var {i : Nat} {x : Str} {pos : Pos} {l : Bool} {d : D} (hi : ρ[i]? = some (some (.own l d))) (h : PE X (.Name x pos) (tVar i)) : EO X G W ρ (.Name x pos) (.ok d) :=
  ⟨_, h, fun F0 σ F H Q hh hp => by
    obtain ⟨a, h1, h2, h3, h4⟩ := hh.own i l d hi
    exact ⟨_, h1, hp _ F H (Ext.refl hh.sub) (.inr ⟨a, rfl, h4⟩)⟩⟩
theorem ev_c {v : V} {d : D} (h : PE X e (tC v)) (r : ∀ F, Rep X.K F v d) : EV X G W ρ e (.ok d) :=
  ⟨_, h, fun F0 σ F H Q hh hp => hp v F H (Ext.refl hh.sub) (r F)⟩
theorem ev_int {i : Int} {j pos} : EV X G W ρ (.Constant (.int i) j pos) (.ok (.int i)) := ev_c pe_int fun _ => .int i
theorem ev_bl {b : Bool} {j pos} : EV X G W ρ (.Constant (.bool b) j pos) (.ok (.bl b)) := ev_c pe_bl fun _ => .bl b
theorem ev_non {j pos} : EV X G W ρ (.Constant .none j pos) (.ok .non) := ev_c pe_non fun _ => .non
theorem ev_str {x : Str} {j pos} : EV X G W ρ (.Constant (.str x) j pos) (.ok (.str x)) := ev_c pe_str fun _ => .str x
def R2ok (K : PySem.W.Frag) (r : R2) (f : D → D → Option D) : Prop := ∀ {x y : V} {dx dy : D} {F H : Hp} {Q : VK} {d : D}, Same F H → RepH K F H x dx → RepH K F H y dy → f dx dy = some d →
  (∀ v F' H', Ext F H F' H' → Rep K F' v d → Q v H') → r x y H Q
def R1ok (K : PySem.W.Frag) (r : V → Hp → VK → Prop) (f : D → Option D) : Prop := ∀ {x : V} {dx : D} {F H : Hp} {Q : VK} {d : D}, Same F H → RepH K F H x dx → f dx = some d →
  (∀ v F' H', Ext F H F' H' → Rep K F' v d → Q v H') → r x H Q
variable {a b c : Expr} {ma mb mc : Rs D} {pos : Pos}
theorem bin_ok {r : R2} {f : D → D → Option D} {ta tb : TE} (hf : R2ok X.K r f)
    (qa : ∀ F0 σ F H Q, Holds X.K (G.at F0) ρ σ F H → Post X.K (RepH X.K) (fun c d H => W c d σ H) F H Q ma → ta σ H Q) (qb : ∀ F0 σ F H Q, Holds X.K (G.at F0) ρ σ F H → Post X.K (RepH X.K) (fun c d H => W c d σ H) F H Q mb → tb σ H Q)
    {F0 : Hp} {σ : St} {F H : Hp} {Q : VK} (hh : Holds X.K (G.at F0) ρ σ F H) (hp : Post X.K (RF X.K) (fun c d H => W c d σ H) F H Q (ma.bind fun x => mb.bind fun y => Rs.of (f x y))) : ta σ H fun x H1 => tb σ H1 fun y H2 => r x y H2 Q := by
  refine qa F0 σ F H _ hh (hp.bind fun dx x F1 H1 e1 r1 hp1 => ?_)
  refine qb F0 σ F1 H1 _ (hh.more e1) (hp1.bind fun dy y F2 H2 e2 r2 hp2 => ?_)
  obtain ⟨d, hd, k⟩ := hp2.of
  exact hf e2.sub (r1.more e2) r2 hd k
theorem ev_bin {op : Operator} {r : R2} {f : D → D → Option D} (ho : OpR X (binaryOp op) r) (hf : R2ok X.K r f) (ha : EO X G W ρ a ma) (hb : EO X G W ρ b mb) : EV X G W ρ (.BinOp a op b pos) (ma.bind fun x => mb.bind fun y => Rs.of (f x y)) := by
  obtain ⟨ta, pa, qa⟩ := ha
  obtain ⟨tb, pb, qb⟩ := hb
  exact ⟨_, pe_op ho pa pb, fun F0 σ F H Q hh hp => bin_ok hf qa qb hh hp⟩
theorem ev_cmp {op : CmpOp} {r : R2} {f : D → D → Option D} (ho : OpR X (compareOp op) r) (hf : R2ok X.K r f) (ha : EO X G W ρ a ma) (hb : EO X G W ρ b mb) (hm : behindInMarks op b = false) : EV X G W ρ (.Compare a [op] [b] pos) (ma.bind fun x => mb.bind fun y => Rs.of (f x y)) := by
  obtain ⟨ta, pa, qa⟩ := ha
  obtain ⟨tb, pb, qb⟩ := hb
  exact ⟨_, pe_cmpR ho pa pb hm, fun F0 σ F H Q hh hp => bin_ok hf qa qb hh hp⟩
theorem ev_ix {r : R2} {f : D → D → Option D} (ho : IxR X r) (hf : R2ok X.K r f) (ha : EO X G W ρ a ma) (hb : EO X G W ρ b mb) (hm : PlainIx b) : EV X G W ρ (.Subscript a b pos) (ma.bind fun x => mb.bind fun y => Rs.of (f x y)) := by
  obtain ⟨ta, pa, qa⟩ := ha
  obtain ⟨tb, pb, qb⟩ := hb
  exact ⟨_, pe_ix ho pa pb hm, fun F0 σ F H Q hh hp => bin_ok hf qa qb hh hp⟩
theorem ev_un {op : UnaryOp} {r : V → Hp → VK → Prop} {f : D → Option D} (ho : UnR X (unaryOp op) r) (hf : R1ok X.K r f) (ha : EO X G W ρ a ma) : EV X G W ρ (.UnaryOp op a pos) (ma.bind fun x => Rs.of (f x)) := by
  obtain ⟨ta, pa, qa⟩ := ha
  refine ⟨_, pe_un ho pa, fun F0 σ F H Q hh hp => ?_⟩
  refine qa F0 σ F H _ hh (hp.bind fun dx x F1 H1 e1 r1 hp1 => ?_)
  obtain ⟨d, hd, k⟩ := hp1.of
  exact hf e1.sub r1 hd k
end
def asB : D → Option Bool
  | .bl b => some b
  | _ => none
section
variable {X : Cx} {G : Gd} {W : WX} {ρ : Rho} {a b c : Expr} {ma mb mc : Rs D} {pos : Pos} {tb tc : Rs Bool}
theorem tv_val (ha : EV X G W ρ a ma) (he : ∀ whole, isTrue a X.env whole = (do let v ← whole; standAt a.pos; holding [v] (truthy v)) := by intro _; rfl) : TV X G W ρ a (ma.bind fun x => Rs.of (asB x)) := by
  obtain ⟨ta, pa, qa⟩ := ha
  refine ⟨_, pt_val pa he, fun F0 σ F H Q hh hp => ?_⟩
  refine qa F0 σ F H _ hh (hp.bind fun dx x F1 H1 e1 r1 hp1 => ?_)
  obtain ⟨d, hd, k⟩ := hp1.of
  cases r1 with
  | bl b =>
    cases hd
    exact ⟨_, rfl, k _ _ _ (Ext.refl e1.sub) rfl⟩
  | _ => cases hd
theorem tv_not (ha : TV X G W ρ a tb) : TV X G W ρ (.UnaryOp .Not a pos) (tb.bind fun x => .ok (!x)) := by
  obtain ⟨ta, pa, qa⟩ := ha
  refine ⟨_, pt_not pa, fun F0 σ F H Q hh hp => ?_⟩
  refine qa F0 σ F H _ hh (hp.bind fun dx x F1 H1 e1 r1 hp1 => ?_)
  cases r1
  exact hp1 _ _ _ (Ext.refl e1.sub) rfl
def TW (X : Cx) (G : Gd) (W : WX) (ρ : Rho) (e : Expr) (m : Rs Bool) : Prop :=
  ∃ t, PW X e t ∧ ∀ F0 σ F H Q, Holds X.K (G.at F0) ρ σ F H → Post X.K RB (fun c d H => W c d σ H) F H Q m → t σ H Q
theorem TW.tv (h : TW X G W ρ a tb) : TV X G W ρ a tb := by
  obtain ⟨t, p, q⟩ := h
  exact ⟨t, p.pt, q⟩
theorem tw_or1 (ha : TV X G W ρ a tb) : TW X G W ρ (.BoolOp .Or [a] pos) tb := by
  obtain ⟨t, p, q⟩ := ha
  exact ⟨t, pw_or1 p, q⟩
theorem tw_or {rest : List Expr} (ha : TV X G W ρ a tb) (hb : TW X G W ρ (.BoolOp .Or (b :: rest) pos) tc) : TW X G W ρ (.BoolOp .Or (a :: b :: rest) pos) (tb.bind fun x => if x then .ok true else tc) := by
  obtain ⟨t, p, q⟩ := ha
  obtain ⟨u, p2, q2⟩ := hb
  refine ⟨_, pw_or p p2, fun F0 σ F H Q hh hp => ?_⟩
  refine q F0 σ F H _ hh (hp.bind fun dx x F1 H1 e1 r1 hp1 => ?_)
  cases r1
  cases dx with
  | true => exact iteT (hp1 _ _ _ (Ext.refl e1.sub) rfl)
  | false => exact iteF (q2 F0 σ F1 H1 Q (hh.more e1) hp1)
theorem ev_one {op} (ha : EV X G W ρ a ma) : EV X G W ρ (.BoolOp op [a] pos) ma := by
  obtain ⟨t, p, q⟩ := ha
  exact ⟨t, pe_one p, q⟩
theorem ev_and {rest : List Expr} (ha : EV X G W ρ a ma) (hb : EV X G W ρ (.BoolOp .And (b :: rest) pos) mb) : EV X G W ρ (.BoolOp .And (a :: b :: rest) pos) (ma.bind fun x => (Rs.of (asB x)).bind fun k => if k then mb else .ok (.bl false)) := by
  obtain ⟨t, p, q⟩ := ha
  obtain ⟨u, p2, q2⟩ := hb
  refine ⟨_, pe_and p p2, fun F0 σ F H Q hh hp => ?_⟩
  refine q F0 σ F H _ hh (hp.bind fun dx x F1 H1 e1 r1 hp1 => ?_)
  cases r1 with
  | bl k =>
    refine ⟨k, rfl, ?_⟩
    cases k with
    | true => exact iteT (q2 F0 σ F1 H1 Q (hh.more e1) hp1)
    | false => exact iteF (hp1 _ _ _ (Ext.refl e1.sub) (.bl false))
  | _ => exact hp1.elim
theorem ev_not (ha : EV X G W ρ a ma) : EV X G W ρ (.UnaryOp .Not a pos) (ma.bind fun x => (Rs.of (asB x)).bind fun k => .ok (.bl (!k))) := by
  obtain ⟨t, p, q⟩ := ha
  refine ⟨_, pe_not p, fun F0 σ F H Q hh hp => ?_⟩
  refine q F0 σ F H _ hh (hp.bind fun dx x F1 H1 e1 r1 hp1 => ?_)
  cases r1 with
  | bl k => exact ⟨k, rfl, hp1 _ _ _ (Ext.refl e1.sub) (.bl _)⟩
  | _ => exact hp1.elim
theorem ev_if (hc : TV X G W ρ c tc) (ha : EV X G W ρ a ma) (hb : EV X G W ρ b mb) : EV X G W ρ (.IfExp c a b pos) (tc.bind fun k => if k then ma else mb) := by
  obtain ⟨t, p, q⟩ := hc
  obtain ⟨u, p2, q2⟩ := ha
  obtain ⟨u3, p3, q3⟩ := hb
  refine ⟨_, pe_ifExp p p2 p3, fun F0 σ F H Q hh hp => ?_⟩
  refine q F0 σ F H _ hh (hp.bind fun dx x F1 H1 e1 r1 hp1 => ?_)
  cases r1
  cases dx with
  | true => exact iteT (q2 F0 σ F1 H1 Q (hh.more e1) hp1)
  | false => exact iteF (q3 F0 σ F1 H1 Q (hh.more e1) hp1)
end
section
variable {X : Cx} {G : Gd} {W : WX} {ρ : Rho} {e : Expr} {es : List Expr} {m : Rs D} {ms : Rs (List D)} {pos : Pos}
theorem av_nil : AV X G W ρ [] (.ok []) := ⟨fun ds h => by cases h; rfl, _, pa_nil, fun F0 σ F H Q hh hp => hp [] F H (Ext.refl hh.sub) .nil⟩
theorem av_cons (ha : EV X G W ρ e m) (hr : AV X G W ρ es ms) (hs : starEach (e :: es) X.env = (false, eval e X.env) :: starEach es X.env := by rfl) : AV X G W ρ (e :: es) (m.bind fun x => ms.bind fun xs => .ok (x :: xs)) := by
  obtain ⟨ta, pa, qa⟩ := ha
  obtain ⟨ln, tb, pb, qb⟩ := hr
  refine ⟨fun ds h => ?_, _, pa_cons pa pb hs, fun F0 σ F H Q hh hp => ?_⟩
  · cases m with
    | ok x =>
      cases ms with
      | ok xs =>
        cases h
        exact congrArg (· + 1) (ln xs rfl)
      | ex c fs => cases h
      | no => cases h
    | ex c fs => cases h
    | no => cases h
  refine qa F0 σ F H _ hh (hp.bind fun dx x F1 H1 e1 r1 hp1 => ?_)
  refine qb F0 σ F1 H1 _ (hh.more e1) (hp1.bind fun dy y F2 H2 e2 r2 hp2 => ?_)
  exact hp2 _ F2 H2 (Ext.refl e2.sub) (.cons (r1.mono e2.ext) r2)
def tupR (ds : List D) : Option D := if ds.length ≤ sizeLine then some (.tup ds) else none
theorem tupR_some {ds : List D} {d : D} (h : tupR ds = some d) : ds.length ≤ sizeLine ∧ d = .tup ds := by
  unfold tupR at h
  split at h
  · exact ⟨by assumption, by cases h; rfl⟩
  · cases h
theorem new_tup {K : PySem.W.Frag} {F H : Hp} {p : Addr} {xs : List V} {ds : List D} (s : Same F H) (h : H p = none) (l : xs.length ≤ sizeLine) (r : Reps K F xs ds) : Rep K (upd F p (.tup xs)) (.ref p) (.tup ds) :=
  .tup (.inl upd_same) l (r.mono (same_upd (sub_none s h)))
theorem new_lst {K : PySem.W.Frag} {F H : Hp} {p : Addr} {xs : List V} {ds : List D} (s : Same F H) (h : H p = none) (l : xs.length ≤ sizeLine) (r : Reps K F xs ds) : Rep K (upd F p (.lst xs)) (.ref p) (.lst ds) :=
  .lst upd_same l (r.mono (same_upd (sub_none s h)))
theorem ev_tupM {x1} (h : AV X G W ρ es ms) (hl : es.length ≤ sizeLine := by decide) : EV X G W ρ (.Tuple es x1 pos) (ms.bind fun xs => .ok (.tup xs)) := by
  obtain ⟨ln, ta, pa, qa⟩ := h
  refine ⟨_, pe_tup pa, fun F0 σ F H Q hh hp => ?_⟩
  refine qa F0 σ F H _ hh ?_
  cases ms with
  | ex c fs => exact hp
  | no => exact hp
  | ok ds =>
    intro xs F1 H1 e1 r1
    have l2 : xs.length ≤ sizeLine := by
      rw [r1.length, ln ds rfl]
      exact hl
    exact ⟨l2, fun p hn => hp _ _ _ (e1.trans (Ext.fresh e1.sub _ hn)) (new_tup e1.sub hn l2 r1)⟩
theorem ev_lstM (h : AV X G W ρ es ms) (hl : es.length ≤ sizeLine := by decide) : EV X G W ρ (.List es pos) (ms.bind fun xs => .ok (.lst xs)) := by
  obtain ⟨ln, ta, pa, qa⟩ := h
  refine ⟨_, pe_lst pa, fun F0 σ F H Q hh hp => ?_⟩
  refine qa F0 σ F H _ hh ?_
  cases ms with
  | ex c fs => exact hp
  | no => exact hp
  | ok ds =>
    intro xs F1 H1 e1 r1
    have l2 : xs.length ≤ sizeLine := by
      rw [r1.length, ln ds rfl]
      exact hl
    exact ⟨l2, fun p hn => hp _ _ _ (e1.trans (Ext.fresh e1.sub _ hn)) (new_lst e1.sub hn l2 r1)⟩
theorem ef_lstM (h : AV X G W ρ es ms) (hl : es.length ≤ sizeLine := by decide) : EF X G W ρ (.List es pos) ms := by
  obtain ⟨ln, ta, pa, qa⟩ := h
  refine ⟨_, pe_lst pa, fun F0 σ F H Q hh hp => ?_⟩
  refine qa F0 σ F H _ hh ?_
  cases ms with
  | ex c fs => exact hp
  | no => exact hp
  | ok ds =>
    intro xs F1 H1 e1 r1
    have l2 : xs.length ≤ sizeLine := by
      rw [r1.length, ln ds rfl]
      exact hl
    exact ⟨l2, fun p hn => hp _ F1 _ (e1.trans (Ext.loose e1.sub _ hn)) ⟨p, rfl, e1.same.free hn, sub_none e1.sub hn, .lst upd_same l2 r1⟩⟩
end
end VL
set_option Elab.async false
set_option linter.all false
set_option maxRecDepth 100000
set_option autoImplicit false
namespace VL
open PySem PySem.Spec L2
open PyProof.Rows hiding St
theorem RepH.int {K : PySem.W.Frag} {F H : Hp} {v : V} {i : Int} (h : RepH K F H v (.int i)) : v = .int i := by
  rcases h with h | ⟨a, rfl, h⟩
  · cases h; rfl
  · cases h
theorem RepH.bl {K : PySem.W.Frag} {F H : Hp} {v : V} {b : Bool} (h : RepH K F H v (.bl b)) : v = .bl b := by
  rcases h with h | ⟨a, rfl, h⟩
  · cases h; rfl
  · cases h
theorem RepH.str {K : PySem.W.Frag} {F H : Hp} {v : V} {x : Str} (h : RepH K F H v (.str x)) : v = .str x := by
  rcases h with h | ⟨a, rfl, h⟩
  · cases h; rfl
  · cases h
theorem RepH.non {K : PySem.W.Frag} {F H : Hp} {v : V} (h : RepH K F H v .non) : v = .non := by
  rcases h with h | ⟨a, rfl, h⟩
  · cases h; rfl
  · cases h
theorem RepH.lst {K : PySem.W.Frag} {F H : Hp} {v : V} {ds : List D} (s : Same F H) (h : RepH K F H v (.lst ds)) : ∃ a xs, v = .ref a ∧ H a = some (.lst xs) ∧ xs.length ≤ sizeLine ∧ Reps K F xs ds := by
  rcases h with h | ⟨a, rfl, h⟩
  · cases h with
    | lst h l r => exact ⟨_, _, rfl, s _ _ h, l, r⟩
  · cases h with
    | lst h l r => exact ⟨_, _, rfl, h, l, r⟩
theorem RepH.scr {K : PySem.W.Frag} {F H : Hp} {v : V} {ds : List D} (s : Same F H) (h : RepH K F H v (.scr ds)) : ∃ a xs, v = .ref a ∧ SqL K H a xs ∧ xs.length ≤ sizeLine ∧ Reps K F xs ds := by
  rcases h with h | ⟨a, rfl, h⟩
  · cases h with
    | scr h l r => exact ⟨_, _, rfl, SqL.same s h, l, r⟩
  · cases h
theorem RepH.tup {K : PySem.W.Frag} {F H : Hp} {v : V} {ds : List D} (s : Same F H) (h : RepH K F H v (.tup ds)) : ∃ a xs, v = .ref a ∧ SqT K H a xs ∧ xs.length ≤ sizeLine ∧ Reps K F xs ds ∧ Rep K F v (.tup ds) := by
  rcases h with h | ⟨a, rfl, h⟩
  · cases h with
    | tup h l r => exact ⟨_, _, rfl, SqT.same s h.sq, l, r, .tup h l r⟩
  · cases h
theorem RepH.tupL {K : PySem.W.Frag} {F H : Hp} {v : V} {ds : List D} (s : Same F H) (h : RepH K F H v (.tupL ds)) : ∃ a xs, v = .ref a ∧ SqT K H a xs ∧ xs.length ≤ sizeLine ∧ Reps K F xs ds := by
  rcases h with h | ⟨a, rfl, h⟩
  · cases h with
    | tupL h h2 l r => exact ⟨_, _, rfl, SqT.same s (sqT_frz h), l, r⟩
  · cases h
def CMulB (i j : Int) : Prop := i.natAbs.log2 + j.natAbs.log2 < 134000000
theorem CMulB.ok {i j : Int} (h : CMulB i j) : IntMulOk i j := by
  have b : ∀ x : Int, Builtin.Int.intBits x ≤ x.natAbs.log2 + 1 := fun x => by
    unfold Builtin.Int.intBits
    split <;> omega
  have h1 := b i
  have h2 := b j
  have h3 : i.natAbs.log2 + j.natAbs.log2 < 134000000 := h
  have e : bitsLine = 134217728 := by decide
  unfold IntMulOk
  intro z
  rw [Bool.and_eq_true] at z
  have z2 := z.2
  unfold Builtin.Int.intTooBig at z2
  have z3 := of_decide_eq_true z2
  rw [e] at z3
  omega
def CDivB (_ j : Int) : Prop := j ≠ 0 ∧ j.natAbs.log2 < 9000
section
variable {X : Cx}
theorem op_mulB : OpR X (binaryOp .Mult) (rI CMulB fun i j => .int (i * j)) := opI fun _ _ _ _ _ _ _ hc q => mul_int q hc.ok
theorem op_fdivB : OpR X (binaryOp .FloorDiv) (rI CDivB fun i j => .int (i.fdiv j)) := opI fun _ _ _ _ _ _ _ hc q => floordiv_int hc.1 q (.inl (PyProof.noPylong_of_log2 hc.2))
end
def addD : D → D → Option D
  | .int i, .int j => some (.int (i + j))
  | .str i, .str j => if i.length + j.length ≤ sizeLine then some (.str (i ++ j)) else none
  | .lst xs, .lst ys => if xs.length + ys.length ≤ sizeLine then some (.lst (xs ++ ys)) else none
  | .tup xs, .tup ys => if xs.length + ys.length ≤ sizeLine then some (.tup (xs ++ ys)) else none
  | _, _ => none
def rAddD (K : PySem.W.Frag) : R2 := fun x y H Q => (rI0 (fun i j => .int (i + j)) x y H Q) ∨ (∃ i j, x = .str i ∧ y = .str j ∧ i.length + j.length ≤ sizeLine ∧ Q (.str (i ++ j)) H) ∨ rCat x y H Q ∨ rCatA K x y H Q
theorem op_addD {X : Cx} : OpR X (binaryOp .Add) (rAddD X.K) := OpR.or op_add (OpR.or op_add_str (OpR.or op_cat op_catA))
theorem addD_ok {K : PySem.W.Frag} : R2ok K (rAddD K) addD := by
  intro x y dx dy F H Q d s hx hy hd k
  unfold addD at hd
  split at hd
  · cases hd
    exact .inl ⟨_, _, hx.int, hy.int, k _ F H (Ext.refl s) (.int _)⟩
  · split at hd
    · cases hd
      exact .inr (.inl ⟨_, _, hx.str, hy.str, by assumption, k _ F H (Ext.refl s) (.str _)⟩)
    · cases hd
  · split at hd
    · cases hd
      obtain ⟨a, xs, rfl, ha, la, ra⟩ := hx.lst s
      obtain ⟨b, ys, rfl, hb, lb, rb⟩ := hy.lst s
      have l2 : xs.length + ys.length ≤ sizeLine := by rw [ra.length, rb.length]; assumption
      exact .inr (.inr (.inl ⟨a, b, xs, ys, rfl, rfl, ha, hb, l2, fun p hp => k _ _ _ (Ext.fresh s _ hp) (new_lst s hp (by rw [List.length_append]; exact l2) (ra.append rb))⟩))
    · cases hd
  · split at hd
    · cases hd
      obtain ⟨a, xs, rfl, ha, la, ra, wa⟩ := hx.tup s
      obtain ⟨b, ys, rfl, hb, lb, rb, wb⟩ := hy.tup s
      have l2 : xs.length + ys.length ≤ sizeLine := by rw [ra.length, rb.length]; assumption
      refine .inr (.inr (.inr ⟨a, b, xs, ys, rfl, rfl, ha, hb, l2, fun e => ?_, fun _ e => ?_, fun _ _ p hp => ?_⟩))
      · subst e
        cases ra
        exact k _ F H (Ext.refl s) wb
      · subst e
        cases rb
        rw [List.append_nil] at k
        exact k _ F H (Ext.refl s) wa
      · exact k _ _ _ (Ext.fresh s _ hp) (new_tup s hp (by rw [List.length_append]; exact l2) (ra.append rb))
    · cases hd
  · cases hd
def subD : D → D → Option D
  | .int i, .int j => some (.int (i - j))
  | _, _ => none
theorem subD_ok {K : PySem.W.Frag} : R2ok K (rI0 fun i j => .int (i - j)) subD := by
  intro x y dx dy F H Q d s hx hy hd k
  unfold subD at hd
  split at hd
  · cases hd
    exact ⟨_, _, hx.int, hy.int, k _ F H (Ext.refl s) (.int _)⟩
  · cases hd
def mulD : D → D → Option D
  | .int i, .int j => if i.natAbs.log2 + j.natAbs.log2 < 134000000 then some (.int (i * j)) else none
  | .lst xs, .int k => if 0 ≤ k ∧ k < 1000000 ∧ xs.length * k.toNat ≤ sizeLine then some (.lst (List.replicate k.toNat xs).flatten) else none
  | .tup xs, .int k => if xs ≠ [] ∧ 2 ≤ k ∧ k ≤ 1000 ∧ xs.length ≤ 1000 then some (.tup (List.replicate k.toNat xs).flatten) else none
  | _, _ => none
def rMulD (K : PySem.W.Frag) : R2 := fun x y H Q => (rI CMulB (fun i j => .int (i * j)) x y H Q) ∨ rRep x y H Q ∨ rRepT K x y H Q
theorem op_mulD {X : Cx} : OpR X (binaryOp .Mult) (rMulD X.K) := OpR.or op_mulB (OpR.or op_rep op_repT)
theorem Reps.repl {K : PySem.W.Frag} {F : Hp} {xs : List V} {ds : List D} (h : Reps K F xs ds) : ∀ n : Nat, Reps K F (List.replicate n xs).flatten (List.replicate n ds).flatten
  | 0 => .nil
  | n + 1 => by
    rw [List.replicate_succ, List.replicate_succ, List.flatten_cons, List.flatten_cons]
    exact h.append (h.repl n)
theorem len_repl {α : Type} (xs : List α) : ∀ n : Nat, (List.replicate n xs).flatten.length = xs.length * n
  | 0 => rfl
  | n + 1 => by
    rw [List.replicate_succ, List.flatten_cons, List.length_append, len_repl xs n, Nat.mul_succ]
    omega
theorem mulD_ok {K : PySem.W.Frag} : R2ok K (rMulD K) mulD := by
  intro x y dx dy F H Q d s hx hy hd k
  unfold mulD at hd
  split at hd
  · split at hd
    · cases hd
      exact .inl ⟨_, _, hx.int, hy.int, by assumption, k _ F H (Ext.refl s) (.int _)⟩
    · cases hd
  · split at hd
    · rename_i ds m hc
      cases hd
      obtain ⟨a, xs, rfl, ha, la, ra⟩ := hx.lst s
      obtain ⟨c1, c2, c3⟩ := hc
      rw [← ra.length] at c3
      exact .inr (.inl ⟨a, m, xs, rfl, hy.int, ha, by omega, by omega, c3, fun p hp => k _ _ _ (Ext.fresh s _ hp) (new_lst s hp (by rw [len_repl]; exact c3) (ra.repl _))⟩)
    · cases hd
  · split at hd
    · rename_i ds m hc
      cases hd
      obtain ⟨a, xs, rfl, ha, la, ra, wa⟩ := hx.tup s
      obtain ⟨c0, c1, c2, c3⟩ := hc
      rw [← ra.length] at c3
      refine .inr (.inr ⟨a, m, xs, rfl, hy.int, ha, fun e => ?_, c1, c2, c3, fun p hp => k _ _ _ (Ext.fresh s _ hp) (new_tup s hp ?_ (ra.repl _))⟩)
      · subst e
        cases ra
        exact c0 rfl
      · rw [len_repl]
        have h1 : xs.length * m.toNat ≤ 1000 * 1000 := Nat.mul_le_mul c3 (by omega)
        exact Nat.le_trans h1 (by decide)
    · cases hd
  · cases hd
def fdivD : D → D → Option D
  | .int i, .int j => if j ≠ 0 ∧ j.natAbs.log2 < 9000 then some (.int (i.fdiv j)) else none
  | _, _ => none
theorem fdivD_ok {K : PySem.W.Frag} : R2ok K (rI CDivB fun i j => .int (i.fdiv j)) fdivD := by
  intro x y dx dy F H Q d s hx hy hd k
  unfold fdivD at hd
  split at hd
  · split at hd
    · cases hd
      exact ⟨_, _, hx.int, hy.int, by assumption, k _ F H (Ext.refl s) (.int _)⟩
    · cases hd
  · cases hd
def modD : D → D → Option D
  | .int i, .int j => if j ≠ 0 then some (.int (i.fmod j)) else none
  | _, _ => none
theorem modD_ok {K : PySem.W.Frag} : R2ok K (rI (fun _ j => j ≠ 0) fun i j => .int (i.fmod j)) modD := by
  intro x y dx dy F H Q d s hx hy hd k
  unfold modD at hd
  split at hd
  · split at hd
    · cases hd
      exact ⟨_, _, hx.int, hy.int, by assumption, k _ F H (Ext.refl s) (.int _)⟩
    · cases hd
  · cases hd
def powD : D → D → Option D
  | .int i, .int j => if 0 ≤ j ∧ j.natAbs ≤ 1000000 ∧ i.natAbs < 2 ^ 64 then some (.int (i ^ j.toNat)) else none
  | _, _ => none
theorem powD_ok {K : PySem.W.Frag} : R2ok K (rI CPow fun i j => .int (i ^ j.toNat)) powD := by
  intro x y dx dy F H Q d s hx hy hd k
  unfold powD at hd
  split at hd
  · split at hd
    · cases hd
      rename_i hc
      exact ⟨_, _, hx.int, hy.int, ⟨hc.1, by omega, hc.2.2⟩, k _ F H (Ext.refl s) (.int _)⟩
    · cases hd
  · cases hd
def negD : D → Option D
  | .int i => some (.int (-i))
  | _ => none
theorem negD_ok {K : PySem.W.Frag} : R1ok K (rU fun i => .int (-i)) negD := by
  intro x dx F H Q d s hx hd k
  unfold negD at hd
  split at hd
  · cases hd
    exact ⟨_, hx.int, k _ F H (Ext.refl s) (.int _)⟩
  · cases hd
mutual
def D.py : D → PyData
  | .non => .none
  | .bl b => .bool b
  | .int i => .int i
  | .str x => .str x
  | .tup xs => .tuple (pys xs)
  | .lst xs => .list (pys xs)
  | .scr _ => .none
  | .obj _ _ => .none
  | .dT _ => .none
  | .dK _ => .none
  | .dN _ _ => .none
  | .tupL _ => .none
  | .exn _ _ => .none
def pys : List D → List PyData
  | [] => []
  | d :: ds => d.py :: pys ds
end
mutual
def D.isData : D → Bool
  | .non => true
  | .bl _ => true
  | .int _ => true
  | .str _ => true
  | .tup xs => areData xs
  | .lst xs => areData xs
  | .scr _ => false
  | .obj _ _ => false
  | .dT _ => false
  | .dK _ => false
  | .dN _ _ => false
  | .tupL _ => false
  | .exn _ _ => false
def areData : List D → Bool
  | [] => true
  | d :: ds => d.isData && areData ds
end
mutual
theorem Rep.dp {K : PySem.W.Frag} {F H : Hp} (s : Same F H) : ∀ {v : V} {d : D}, Rep K F v d → d.isData = true → Dp K H v d.py
  | _, _, .non, _ => by simp only [D.py]; exact .non
  | _, _, .bl b, _ => by simp only [D.py]; exact .bl b
  | _, _, .int i, _ => by simp only [D.py]; exact .int i
  | _, _, .str x, _ => by simp only [D.py]; exact .str x
  | _, _, .lst h l r, e => by simp only [D.py]; exact .lst (.inl (.inl (s _ _ h))) (Reps.dp s r (by simpa only [D.isData] using e))
  | _, _, .tup h l r, e => by simp only [D.py]; exact .tup (SqT.same s h.sq) (Reps.dp s r (by simpa only [D.isData] using e))
  | _, _, .scr _ _ _, e => by simp only [D.isData] at e; cases e
  | _, _, .obj _ _ _, e => by simp only [D.isData] at e; cases e
  | _, _, .dT _ _ _, e => by simp only [D.isData] at e; cases e
  | _, _, .dK _ _ _, e => by simp only [D.isData] at e; cases e
  | _, _, .dN _ _ _ _, e => by simp only [D.isData] at e; cases e
  | _, _, .tupL _ _ _ _, e => by simp only [D.isData] at e; cases e
  | _, _, .exn _ _ _ _, e => by simp only [D.isData] at e; cases e
theorem Reps.dp {K : PySem.W.Frag} {F H : Hp} (s : Same F H) : ∀ {vs : List V} {ds : List D}, Reps K F vs ds → areData ds = true → DpAll K H vs (pys ds)
  | _, _, .nil, _ => by simp only [pys]; exact .nil
  | _, _, .cons h r, e => by
    simp only [areData, Bool.and_eq_true] at e
    simp only [pys]
    exact .cons (Rep.dp s h e.1) (Reps.dp s r e.2)
end
theorem RepH.dp {K : PySem.W.Frag} {F H : Hp} (s : Same F H) {v : V} {d : D} (h : RepH K F H v d) (e : d.isData = true) : Dp K H v d.py := by
  rcases h with h | ⟨a, rfl, h⟩
  · exact h.dp s e
  · cases h with
    | lst h l r =>
      simp only [D.py]
      exact .lst (.inl (.inl h)) (Reps.dp s r (by simpa only [D.isData] using e))
    | dT _ _ _ => simp only [D.isData] at e; cases e
    | dK _ _ _ => simp only [D.isData] at e; cases e
    | dN _ _ _ _ => simp only [D.isData] at e; cases e
    | obj _ _ _ => simp only [D.isData] at e; cases e
def D.okD (d : D) : Bool := d.isData && SeqAt.shaped d.py
def eqB (a b : D) : Option Bool := match a, b with
  | .str x, .str y => some (decide (x = y))
  | _, _ => if a.okD && b.okD then some (PyData.eqv a.py b.py) else none
def eqD (a b : D) : Option D := (eqB a b).map .bl
def neD (a b : D) : Option D := (eqB a b).map fun k => .bl (!k)
def rEqA (K : PySem.W.Frag) : R2 := fun x y H Q => rEq x y H Q ∨ rEqD K x y H Q
def rNeA (K : PySem.W.Frag) : R2 := fun x y H Q => rNe x y H Q ∨ rNeD K x y H Q
theorem op_eqA {X : Cx} (hu : X.A.units + 64 < cLine) : OpR X (compareOp .Eq) (rEqA X.K) := OpR.or op_eq (op_eqD hu)
theorem op_neA {X : Cx} (hu : X.A.units + 64 < cLine) : OpR X (compareOp .NotEq) (rNeA X.K) := OpR.or op_ne (op_neD hu)
theorem str_eq {x y : Str} : decide (V.str x = V.str y) = decide (x = y) := by
  by_cases h : x = y
  · subst h; simp
  · rw [decide_eq_false h, decide_eq_false fun e => h (V.str.inj e)]
theorem eqD_ok {K : PySem.W.Frag} : R2ok K (rEqA K) eqD := by
  intro x y dx dy F H Q d s hx hy hd k
  unfold eqD eqB at hd
  split at hd
  · cases hd
    obtain rfl := hx.str
    obtain rfl := hy.str
    refine .inl ⟨rfl, ?_⟩
    rw [str_eq]
    exact k _ F H (Ext.refl s) (.bl _)
  · split at hd
    · rename_i hc
      cases hd
      rw [Bool.and_eq_true] at hc
      obtain ⟨c1, c2⟩ := Bool.and_eq_true_iff.mp hc.1
      obtain ⟨c3, c4⟩ := Bool.and_eq_true_iff.mp hc.2
      exact .inr ⟨_, _, hx.dp s c1, hy.dp s c3, c2, c4, k _ F H (Ext.refl s) (.bl _)⟩
    · cases hd
theorem neD_ok {K : PySem.W.Frag} : R2ok K (rNeA K) neD := by
  intro x y dx dy F H Q d s hx hy hd k
  unfold neD eqB at hd
  split at hd
  · cases hd
    obtain rfl := hx.str
    obtain rfl := hy.str
    refine .inl ⟨rfl, ?_⟩
    rw [str_eq]
    exact k _ F H (Ext.refl s) (.bl _)
  · split at hd
    · rename_i hc
      cases hd
      rw [Bool.and_eq_true] at hc
      obtain ⟨c1, c2⟩ := Bool.and_eq_true_iff.mp hc.1
      obtain ⟨c3, c4⟩ := Bool.and_eq_true_iff.mp hc.2
      exact .inr ⟨_, _, hx.dp s c1, hy.dp s c3, c2, c4, k _ F H (Ext.refl s) (.bl _)⟩
    · cases hd
def D.isNon : D → Bool
  | .non => true
  | _ => false
def isND : D → D → Option D
  | x, .non => some (.bl x.isNon)
  | _, _ => none
theorem RepH.isN {K : PySem.W.Frag} {F H : Hp} {v : V} {d : D} (h : RepH K F H v d) : decide (v = .non) = d.isNon := by
  rcases h with h | ⟨a, rfl, h⟩
  · cases h <;> simp [D.isNon]
  · cases h <;> simp [D.isNon]
theorem isND_ok {K : PySem.W.Frag} : R2ok K (fun x y H Q => y = .non ∧ Q (.bl (decide (x = .non))) H) isND := by
  intro x y dx dy F H Q d s hx hy hd k
  unfold isND at hd
  split at hd
  · cases hd
    refine ⟨hy.non, ?_⟩
    rw [hx.isN]
    exact k _ F H (Ext.refl s) (.bl _)
  · cases hd
end VL
set_option Elab.async false
set_option linter.all false
set_option maxRecDepth 100000
set_option autoImplicit false
namespace VL
open PySem PySem.Spec L2
open PyProof.Rows hiding St
def Wk (ρ ρ' : Rho) : Prop := (∀ (i : Nat) (c : Cl), ρ'[i]? = some (some c) → ρ[i]? = some (some c)) ∧ ρ'.length ≤ ρ.length
theorem Wk.nil {ρ : Rho} : Wk ρ [] := ⟨fun i c h => by simp at h, Nat.zero_le _⟩
theorem Wk.refl {ρ : Rho} : Wk ρ ρ := ⟨fun _ _ h => h, Nat.le_refl _⟩
theorem Wk.keep {c : Option Cl} {ρ ρ' : Rho} (h : Wk ρ ρ') : Wk (c :: ρ) (c :: ρ') := ⟨fun i d q => by
    cases i with
    | zero => exact q
    | succ i => exact h.1 i d (by simpa using q), by simp only [List.length_cons]; have := h.2; omega⟩
theorem Wk.drop {c : Option Cl} {ρ ρ' : Rho} (h : Wk ρ ρ') : Wk (c :: ρ) (none :: ρ') := ⟨fun i d q => by
    cases i with
    | zero => simp at q
    | succ i => exact h.1 i d (by simpa using q), by simp only [List.length_cons]; have := h.2; omega⟩
section
variable {K : PySem.W.Frag} {G : Gd} {ρ ρ' : Rho} {σ : St} {F H : Hp}
theorem Holds.weak (h : Holds K G ρ σ F H) (w : Wk ρ ρ') : Holds K G ρ' σ F H where
  toGnd := h.toGnd
  val := fun i d q => h.val i d (w.1 i _ q)
  own := fun i l d q => h.own i l d (w.1 i _ q)
  sep := fun i j l m d e a n q1 q2 => h.sep i j l m d e a n (w.1 i _ q1) (w.1 j _ q2)
  len := Nat.le_trans w.2 h.len
theorem set_at {α : Type} {l : List (Option α)} {i j : Nat} {x : Option α} {c : α} (h : (l.set i x)[j]? = some (some c)) : (i = j ∧ x = some c) ∨ (i ≠ j ∧ l[j]? = some (some c)) := by
  by_cases e : i = j
  · subst e
    by_cases hl : i < l.length
    · rw [List.getElem?_set_self hl] at h
      exact .inl ⟨rfl, Option.some.inj h⟩
    · rw [List.getElem?_eq_none (by simpa using hl)] at h
      cases h
  · rw [List.getElem?_set_ne e] at h
    exact .inr ⟨e, h⟩
theorem Holds.setV {i : Nat} {v : V} {d : D} (h : Holds K G ρ σ F H) (r : Rep K F v d) (hi : i < ρ.length) : Holds K G (ρ.set i (some (.val d))) (σ.set i (some v)) F H where
  toGnd := h.toGnd
  val := fun j e q => by
    rcases set_at q with ⟨rfl, z⟩ | ⟨n, z⟩
    · cases z
      exact ⟨v, List.getElem?_set_self (Nat.lt_of_lt_of_le hi h.len), r⟩
    · obtain ⟨u, h1, h2⟩ := h.val j e z
      exact ⟨u, by rw [List.getElem?_set_ne n]; exact h1, h2⟩
  own := fun j l e q => by
    rcases set_at q with ⟨rfl, z⟩ | ⟨n, z⟩
    · cases z
    · obtain ⟨u, h1, h2⟩ := h.own j l e z
      exact ⟨u, by rw [List.getElem?_set_ne n]; exact h1, h2⟩
  sep := fun j k l1 l2 d1 d2 a n q1 q2 s1 s2 => by
    rcases set_at q1 with ⟨rfl, z⟩ | ⟨n1, z1⟩
    · cases z
    · rcases set_at q2 with ⟨rfl, z⟩ | ⟨n2, z2⟩
      · cases z
      · rw [List.getElem?_set_ne n1] at s1
        rw [List.getElem?_set_ne n2] at s2
        exact h.sep j k l1 l2 d1 d2 a n z1 z2 s1 s2
  len := by simpa using h.len
theorem Holds.setO {i : Nat} {a : Addr} {l : Bool} {d : D} (h : Holds K G ρ σ F H) (r : Own K F H a d) (hf : F a = none) (h0 : OwnAt G a l) (hn : ∀ (j : Nat) (m : Bool) (e : D), ρ[j]? = some (some (.own m e)) → σ[j]? ≠ some (some (.ref a))) (hi : i < ρ.length) :
    Holds K G (ρ.set i (some (.own l d))) (σ.set i (some (.ref a))) F H where
  toGnd := h.toGnd
  val := fun j e q => by
    rcases set_at q with ⟨rfl, z⟩ | ⟨n, z⟩
    · cases z
    · obtain ⟨u, h1, h2⟩ := h.val j e z
      exact ⟨u, by rw [List.getElem?_set_ne n]; exact h1, h2⟩
  own := fun j l e q => by
    rcases set_at q with ⟨rfl, z⟩ | ⟨n, z⟩
    · cases z
      exact ⟨a, List.getElem?_set_self (Nat.lt_of_lt_of_le hi h.len), hf, h0, r⟩
    · obtain ⟨u, h1, h2⟩ := h.own j l e z
      exact ⟨u, by rw [List.getElem?_set_ne n]; exact h1, h2⟩
  sep := fun j k l1 l2 d1 d2 b n q1 q2 s1 s2 => by
    rcases set_at q1 with ⟨rfl, z⟩ | ⟨n1, z1⟩
    · rcases set_at q2 with ⟨rfl, z2⟩ | ⟨n2, z2⟩
      · exact n rfl
      · rw [List.getElem?_set_self (Nat.lt_of_lt_of_le hi h.len)] at s1
        cases s1
        rw [List.getElem?_set_ne n2] at s2
        exact hn _ _ _ z2 s2
    · rcases set_at q2 with ⟨rfl, z2⟩ | ⟨n2, z2⟩
      · rw [List.getElem?_set_self (Nat.lt_of_lt_of_le hi h.len)] at s2
        cases s2
        rw [List.getElem?_set_ne n1] at s1
        exact hn _ _ _ z1 s1
      · rw [List.getElem?_set_ne n1] at s1
        rw [List.getElem?_set_ne n2] at s2
        exact h.sep j k l1 l2 d1 d2 b n z1 z2 s1 s2
  len := by simpa using h.len
theorem Holds.write {i : Nat} {a : Addr} {l : Bool} {d d' : D} {o : HO} (h : Holds K G ρ σ F H) (hi : ρ[i]? = some (some (.own l d))) (ha : σ[i]? = some (some (.ref a))) (r : Own K F (upd H a o) a d') :
    Holds K G (ρ.set i (some (.own l d'))) σ F (upd H a o) := by
  obtain ⟨a', h1, hf, h0, hw⟩ := h.own i l d hi
  rw [ha] at h1
  cases h1
  have il : i < ρ.length := by
    rcases Nat.lt_or_ge i ρ.length with z | z
    · exact z
    · rw [List.getElem?_eq_none z] at hi
      cases hi
  have sub' : Same F (upd H a o) := fun b x q => by
    have e : b ≠ a := fun e => by
      subst e
      rw [hf] at q
      cases q
    rw [upd_ne e]
    exact h.sub _ _ q
  refine ⟨⟨sub', fun b x q nb => ?_, fun b hb => ?_, h.ext, h.new⟩, fun j e q => ?_, fun j m e q => ?_, fun j k l1 l2 d1 d2 b n q1 q2 s1 s2 => ?_, by simpa using h.len⟩
  · have e : b ≠ a := fun e => by
      subst e
      cases l with
      | true =>
        rw [h0.1] at q
        cases q
      | false => exact nb h0
    rw [upd_ne e]
    exact h.base _ _ q nb
  · by_cases e : b = a
    · subst e
      obtain ⟨o2, q2, t2⟩ := r.there
      exact ⟨_, q2, t2⟩
    · rw [upd_ne e]
      exact h.bsT b hb
  · rcases set_at q with ⟨rfl, z⟩ | ⟨n, z⟩
    · cases z
    · exact h.val j e z
  · rcases set_at q with ⟨rfl, z⟩ | ⟨n, z⟩
    · cases z
      exact ⟨a, ha, hf, h0, r⟩
    · obtain ⟨b, h1, h2, h3, h4⟩ := h.own j m e z
      have e : b ≠ a := fun e => by
        subst e
        exact h.sep i j _ _ _ _ b n hi z ha h1
      exact ⟨b, h1, h2, h3, h4.move (Same.refl F) (upd_ne e)⟩
  · rcases set_at q1 with ⟨rfl, z⟩ | ⟨n1, z1⟩
    · rcases set_at q2 with ⟨rfl, z2⟩ | ⟨n2, z2⟩
      · exact n rfl
      · exact h.sep _ _ _ _ _ _ b n hi z2 s1 s2
    · rcases set_at q2 with ⟨rfl, z2⟩ | ⟨n2, z2⟩
      · exact h.sep _ _ _ _ _ _ b n z1 hi s1 s2
      · exact h.sep j k l1 l2 d1 d2 b n z1 z2 s1 s2
theorem Holds.freeze {i : Nat} {d : D} (h : Holds K G ρ σ F H) (hi : ρ[i]? = some (some (.own true d))) (hd : d.frzd = true) : ∃ F', Holds K G (ρ.set i (some (.val d))) σ F' H := by
  obtain ⟨a, h1, hf, h0, hw⟩ := h.own i true d hi
  obtain ⟨o, ho, hr⟩ := hw.rep hd h.sub hf
  have ex : Same F (upd F a o) := same_upd hf
  have sub' : Same (upd F a o) H := fun b x q => by
    by_cases e : b = a
    · subst e
      rw [upd_same] at q
      cases q
      exact ho
    · rw [upd_ne e] at q
      exact h.sub _ _ q
  have il : i < ρ.length := by
    rcases Nat.lt_or_ge i ρ.length with z | z
    · exact z
    · rw [List.getElem?_eq_none z] at hi
      cases hi
  refine ⟨upd F a o, ⟨⟨sub', h.base, h.bsT, h.ext.trans ex, fun b x q => ?_⟩, fun j e q => ?_, fun j m e q => ?_, fun j k l1 l2 d1 d2 b n q1 q2 s1 s2 => ?_, by simpa using h.len⟩⟩
  · by_cases e : b = a
    · subst e
      exact .inr (.inl h0)
    · rw [upd_ne e] at q
      exact h.new _ _ q
  · rcases set_at q with ⟨rfl, z⟩ | ⟨n, z⟩
    · cases z
      exact ⟨_, h1, hr⟩
    · obtain ⟨u, h1, h2⟩ := h.val j e z
      exact ⟨u, h1, h2.mono ex⟩
  · rcases set_at q with ⟨rfl, z⟩ | ⟨n, z⟩
    · cases z
    · obtain ⟨b, g1, g2, g3, g4⟩ := h.own j m e z
      have ne : b ≠ a := fun e => by
        subst e
        exact h.sep i j _ _ _ _ b n hi z h1 g1
      exact ⟨b, g1, by rw [upd_ne ne]; exact g2, g3, g4.move ex rfl⟩
  · rcases set_at q1 with ⟨rfl, z⟩ | ⟨n1, z1⟩
    · cases z
    · rcases set_at q2 with ⟨rfl, z2⟩ | ⟨n2, z2⟩
      · cases z2
      · exact h.sep j k l1 l2 d1 d2 b n z1 z2 s1 s2
theorem Holds.lock {i : Nat} {d : D} (h : Holds K G ρ σ F H) (hi : ρ[i]? = some (some (.own true d))) (hd : d.frzd = false) : ∃ a u, H a = some u ∧ Mut (some u) ∧ ∀ od, ∃ F', Holds K G (ρ.set i (some (.val d))) σ F' (upd H a (.frz od u)) := by
  obtain ⟨a, h1, hf, h0, hw⟩ := h.own i true d hi
  have key : ∃ u, H a = some u ∧ Mut (some u) ∧ ∀ od, Rep K (upd F a (.frz od u)) (.ref a) d := by
    cases hw with
    | lst _ _ _ => cases hd
    | obj _ _ _ => cases hd
    | dT h l r => exact ⟨_, h, True.intro, fun od => .dT upd_same l (r.mono (same_upd hf))⟩
    | dK h l r => exact ⟨_, h, True.intro, fun od => .dK upd_same l (r.mono (same_upd hf))⟩
    | dN h l k r => exact ⟨_, h, True.intro, fun od => .dN upd_same l (k.mono (same_upd hf)) (r.mono (same_upd hf))⟩
  obtain ⟨u, hu, mu, hr⟩ := key
  refine ⟨a, u, hu, mu, fun od => ⟨upd F a (.frz od u), ?_⟩⟩
  have ex : Same F (upd F a (.frz od u)) := same_upd hf
  have sub' : Same (upd F a (.frz od u)) (upd H a (.frz od u)) := fun b x q => by
    by_cases e : b = a
    · subst e
      rw [upd_same] at q ⊢
      exact q
    · rw [upd_ne e] at q ⊢
      exact h.sub _ _ q
  have il : i < ρ.length := by
    rcases Nat.lt_or_ge i ρ.length with z | z
    · exact z
    · rw [List.getElem?_eq_none z] at hi
      cases hi
  refine ⟨⟨sub', fun b x q nb => ?_, fun b hb => ?_, h.ext.trans ex, fun b x q => ?_⟩, fun j e q => ?_, fun j m e q => ?_, fun j k l1 l2 d1 d2 b n q1 q2 s1 s2 => ?_, by simpa using h.len⟩
  · have e : b ≠ a := fun e => by
      subst e
      rw [h0.1] at q
      cases q
    rw [upd_ne e]
    exact h.base _ _ q nb
  · have e : b ≠ a := fun e => by
      subst e
      exact h0.2 hb
    rw [upd_ne e]
    exact h.bsT b hb
  · by_cases e : b = a
    · subst e
      exact .inr (.inl h0)
    · rw [upd_ne e] at q
      exact h.new _ _ q
  · rcases set_at q with ⟨rfl, z⟩ | ⟨n, z⟩
    · cases z
      exact ⟨_, h1, hr od⟩
    · obtain ⟨v, g1, g2⟩ := h.val j e z
      exact ⟨v, g1, g2.mono ex⟩
  · rcases set_at q with ⟨rfl, z⟩ | ⟨n, z⟩
    · cases z
    · obtain ⟨b, g1, g2, g3, g4⟩ := h.own j m e z
      have ne : b ≠ a := fun e => by
        subst e
        exact h.sep i j _ _ _ _ b n hi z h1 g1
      exact ⟨b, g1, by rw [upd_ne ne]; exact g2, g3, g4.move ex (upd_ne ne)⟩
  · rcases set_at q1 with ⟨rfl, z⟩ | ⟨n1, z1⟩
    · cases z
    · rcases set_at q2 with ⟨rfl, z2⟩ | ⟨n2, z2⟩
      · cases z2
      · exact h.sep j k l1 l2 d1 d2 b n z1 z2 s1 s2
end
end VL
set_option Elab.async false
set_option linter.all false
set_option maxRecDepth 100000
set_option autoImplicit false
namespace VL
open PySem PySem.Spec L2
open PyProof.Rows hiding St
inductive Fl (α β : Type) where
  | nx (z : α) | rt (d : D) (s : List D) | bk (y : β) | ct (y : β)
def OwnsL (K : PySem.W.Frag) (F H : Hp) (bs : List Addr) (s : List D) : Prop := bs.length = s.length ∧ ∀ (i : Nat) (a : Addr), bs[i]? = some a → F a = none ∧ ∃ d, s[i]? = some d ∧ Own K F H a d
def PostS {α β : Type} (K : PySem.W.Frag) (G : Gd) (W : WX) (ρx : Rho) (pn : α → Rho) (pl : β → Rho) (E : Ends) : Rs (Fl α β) → Prop
  | .ok (.nx z) => ∀ σ F H, Holds K G (pn z) σ F H → E.nx σ H
  | .ok (.bk y) => ∀ σ F H, Holds K G (pl y) σ F H → E.bk σ H
  | .ok (.ct y) => ∀ σ F H, Holds K G (pl y) σ F H → E.ct σ H
  | .ok (.rt d s) => ∀ v F H, Gnd K G F H → Rep K F v d → OwnsL K F H G.bs s → E.rt v H
  | .ex c fs => ∀ dd σ F H, Holds K G ρx σ F H → XRep K F dd fs → W (.ref (He.ga K c)) (some dd) σ H
  | .no => False
def tAny (X : Cx) (sts : List Stmt) : TS := fun E σ H => ∃ t, PSs X sts t ∧ t E σ H
theorem pss_any {X : Cx} {sts : List Stmt} : PSs X sts (tAny X sts) := ⟨fun pins s σ H E I ⟨_, p, h⟩ => p.run pins s σ H E I h⟩
def BK (X : Cx) (G : Gd) (W : WX) (ρx ρ : Rho) (sts : List Stmt) {α β : Type} (pn : α → Rho) (pl : β → Rho) (m : Rs (Fl α β)) : Prop :=
  ∀ F0 σ F H E, Holds X.K (G.at F0) ρ σ F H → PostS X.K (G.at F0) W ρx pn pl E m → tAny X sts E σ H
def AS (X : Cx) (G : Gd) (W : WX) (ρ : Rho) (st : Stmt) (i : Nat) (m : Rs D) : Prop :=
  ∃ te, PS X st (tAsg te (gName i)) ∧ ∀ F0 σ F H Q, Holds X.K (G.at F0) ρ σ F H → Post X.K (RF X.K) (fun c d H => W c d σ H) F H Q m → te σ H Q
def AF (X : Cx) (G : Gd) (W : WX) (ρ : Rho) (st : Stmt) (i : Nat) (m : Rs (List D)) : Prop :=
  ∃ te, PS X st (tAsg te (gName i)) ∧ ∀ F0 σ F H Q, Holds X.K (G.at F0) ρ σ F H → Post X.K (RN X.K H) (fun c d H => W c d σ H) F H Q m → te σ H Q
section
variable {X : Cx} {G : Gd} {W : WX} {ρx ρ : Rho} {rest : List Stmt} {α β : Type} {pn : α → Rho} {pl : β → Rho}
theorem post_seq {γ δ : Type} {Rl : Hp → Hp → γ → δ → Prop} {F0 : Hp} {σ : St} {F H : Hp} {E : Ends} {m : Rs δ} {f : δ → Rs (Fl α β)} {Q1 : γ → Hp → Prop} (hh : Holds X.K (G.at F0) ρ σ F H) (wx : Wk ρ ρx) (hp : PostS X.K (G.at F0) W ρx pn pl E (m.bind f))
    (k : ∀ d v F' H', Ext F H F' H' → Rl F' H' v d → PostS X.K (G.at F0) W ρx pn pl E (f d) → Q1 v H') : Post X.K Rl (fun c d H => W c d σ H) F H Q1 m := by
  cases m with
  | ok d => exact fun v F2 H2 e2 r => k d v F2 H2 e2 r hp
  | ex c fs => exact fun dd F2 H2 e2 r => hp dd σ F2 H2 ((hh.more e2).weak wx) r
  | no => exact hp
theorem as_ev {i : Nat} {x : Str} {e : Expr} {pos pos' : Pos} {m : Rs D} (nd : X.N.Nodup) (h : EV X G W ρ e m) (hi : X.N[i]? = some x := by rfl) (hx : Loc X.env.scope x := by first | exact Or.inl rfl | exact Or.inr rfl) (hs : swapsWith e (some (.Name x pos')) pos.line X.env = pure false := by rfl)
    (hf : X.fn x = true ∨ X.env.scope.names.lookup x = some .local := by first | exact .inl rfl | exact .inr rfl) : AS X G W ρ (.Assign [.Name x pos'] e pos) i m := by
  obtain ⟨t, p, q⟩ := h
  exact ⟨t, ps_set nd hi hx p hs hf, q⟩
theorem af_ef {i : Nat} {x : Str} {e : Expr} {pos pos' : Pos} {m : Rs (List D)} (nd : X.N.Nodup) (h : EF X G W ρ e m) (hi : X.N[i]? = some x := by rfl) (hx : Loc X.env.scope x := by first | exact Or.inl rfl | exact Or.inr rfl) (hs : swapsWith e (some (.Name x pos')) pos.line X.env = pure false := by rfl)
    (hf : X.fn x = true ∨ X.env.scope.names.lookup x = some .local := by first | exact .inl rfl | exact .inr rfl) : AF X G W ρ (.Assign [.Name x pos'] e pos) i m := by
  obtain ⟨t, p, q⟩ := h
  exact ⟨t, ps_set nd hi hx p hs hf, q⟩
theorem any_cons {st : Stmt} {t : TS} {E : Ends} {σ : St} {H : Hp} (p : PS X st t) (h : t { E with nx := tAny X rest E } σ H) : tAny X (st :: rest) E σ H := ⟨_, pss_cons p pss_any, h⟩
theorem bk_nil {z : α} (w : Wk ρ (pn z)) : BK X G W ρx ρ [] pn pl (.ok (.nx z) : Rs (Fl α β)) := fun F0 σ F H E hh hp => ⟨_, pss_nil, hp σ F H (hh.weak w)⟩
theorem bk_set {i : Nat} {st : Stmt} {m : Rs D} {f : D → Rs (Fl α β)} (ha : AS X G W ρ st i m) (hr : ∀ d, BK X G W ρx (ρ.set i (some (.val d))) rest pn pl (f d)) (hi : i < ρ.length := by exact Nat.le_of_ble_eq_true rfl) (wx : Wk ρ ρx := by first | exact Wk.nil | exact Wk.refl | (repeat (first | exact Wk.nil | apply Wk.keep | apply Wk.drop))) :
    BK X G W ρx ρ (st :: rest) pn pl (m.bind f) := by
  obtain ⟨te, p, q⟩ := ha
  intro F0 σ F H E hh hp
  refine any_cons p (q F0 σ F H _ hh (post_seq hh wx hp fun d v F' H' e1 r1 hp1 => ?_))
  exact hr d F0 _ F' H' E ((hh.more e1).setV r1 hi) hp1
theorem bk_own {i : Nat} {st : Stmt} {m : Rs (List D)} {f : List D → Rs (Fl α β)} (ha : AF X G W ρ st i m) (hr : ∀ d, BK X G W ρx (ρ.set i (some (.own true (.lst d)))) rest pn pl (f d)) (hi : i < ρ.length := by exact Nat.le_of_ble_eq_true rfl) (wx : Wk ρ ρx := by first | exact Wk.nil | exact Wk.refl | (repeat (first | exact Wk.nil | apply Wk.keep | apply Wk.drop))) :
    BK X G W ρx ρ (st :: rest) pn pl (m.bind f) := by
  obtain ⟨te, p, q⟩ := ha
  intro F0 σ F H E hh hp
  refine any_cons p (q F0 σ F H _ hh (post_seq hh wx hp fun d v F' H' e1 r1 hp1 => ?_))
  obtain ⟨a, rfl, hn, hf, ho⟩ := r1
  refine hr d F0 _ F' H' E ((hh.more e1).setO ho hf ?_ ?_ hi) hp1
  · refine ⟨?_, fun hb => ?_⟩
    · cases q0 : G.H0 a with
      | none => exact q0
      | some o =>
        by_cases hb : a ∈ G.bs
        · obtain ⟨o2, q2, _⟩ := hh.bsT a hb
          rw [hn] at q2
          cases q2
        · rw [hh.base a o q0 hb] at hn
          cases hn
    · obtain ⟨o2, q2, _⟩ := hh.bsT a hb
      rw [hn] at q2
      cases q2
  · intro j l e qj sj
    obtain ⟨b, h1, h2, h3, h4⟩ := hh.own j l e qj
    rw [h1] at sj
    cases sj
    obtain ⟨o, ho, nt_⟩ := h4.there
    rw [hn] at ho
    cases ho
theorem any_lock {sts : List Stmt} {E : Ends} {σ : L2.St} {H : Hp} {a : Addr} {u : HO} (h : H a = some u) (mu : Mut (some u)) (k : ∀ od, tAny X sts E σ (upd H a (.frz od u))) : tAny X sts E σ H := by
  refine ⟨fun E σ H => ∃ a u, H a = some u ∧ Mut (some u) ∧ ∀ od, tAny X sts E σ (upd H a (.frz od u)), ⟨fun pins s σ H E I hw => ?_⟩, a, u, h, mu, k⟩
  obtain ⟨a, u, h, mu, k⟩ := hw
  obtain ⟨od, I1⟩ := I.lock h mu
  obtain ⟨t, p, q⟩ := k od
  exact p.run pins s σ _ E I1 q
theorem bk_frz {i : Nat} {d : D} {sts : List Stmt} {m : Rs (Fl α β)} (hi : ρ[i]? = some (some (.own true d)) := by rfl) (hr : BK X G W ρx (ρ.set i (some (.val d))) sts pn pl m) : BK X G W ρx ρ sts pn pl m := by
  intro F0 σ F H E hh hp
  cases hd : d.frzd with
  | true =>
    obtain ⟨F', hh'⟩ := hh.freeze hi hd
    exact hr F0 σ F' H E hh' hp
  | false =>
    obtain ⟨a, u, h1, mu, k⟩ := hh.lock hi hd
    refine any_lock h1 mu fun od => ?_
    obtain ⟨F', hh'⟩ := k od
    exact hr F0 σ F' _ E hh' hp
def appL (ds : List D) (d : D) : Option (List D) := if ds.length < sizeLine then some (ds ++ [d]) else none
theorem Own.asL {K : PySem.W.Frag} {F H : Hp} {a : Addr} {ds : List D} (h : Own K F H a (.lst ds)) : ∃ xs, H a = some (.lst xs) ∧ xs.length ≤ sizeLine ∧ Reps K F xs ds := by
  cases h with
  | lst h l r => exact ⟨_, h, l, r⟩
def setL (ds : List D) (k d : D) : Option (List D) := match k with
  | .int i => (ixN ds.length i).map fun j => ds.set j d
  | _ => none
theorem bk_setix {i : Nat} {x : Str} {e k : Expr} {xpos spos pos : Pos} {l : Bool} {c : List D} {m mk : Rs D} {f : List D → Rs (Fl α β)} (hv : PE X (.Name x xpos) (tVar i)) (he : EV X G W ρ e m) (hk : EV X G W ρ k mk)
    (hr : ∀ c', BK X G W ρx (ρ.set i (some (.own l (.lst c')))) rest pn pl (f c')) (hi : ρ[i]? = some (some (.own l (.lst c))) := by rfl)
    (hs : swapsWithSole [.Subscript (.Name x xpos) k spos] e pos.line X.env = pure false := by rfl) (hw : swappedStores [.Subscript (.Name x xpos) k spos] e X.env = pure none := by rfl)
    (h1 : (assignEach [.Subscript (.Name x xpos) k spos] X.env).map (·.2) = [assign (.Subscript (.Name x xpos) k spos) X.env] := by rfl)
    (hA : ∀ v, assign (.Subscript (.Name x xpos) k spos) X.env v = (do
      let ov ← holding [v] (eval (.Name x xpos) X.env); let iv ← holding [v, ov] (eval k X.env); standAt spos; holding [v, ov, iv] (setItem ov iv v); release [v, ov, iv] []) := by intro _; rfl) (wx : Wk ρ ρx := by first | exact Wk.nil | exact Wk.refl | (repeat (first | exact Wk.nil | apply Wk.keep | apply Wk.drop))) :
    BK X G W ρx ρ (.Assign [.Subscript (.Name x xpos) k spos] e pos :: rest) pn pl (m.bind fun d => mk.bind fun j => (Rs.of (setL c j d)).bind f) := by
  obtain ⟨te, p, q⟩ := he
  obtain ⟨tk, pk, qk⟩ := hk
  intro F0 σ F H E hh hp
  refine any_cons (ps_asg p (pg_sub hv pk set_list hA) hs hw h1) ?_
  refine q F0 σ F H _ hh (post_seq hh wx hp fun d v F' H' e1 r1 hp1 => ?_)
  have hh1 := hh.more e1
  obtain ⟨a, g1, g2, g3, g4⟩ := hh1.own i l _ hi
  refine ⟨.ref a, g1, ?_⟩
  refine qk F0 σ F' H' _ hh1 (post_seq hh1 wx hp1 fun dk vk F2 H2 e2 r2 hp2 => ?_)
  have hh2 := hh1.more e2
  obtain ⟨xs, h5, l5, r5⟩ := (g4.ext e2).asL
  cases dk with
  | int n =>
    cases r2
    cases q3 : ixN c.length n with
    | none =>
      simp only [setL, q3] at hp2
      exact hp2.elim
    | some j =>
      simp only [setL, q3, Option.map] at hp2
      refine ⟨a, xs, n, j, rfl, rfl, h5, by rw [r5.length]; exact q3, ?_⟩
      exact hr _ F0 σ F2 _ E (hh2.write hi g1 (.lst upd_same (by rw [List.length_set]; exact l5) (r5.set j (r1.mono e2.ext)))) hp2
  | _ => exact hp2.elim
end
end VL
set_option Elab.async false
set_option linter.all false
set_option maxRecDepth 100000
set_option autoImplicit false
namespace VL
open PySem PySem.Spec L2
open PyProof.Rows hiding St
section
variable {X : Cx} {G : Gd} {W : WX} {ρx ρ : Rho} {rest : List Stmt} {α β : Type} {pn : α → Rho} {pl : β → Rho}
theorem owns0 {K : PySem.W.Frag} {F H : Hp} {bs : List Addr} (h : bs = []) : OwnsL K F H bs [] := by
  subst h
  exact ⟨rfl, fun i a q => by simp at q⟩
theorem any_one {st : Stmt} {t : TS} {E : Ends} {σ : St} {H : Hp} (p : PS X st t) (h : t E σ H) : tAny X [st] E σ H := ⟨_, pss_one p, h⟩
theorem bk_ret {e : Expr} {pos : Pos} {m : Rs D} (he : EV X G W ρ e m) (hb : G.bs = [] := by rfl) (wx : Wk ρ ρx := by first | exact Wk.nil | exact Wk.refl | (repeat (first | exact Wk.nil | apply Wk.keep | apply Wk.drop))) : BK X G W ρx ρ (.Return (some e) pos :: rest) pn pl (m.bind fun d => (.ok (.rt d []) : Rs (Fl α β))) := by
  obtain ⟨te, p, q⟩ := he
  intro F0 σ F H E hh hp
  refine any_cons (ps_ret p) (q F0 σ F H _ hh (post_seq hh wx hp fun d v F' H' e1 r1 hp1 => ?_))
  exact hp1 v F' H' (hh.toGnd.more e1) r1 (owns0 hb)
theorem bk_retIO {i : Nat} {b : Addr} {s : D} {e : Expr} {pos : Pos} {m : Rs D} (he : EV X G W ρ e m) (hi : ρ[i]? = some (some (.own false s)) := by rfl) (hb : G.bs = [b] := by rfl) (wx : Wk ρ ρx := by first | exact Wk.nil | exact Wk.refl | (repeat (first | exact Wk.nil | apply Wk.keep | apply Wk.drop))) :
    BK X G W ρx ρ (.Return (some e) pos :: rest) pn pl (m.bind fun d => (.ok (.rt d [s]) : Rs (Fl α β))) := by
  obtain ⟨te, p, q⟩ := he
  intro F0 σ F H E hh hp
  refine any_cons (ps_ret p) (q F0 σ F H _ hh (post_seq hh wx hp fun d v F' H' e1 r1 hp1 => ?_))
  have hh1 := hh.more e1
  obtain ⟨a, g1, g2, g3, g4⟩ := hh1.own i false s hi
  refine hp1 v F' H' hh1.toGnd r1 ?_
  have g3' : a ∈ G.bs := g3
  show OwnsL X.K F' H' G.bs [s]
  rw [hb] at g3' ⊢
  cases List.mem_singleton.mp g3'
  refine ⟨rfl, fun j a' q' => ?_⟩
  cases j with
  | zero =>
    cases q'
    exact ⟨g2, s, rfl, g4⟩
  | succ j => simp at q'
def Fl.lift {α β : Type} : Fl Empty β → Fl α β
  | .nx z => nomatch z
  | .rt d s => .rt d s
  | .bk y => .bk y
  | .ct y => .ct y
def liftF {α β : Type} (m : Rs (Fl Empty β)) : Rs (Fl α β) := m.bind fun f => .ok f.lift
def pEmp : Empty → Rho := fun z => nomatch z
theorem postS_lift {F0 : Hp} {E : Ends} {N : St → Hp → Prop} {m : Rs (Fl Empty β)} (h : PostS X.K (G.at F0) W ρx pn pl E (liftF m : Rs (Fl α β))) : PostS X.K (G.at F0) W ρx pEmp pl { E with nx := N } m := by
  cases m with
  | ok f =>
    cases f with
    | nx z => exact nomatch z
    | rt d s => exact h
    | bk y => exact h
    | ct y => exact h
  | ex c fs => exact h
  | no => exact h
theorem bk_ifr {c : Expr} {a : List Stmt} {pos : Pos} {tc : Rs Bool} {ma : Rs (Fl Empty β)} {mr : Rs (Fl α β)} (hc : TV X G W ρ c tc) (ha : BK X G W ρx ρ a pEmp pl ma) (hr : BK X G W ρx ρ rest pn pl mr) (wx : Wk ρ ρx := by first | exact Wk.nil | exact Wk.refl | (repeat (first | exact Wk.nil | apply Wk.keep | apply Wk.drop))) :
    BK X G W ρx ρ (.If c a [] pos :: rest) pn pl (tc.bind fun k => if k then liftF ma else mr) := by
  obtain ⟨t, p, q⟩ := hc
  intro F0 σ F H E hh hp
  refine any_cons (ps_if p pss_any pss_nil) (q F0 σ F H _ hh (post_seq hh wx hp fun d v F' H' e1 r1 hp1 => ?_))
  cases r1
  cases d with
  | true => exact iteT (ha F0 σ F' H' _ (hh.more e1) (postS_lift hp1))
  | false => exact iteF (hr F0 σ F' H' E (hh.more e1) hp1)
theorem bk_if2 {c : Expr} {a b : List Stmt} {pos : Pos} {tc : Rs Bool} {ma mb : Rs (Fl α β)} (hc : TV X G W ρ c tc) (ha : BK X G W ρx ρ a pn pl ma) (hb : BK X G W ρx ρ b pn pl mb) (wx : Wk ρ ρx := by first | exact Wk.nil | exact Wk.refl | (repeat (first | exact Wk.nil | apply Wk.keep | apply Wk.drop))) :
    BK X G W ρx ρ [.If c a b pos] pn pl (tc.bind fun k => if k then ma else mb) := by
  obtain ⟨t, p, q⟩ := hc
  intro F0 σ F H E hh hp
  refine any_one (ps_if p pss_any pss_any) (q F0 σ F H _ hh (post_seq hh wx hp fun d v F' H' e1 r1 hp1 => ?_))
  cases r1
  cases d with
  | true => exact iteT (ha F0 σ F' H' _ (hh.more e1) hp1)
  | false => exact iteF (hb F0 σ F' H' E (hh.more e1) hp1)
def Fl.andThen {α γ β : Type} (f : γ → Rs (Fl α β)) : Fl γ β → Rs (Fl α β)
  | .nx z => f z
  | .rt d s => .ok (.rt d s)
  | .bk y => .ok (.bk y)
  | .ct y => .ok (.ct y)
theorem postS_then {γ : Type} {F0 : Hp} {p1 : γ → Rho} {E : Ends} {m : Rs (Fl γ β)} {f : γ → Rs (Fl α β)} (hr : ∀ z, BK X G W ρx (p1 z) rest pn pl (f z)) (h : PostS X.K (G.at F0) W ρx pn pl E (m.bind (Fl.andThen f))) :
    PostS X.K (G.at F0) W ρx p1 pl { E with nx := tAny X rest E } m := by
  cases m with
  | ok fl =>
    cases fl with
    | nx z => exact fun σ F H hh => hr z F0 σ F H E hh h
    | rt d s => exact h
    | bk y => exact h
    | ct y => exact h
  | ex c fs => exact h
  | no => exact h
theorem bk_if {γ : Type} {p1 : γ → Rho} {c : Expr} {a b : List Stmt} {pos : Pos} {tc : Rs Bool} {ma mb : Rs (Fl γ β)} {f : γ → Rs (Fl α β)} (hc : TV X G W ρ c tc) (ha : BK X G W ρx ρ a p1 pl ma) (hb : BK X G W ρx ρ b p1 pl mb)
    (hr : ∀ z, BK X G W ρx (p1 z) rest pn pl (f z)) (wx : Wk ρ ρx := by first | exact Wk.nil | exact Wk.refl | (repeat (first | exact Wk.nil | apply Wk.keep | apply Wk.drop))) :
    BK X G W ρx ρ (.If c a b pos :: rest) pn pl ((tc.bind fun k => if k then ma else mb).bind (Fl.andThen f)) := by
  obtain ⟨t, p, q⟩ := hc
  intro F0 σ F H E hh hp
  refine any_cons (ps_if p pss_any pss_any) (q F0 σ F H _ hh ?_)
  cases tc with
  | ok k =>
    intro v F' H' e1 r1
    cases r1
    cases k with
    | true => exact iteT (ha F0 σ F' H' _ (hh.more e1) (postS_then hr hp))
    | false => exact iteF (hb F0 σ F' H' _ (hh.more e1) (postS_then hr hp))
  | ex cc fs => exact fun dd F2 H2 e2 r => hp dd σ F2 H2 ((hh.more e2).weak wx) r
  | no => exact hp
def Walks (K : PySem.W.Frag) (J : It) (F0 : Hp) (items : List D) : Prop := items.length ≤ sizeLine ∧ ∀ F H, Same F0 F → Same F H →
  (∀ (i : Nat) (d : D), items[i]? = some d → J.go i H ∧ ∀ x H', J.yld i H x H' → ∃ F', Ext F H F' H' ∧ Rep K F' x d) ∧ J.stop items.length H
def IT (X : Cx) (G : Gd) (W : WX) (ρ : Rho) (tg iter : Expr) (m : Rs (List D)) : Prop :=
  ∃ wi, PI X tg iter wi ∧ ∀ F0 σ F H R, Holds X.K (G.at F0) ρ σ F H → Post X.K (fun F' _ J ds => Walks X.K J F' ds) (fun c d H => W c d σ H) F H R m → wi σ H R
theorem PI.or {tg iter : Expr} {w1 w2 : TI} (h1 : PI X tg iter w1) (h2 : PI X tg iter w2) : PI X tg iter (fun σ H R => w1 σ H R ∨ w2 σ H R) := ⟨fun pins s σ H R I h => by
  rcases h with h | h
  · exact h1.run pins s σ H R I h
  · exact h2.run pins s σ H R I h⟩
def itemsD : D → Option (List D)
  | .lst ds => some ds
  | .tup ds => some ds
  | .tupL ds => some ds
  | .scr ds => some ds
  | .str x => if x.cps.size ≤ sizeLine then some (x.cps.toList.map fun c => .str ⟨#[c]⟩) else none
  | _ => none
theorem walks_list {K : PySem.W.Frag} {F : Hp} {a : Addr} {xs : List V} {ds : List D} (h : SqL K F a xs) (hl : xs.length ≤ sizeLine) (r : Reps K F xs ds) : Walks K (Itl K a) F ds := by
  refine ⟨by rw [← r.length]; exact hl, ?_⟩
  intro F1 H1 e1 e2
  have h1 : SqL K H1 a xs := SqL.same e2 (SqL.same e1 h)
  refine ⟨fun i d q => ?_, ⟨xs, h1, Nat.le_of_eq r.length⟩⟩
  obtain ⟨v, hv, rv⟩ := r.get q
  refine ⟨⟨xs, v, h1, hv⟩, fun x H' y => ?_⟩
  obtain ⟨rfl, y⟩ := y
  have e3 := y xs h1
  rw [hv] at e3
  cases e3
  exact ⟨F1, Ext.refl e2, rv.mono e1⟩
theorem walks_tup {K : PySem.W.Frag} {F : Hp} {a : Addr} {xs : List V} {ds : List D} (h : SqT K F a xs) (hl : xs.length ≤ sizeLine) (r : Reps K F xs ds) : Walks K (Itt K a) F ds := by
  refine ⟨by rw [← r.length]; exact hl, ?_⟩
  intro F1 H1 e1 e2
  have h1 : SqT K H1 a xs := SqT.same e2 (SqT.same e1 h)
  refine ⟨fun i d q => ?_, ⟨xs, h1, Nat.le_of_eq r.length⟩⟩
  obtain ⟨v, hv, rv⟩ := r.get q
  refine ⟨⟨xs, v, h1, hv⟩, fun x H' y => ?_⟩
  obtain ⟨rfl, y⟩ := y
  have e3 := y xs h1
  rw [hv] at e3
  cases e3
  exact ⟨F1, Ext.refl e2, rv.mono e1⟩
theorem walks_str {K : PySem.W.Frag} {F : Hp} {z : Str} (hl : z.cps.size ≤ sizeLine) : Walks K (Its z) F (z.cps.toList.map fun c => .str ⟨#[c]⟩) := by
  refine ⟨by simpa using hl, ?_⟩
  intro F1 H1 e1 e2
  refine ⟨fun i d q => ?_, ?_⟩
  · rw [List.getElem?_map] at q
    cases hc : z.cps.toList[i]? with
    | none => rw [hc] at q; cases q
    | some c =>
      rw [hc] at q
      cases q
      have hc' : z.cps[i]? = some c := by simpa using hc
      have hl : i < z.cps.size := by
        rcases Nat.lt_or_ge i z.cps.size with h | h
        · exact h
        · rw [Array.getElem?_eq_none h] at hc'; cases hc'
      refine ⟨hl, fun x H' y => ?_⟩
      obtain ⟨rfl, c2, h2, rfl⟩ := y
      rw [hc'] at h2
      cases h2
      exact ⟨F1, Ext.refl e2, .str _⟩
  · show z.cps.size ≤ _
    simp
theorem it_seq {tg e : Expr} {m : Rs D} (h : EV X G W ρ e m) : IT X G W ρ tg e (m.bind fun d => Rs.of (itemsD d)) := by
  obtain ⟨t, p, q⟩ := h
  refine ⟨_, PI.or (pi_list p) (PI.or (pi_tup p) (pi_str p)), fun F0 σ F H R hh hp => ?_⟩
  cases m with
  | ok d =>
    obtain ⟨ds, hd, k⟩ := Post.of (o := itemsD d) hp
    cases d with
    | lst es =>
      cases hd
      refine .inl (q F0 σ F H _ hh fun v F' H' e1 r1 => ?_)
      cases r1 with
      | lst h1 l1 r1 => exact ⟨_, rfl, ⟨_, SqL.of (e1.sub _ _ h1)⟩, k _ F' H' e1 (walks_list (SqL.of h1) l1 r1)⟩
    | scr es =>
      cases hd
      refine .inl (q F0 σ F H _ hh fun v F' H' e1 r1 => ?_)
      cases r1 with
      | scr h1 l1 r1 => exact ⟨_, rfl, ⟨_, SqL.same e1.sub h1⟩, k _ F' H' e1 (walks_list h1 l1 r1)⟩
    | tup es =>
      cases hd
      refine .inr (.inl (q F0 σ F H _ hh fun v F' H' e1 r1 => ?_))
      cases r1 with
      | tup h1 l1 r1 => exact ⟨_, rfl, ⟨_, SqT.same e1.sub h1.sq⟩, k _ F' H' e1 (walks_tup h1.sq l1 r1)⟩
    | tupL es =>
      cases hd
      refine .inr (.inl (q F0 σ F H _ hh fun v F' H' e1 r1 => ?_))
      cases r1 with
      | tupL h1 _ l1 r1 => exact ⟨_, rfl, ⟨_, SqT.same e1.sub (sqT_frz h1)⟩, k _ F' H' e1 (walks_tup (sqT_frz h1) l1 r1)⟩
    | str z =>
      simp only [itemsD] at hd
      split at hd
      · rename_i hl
        cases hd
        refine .inr (.inr (q F0 σ F H _ hh fun v F' H' e1 r1 => ?_))
        cases r1 with
        | str _ => exact ⟨z, rfl, k _ F' H' e1 (walks_str hl)⟩
      · cases hd
    | _ => cases hd
  | ex c fs => exact .inl (q F0 σ F H _ hh hp)
  | no => exact hp.elim
theorem walks_range {K : PySem.W.Frag} {F : Hp} {lo : Int} {n : Nat} (hl : n ≤ sizeLine) : Walks K (Itr lo n) F ((List.range n).map fun (i : Nat) => D.int (lo + (i : Int))) := by
  refine ⟨by simpa using hl, ?_⟩
  intro F1 H1 e1 e2
  refine ⟨fun i d q => ?_, ?_⟩
  · rw [List.getElem?_map] at q
    have hi : i < n := by
      rcases Nat.lt_or_ge i n with h | h
      · exact h
      · rw [List.getElem?_eq_none (by simpa using h)] at q; cases q
    rw [List.getElem?_range hi] at q
    cases q
    refine ⟨hi, fun x H' y => ?_⟩
    obtain ⟨rfl, rfl⟩ := y
    exact ⟨F1, Ext.refl e2, .int _⟩
  · show n ≤ _
    simp
def rangeL (lo : Int) (n : Nat) : List D := (List.range n).map fun (i : Nat) => D.int (lo + (i : Int))
def rangeD : D → Option (List D)
  | .int n => if n.natAbs < 16000000 then some (rangeL 0 n.toNat) else none
  | _ => none
theorem it_range {tg e : Expr} {p pos : Pos} {m : Rs D} (hg : Gl X "range") (hm : X.mg "range" = none) (h : EV X G W ρ e m) (hs : starEach [e] X.env = (false, eval e X.env) :: starEach [] X.env := by rfl) (hs2 : starEach [] X.env = [] := by rfl) :
    IT X G W ρ tg (.Call (.Name "range" p) [e] [] pos) (m.bind fun d => Rs.of (rangeD d)) := by
  obtain ⟨t, pe, q⟩ := h
  refine ⟨_, pi_range1 hg hm (pa_cons pe pa_nil hs) (hs.trans (by rw [hs2])), fun F0 σ F H R hh hp => ?_⟩
  refine q F0 σ F H _ hh (hp.bind fun d v F' H' e1 r1 hp1 => ?_)
  obtain ⟨ds, hd, k⟩ := hp1.of
  cases d with
  | int n =>
    cases r1
    simp only [rangeD] at hd
    split at hd
    · rename_i hn
      cases hd
      exact ⟨n, rfl, by omega, by omega, k _ F' H' (Ext.refl e1.sub) (walks_range (Nat.le_trans (by omega : n.toNat ≤ 16000000) (by decide)))⟩
    · cases hd
  | _ => cases hd
theorem wipe_set {i : Nat} {x : Option V} : ∀ {vs : List Nat} {σ : St}, i ∈ vs → wipe (σ.set i x) vs = wipe σ vs
  | [], _, h => by cases h
  | v :: vs, σ, h => by
    simp only [wipe]
    by_cases e : i ∈ vs
    · rw [wipe_set e]
    · have ev : i = v := by
        rcases List.mem_cons.mp h with z | z
        · exact z
        · exact absurd z e
      subst ev
      rw [wipe_comm e]
      simp
where wipe_comm {i : Nat} {x : Option V} : ∀ {vs : List Nat} {σ : St}, i ∉ vs → wipe (σ.set i x) vs = (wipe σ vs).set i x
  | [], _, _ => rfl
  | v :: vs, σ, h => by
    simp only [List.mem_cons, not_or] at h
    simp only [wipe]
    rw [wipe_comm h.2]
    exact List.set_comm _ _ h.1
def tAnyG (X : Cx) (tg : Expr) : TG := fun v σ H Q => ∃ g, PG X tg g ∧ g v σ H Q
theorem pg_any {tg : Expr} : PG X tg (tAnyG X tg) := ⟨fun pins s σ H v u Q I r ⟨_, p, h⟩ => p.run pins s σ H v u Q I r h⟩
def TT1 (X : Cx) (G : Gd) (tg : Expr) (ρ : Rho) (is : List Nat) {γ : Type} (u : D → Option γ) (p : γ → Rho) : Prop :=
  ∀ F0 σ F H v d z Q, Holds X.K (G.at F0) ρ σ F H → Rep X.K F v d → u d = some z → (∀ σ', (∀ vs : List Nat, (∀ i ∈ is, i ∈ vs) → wipe σ' vs = wipe σ vs) → Holds X.K (G.at F0) (p z) σ' F H → Q σ' H) → tAnyG X tg v σ H Q
theorem tt_name {i : Nat} {x : Str} {pos : Pos} (nd : X.N.Nodup) (hi : X.N[i]? = some x := by rfl) (hx : Loc X.env.scope x := by first | exact Or.inl rfl | exact Or.inr rfl) (hf : X.fn x = true ∨ X.env.scope.names.lookup x = some .local := by first | exact .inl rfl | exact .inr rfl)
    (hl : i < ρ.length := by exact Nat.le_of_ble_eq_true rfl) : TT1 X G (.Name x pos) ρ [i] some (fun d => ρ.set i (some (.val d))) := by
  intro F0 σ F H v d z Q hh r e k
  cases e
  exact ⟨_, pg_name nd hi hx hf, k _ (fun vs hv => wipe_set (hv i (by simp))) (hh.setV r hl)⟩
def un2 : D → Option (D × D)
  | .tup [a, b] => some (a, b)
  | _ => none
theorem tt_2 {i j k : Nat} {a b : Expr} {pos : Pos} (hc : X.calm = true) (ha : PG X a (gName i)) (hb : PG X b (gName j)) (hl : i < ρ.length := by exact Nat.le_of_ble_eq_true rfl) (hl2 : j < ρ.length := by exact Nat.le_of_ble_eq_true rfl)
    (h1 : (assignEach [a, b] X.env).map (·.2) = assign a X.env :: (assignEach [b] X.env).map (·.2) := by rfl) (h2 : (assignEach [b] X.env).map (·.2) = assign b X.env :: (assignEach [] X.env).map (·.2) := by rfl)
    (hn : (assignEach [a, b] X.env).length = 2 := by rfl) (hst : (assignEach [a, b] X.env).findIdx? (·.1) = none := by rfl) :
    TT1 X G (.Tuple [a, b] k pos) ρ [i, j] un2 (fun z => (ρ.set i (some (.val z.1))).set j (some (.val z.2))) := by
  intro F0 σ F H v d z Q hh r e kk
  refine ⟨_, pg_tup hc (pgs_cons ha (pgs_cons hb pgs_nil h2) h1) hn hst, ?_⟩
  unfold un2 at e
  split at e
  · cases e
    cases r with
    | tup h l r =>
      cases r with
      | cons r1 r =>
        cases r with
        | cons r2 r =>
          cases r
          refine ⟨_, _, rfl, SqT.same hh.sub h.sq, rfl, _, _, rfl, _, _, rfl, rfl, ?_⟩
          exact kk _ (fun vs hv => (wipe_set (hv j (by simp))).trans (wipe_set (hv i (by simp)))) ((hh.setV r1 hl).setV r2 (by simpa using hl2))
  · cases e
theorem Gnd.rebase {K : PySem.W.Frag} {F0 F H : Hp} (g : Gnd K (G.at F0) F H) : Gnd K (G.at F) F H := ⟨g.sub, g.base, g.bsT, Same.refl F, fun _ _ h => .inl h⟩
theorem Holds.rebase {K : PySem.W.Frag} {F0 F H : Hp} {σ : St} (h : Holds K (G.at F0) ρ σ F H) : Holds K (G.at F) ρ σ F H := ⟨h.toGnd.rebase, h.val, h.own, h.sep, h.len⟩
theorem Gnd.unbase {K : PySem.W.Frag} {F0 F1 H1 F H : Hp} (g : Gnd K (G.at F0) F1 H1) (h : Gnd K (G.at F1) F H) : Gnd K (G.at F0) F H :=
  ⟨h.sub, h.base, h.bsT, g.ext.trans h.ext, fun a o q => by
    rcases h.new a o q with z | z
    · exact g.new a o z
    · exact .inr z⟩
theorem Holds.unbase {K : PySem.W.Frag} {F0 F1 H1 F H : Hp} {σ : St} (g : Gnd K (G.at F0) F1 H1) (h : Holds K (G.at F1) ρ σ F H) : Holds K (G.at F0) ρ σ F H := ⟨g.unbase h.toGnd, h.val, h.own, h.sep, h.len⟩
theorem PostS.rebase {K : PySem.W.Frag} {F0 F1 H1 : Hp} {E : Ends} {m : Rs (Fl α β)} (g : Gnd K (G.at F0) F1 H1) (h : PostS K (G.at F0) W ρx pn pl E m) : PostS K (G.at F1) W ρx pn pl E m := by
  cases m with
  | ok f =>
    cases f with
    | nx z => exact fun σ F H hh => h σ F H (hh.unbase g)
    | bk z => exact fun σ F H hh => h σ F H (hh.unbase g)
    | ct z => exact fun σ F H hh => h σ F H (hh.unbase g)
    | rt d s => exact fun v F H hh => h v F H (g.unbase hh)
  | ex c fs => exact fun dd σ F H hh => h dd σ F H (hh.unbase g)
  | no => exact h
def loopM {ε β : Type} (f : ε → D → Rs (Fl ε ε)) : List D → ε → Rs (Fl ε β)
  | [], z => .ok (.nx z)
  | d :: ds, z => (f z d).bind fun r => match r with
    | .nx z' => loopM f ds z'
    | .ct z' => loopM f ds z'
    | .bk z' => .ok (.nx z')
    | .rt v s => .ok (.rt v s)
theorem bk_for {ε γ : Type} {post : ε → Rho} {u : D → Option γ} {p : ε → γ → Rho} {tg iter : Expr} {body : List Stmt} {pos : Pos} {mi : Rs (List D)} {fb : ε → γ → Rs (Fl ε ε)} {z0 : ε} {f : ε → Rs (Fl α β)}
    (po : PassesOwn (model X.prog X.w) X.A X.env X.xe) (calm : X.calm = true) (hi : IT X G W ρ tg iter mi) (h0 : Wk ρ (post z0)) {is : List Nat} (ht : ∀ z, TT1 X G tg (post z) is u (p z)) (hb : ∀ z y, BK X G W ρx (p z y) body post post (fb z y))
    (hr : ∀ z, BK X G W ρx (post z) rest pn pl (f z)) (wx : Wk ρ ρx := by first | exact Wk.nil | exact Wk.refl | (repeat (first | exact Wk.nil | apply Wk.keep | apply Wk.drop))) (hs : ∀ x, foldedSetIterable iter X.env x = pure x := by intro _; rfl) :
    BK X G W ρx ρ (.For tg iter body [] pos :: rest) pn pl (mi.bind fun items => (loopM (fun z d => (Rs.of (u d)).bind (fb z)) items z0).bind (Fl.andThen f)) := by
  obtain ⟨wi, pI, qI⟩ := hi
  intro F0 σ F H E hh hp
  refine any_cons (ps_for po calm pI pg_any pss_any hs) ?_
  refine qI F0 σ F H _ hh (post_seq hh wx hp fun items J F1 H1 e1 hw hp1 => ?_)
  have hh1 := (hh.more e1).weak h0
  refine ⟨fun i m σ H => m = items.length - i ∧ i ≤ items.length ∧ ∃ z F, Holds X.K (G.at F0) (post z) σ F H ∧ Same F1 F ∧ PostS X.K (G.at F0) W ρx pn pl E ((loopM (fun z d => (Rs.of (u d)).bind (fb z)) (items.drop i) z).bind (Fl.andThen f)),
    ⟨items.length, by simp, Nat.zero_le _, z0, F1, hh1, Same.refl F1, hp1⟩, ?_⟩
  rintro i m σ2 H2 ⟨rfl, hil, z, F2, hh2, s2, hp2⟩
  obtain ⟨wgo, wstop⟩ := hw.2 F2 H2 s2 hh2.sub
  by_cases hlt : i < items.length
  · have hg : items[i]? = some items[i] := List.getElem?_eq_getElem hlt
    obtain ⟨g1, g2⟩ := wgo i _ hg
    rw [List.drop_eq_getElem_cons hlt] at hp2
    refine .inr ⟨g1, fun σ' H' => ∃ z' F', Holds X.K (G.at F0) (post z') σ' F' H' ∧ Same F1 F' ∧ PostS X.K (G.at F0) W ρx pn pl E ((loopM (fun z d => (Rs.of (u d)).bind (fb z)) (items.drop (i + 1)) z').bind (Fl.andThen f)), fun σ' H' ⟨z', F', q1, q2, q3⟩ => ⟨items.length - (i + 1), by omega, rfl, hlt, z', F', q1, q2, q3⟩, fun x H' y => ?_⟩
    obtain ⟨F3, e3, r3⟩ := g2 x H' y
    have hh3 := hh2.more e3
    simp only [loopM] at hp2
    cases hu : u items[i] with
    | none =>
      rw [hu] at hp2
      exact hp2.elim
    | some y =>
      rw [hu] at hp2
      simp only [Rs.of_some, Rs.bind_ok] at hp2
      refine ht z F0 σ2 F3 H' x _ y _ hh3 r3 hu fun σ4 _ hh4 => ?_
      refine hb z y F3 σ4 F3 H' _ hh4.rebase ?_
      cases hfb : fb z y with
      | no =>
        rw [hfb] at hp2
        exact hp2
      | ex c fs =>
        rw [hfb] at hp2
        exact PostS.rebase (W := W) (m := (Rs.ex c fs : Rs (Fl α β))) (pn := pn) (pl := pl) (E := E) hh4.toGnd hp2
      | ok fl =>
        rw [hfb] at hp2
        simp only [Rs.bind_ok] at hp2
        cases fl with
        | nx z' => exact fun σ5 F5 H5 hh5 => ⟨z', F5, hh5.unbase hh4.toGnd, (s2.trans e3.ext).trans hh5.ext, hp2⟩
        | ct z' => exact fun σ5 F5 H5 hh5 => ⟨z', F5, hh5.unbase hh4.toGnd, (s2.trans e3.ext).trans hh5.ext, hp2⟩
        | bk z' => exact fun σ5 F5 H5 hh5 => hr z' F0 σ5 F5 H5 E (hh5.unbase hh4.toGnd) hp2
        | rt v s => exact fun v2 F5 H5 hh5 => hp2 v2 F5 H5 (hh4.toGnd.unbase hh5)
  · have ei : i = items.length := by omega
    subst ei
    rw [List.drop_length] at hp2
    exact .inl ⟨wstop, hr z F0 σ2 F2 H2 E hh2 hp2⟩
def whileM {ε β : Type} (c : ε → Rs Bool) (f : ε → Rs (Fl ε ε)) : Nat → ε → Rs (Fl ε β)
  | 0, _ => .no
  | n + 1, z => (c z).bind fun k => if k then (f z).bind fun r => (match r with
    | .nx z' => whileM c f n z'
    | .ct z' => whileM c f n z'
    | .bk z' => .ok (.nx z')
    | .rt v s => .ok (.rt v s)) else .ok (.nx z)
theorem bk_while {ε : Type} {post : ε → Rho} {c : Expr} {body : List Stmt} {pos : Pos} {fc : ε → Rs Bool} {fb : ε → Rs (Fl ε ε)} {z0 : ε} {f : ε → Rs (Fl α β)} {n : Nat}
    (po : PassesOwn (model X.prog X.w) X.A X.env X.xe) (h0 : Wk ρ (post z0)) (hc : ∀ z, TV X G W (post z) c (fc z)) (hb : ∀ z, BK X G W ρx (post z) body post post (fb z))
    (hr : ∀ z, BK X G W ρx (post z) rest pn pl (f z)) (wx : ∀ z, Wk (post z) ρx := by exact fun _ => Wk.nil) :
    BK X G W ρx ρ (.While c body [] pos :: rest) pn pl ((whileM fc fb n z0).bind (Fl.andThen f)) := by
  intro F0 σ F H E hh hp
  refine any_cons (ps_while (tc := fun σ H Q => ∃ t, PT X c t ∧ t σ H Q) po ⟨fun pins s σ H Q I ⟨_, p, h⟩ => p.run pins s σ H Q I h⟩ pss_any) ?_
  refine ⟨fun m σ H => ∃ z F, Holds X.K (G.at F0) (post z) σ F H ∧ PostS X.K (G.at F0) W ρx pn pl E ((whileM fc fb m z).bind (Fl.andThen f)), ⟨n, z0, F, hh.weak h0, hp⟩, ?_⟩
  rintro m σ1 H1 ⟨z, F1, hh1, hp1⟩
  cases m with
  | zero => exact hp1.elim
  | succ m =>
    obtain ⟨t, pt, qt⟩ := hc z
    refine ⟨t, pt, qt F0 σ1 F1 H1 _ hh1 ?_⟩
    simp only [whileM] at hp1
    cases hfc : fc z with
    | no => rw [hfc] at hp1; exact hp1
    | ex cc fs =>
      rw [hfc] at hp1
      exact fun dd F2 H2 e2 r => hp1 dd σ1 F2 H2 ((hh1.more e2).weak (wx z)) r
    | ok k =>
      rw [hfc] at hp1
      intro v F2 H2 e2 r2
      cases r2
      have hh2 := hh1.more e2
      cases k with
      | false => exact iteF (hr z F0 σ1 F2 H2 E hh2 hp1)
      | true =>
        refine iteT ⟨fun σ' H' => ∃ z' F', Holds X.K (G.at F0) (post z') σ' F' H' ∧ PostS X.K (G.at F0) W ρx pn pl E ((whileM fc fb m z').bind (Fl.andThen f)), fun σ' H' ⟨z', F', q1, q2⟩ => ⟨m, Nat.lt_succ_self m, z', F', q1, q2⟩, ?_⟩
        refine hb z F0 σ1 F2 H2 _ hh2 ?_
        simp only [Rs.bind_ok, if_true] at hp1
        cases hfb : fb z with
        | no => rw [hfb] at hp1; exact hp1
        | ex cc fs => rw [hfb] at hp1; exact hp1
        | ok fl =>
          rw [hfb] at hp1
          simp only [Rs.bind_ok] at hp1
          cases fl with
          | nx z' => exact fun σ5 F5 H5 hh5 => ⟨z', F5, hh5, hp1⟩
          | ct z' => exact fun σ5 F5 H5 hh5 => ⟨z', F5, hh5, hp1⟩
          | bk z' => exact fun σ5 F5 H5 hh5 => hr z' F0 σ5 F5 H5 E hh5 hp1
          | rt v s => exact fun v2 F5 H5 hh5 => hp1 v2 F5 H5 hh5
end
end VL
set_option Elab.async false
set_option linter.all false
set_option maxRecDepth 100000
set_option autoImplicit false
namespace VL
open PySem PySem.Spec L2
open PyProof.Rows hiding St
def Rs.noX {α : Type} : Rs α → Rs α
  | .ex _ _ => .no
  | m => m
@[simp] theorem Rs.noX_ok {α : Type} (a : α) : (Rs.ok a).noX = .ok a := rfl
@[simp] theorem Rs.noX_ex {α : Type} (c : Str) (fs : List (Str × D)) : (Rs.ex c fs : Rs α).noX = .no := rfl
@[simp] theorem Rs.noX_no {α : Type} : (Rs.no : Rs α).noX = .no := rfl
def compM {γ : Type} (u : D → Option γ) (fc : γ → Rs Bool) (fe : γ → Rs D) : List D → Rs (List D)
  | [] => .ok []
  | d :: ds => (Rs.of (u d)).bind fun y => (fc y).noX.bind fun b => if b then (fe y).noX.bind fun e => (compM u fc fe ds).bind fun es => .ok (e :: es) else compM u fc fe ds
def rWipe (ρ : Rho) : List Nat → Rho
  | [] => ρ
  | v :: vs => (rWipe ρ vs).set v none
theorem rWipe_at {ρ : Rho} {i : Nat} {c : Cl} : ∀ {vs : List Nat}, (rWipe ρ vs)[i]? = some (some c) → i ∉ vs ∧ ρ[i]? = some (some c)
  | [], h => ⟨by simp, h⟩
  | v :: vs, h => by
    rcases set_at h with ⟨rfl, z⟩ | ⟨n, z⟩
    · cases z
    · obtain ⟨h1, h2⟩ := rWipe_at z
      exact ⟨by simp only [List.mem_cons, not_or]; exact ⟨fun e => n e.symm, h1⟩, h2⟩
theorem rWipe_len {ρ : Rho} : ∀ {vs : List Nat}, (rWipe ρ vs).length = ρ.length
  | [] => rfl
  | v :: vs => by simp only [rWipe, List.length_set]; exact rWipe_len
theorem wipe_get {σ : St} {i : Nat} : ∀ {vs : List Nat}, i ∉ vs → (wipe σ vs)[i]? = σ[i]?
  | [], _ => rfl
  | v :: vs, h => by
    simp only [List.mem_cons, not_or] at h
    simp only [wipe]
    rw [List.getElem?_set_ne (fun e => h.1 e.symm)]
    exact wipe_get h.2
theorem wipe_wipe {σ : St} : ∀ {vs ws : List Nat}, (∀ i ∈ ws, i ∈ vs) → wipe (wipe σ ws) vs = wipe σ vs
  | vs, [], _ => rfl
  | vs, v :: ws, h => by
    show wipe ((wipe σ ws).set v none) vs = wipe σ vs
    rw [wipe_set (h v (by simp))]
    exact wipe_wipe fun i hi => h i (by simp [hi])
section
variable {K : PySem.W.Frag} {G : Gd} {ρ : Rho} {σ : St} {F H : Hp}
theorem Holds.wipe (h : Holds K G ρ σ F H) (vs : List Nat) : Holds K G (rWipe ρ vs) (L2.wipe σ vs) F H where
  toGnd := h.toGnd
  val := fun i d q => by
    obtain ⟨h1, h2⟩ := rWipe_at q
    rw [wipe_get h1]
    exact h.val i d h2
  own := fun i l d q => by
    obtain ⟨h1, h2⟩ := rWipe_at q
    rw [wipe_get h1]
    exact h.own i l d h2
  sep := fun i j l m d e a n q1 q2 => by
    obtain ⟨h1, h2⟩ := rWipe_at q1
    obtain ⟨h3, h4⟩ := rWipe_at q2
    rw [wipe_get h1, wipe_get h3]
    exact h.sep i j l m d e a n h2 h4
  len := by rw [rWipe_len, wipe_length]; exact h.len
theorem Holds.free {p : Addr} {o : HO} (h : Holds K G ρ σ F H) (hf : F p = none) (h0 : G.H0 p = none ∧ p ∉ G.bs) (hn : ∀ (j : Nat) (l : Bool) (e : D), ρ[j]? = some (some (.own l e)) → σ[j]? ≠ some (some (.ref p))) : Holds K G ρ σ F (upd H p o) where
  sub := fun b x q => by
    have e : b ≠ p := fun e => by
      subst e
      rw [hf] at q
      cases q
    rw [upd_ne e]
    exact h.sub _ _ q
  base := fun b x q nb => by
    have e : b ≠ p := fun e => by
      subst e
      rw [h0.1] at q
      cases q
    rw [upd_ne e]
    exact h.base _ _ q nb
  bsT := fun b hb => by
    have e : b ≠ p := fun e => by
      subst e
      exact h0.2 hb
    rw [upd_ne e]
    exact h.bsT b hb
  ext := h.ext
  new := h.new
  val := h.val
  own := fun i l d q => by
    obtain ⟨a, h1, h2, h3, h4⟩ := h.own i l d q
    have e : a ≠ p := fun e => by
      subst e
      exact hn i l d q h1
    exact ⟨a, h1, h2, h3, h4.move (Same.refl F) (upd_ne e)⟩
  sep := h.sep
  len := h.len
theorem Gnd.free0 {p : Addr} (g : Gnd K G F H) (h : H p = none) : G.H0 p = none ∧ p ∉ G.bs := by
  refine ⟨?_, fun hb => ?_⟩
  · cases q0 : G.H0 p with
    | none => rfl
    | some o =>
      by_cases hb : p ∈ G.bs
      · obtain ⟨o2, q2, _⟩ := g.bsT p hb
        rw [h] at q2
        cases q2
      · rw [g.base p o q0 hb] at h
        cases h
  · obtain ⟨o2, q2, _⟩ := g.bsT p hb
    rw [h] at q2
    cases q2
theorem Holds.notOwn {p : Addr} (hh : Holds K G ρ σ F H) (h : H p = none) (j : Nat) (l : Bool) (e : D) (q : ρ[j]? = some (some (.own l e))) : σ[j]? ≠ some (some (.ref p)) := fun s => by
  obtain ⟨b, h1, h2, h3, h4⟩ := hh.own j l e q
  rw [h1] at s
  cases s
  obtain ⟨o, ho, nt_⟩ := h4.there
  rw [h] at ho
  cases ho
end
theorem Ext.beside {F1 H1 F H : Hp} {p : Addr} {o : HO} (e : Ext F1 H1 F H) (h1 : H1 p = none) (hf : F p = none) : Ext F1 H1 F (upd H p o) :=
  ⟨fun b x q => by
    rw [upd_ne (ne_of_none q h1)]
    exact e.same _ _ q, fun b x q => by
    have n : b ≠ p := fun n => by
      subst n
      rw [hf] at q
      cases q
    rw [upd_ne n]
    exact e.sub _ _ q, e.ext, e.new⟩
theorem Ext.stays {F H F' H' : Hp} {p : Addr} {o : HO} (e : Ext F H F' H') (hf : F p = none) (h : H p = some o) (t : nT o) : F' p = none := by
  cases q : F' p with
  | none => rfl
  | some u =>
    rcases e.new p u q with z | z
    · rw [hf] at z
      cases z
    · exact (z.not h t).elim
abbrev W0 : WX := fun _ _ _ _ => False
section
variable {X : Cx} {G : Gd} {W : WX} {ρ : Rho}
abbrev XB (X : Cx) (scope : Scope) (s : Shared) (H : Hp) (C : Addr) (cl : List (Str × Addr)) (fp : List Addr) : Cx := X.blk s H scope (compEnvC scope cl C X.env) fp
abbrev gAll (X : Cx) (scope : Scope) (tg : Expr) : TG := fun v σ H Q => ∀ s H0 C cl fp, tAnyG (XB X scope s H0 C cl fp) tg v σ H Q
abbrev ttAll (X : Cx) (scope : Scope) (ifs : List Expr) : TT := fun σ H Q => ∀ s H0 C cl fp, ∃ t, PTs (XB X scope s H0 C cl fp) ifs t ∧ t σ H Q
abbrev teAll (X : Cx) (scope : Scope) (e : Expr) : TE := fun σ H Q => ∀ s H0 C cl fp, ∃ t, PE (XB X scope s H0 C cl fp) e t ∧ t σ H Q
theorem hgAll {scope : Scope} {tg : Expr} (s : Shared) (H : Hp) (C : Addr) (cl : List (Str × Addr)) (fp : List Addr) : PG (XB X scope s H C cl fp) tg (gAll X scope tg) :=
  ⟨fun pins s1 σ H1 v u Q I r h => by
    obtain ⟨g, p, q⟩ := h s H C cl fp
    exact p.run pins s1 σ H1 v u Q I r q⟩
theorem htAll {scope : Scope} {ifs : List Expr} (s : Shared) (H : Hp) (C : Addr) (cl : List (Str × Addr)) (fp : List Addr) : PTs (XB X scope s H C cl fp) ifs (ttAll X scope ifs) :=
  ⟨fun pins s1 σ H1 Q I h => by
    obtain ⟨g, p, q⟩ := h s H C cl fp
    exact p.run pins s1 σ H1 Q I q⟩
theorem heAll {scope : Scope} {e : Expr} (s : Shared) (H : Hp) (C : Addr) (cl : List (Str × Addr)) (fp : List Addr) : PE (XB X scope s H C cl fp) e (teAll X scope e) :=
  ⟨fun pins s1 σ H1 Q I h => by
    obtain ⟨g, p, q⟩ := h s H C cl fp
    exact p.run pins s1 σ H1 Q I q⟩
def TVs (X : Cx) (G : Gd) (W : WX) (ρ : Rho) (ifs : List Expr) (m : Rs Bool) : Prop :=
  ∃ t, PTs X ifs t ∧ ∀ F0 σ F H Q, Holds X.K (G.at F0) ρ σ F H → Post X.K RB (fun c d H => W c d σ H) F H Q m → t σ H Q
theorem tvs_nil : TVs X G W ρ [] (.ok true) := ⟨_, pts_nil, fun F0 σ F H Q hh hp => hp true F H (Ext.refl hh.sub) rfl⟩
theorem tvs_one {c : Expr} {m : Rs Bool} (h : TV X G W ρ c m) : TVs X G W ρ [c] m := by
  obtain ⟨t, p, q⟩ := h
  exact ⟨t, pts_one p, q⟩
theorem post_noX {α β : Type} {K : PySem.W.Frag} {Rl : Hp → Hp → α → β → Prop} {E : XK} {F H : Hp} {Q : α → Hp → Prop} {m : Rs β} (h : ∀ d, m = .ok d → ∀ v F' H', Ext F H F' H' → Rl F' H' v d → Q v H') (hn : m.noX ≠ .no) : Post K Rl E F H Q m := by
  cases m with
  | ok d => exact h d rfl
  | ex c fs => exact absurd rfl hn
  | no => exact absurd rfl hn
theorem lc_read {γ : Type} {u : D → Option γ} {p : γ → Rho} {is vs : List Nat} {tg elt : Expr} {ifs : List Expr} {scope : Scope} {wi : TI} {mi : Rs (List D)} {fc : γ → Rs Bool} {fe : γ → Rs D}
    (qI : ∀ F0 σ F H R, Holds X.K (G.at F0) ρ σ F H → Post X.K (fun F' _ J ds => Walks X.K J F' ds) (fun c d H => W c d σ H) F H R mi → wi σ H R) (his : ∀ i ∈ is, i ∈ vs)
    (ht : ∀ s H C cl fp, TT1 (XB X scope s H C cl fp) G tg (rWipe ρ vs) is u p) (hc : ∀ s H C cl fp y, TVs (XB X scope s H C cl fp) G W0 (p y) ifs (fc y)) (he : ∀ s H C cl fp y, EV (XB X scope s H C cl fp) G W0 (p y) elt (fe y))
    {F0 : Hp} {σ : St} {F H : Hp} {Q : VK} (hh : Holds X.K (G.at F0) ρ σ F H) (hp : Post X.K (RN X.K H) (fun c d H => W c d σ H) F H Q (mi.bind fun items => compM u fc fe items)) :
    tLc wi (gAll X scope tg) (ttAll X scope ifs) (teAll X scope elt) vs σ H Q := by
  refine qI F0 σ F H _ hh ?_
  cases mi with
  | ex c fs => exact hp
  | no => exact hp
  | ok items =>
  intro J F1 H1 e1 hw D0 hD
  have hh1 := hh.more e1
  have hDH : H D0 = none := e1.same.free hD
  have h0 := hh1.toGnd.free0 hD
  have hno := fun j l e q => hh1.notOwn hD j l e q
  have hFD : F1 D0 = none := sub_none e1.sub hD
  refine ⟨fun i m H2 => m = items.length - i ∧ i ≤ items.length ∧ ∃ F2 acc, Holds X.K (G.at F0) ρ σ F2 H2 ∧ Ext F1 H1 F2 H2 ∧ F2 D0 = none ∧ Own X.K F2 H2 D0 (.lst acc) ∧ acc.length ≤ i ∧
      Post X.K (RN X.K H) (fun c d H => W c d σ H) F H Q ((compM u fc fe (items.drop i)).bind fun es => .ok (acc ++ es)), ⟨items.length, by simp, Nat.zero_le _, F1, [], hh1.free hFD h0 hno, Ext.beside (Ext.refl e1.sub) hD hFD, hFD, .lst upd_same (Nat.zero_le _) .nil, Nat.zero_le _, ?_⟩, ?_⟩
  · show Post X.K (RN X.K H) _ F H Q ((compM u fc fe (items.drop 0)).bind fun es => .ok ([] ++ es))
    have e : ((compM u fc fe (items.drop 0)).bind fun es => (.ok ([] ++ es) : Rs (List D))) = compM u fc fe items := by
      rw [List.drop_zero]
      cases compM u fc fe items <;> rfl
    rw [e]
    exact hp
  · rintro i m H2 ⟨rfl, hil, F2, acc, hh2, x2, f2, o2, la, hp2⟩
    obtain ⟨wgo, wstop⟩ := hw.2 F2 H2 x2.ext hh2.sub
    by_cases hlt : i < items.length
    · have hg : items[i]? = some items[i] := List.getElem?_eq_getElem hlt
      obtain ⟨g1, g2⟩ := wgo i _ hg
      rw [List.drop_eq_getElem_cons hlt] at hp2
      refine .inr ⟨g1, fun H' => ∃ F' acc', Holds X.K (G.at F0) ρ σ F' H' ∧ Ext F1 H1 F' H' ∧ F' D0 = none ∧ Own X.K F' H' D0 (.lst acc') ∧ acc'.length ≤ i + 1 ∧ Post X.K (RN X.K H) (fun c d H => W c d σ H) F H Q ((compM u fc fe (items.drop (i + 1))).bind fun es => .ok (acc' ++ es)),
        fun H' ⟨F', acc', q1, q2, q3, q4, q5, q6⟩ => ⟨items.length - (i + 1), by omega, rfl, hlt, F', acc', q1, q2, q3, q4, q5, q6⟩, fun x H' y => ?_⟩
      obtain ⟨F3, e3, r3⟩ := g2 x H' y
      have hh3 := hh2.more e3
      have o3 := o2.ext e3
      obtain ⟨xs2, q2', _, _⟩ := o2.asL
      have f3 := e3.stays f2 q2' (fun _ z => nomatch z)
      simp only [compM] at hp2
      cases hu : u items[i] with
      | none =>
        rw [hu] at hp2
        exact hp2.elim
      | some y =>
        rw [hu] at hp2
        simp only [Rs.of_some, Rs.bind_ok] at hp2
        intro s' H0' C' cl' fp'
        refine ht s' H0' C' cl' fp' F0 _ F3 H' x _ y _ (hh3.wipe vs) r3 hu fun σ4 w4 hh4 => ⟨?_, ?_⟩
        · rw [w4 vs his]
          exact wipe_wipe fun i hi => hi
        intro s5 H05 C5 cl5 fp5
        obtain ⟨t5, p5, q5⟩ := hc s5 H05 C5 cl5 fp5 y
        refine ⟨t5, p5, q5 F0 σ4 F3 H' _ hh4 (post_noX (fun b hb v F4 H4 e4 rb => ?_) fun hn => ?_)⟩
        · cases rb
          rw [hb] at hp2
          simp only [Rs.noX_ok, Rs.bind_ok] at hp2
          have hh4' := hh3.more e4
          have o4 := o3.ext e4
          obtain ⟨xs3, q3', _, _⟩ := o3.asL
          have f4 := e4.stays f3 q3' (fun _ z => nomatch z)
          cases b with
          | true =>
            refine iteT ?_
            intro s6 H06 C6 cl6 fp6
            obtain ⟨t6, p6, q6⟩ := he s6 H06 C6 cl6 fp6 y
            refine ⟨t6, p6, q6 F0 σ4 F4 H4 _ (hh4.more e4) (post_noX (fun d hd v F5 H5 e5 r5 => ?_) fun hn => ?_)⟩
            · simp only [if_true] at hp2
              rw [hd] at hp2
              simp only [Rs.noX_ok, Rs.bind_ok] at hp2
              have hh5 := hh4'.more e5
              have o5 := o4.ext e5
              obtain ⟨xs4, q4', _, _⟩ := o4.asL
              have f5 := e5.stays f4 q4' (fun _ z => nomatch z)
              obtain ⟨xs5, q5', l5, r5'⟩ := o5.asL
              have lx : xs5.length < sizeLine := by
                rw [r5'.length]
                have := hw.1
                omega
              refine ⟨xs5, q5', lx, F5, acc ++ [d], hh5.free f5 h0 hno, Ext.beside (x2.trans (e3.trans (e4.trans e5))) hD f5, f5, .lst upd_same ?_ (r5'.append (.one r5)), ?_, ?_⟩
              · rw [List.length_append, List.length_singleton]
                exact lx
              · rw [List.length_append, List.length_singleton]
                omega
              · have e : ((compM u fc fe (items.drop (i + 1))).bind fun es => (.ok (acc ++ [d] ++ es) : Rs (List D))) = (((compM u fc fe (items.drop (i + 1))).bind fun es => (.ok (d :: es) : Rs (List D))).bind fun es => .ok (acc ++ es)) := by
                  cases compM u fc fe (items.drop (i + 1)) with
                  | ok es => simp
                  | ex _ _ => rfl
                  | no => rfl
                rw [e]
                exact hp2
            · simp only [if_true] at hp2
              rw [hn] at hp2
              exact hp2.elim
          | false =>
            refine iteF ⟨F4, acc, hh4', x2.trans (e3.trans e4), f4, o4, by omega, ?_⟩
            simpa using hp2
        · rw [hn] at hp2
          exact hp2.elim
    · have ei : i = items.length := by omega
      subst ei
      rw [List.drop_length] at hp2
      simp only [compM, Rs.bind_ok, List.append_nil] at hp2
      exact .inl ⟨wstop, hp2 (.ref D0) F2 H2 (e1.trans x2) ⟨D0, rfl, hDH, f2, o2⟩⟩
theorem ef_comp {γ : Type} {u : D → Option γ} {p : γ → Rho} {is : List Nat} {own : List (Str × Nat)} {tg iter elt : Expr} {ifs : List Expr} {scope : Scope} {pos : Pos} {mi : Rs (List D)} {fc : γ → Rs Bool} {fe : γ → Rs D}
    (calm : X.calm = true) (nd : X.N.Nodup) (hi : IT X G W ρ tg iter mi) (ok : BlkOk X.N X.env.scope scope own) (his : ∀ i ∈ is, i ∈ own.map (·.2))
    (ht : ∀ s H C cl fp, TT1 (XB X scope s H C cl fp) G tg (rWipe ρ (own.map (·.2))) is u p) (hc : ∀ s H C cl fp y, TVs (XB X scope s H C cl fp) G W0 (p y) ifs (fc y)) (he : ∀ s H C cl fp y, EV (XB X scope s H C cl fp) G W0 (p y) elt (fe y))
    (hs : ∀ x, foldedSetIterable iter X.env x = pure x := by intro _; rfl) : EF X G W ρ (.ListComp elt [⟨tg, iter, ifs, 0⟩] scope pos) (mi.bind fun items => compM u fc fe items) := by
  obtain ⟨wi, pI, qI⟩ := hi
  exact ⟨_, pe_lc calm nd pI ok hgAll htAll heAll hs, fun F0 σ F H Q hh hp => lc_read qI his ht hc he hh hp⟩
theorem EF.ev {e : Expr} {m : Rs (List D)} (h : EF X G W ρ e m) : EV X G W ρ e (m.bind fun ds => .ok (.lst ds)) := by
  obtain ⟨t, p, q⟩ := h
  refine ⟨t, p, fun F0 σ F H Q hh hp => q F0 σ F H Q hh ?_⟩
  cases m with
  | ex c fs => exact hp
  | no => exact hp
  | ok ds =>
    intro v F' H' e1 r1
    obtain ⟨a, rfl, hn, hf, ho⟩ := r1
    obtain ⟨o, ha, hr⟩ := ho.rep rfl e1.sub hf
    refine hp _ (upd F' a o) H' ⟨e1.same, fun b x q => ?_, e1.ext.trans (same_upd hf), fun b x q => ?_⟩ hr
    · by_cases e : b = a
      · subst e
        rw [upd_same] at q
        cases q
        exact ha
      · rw [upd_ne e] at q
        exact e1.sub _ _ q
    · by_cases e : b = a
      · subst e
        exact .inr (.inl hn)
      · rw [upd_ne e] at q
        exact e1.new _ _ q
def spM (K : PySem.W.Frag) (n : Nat) (m : List D → Rs D) : Sp := fun vs H Q E => vs.length = n ∧ ∃ F ds, Same F H ∧ Reps K F vs ds ∧ Post K (RF K) E F H Q (m ds)
abbrev Keeps (P : Program) (w : World) (K : PySem.W.Frag) (mg : Str → Option Value) (base : Heap) (k : Nat) (f : Addr) (fd : FuncData) (ps : List Str) (m : List D → Rs D) : Prop := FnOk P w K mg base (L2N.CX P w) k f fd ps (spM K ps.length m)
theorem ev_call {k : Nat} {f : Addr} {fd : FuncData} {ps : List Str} {m : List D → Rs D} {x : Str} {p pos : Pos} {e : Expr} {es : List Expr} {ms : Rs (List D)} (tk : L2N.Takes X W) (Fk : Keeps X.prog X.w X.K X.mg X.base k f fd ps m) (hr : Room k X.A) (hm : X.mg x = some (.ref f)) (hk : PySem.W.keepIn X.K (.ref f) = true)
    (hb : Binds X.K fd ps []) (ha : AV X G W ρ (e :: es) ms) (hln : (e :: es).length = ps.length := by rfl) (hg : Gl X x := by rfl) (hdb : (x == ("__debug__" : Str)) = false := by decide) (he : starEach (e :: es) X.env = (false, eval e X.env) :: starEach es X.env := by rfl)
    (hpl : (backTo pos (starEach es X.env)).any (·.1) = false := by rfl) : EV X G W ρ (.Call (.Name x p) (e :: es) [] pos) (ms.bind m) := by
  obtain ⟨ln, t, pa, qa⟩ := ha
  refine ⟨_, pe_callSD (E := WE W) Fk hr hg hm hk hb .nil (fun σ => L2N.passAt tk σ) pa hdb he hpl, fun F0 σ F H Q hh hp => ?_⟩
  refine qa F0 σ F H _ hh ?_
  cases ms with
  | ex c fs => exact hp
  | no => exact hp
  | ok ds =>
    intro vs F' H' e1 r1
    show spM X.K ps.length m (vs ++ []) H' Q _
    rw [List.append_nil]
    exact ⟨r1.length.trans ((ln ds rfl).trans hln), F', ds, e1.sub, r1, Post.more (m := m ds) hp e1⟩
theorem ev_call0 {k : Nat} {f : Addr} {fd : FuncData} {m : List D → Rs D} {x : Str} {p pos : Pos} (Fk : Keeps X.prog X.w X.K X.mg X.base k f fd [] m) (hr : Room k X.A) (hm : X.mg x = some (.ref f)) (hk : PySem.W.keepIn X.K (.ref f) = true)
    (hb : Binds X.K fd [] []) (hg : Gl X x := by rfl) (hdb : (x == ("__debug__" : Str)) = false := by decide) : EV X G W ρ (.Call (.Name x p) [] [] pos) ((m []).noX) := by
  refine ⟨_, pe_call0 (E := E0) Fk hr hg hm hk hb .nil passLN hdb, fun F0 σ F H Q hh hp => ?_⟩
  refine ⟨rfl, F, [], hh.sub, .nil, ?_⟩
  cases e : m [] with
  | ok d =>
    rw [e] at hp
    exact hp
  | ex c fs =>
    rw [e] at hp
    exact hp.elim
  | no =>
    rw [e] at hp
    exact hp.elim
theorem rho_start {ds : List D} {n i : Nat} {c : Cl} (h : (ds.map (fun d => some (Cl.val d)) ++ List.replicate n none)[i]? = some (some c)) : ∃ d, ds[i]? = some d ∧ c = .val d := by
  by_cases hl : i < ds.length
  · rw [List.getElem?_append_left (by simpa using hl), List.getElem?_map, List.getElem?_eq_getElem hl] at h
    cases h
    exact ⟨_, List.getElem?_eq_getElem hl, rfl⟩
  · rw [List.getElem?_append_right (by simpa using hl), List.getElem?_replicate] at h
    split at h <;> cases h
theorem gnd_ext {K : PySem.W.Frag} {F H F' H' : Hp} {F0 : Hp} (g : Gnd K (Gd.at ⟨F0, H, []⟩ F) F' H') : Ext F H F' H' :=
  ⟨fun a o q => g.base a o q (by simp [Gd.at]), g.sub, g.ext, fun a o q => by
    rcases g.new a o q with z | z
    · exact .inl z
    · rcases z with z | z
      · exact .inr (.inl z.1)
      · exact .inr (.inr ⟨z.1, z.2.1⟩)⟩
def Rs.ret (m : Rs (Fl Unit Unit)) : Rs D := m.bind fun f => match f with
  | .rt d _ => .ok d
  | .nx _ => .ok .non
  | _ => .no
theorem keeps_of {P : Program} {w : World} {K : PySem.W.Frag} {mg : Str → Option Value} {base : Heap} {x qual : Str} {params : Arguments} {body : List Stmt} {scope : Scope} {dvs : List V} {kws : List (Str × V)} {f : Addr} {fd : FuncData} {N ps : List Str} {k : Nat} {m : List D → Rs D}
    (Fd : FunD K x qual params body scope dvs kws f fd) (S : FnScope N ps scope)
    (hb : ∀ (cdv : Value) (A : Around) (outer : List Env) (s : Shared) (H : Hp) (E : XK) (F : Hp) (ds : List D), ds.length = ps.length → Room k (A.deeper (envOfC qual scope s.heap.objs.size f cdv)) → ∃ mb : Rs (Fl Unit Unit), m ds = mb.ret ∧
      BK (cxOf (L2N.CX P w) P w K mg base N qual scope f cdv A outer s H E) ⟨F, H, []⟩ (fun c d _ H => E c d H) [] (ds.map (fun d => some (Cl.val d)) ++ List.replicate (N.length - ds.length) none) body (fun _ : Unit => []) (fun _ : Unit => []) mb) :
    Keeps P w K mg base (k + 1) f fd ps m := by
  refine Fd.ok S (fun vs H Q E h => h.1) (fun cdv A outer s H vs Q E hr h => ?_)
  obtain ⟨hl, F, ds, hs, hr1, hp⟩ := h
  obtain ⟨mb, em, hbk⟩ := hb cdv A outer s H E F ds (hr1.length.symm.trans hl) hr
  rw [em] at hp
  refine hbk F (start N vs) F H _ ⟨⟨hs, fun a o q _ => q, fun a q => by simp [Gd.at] at q, Same.refl F, fun a o q => .inl q⟩, fun i d q => ?_, fun i l d q => ?_, fun i j l m' d e a n q => ?_, ?_⟩ ?_
  · obtain ⟨d', h1, h2⟩ := rho_start q
    cases h2
    obtain ⟨v, g1, g2⟩ := hr1.get h1
    refine ⟨v, ?_, g2⟩
    unfold L2.start
    rw [List.getElem?_append_left (by
      rw [List.length_map]
      rcases Nat.lt_or_ge i vs.length with z | z
      · exact z
      · rw [List.getElem?_eq_none z] at g1; cases g1), List.getElem?_map, g1]
    rfl
  · obtain ⟨d', h1, h2⟩ := rho_start q
    cases h2
  · obtain ⟨d', h1, h2⟩ := rho_start q
    cases h2
  · unfold L2.start
    rw [List.length_append, List.length_append, List.length_map, List.length_map, List.length_replicate, List.length_replicate, hr1.length]
    exact Nat.le_refl _
  · cases mb with
    | ex c fs => exact fun dd σ F' H' hh r => hp dd F' H' (gnd_ext hh.toGnd) r
    | no => exact hp
    | ok fl =>
      cases fl with
      | nx z => exact fun σ F' H' hh => hp .non F' H' (gnd_ext hh.toGnd) .non
      | rt d s => exact fun v F' H' g r _ => hp v F' H' (gnd_ext g) r
      | bk y => exact hp.elim
      | ct y => exact hp.elim
end
end VL
set_option Elab.async false
set_option linter.all false
set_option maxRecDepth 100000
set_option autoImplicit false
namespace VL
open PySem PySem.Spec L2
open PyProof.Rows hiding St
inductive RepHs (K : PySem.W.Frag) (F H : Hp) : List V → List D → Prop
  | nil : RepHs K F H [] []
  | cons {v : V} {vs : List V} {d : D} {ds : List D} : RepH K F H v d → RepHs K F H vs ds → RepHs K F H (v :: vs) (d :: ds)
theorem RepHs.more {K : PySem.W.Frag} {F H F' H' : Hp} (e : Ext F H F' H') : ∀ {vs : List V} {ds : List D}, RepHs K F H vs ds → RepHs K F' H' vs ds
  | _, _, .nil => .nil
  | _, _, .cons h r => .cons (h.more e) (RepHs.more e r)
def AO (X : Cx) (G : Gd) (W : WX) (ρ : Rho) (es : List Expr) (m : Rs (List D)) : Prop :=
  ∃ t, PA X es t ∧ ∀ F0 σ F H Q, Holds X.K (G.at F0) ρ σ F H → Post X.K (RepHs X.K) (fun c d H => W c d σ H) F H Q m → t σ H Q
def RCok (K : PySem.W.Frag) (r : List V → Hp → VK → Prop) (f : List D → Option D) : Prop := ∀ {xs : List V} {ds : List D} {F H : Hp} {Q : VK} {d : D}, Same F H → RepHs K F H xs ds → f ds = some d →
  (∀ v F' H', Ext F H F' H' → Rep K F' v d → Q v H') → r xs H Q
section
variable {X : Cx} {G : Gd} {W : WX} {ρ : Rho} {e : Expr} {es : List Expr} {m : Rs D} {ms : Rs (List D)} {pos p : Pos}
theorem ao_nil : AO X G W ρ [] (.ok []) := ⟨_, pa_nil, fun F0 σ F H Q hh hp => hp [] F H (Ext.refl hh.sub) .nil⟩
theorem ao_cons (ha : EO X G W ρ e m) (hr : AO X G W ρ es ms) (hs : starEach (e :: es) X.env = (false, eval e X.env) :: starEach es X.env := by rfl) : AO X G W ρ (e :: es) (m.bind fun x => ms.bind fun xs => .ok (x :: xs)) := by
  obtain ⟨ta, pa, qa⟩ := ha
  obtain ⟨tb, pb, qb⟩ := hr
  refine ⟨_, pa_cons pa pb hs, fun F0 σ F H Q hh hp => ?_⟩
  refine qa F0 σ F H _ hh (hp.bind fun dx x F1 H1 e1 r1 hp1 => ?_)
  refine qb F0 σ F1 H1 _ (hh.more e1) (hp1.bind fun dy y F2 H2 e2 r2 hp2 => ?_)
  exact hp2 _ F2 H2 (Ext.refl e2.sub) (.cons (r1.more e2) r2)
theorem ev_callB {id : String} {x : Str} {r : List V → Hp → VK → Prop} {f : List D → Option D} (hc : CallR X (.builtin id) r) (hf : RCok X.K r f) (hm : X.mg x = none) (hv : bootBuiltins x = some (.builtin id)) (ha : AO X G W ρ (e :: es) ms) (hg : Gl X x := by rfl) (hn : x ≠ "__name__" := by decide)
    (hdb : (x == ("__debug__" : Str)) = false := by decide) (he : starEach (e :: es) X.env = (false, eval e X.env) :: starEach es X.env := by rfl) (hpl : (backTo pos (starEach es X.env)).any (·.1) = false := by rfl) : EV X G W ρ (.Call (.Name x p) (e :: es) [] pos) (ms.bind fun ds => Rs.of (f ds)) := by
  obtain ⟨t, pa, qa⟩ := ha
  refine ⟨_, pe_callB hc hg hm hv pa hn hdb he hpl, fun F0 σ F H Q hh hp => ?_⟩
  refine qa F0 σ F H _ hh (hp.bind fun ds xs F1 H1 e1 r1 hp1 => ?_)
  obtain ⟨d, hd, k⟩ := hp1.of
  exact hf e1.sub r1 hd k
theorem ev_callTy {id : String} {x : Str} {r : List V → Hp → VK → Prop} {f : List D → Option D} (hc : CallR X (.type id) r) (hf : RCok X.K r f) (hm : X.mg x = none) (hv : bootBuiltins x = some (.type id)) (ha : AO X G W ρ (e :: es) ms) (hg : Gl X x := by rfl) (hn : x ≠ "__name__" := by decide)
    (hdb : (x == ("__debug__" : Str)) = false := by decide) (he : starEach (e :: es) X.env = (false, eval e X.env) :: starEach es X.env := by rfl) (hpl : (backTo pos (starEach es X.env)).any (·.1) = false := by rfl) : EV X G W ρ (.Call (.Name x p) (e :: es) [] pos) (ms.bind fun ds => Rs.of (f ds)) := by
  obtain ⟨t, pa, qa⟩ := ha
  refine ⟨_, pe_callTy hc hg hm hv pa hn hdb he hpl, fun F0 σ F H Q hh hp => ?_⟩
  refine qa F0 σ F H _ hh (hp.bind fun ds xs F1 H1 e1 r1 hp1 => ?_)
  obtain ⟨d, hd, k⟩ := hp1.of
  exact hf e1.sub r1 hd k
theorem CallR.or {v : Value} {r r' : List V → Hp → VK → Prop} (h : CallR X v r) (h' : CallR X v r') : CallR X v (fun xs H Q => r xs H Q ∨ r' xs H Q) := by
  intro pins s σ H xs us Q I rr hq
  rcases hq with hq | hq
  · exact h pins s σ H xs us Q I rr hq
  · exact h' pins s σ H xs us Q I rr hq
end
section
variable {K : PySem.W.Frag}
def absD : List D → Option D
  | [.int i] => some (.int (if i < 0 then -i else i))
  | _ => none
theorem absD_ok : RCok K (fun xs H Q => ∃ i, xs = [.int i] ∧ Q (.int (if i < 0 then -i else i)) H) absD := by
  intro xs ds F H Q d s r hd k
  unfold absD at hd
  split at hd
  · cases hd
    cases r with
    | cons r1 r2 =>
      cases r2
      obtain rfl := r1.int
      exact ⟨_, rfl, k _ F H (Ext.refl s) (.int _)⟩
  · cases hd
def intD : List D → Option D
  | [.int i] => some (.int i)
  | [.bl b] => some (.int (if b then 1 else 0))
  | [.str x] => if x.length ≤ 640 then (PySem.intText? x).map .int else none
  | _ => none
def rIntD : List V → Hp → VK → Prop := fun xs H Q => ((∃ i, xs = [.int i] ∧ Q (.int i) H) ∨ ∃ k, xs = [.bl k] ∧ Q (.int (if k then 1 else 0)) H) ∨ ∃ a n, xs = [.str a] ∧ PySem.intText? a = some n ∧ a.length ≤ 640 ∧ Q (.int n) H
theorem call_intD {X : Cx} : CallR X (.type "int") rIntD := CallR.or call_int1 call_int_str
theorem intD_ok : RCok K rIntD intD := by
  intro xs ds F H Q d s r hd k
  unfold intD at hd
  split at hd
  · cases hd
    cases r with
    | cons r1 r2 =>
      cases r2
      obtain rfl := r1.int
      exact .inl (.inl ⟨_, rfl, k _ F H (Ext.refl s) (.int _)⟩)
  · cases hd
    cases r with
    | cons r1 r2 =>
      cases r2
      obtain rfl := r1.bl
      exact .inl (.inr ⟨_, rfl, k _ F H (Ext.refl s) (.int _)⟩)
  · split at hd
    · rename_i x hl
      cases hi : PySem.intText? x with
      | none => rw [hi] at hd; cases hd
      | some n =>
        rw [hi] at hd
        cases hd
        cases r with
        | cons r1 r2 =>
          cases r2
          obtain rfl := r1.str
          exact .inr ⟨_, _, rfl, hi, hl, k _ F H (Ext.refl s) (.int _)⟩
    · cases hd
  · cases hd
def lenD : List D → Option D
  | [.lst xs] => some (.int xs.length)
  | [.tup xs] => some (.int xs.length)
  | [.tupL xs] => some (.int xs.length)
  | [.scr xs] => some (.int xs.length)
  | [.str x] => if x.length ≤ sizeLine then some (.int x.length) else none
  | _ => none
theorem lenD_ok : RCok K (fun xs H Q => ∃ x n, xs = [x] ∧ LenV K x H n ∧ Q (.int n) H) lenD := by
  intro xs ds F H Q d s r hd k
  unfold lenD at hd
  split at hd
  · cases hd
    cases r with
    | cons r1 r2 =>
      cases r2
      obtain ⟨a, ys, rfl, ha, la, ra⟩ := r1.lst s
      refine ⟨_, _, rfl, .inl ⟨_, SqL.of ha, rfl⟩, ?_⟩
      rw [ra.length]
      exact k _ F H (Ext.refl s) (.int _)
  · cases hd
    cases r with
    | cons r1 r2 =>
      cases r2
      obtain ⟨a, ys, rfl, ha, la, ra, wa⟩ := r1.tup s
      refine ⟨_, _, rfl, .inr ⟨_, ha, rfl⟩, ?_⟩
      rw [ra.length]
      exact k _ F H (Ext.refl s) (.int _)
  · cases hd
    cases r with
    | cons r1 r2 =>
      cases r2
      obtain ⟨a, ys, rfl, ha, la, ra⟩ := r1.tupL s
      refine ⟨_, _, rfl, .inr ⟨_, ha, rfl⟩, ?_⟩
      rw [ra.length]
      exact k _ F H (Ext.refl s) (.int _)
  · cases hd
    cases r with
    | cons r1 r2 =>
      cases r2
      obtain ⟨a, ys, rfl, ha, la, ra⟩ := r1.scr s
      refine ⟨_, _, rfl, .inl ⟨_, ha, rfl⟩, ?_⟩
      rw [ra.length]
      exact k _ F H (Ext.refl s) (.int _)
  · split at hd
    · rename_i hl
      cases hd
      cases r with
      | cons r1 r2 =>
        cases r2
        obtain rfl := r1.str
        exact ⟨_, _, rfl, ⟨hl, rfl⟩, k _ F H (Ext.refl s) (.int _)⟩
    · cases hd
  · cases hd
def tupleD : List D → Option D
  | [.lst xs] => some (.tup xs)
  | [.scr xs] => some (.tup xs)
  | [.tup xs] => some (.tup xs)
  | _ => none
theorem tupleD_ok : RCok K (fun xs H Q => ∃ p ys, xs = [.ref p] ∧ ((SqL K H p ys ∧ ∀ l, H l = none → Q (.ref l) (upd H l (.tup ys))) ∨ (SqT K H p ys ∧ Q (.ref p) H))) tupleD := by
  intro xs ds F H Q d s r hd k
  unfold tupleD at hd
  split at hd
  · cases hd
    cases r with
    | cons r1 r2 =>
      cases r2
      obtain ⟨a, ys, rfl, ha, la, ra⟩ := r1.lst s
      exact ⟨_, _, rfl, .inl ⟨SqL.of ha, fun l hl => k _ _ _ (Ext.fresh s _ hl) (new_tup s hl la ra)⟩⟩
  · cases hd
    cases r with
    | cons r1 r2 =>
      cases r2
      obtain ⟨a, ys, rfl, ha, la, ra⟩ := r1.scr s
      exact ⟨_, _, rfl, .inl ⟨ha, fun l hl => k _ _ _ (Ext.fresh s _ hl) (new_tup s hl la ra)⟩⟩
  · cases hd
    cases r with
    | cons r1 r2 =>
      cases r2
      obtain ⟨a, ys, rfl, ha, la, ra, wa⟩ := r1.tup s
      exact ⟨_, _, rfl, .inr ⟨ha, k _ F H (Ext.refl s) wa⟩⟩
  · cases hd
def intsD : List D → Option (List Int)
  | [] => some []
  | .int i :: r => (intsD r).map (i :: ·)
  | _ => none
def boolsD : List D → Option (List Bool)
  | [] => some []
  | .bl i :: r => (boolsD r).map (i :: ·)
  | _ => none
theorem intsD_vals {F : Hp} : ∀ {ds : List D} {ns : List Int} {xs : List V}, intsD ds = some ns → Reps K F xs ds → xs = ns.map V.int
  | [], ns, xs, h, r => by
    cases h
    cases r
    rfl
  | d :: ds, ns, xs, h, r => by
    cases d with
    | int i =>
      simp only [intsD] at h
      cases e : intsD ds with
      | none => rw [e] at h; cases h
      | some ms =>
        rw [e] at h
        cases h
        cases r with
        | cons r1 r2 =>
          cases r1
          rw [intsD_vals e r2]
          rfl
    | _ => simp only [intsD] at h; cases h
theorem boolsD_vals {F : Hp} : ∀ {ds : List D} {ns : List Bool} {xs : List V}, boolsD ds = some ns → Reps K F xs ds → xs = ns.map V.bl
  | [], ns, xs, h, r => by
    cases h
    cases r
    rfl
  | d :: ds, ns, xs, h, r => by
    cases d with
    | bl i =>
      simp only [boolsD] at h
      cases e : boolsD ds with
      | none => rw [e] at h; cases h
      | some ms =>
        rw [e] at h
        cases h
        cases r with
        | cons r1 r2 =>
          cases r1
          rw [boolsD_vals e r2]
          rfl
    | _ => simp only [boolsD] at h; cases h
def sumD : List D → Option D
  | [.lst xs] => (intsD xs).map fun ns => .int ns.sum
  | [.tup xs] => (intsD xs).map fun ns => .int ns.sum
  | _ => none
def rSumT (K : PySem.W.Frag) : List V → Hp → VK → Prop := fun vs H Q => ∃ (a : Addr) (ns : List Int), vs = [V.ref a] ∧ SqT K H a (ns.map V.int) ∧ Q (.int ns.sum) H
def rSumA (K : PySem.W.Frag) : List V → Hp → VK → Prop := fun vs H Q => rSum K vs H Q ∨ rSumT K vs H Q
theorem call_sumT {X : Cx} (hc : X.calm = true) : CallR X (.builtin "sum") (rSumT X.K) := by
  intro pins s σ H vs us Q I r ⟨a, ns, e0, hs, q⟩
  subst e0
  obtain ⟨its, rv, hl, _⟩ := I.tuple hs
  rw [Vals.ref1 r]
  obtain ⟨o, ho, hcl, n, hd⟩ := hl
  obtain ⟨xs, e⟩ := rv.ints.allInts.items
  have hn : numsOf (intItems xs).toList = ns := e ▸ rv.ints.numsOf
  rw [nums_intItems] at hn
  refine PySem.W.ktm_sumG (xs := xs) (I.ok.hd hc) ⟨o, ho, hcl, n, by rw [← e]; exact hd⟩ fun h' tk t' hk => ?_
  rw [preSum_eq, List.take_of_length_le (by simp), hn]
  exact ⟨.int _, H, I.kept hk, ⟨_, rfl⟩, q⟩
theorem call_sumA {X : Cx} (hc : X.calm = true) : CallR X (.builtin "sum") (rSumA X.K) := fun pins s σ H vs us Q I r h => h.elim (cr_sum hc pins s σ H vs us Q I r) (call_sumT hc pins s σ H vs us Q I r)
theorem sumD_ok : RCok K (rSumA K) sumD := by
  intro xs ds F H Q d s r hd k
  unfold sumD at hd
  split at hd
  · rename_i es
    cases e : intsD es with
    | none => rw [e] at hd; cases hd
    | some ns =>
      rw [e] at hd
      cases hd
      cases r with
      | cons r1 r2 =>
        cases r2
        obtain ⟨a, ys, rfl, ha, la, ra⟩ := r1.lst s
        have ey := intsD_vals e ra
        subst ey
        exact .inl ⟨a, ns, rfl, SqL.of ha, k _ F H (Ext.refl s) (.int _)⟩
  · rename_i es
    cases e : intsD es with
    | none => rw [e] at hd; cases hd
    | some ns =>
      rw [e] at hd
      cases hd
      cases r with
      | cons r1 r2 =>
        cases r2
        obtain ⟨a, ys, rfl, ha, la, ra, wa⟩ := r1.tup s
        have ey := intsD_vals e ra
        subst ey
        exact .inr ⟨a, ns, rfl, ha, k _ F H (Ext.refl s) (.int _)⟩
  · cases hd
def allD : List D → Option D
  | [.lst xs] => (boolsD xs).map fun ns => .bl (ns.all id)
  | _ => none
theorem allD_ok : RCok K (rAll K) allD := by
  intro xs ds F H Q d s r hd k
  unfold allD at hd
  split at hd
  · rename_i es
    cases e : boolsD es with
    | none => rw [e] at hd; cases hd
    | some ns =>
      rw [e] at hd
      cases hd
      cases r with
      | cons r1 r2 =>
        cases r2
        obtain ⟨a, ys, rfl, ha, la, ra⟩ := r1.lst s
        have ey := boolsD_vals e ra
        subst ey
        exact ⟨a, ns, rfl, SqL.of ha, k _ F H (Ext.refl s) (.bl _)⟩
  · cases hd
end
def idxD : D → D → Option D
  | .lst xs, .int i => atI xs i
  | .tup xs, .int i => atI xs i
  | .tupL xs, .int i => atI xs i
  | .scr xs, .int i => atI xs i
  | .str z, .int i => if z.length ≤ sizeLine then (atI z.cps.toList i).map fun c => .str ⟨#[c]⟩ else none
  | _, _ => none
def rIdxD (K : PySem.W.Frag) : R2 := fun x y H Q => rIxL K x y H Q ∨ rIxT K x y H Q ∨ rIxS x y H Q
theorem ix_D {X : Cx} : IxR X (rIdxD X.K) := IxR.or ix_list (IxR.or ix_tup ix_str)
theorem Reps.atI {K : PySem.W.Frag} {F : Hp} {xs : List V} {ds : List D} {i : Int} {d : D} (r : Reps K F xs ds) (h : L2.atI ds i = some d) : ∃ v, L2.atI xs i = some v ∧ Rep K F v d := by
  unfold L2.atI at h ⊢
  rw [r.length]
  cases e : ixN ds.length i with
  | none => rw [e] at h; cases h
  | some j =>
    rw [e] at h
    exact r.get h
theorem idxD_ok {K : PySem.W.Frag} : R2ok K (rIdxD K) idxD := by
  intro x y dx dy F H Q d s hx hy hd k
  unfold idxD at hd
  split at hd
  · obtain ⟨a, xs, rfl, ha, la, ra⟩ := hx.lst s
    obtain ⟨v, h1, h2⟩ := ra.atI hd
    exact .inl ⟨_, _, _, v, rfl, hy.int, SqL.of ha, h1, k _ F H (Ext.refl s) h2⟩
  · obtain ⟨a, xs, rfl, ha, la, ra, wa⟩ := hx.tup s
    obtain ⟨v, h1, h2⟩ := ra.atI hd
    exact .inr (.inl ⟨_, _, _, v, rfl, hy.int, ha, h1, k _ F H (Ext.refl s) h2⟩)
  · obtain ⟨a, xs, rfl, ha, la, ra⟩ := hx.tupL s
    obtain ⟨v, h1, h2⟩ := ra.atI hd
    exact .inr (.inl ⟨_, _, _, v, rfl, hy.int, ha, h1, k _ F H (Ext.refl s) h2⟩)
  · obtain ⟨a, xs, rfl, ha, la, ra⟩ := hx.scr s
    obtain ⟨v, h1, h2⟩ := ra.atI hd
    exact .inl ⟨_, _, _, v, rfl, hy.int, ha, h1, k _ F H (Ext.refl s) h2⟩
  · split at hd
    · rename_i z i hl
      cases e : L2.atI z.cps.toList i with
      | none => rw [e] at hd; cases hd
      | some c =>
        rw [e] at hd
        cases hd
        exact .inr (.inr ⟨z, i, c, hx.str, hy.int, hl, e, k _ F H (Ext.refl s) (.str _)⟩)
    · cases hd
  · cases hd
def cutD (xs : List D) (lo hi : Option Int) : List D := (xs.drop (HT.sIx xs.length 0 lo)).take (HT.sIx xs.length xs.length hi - HT.sIx xs.length 0 lo)
def sliceD : D → Option Int → Option Int → Option D
  | .lst xs, lo, hi => some (.lst (cutD xs lo hi))
  | .scr xs, lo, hi => some (.lst (cutD xs lo hi))
  | .tup xs, lo, hi => some (.tup (cutD xs lo hi))
  | .str z, lo, hi => if z.length ≤ sizeLine then some (.str (cutS z lo hi)) else none
  | _, _, _ => none
def rSliceD (K : PySem.W.Frag) : V → Option Int → Option Int → Hp → VK → Prop := fun x lo hi H Q => rSlL K x lo hi H Q ∨ rSlA K x lo hi H Q ∨ rSlS x lo hi H Q
theorem sl_D {X : Cx} : L2.SlR X (rSliceD X.K) := L2.SlR.or sl_list (L2.SlR.or sl_tupA sl_str)
theorem Reps.cut {K : PySem.W.Frag} {F : Hp} {xs : List V} {ds : List D} {lo hi : Option Int} (r : Reps K F xs ds) : Reps K F (cutV xs lo hi) (cutD ds lo hi) := by
  unfold cutV cutD
  rw [r.length]
  exact (r.drop _).take _
def PV (X : Cx) (G : Gd) (W : WX) (ρ : Rho) (e : Option Expr) (m : Rs (Option Int)) : Prop :=
  ∃ t, PO X e t ∧ ∀ F0 σ F H Q, Holds X.K (G.at F0) ρ σ F H → Post X.K (fun _ _ x y => x = y) (fun c d H => W c d σ H) F H Q m → t σ H Q
def asI : D → Option (Option Int)
  | .int i => some (some i)
  | _ => none
section
variable {X : Cx} {G : Gd} {W : WX} {ρ : Rho} {e : Expr} {lo hi : Option Expr} {m : Rs D} {ml mh : Rs (Option Int)} {pos p : Pos}
theorem pv_none : PV X G W ρ none (.ok none) := ⟨_, po_none, fun F0 σ F H Q hh hp => hp none F H (Ext.refl hh.sub) rfl⟩
theorem pv_some (h : EV X G W ρ e m) : PV X G W ρ (some e) (m.bind fun d => Rs.of (asI d)) := by
  obtain ⟨t, pe, q⟩ := h
  refine ⟨_, po_some pe, fun F0 σ F H Q hh hp => ?_⟩
  refine q F0 σ F H _ hh (hp.bind fun dx x F1 H1 e1 r1 hp1 => ?_)
  obtain ⟨d, hd, k⟩ := hp1.of
  cases dx with
  | int i =>
    cases hd
    cases r1
    exact ⟨i, rfl, k _ F1 H1 (Ext.refl e1.sub) rfl⟩
  | _ => cases hd
theorem ev_slice (h : EO X G W ρ e m) (hl : PV X G W ρ lo ml) (hh' : PV X G W ρ hi mh) : EV X G W ρ (.Subscript e (.Slice lo hi none p) pos) (m.bind fun x => ml.bind fun i => mh.bind fun j => Rs.of (sliceD x i j)) := by
  obtain ⟨t, pe, q⟩ := h
  obtain ⟨tl, pl, ql⟩ := hl
  obtain ⟨th, ph, qh⟩ := hh'
  refine ⟨_, pe_slice sl_D pe pl ph, fun F0 σ F H Q hh hp => ?_⟩
  refine q F0 σ F H _ hh (hp.bind fun dx x F1 H1 e1 r1 hp1 => ?_)
  refine ql F0 σ F1 H1 _ (hh.more e1) (hp1.bind fun i i' F2 H2 e2 r2 hp2 => ?_)
  refine qh F0 σ F2 H2 _ ((hh.more e1).more e2) (hp2.bind fun j j' F3 H3 e3 r3 hp3 => ?_)
  cases r2
  cases r3
  obtain ⟨d, hd, k⟩ := hp3.of
  have s := e3.sub
  have hx := (r1.more e2).more e3
  unfold sliceD at hd
  split at hd
  · cases hd
    obtain ⟨a, xs, rfl, ha, la, ra⟩ := hx.lst s
    exact .inl ⟨a, xs, rfl, SqL.of ha, fun p hp => k _ _ _ (Ext.fresh s _ hp) (new_lst s hp (Nat.le_trans (cutV_length _ _ _) la) ra.cut)⟩
  · cases hd
    obtain ⟨a, xs, rfl, ha, la, ra⟩ := hx.scr s
    exact .inl ⟨a, xs, rfl, ha, fun p hp => k _ _ _ (Ext.fresh s _ hp) (new_lst s hp (Nat.le_trans (cutV_length _ _ _) la) ra.cut)⟩
  · cases hd
    obtain ⟨a, xs, rfl, ha, la, ra, wa⟩ := hx.tup s
    refine .inr (.inl ⟨a, xs, rfl, ha, fun hw => ?_, fun _ p hp => k _ _ _ (Ext.fresh s _ hp) (new_tup s hp (Nat.le_trans (cutV_length _ _ _) la) ra.cut)⟩)
    refine k _ _ _ (Ext.refl s) ?_
    unfold cutD
    rw [ra.length] at hw
    rw [hw.1, hw.2, List.drop_zero, Nat.sub_zero, List.take_length]
    exact wa
  · split at hd
    · rename_i hl
      cases hd
      exact .inr (.inr ⟨_, hx.str, hl, k _ _ _ (Ext.refl s) (.str _)⟩)
    · cases hd
  · cases hd
end
end VL
set_option Elab.async false
set_option linter.all false
set_option maxRecDepth 100000
set_option autoImplicit false
namespace VL
open PySem PySem.Spec L2
open PyProof.Rows hiding St
theorem Rs.assoc {α β γ : Type} (m : Rs α) (f : α → Rs β) (g : β → Rs γ) : (m.bind f).bind g = m.bind fun x => (f x).bind g := by cases m <;> rfl
theorem Rs.bind_id {α : Type} (m : Rs α) : (m.bind fun x => .ok x) = m := by cases m <;> rfl
def BI (X : Cx) (G : Gd) (W : WX) (ρx ρ : Rho) (sts : List Stmt) {α β R : Type} (pn : α → Rho) (pl : β → Rho) (ι : R → Fl α β) (m : Rs R) : Prop := BK X G W ρx ρ sts pn pl (m.bind fun r => .ok (ι r))
abbrev rtI {α β : Type} : D → Fl α β := fun d => .rt d []
section
variable {X : Cx} {G : Gd} {W : WX} {ρx ρ : Rho} {rest sts : List Stmt} {α β R : Type} {pn : α → Rho} {pl : β → Rho} {ι : R → Fl α β}
theorem bi_set {i : Nat} {st : Stmt} {m : Rs D} {f : D → Rs R} (ha : AS X G W ρ st i m) (hr : ∀ d, BI X G W ρx (ρ.set i (some (.val d))) rest pn pl ι (f d)) (hi : i < ρ.length := by exact Nat.le_of_ble_eq_true rfl) (wx : Wk ρ ρx := by first | exact Wk.nil | exact Wk.refl | (repeat (first | exact Wk.nil | apply Wk.keep | apply Wk.drop))) :
    BI X G W ρx ρ (st :: rest) pn pl ι (m.bind f) := by
  unfold BI
  rw [Rs.assoc]
  exact bk_set ha hr hi wx
theorem bi_own {i : Nat} {st : Stmt} {m : Rs (List D)} {f : List D → Rs R} (ha : AF X G W ρ st i m) (hr : ∀ d, BI X G W ρx (ρ.set i (some (.own true (.lst d)))) rest pn pl ι (f d)) (hi : i < ρ.length := by exact Nat.le_of_ble_eq_true rfl) (wx : Wk ρ ρx := by first | exact Wk.nil | exact Wk.refl | (repeat (first | exact Wk.nil | apply Wk.keep | apply Wk.drop))) :
    BI X G W ρx ρ (st :: rest) pn pl ι (m.bind f) := by
  unfold BI
  rw [Rs.assoc]
  exact bk_own ha hr hi wx
theorem bi_frz (i : Nat) {d : D} {m : Rs R} (hr : BI X G W ρx (ρ.set i (some (.val d))) sts pn pl ι m) (hi : ρ[i]? = some (some (.own true d)) := by rfl) : BI X G W ρx ρ sts pn pl ι m := bk_frz hi hr
theorem bi_setix {i : Nat} {x : Str} {e k : Expr} {xpos spos pos : Pos} {l : Bool} {c : List D} {m mk : Rs D} {f : List D → Rs R} (hv : PE X (.Name x xpos) (tVar i)) (he : EV X G W ρ e m) (hk : EV X G W ρ k mk)
    (hr : ∀ c', BI X G W ρx (ρ.set i (some (.own l (.lst c')))) rest pn pl ι (f c')) (hi : ρ[i]? = some (some (.own l (.lst c))) := by rfl)
    (hs : swapsWithSole [.Subscript (.Name x xpos) k spos] e pos.line X.env = pure false := by rfl) (hw : swappedStores [.Subscript (.Name x xpos) k spos] e X.env = pure none := by rfl)
    (h1 : (assignEach [.Subscript (.Name x xpos) k spos] X.env).map (·.2) = [assign (.Subscript (.Name x xpos) k spos) X.env] := by rfl)
    (hA : ∀ v, assign (.Subscript (.Name x xpos) k spos) X.env v = (do
      let ov ← holding [v] (eval (.Name x xpos) X.env); let iv ← holding [v, ov] (eval k X.env); standAt spos; holding [v, ov, iv] (setItem ov iv v); release [v, ov, iv] []) := by intro _; rfl) (wx : Wk ρ ρx := by first | exact Wk.nil | exact Wk.refl | (repeat (first | exact Wk.nil | apply Wk.keep | apply Wk.drop))) :
    BI X G W ρx ρ (.Assign [.Subscript (.Name x xpos) k spos] e pos :: rest) pn pl ι (m.bind fun d => mk.bind fun j => (Rs.of (setL c j d)).bind f) := by
  unfold BI
  have z := bk_setix (ρx := ρx) (rest := rest) (pn := pn) (pl := pl) (f := fun c' => (f c').bind fun r => .ok (ι r)) hv he hk hr hi hs hw h1 hA wx
  have e2 : ((m.bind fun d => mk.bind fun j => (Rs.of (setL c j d)).bind f).bind fun r => (.ok (ι r) : Rs (Fl α β))) = m.bind fun d => mk.bind fun j => (Rs.of (setL c j d)).bind fun c' => (f c').bind fun r => .ok (ι r) := by
    cases m <;> simp only [Rs.bind_ok, Rs.bind_ex, Rs.bind_no]
    cases mk <;> simp only [Rs.bind_ok, Rs.bind_ex, Rs.bind_no, Rs.assoc]
  rw [e2]
  exact z
theorem bi_nil {z : α} (w : Wk ρ (pn z)) : BI X G W ρx ρ [] pn pl Fl.nx (.ok z) := bk_nil w
theorem bi_ret {e : Expr} {pos : Pos} {m : Rs D} (he : EV X G W ρ e m) (hb : G.bs = [] := by rfl) (wx : Wk ρ ρx := by first | exact Wk.nil | exact Wk.refl | (repeat (first | exact Wk.nil | apply Wk.keep | apply Wk.drop))) : BI X G W ρx ρ (.Return (some e) pos :: rest) pn pl rtI m := bk_ret he hb wx
theorem bi_gen {m : Rs (Fl α β)} (h : BK X G W ρx ρ sts pn pl m) : BI X G W ρx ρ sts pn pl (fun r => r) m := by
  unfold BI
  rw [Rs.bind_id]
  exact h
theorem bi_ifr {c : Expr} {a : List Stmt} {pos : Pos} {tc : Rs Bool} {ma mr : Rs D} (hc : TV X G W ρ c tc) (ha : BI X G W ρx ρ a pEmp pl rtI ma) (hr : BI X G W ρx ρ rest pn pl rtI mr) (wx : Wk ρ ρx := by first | exact Wk.nil | exact Wk.refl | (repeat (first | exact Wk.nil | apply Wk.keep | apply Wk.drop))) :
    BI X G W ρx ρ (.If c a [] pos :: rest) pn pl rtI (tc.bind fun k => if k then ma else mr) := by
  unfold BI
  have z := bk_ifr hc ha hr wx (pos := pos)
  have e2 : ((tc.bind fun k => if k then ma else mr).bind fun r => (.ok (rtI r) : Rs (Fl α β))) = tc.bind fun k => if k then liftF (ma.bind fun r => .ok (rtI r)) else (mr.bind fun r => .ok (rtI r)) := by
    cases tc with
    | ok k =>
      cases k with
      | true => cases ma <;> rfl
      | false => rfl
    | ex c fs => rfl
    | no => rfl
  rw [e2]
  exact z
theorem bi_if2 {c : Expr} {a b : List Stmt} {pos : Pos} {tc : Rs Bool} {ma mb : Rs R} (hc : TV X G W ρ c tc) (ha : BI X G W ρx ρ a pn pl ι ma) (hb : BI X G W ρx ρ b pn pl ι mb) (wx : Wk ρ ρx := by first | exact Wk.nil | exact Wk.refl | (repeat (first | exact Wk.nil | apply Wk.keep | apply Wk.drop))) :
    BI X G W ρx ρ [.If c a b pos] pn pl ι (tc.bind fun k => if k then ma else mb) := by
  unfold BI
  have z := bk_if2 hc ha hb wx (pos := pos)
  have e2 : ((tc.bind fun k => if k then ma else mb).bind fun r => (.ok (ι r) : Rs (Fl α β))) = tc.bind fun k => if k then (ma.bind fun r => .ok (ι r)) else (mb.bind fun r => .ok (ι r)) := by
    cases tc with
    | ok k => cases k <;> rfl
    | ex c fs => rfl
    | no => rfl
  rw [e2]
  exact z
theorem bi_if {γ : Type} {p1 : γ → Rho} {c : Expr} {a b : List Stmt} {pos : Pos} {tc : Rs Bool} {ma mb : Rs γ} {f : γ → Rs R} (hc : TV X G W ρ c tc) (ha : BI X G W ρx ρ a p1 pl Fl.nx ma) (hb : BI X G W ρx ρ b p1 pl Fl.nx mb)
    (hr : ∀ z, BI X G W ρx (p1 z) rest pn pl ι (f z)) (wx : Wk ρ ρx := by first | exact Wk.nil | exact Wk.refl | (repeat (first | exact Wk.nil | apply Wk.keep | apply Wk.drop))) : BI X G W ρx ρ (.If c a b pos :: rest) pn pl ι ((tc.bind fun k => if k then ma else mb).bind f) := by
  unfold BI
  have z := bk_if hc ha hb hr wx (pos := pos)
  have e2 : (((tc.bind fun k => if k then ma else mb).bind f).bind fun r => (.ok (ι r) : Rs (Fl α β))) = (tc.bind fun k => if k then (ma.bind fun r => .ok (Fl.nx r)) else (mb.bind fun r => .ok (Fl.nx r))).bind (Fl.andThen fun z => (f z).bind fun r => .ok (ι r)) := by
    cases tc with
    | ok k => cases k <;> (first | cases ma <;> rfl | cases mb <;> rfl)
    | ex c fs => rfl
    | no => rfl
  rw [e2]
  exact z
def foldM {ε : Type} (f : ε → D → Rs ε) : List D → ε → Rs ε
  | [], z => .ok z
  | d :: ds, z => (f z d).bind fun z' => foldM f ds z'
theorem loop_fold {ε β' : Type} (f : ε → D → Rs ε) : ∀ (ds : List D) (z : ε), loopM (β := β') (fun z d => (f z d).bind fun z => .ok (.nx z)) ds z = (foldM f ds z).bind fun z => .ok (.nx z)
  | [], z => rfl
  | d :: ds, z => by
    simp only [loopM, foldM]
    cases f z d with
    | ok z' => exact loop_fold f ds z'
    | ex c fs => rfl
    | no => rfl
theorem bi_for {ε γ : Type} {post : ε → Rho} {u : D → Option γ} {p : ε → γ → Rho} {is : List Nat} {tg iter : Expr} {body : List Stmt} {pos : Pos} {mi : Rs (List D)} {fb : ε → γ → Rs ε} {z0 : ε} {f : ε → Rs R}
    (po : PassesOwn (model X.prog X.w) X.A X.env X.xe) (calm : X.calm = true) (hi : IT X G W ρ tg iter mi) (h0 : Wk ρ (post z0)) (ht : ∀ z, TT1 X G tg (post z) is u (p z)) (hb : ∀ z y, BI X G W ρx (p z y) body post post Fl.nx (fb z y))
    (hr : ∀ z, BI X G W ρx (post z) rest pn pl ι (f z)) (wx : Wk ρ ρx := by first | exact Wk.nil | exact Wk.refl | (repeat (first | exact Wk.nil | apply Wk.keep | apply Wk.drop))) (hs : ∀ x, foldedSetIterable iter X.env x = pure x := by intro _; rfl) :
    BI X G W ρx ρ (.For tg iter body [] pos :: rest) pn pl ι (mi.bind fun items => (foldM (fun z d => (Rs.of (u d)).bind (fb z)) items z0).bind f) := by
  unfold BI
  have z := bk_for (pos := pos) po calm hi h0 ht hb hr wx hs
  have e0 : (fun (z : ε) (d : D) => (Rs.of (u d)).bind fun y => ((fb z y).bind fun z => (.ok (.nx z) : Rs (Fl ε ε)))) = fun z d => ((Rs.of (u d)).bind (fb z)).bind fun z => .ok (.nx z) := by
    funext z d
    rw [Rs.assoc]
  have e2 : ((mi.bind fun items => (foldM (fun z d => (Rs.of (u d)).bind (fb z)) items z0).bind f).bind fun r => (.ok (ι r) : Rs (Fl α β))) =
      mi.bind fun items => (loopM (fun z d => (Rs.of (u d)).bind fun y => ((fb z y).bind fun z => .ok (.nx z))) items z0).bind (Fl.andThen fun z => (f z).bind fun r => .ok (ι r)) := by
    cases mi with
    | ok items =>
      simp only [Rs.bind_ok]
      rw [e0, loop_fold]
      cases foldM (fun z d => (Rs.of (u d)).bind (fb z)) items z0 <;> rfl
    | ex c fs => rfl
    | no => rfl
  rw [e2]
  exact z
def Fl.toX {ε β' : Type} (f : ε → Rs D) : Fl ε β' → Rs D
  | .nx z => f z
  | .rt d _ => .ok d
  | _ => .no
theorem bi_forX {ε γ : Type} {post : ε → Rho} {u : D → Option γ} {p : ε → γ → Rho} {is : List Nat} {tg iter : Expr} {body : List Stmt} {pos : Pos} {mi : Rs (List D)} {fb : ε → γ → Rs (Fl ε ε)} {z0 : ε} {f : ε → Rs D}
    (po : PassesOwn (model X.prog X.w) X.A X.env X.xe) (calm : X.calm = true) (hbs : G.bs = []) (hi : IT X G W ρ tg iter mi) (h0 : Wk ρ (post z0)) (ht : ∀ z, TT1 X G tg (post z) is u (p z)) (hb : ∀ z y, BK X G W ρx (p z y) body post post (fb z y))
    (hr : ∀ z, BI X G W ρx (post z) rest pn pl rtI (f z)) (wx : Wk ρ ρx := by first | exact Wk.nil | exact Wk.refl | (repeat (first | exact Wk.nil | apply Wk.keep | apply Wk.drop))) (hs : ∀ x, foldedSetIterable iter X.env x = pure x := by intro _; rfl) :
    BI X G W ρx ρ (.For tg iter body [] pos :: rest) pn pl rtI (mi.bind fun items => (loopM (β := β) (fun z d => (Rs.of (u d)).bind (fb z)) items z0).bind (Fl.toX f)) := by
  unfold BI
  have z := bk_for (pos := pos) po calm hi h0 ht hb hr wx hs
  intro F0 σ F H E hh hp
  refine z F0 σ F H E hh ?_
  cases mi with
  | ex c fs => exact hp
  | no => exact hp
  | ok items =>
    simp only [Rs.bind_ok] at hp ⊢
    cases hl : loopM (β := β) (fun z d => (Rs.of (u d)).bind (fb z)) items z0 with
    | ex c fs => rw [hl] at hp; exact hp
    | no => rw [hl] at hp; exact hp
    | ok fl =>
      rw [hl] at hp
      cases fl with
      | nx z => exact hp
      | rt d s =>
        refine fun v F' H' g r ow => hp v F' H' g r ?_
        have e : G.bs = [] := hbs
        exact owns0 e
      | bk y => exact hp.elim
      | ct y => exact hp.elim
def whileN {ε : Type} (c : ε → Rs Bool) (f : ε → Rs ε) : Nat → ε → Rs ε
  | 0, _ => .no
  | n + 1, z => (c z).bind fun k => if k then (f z).bind fun z' => whileN c f n z' else .ok z
theorem while_N {ε β' : Type} (c : ε → Rs Bool) (f : ε → Rs ε) : ∀ (n : Nat) (z : ε), whileM (β := β') c (fun z => (f z).bind fun z => .ok (.nx z)) n z = (whileN c f n z).bind fun z => .ok (.nx z)
  | 0, z => rfl
  | n + 1, z => by
    simp only [whileM, whileN]
    cases c z with
    | ok k =>
      cases k with
      | false => rfl
      | true =>
        simp only [Rs.bind_ok, if_true]
        cases f z with
        | ok z' => exact while_N c f n z'
        | ex c fs => rfl
        | no => rfl
    | ex c fs => rfl
    | no => rfl
theorem bi_while {ε : Type} {post : ε → Rho} {c : Expr} {body : List Stmt} {pos : Pos} {fc : ε → Rs Bool} {fb : ε → Rs ε} {z0 : ε} {f : ε → Rs R} (n : Nat)
    (po : PassesOwn (model X.prog X.w) X.A X.env X.xe) (h0 : Wk ρ (post z0)) (hc : ∀ z, TV X G W (post z) c (fc z)) (hb : ∀ z, BI X G W ρx (post z) body post post Fl.nx (fb z))
    (hr : ∀ z, BI X G W ρx (post z) rest pn pl ι (f z)) (wx : ∀ z, Wk (post z) ρx := by exact fun _ => Wk.nil) : BI X G W ρx ρ (.While c body [] pos :: rest) pn pl ι ((whileN fc fb n z0).bind f) := by
  unfold BI
  have z := bk_while (n := n) (pos := pos) po h0 hc hb hr wx
  rw [while_N] at z
  have e2 : (((whileN fc fb n z0).bind f).bind fun r => (.ok (ι r) : Rs (Fl α β))) = ((whileN fc fb n z0).bind fun z => (.ok (.nx z) : Rs (Fl ε β))).bind (Fl.andThen fun z => (f z).bind fun r => .ok (ι r)) := by
    cases whileN fc fb n z0 <;> rfl
  rw [e2]
  exact z
end
theorem keeps_ret {P : Program} {w : World} {K : PySem.W.Frag} {mg : Str → Option Value} {base : Heap} {x qual : Str} {params : Arguments} {body : List Stmt} {scope : Scope} {dvs : List V} {kws : List (Str × V)} {f : Addr} {fd : FuncData} {N ps : List Str} {k : Nat} {m : List D → Rs D}
    (Fd : FunD K x qual params body scope dvs kws f fd) (S : FnScope N ps scope)
    (hb : ∀ (cdv : Value) (A : Around) (outer : List Env) (s : Shared) (H : Hp) (E : XK) (F : Hp) (ds : List D), ds.length = ps.length → Room k (A.deeper (envOfC qual scope s.heap.objs.size f cdv)) →
      BI (cxOf (L2N.CX P w) P w K mg base N qual scope f cdv A outer s H E) ⟨F, H, []⟩ (fun c d _ H => E c d H) [] (ds.map (fun d => some (Cl.val d)) ++ List.replicate (N.length - ds.length) none) body (fun _ : Unit => []) (fun _ : Unit => []) rtI (m ds)) :
    Keeps P w K mg base (k + 1) f fd ps m := by
  refine keeps_of Fd S fun cdv A outer s H E F ds hl hr => ⟨_, ?_, hb cdv A outer s H E F ds hl hr⟩
  cases m ds <;> rfl
end VL
set_option Elab.async false
set_option linter.all false
set_option maxRecDepth 100000
set_option autoImplicit false
namespace VL
open PySem PySem.Spec L2
open PyProof.Rows hiding St
mutual
def ltP : PyData → PyData → Bool
  | .int i, .int j => decide (i < j)
  | .str x, .str y => decide (x.cps.toList < y.cps.toList)
  | .tuple xs, .tuple ys => ltPs xs ys
  | _, _ => false
def ltPs : List PyData → List PyData → Bool
  | [], [] => false
  | [], _ :: _ => true
  | _ :: _, [] => false
  | x :: xs, y :: ys => if PyData.eqv x y then ltPs xs ys else ltP x y
end
mutual
def leP : PyData → PyData → Bool
  | .int i, .int j => decide (i ≤ j)
  | .str x, .str y => !decide (y.cps.toList < x.cps.toList)
  | .tuple xs, .tuple ys => lePs xs ys
  | _, _ => false
def lePs : List PyData → List PyData → Bool
  | [], _ => true
  | _ :: _, [] => false
  | x :: xs, y :: ys => if PyData.eqv x y then lePs xs ys else leP x y
end
mutual
def cmpP : PyData → PyData → Bool
  | .int _, .int _ => true
  | .str _, .str _ => true
  | .tuple xs, .tuple ys => cmpPs xs ys
  | _, _ => false
def cmpPs : List PyData → List PyData → Bool
  | x :: xs, y :: ys => (PyData.eqv x y || cmpP x y) && cmpPs xs ys
  | _, _ => true
end
theorem lexAt_drop {f : PyData → PyData → Bool} {g : List PyData → List PyData → Bool} {z : Bool} {xs ys : List PyData} (h0 : ∀ as bs, as = xs.drop (min xs.length ys.length) → bs = ys.drop (min xs.length ys.length) → g as bs = z)
    (h1 : ∀ x as y bs, g (x :: as) (y :: bs) = if PyData.eqv x y then g as bs else f x y) : ∀ (k i : Nat), i + k = min xs.length ys.length →
      Ob.lexAt (fun j => match xs[j]?, ys[j]? with | some x, some y => PyData.eqv x y | _, _ => false) (fun j => match xs[j]?, ys[j]? with | some x, some y => f x y | _, _ => false) z i k = g (xs.drop i) (ys.drop i)
  | 0, i, e => by
    rw [Ob.lexAt_zero, h0 _ _ (by rw [← e, Nat.add_zero]) (by rw [← e, Nat.add_zero])]
  | k + 1, i, e => by
    have hx : i < xs.length := by omega
    have hy : i < ys.length := by omega
    rw [Ob.lexAt_succ, List.drop_eq_getElem_cons hx, List.drop_eq_getElem_cons hy, h1, List.getElem?_eq_getElem hx, List.getElem?_eq_getElem hy]
    simp only
    rw [lexAt_drop h0 h1 k (i + 1) (by omega)]
theorem cmpPs_at : ∀ {xs ys : List PyData} {j : Nat} {x y : PyData}, cmpPs xs ys = true → xs[j]? = some x → ys[j]? = some y → PyData.eqv x y = false → cmpP x y = true
  | [], _, _, _, _, _, h, _, _ => by simp at h
  | _ :: _, [], _, _, _, _, _, h, _ => by simp at h
  | a :: as, b :: bs, 0, x, y, h, e1, e2, q => by
    simp only [cmpPs, Bool.and_eq_true, Bool.or_eq_true] at h
    simp at e1 e2
    subst e1 e2
    rcases h.1 with z | z
    · rw [q] at z; cases z
    · exact z
  | a :: as, b :: bs, j + 1, x, y, h, e1, e2, q => by
    simp only [cmpPs, Bool.and_eq_true] at h
    exact cmpPs_at h.2 (by simpa using e1) (by simpa using e2) q
theorem ReadsAll.at {h : Heap} : ∀ {vs : List Value} {ds : List PyData} {as : List Addr} {j : Nat} {d : PyData}, ReadsAll h vs ds as → ds[j]? = some d → ∃ v bs, vs[j]? = some v ∧ Reads h v d bs
  | _, _, _, _, _, .nil, e => by simp at e
  | _, _, _, 0, _, .cons r _, e => by simp at e; subst e; exact ⟨_, _, rfl, r⟩
  | _, _, _, j + 1, _, .cons _ r, e => by
    obtain ⟨v, bs, h1, h2⟩ := ReadsAll.at (j := j) r (by simpa using e)
    exact ⟨v, bs, by simpa using h1, h2⟩
theorem ReadsAll.len {h : Heap} : ∀ {vs : List Value} {ds : List PyData} {as : List Addr}, ReadsAll h vs ds as → vs.length = ds.length
  | _, _, _, .nil => rfl
  | _, _, _, .cons _ r => congrArg (· + 1) (ReadsAll.len r)
theorem canLay_at : ∀ {ds : List PyData} {j : Nat} {d : PyData}, PyData.canLayAll0 ds = true → ds[j]? = some d → d.canLay0 = true
  | [], _, _, _, e => by simp at e
  | x :: xs, 0, d, h, e => by
    simp only [PyData.canLayAll0, Bool.and_eq_true] at h
    simp at e; subst e; exact h.1
  | x :: xs, j + 1, d, h, e => by
    simp only [PyData.canLayAll0, Bool.and_eq_true] at h
    exact canLay_at h.2 (by simpa using e)
theorem depth_at : ∀ {ds : List PyData} {j : Nat} {d : PyData}, ds[j]? = some d → d.depth ≤ PyData.depthAll ds
  | [], _, _, e => by simp at e
  | x :: xs, 0, d, e => by
    simp at e; subst e
    simp only [PyData.depthAll]
    omega
  | x :: xs, j + 1, d, e => by
    have := depth_at (ds := xs) (j := j) (d := d) (by simpa using e)
    simp only [PyData.depthAll]
    omega
theorem rc_lt : ∀ (n : Nat) (da db : PyData) (A : Around) (s : Shared) (a b : Value) (as bs : List Addr), da.depth ≤ n → Reads s.heap a da as → Reads s.heap b db bs → da.canLay0 = true → db.canLay0 = true → cmpP da db = true →
    A.units + da.depth < cLine → Ob.RcOp .Lt A s a b (ltP da db)
  | n, .int i, db, A, s, a, b, as, bs, hn, ra, rb, ca, cb, hc, hu => by
    cases db with
    | int j =>
      cases ra; cases rb
      simp only [ltP]
      exact Ob.RcOp.lt_int _ _ _ _
    | _ => simp only [cmpP] at hc; cases hc
  | n, .str x, db, A, s, a, b, as, bs, hn, ra, rb, ca, cb, hc, hu => by
    cases db with
    | str y =>
      cases ra; cases rb
      simp only [ltP]
      exact fun _ _ _ _ h => PyProof.Rows.lt_str h
    | _ => simp only [cmpP] at hc; cases hc
  | 0, .tuple xs, db, A, s, a, b, as, bs, hn, ra, rb, ca, cb, hc, hu => by
    simp only [PyData.depth] at hn
    omega
  | n + 1, .tuple xs, db, A, s, a, b, as, bs, hn, ra, rb, ca, cb, hc, hu => by
    cases db with
    | tuple ys =>
      cases ra with
      | tuple h1 h2 h3 h4 =>
        cases rb with
        | tuple g1 g2 g3 g4 =>
          rename_i la o vs n1 lb ob ws n2
          simp only [cmpP] at hc
          simp only [PyData.canLay0] at ca cb
          simp only [PyData.depth] at hn hu
          have l1 : vs.size = xs.length := by have := ReadsAll.len h4; simpa using this
          have l2 : ws.size = ys.length := by have := ReadsAll.len g4; simpa using this
          have at1 : ∀ j (hj : j < vs.size), ∃ d bs, xs[j]? = some d ∧ Reads s.heap vs[j] d bs := fun j hj => by
            have hj' : j < xs.length := by omega
            obtain ⟨v, cs, e1, e2⟩ := ReadsAll.at h4 (List.getElem?_eq_getElem hj')
            have : v = vs[j] := by simpa [hj] using e1.symm
            exact ⟨_, cs, List.getElem?_eq_getElem hj', this ▸ e2⟩
          have at2 : ∀ j (hj : j < ws.size), ∃ d bs, ys[j]? = some d ∧ Reads s.heap ws[j] d bs := fun j hj => by
            have hj' : j < ys.length := by omega
            obtain ⟨v, cs, e1, e2⟩ := ReadsAll.at g4 (List.getElem?_eq_getElem hj')
            have : v = ws[j] := by simpa [hj] using e1.symm
            exact ⟨_, cs, List.getElem?_eq_getElem hj', this ▸ e2⟩
          have R := Ob.RcOp.tuples_lt (A := A) (s := s) (e := fun j => match xs[j]?, ys[j]? with | some x, some y => PyData.eqv x y | _, _ => false) (r := fun j => match xs[j]?, ys[j]? with | some x, some y => ltP x y | _, _ => false) ⟨o, h1, h2, n1, h3⟩ ⟨ob, g1, g2, n2, g3⟩ (by omega)
            (fun j hj1 hj2 => by
              obtain ⟨d1, b1, e1, r1⟩ := at1 j hj1
              obtain ⟨d2, b2, e2, r2⟩ := at2 j hj2
              simp only [e1, e2]
              refine SeqAt.eqAt_reads d1 d2 _ s _ _ b1 b2 r1 r2 (canLay_at ca e1) (canLay_at cb e2) ?_
              have := depth_at e1
              have hu2 : A.in1.units = A.units + 1 := rfl
              have : min d1.depth d2.depth ≤ d1.depth := Nat.min_le_left _ _
              omega)
            (fun j hj1 hj2 he => by
              obtain ⟨d1, b1, e1, r1⟩ := at1 j hj1
              obtain ⟨d2, b2, e2, r2⟩ := at2 j hj2
              simp only [e1, e2] at he ⊢
              have hd := depth_at e1
              have hu2 : A.in1.units = A.units + 1 := rfl
              exact rc_lt n d1 d2 _ s _ _ b1 b2 (by omega) r1 r2 (canLay_at ca e1) (canLay_at cb e2) (cmpPs_at hc e1 e2 he) (by omega))
          rw [l1, l2, lexAt_drop (g := ltPs) (fun as bs ea eb => ?_) (fun x as y bs => by simp only [ltPs]) (min xs.length ys.length) 0 (by omega)] at R
          · simpa only [ltP, List.drop_zero] using R
          · subst ea eb
            rcases Nat.lt_trichotomy xs.length ys.length with z | z | z
            · rw [Nat.min_eq_left (by omega), List.drop_length, List.drop_eq_getElem_cons z]
              simp only [ltPs, z, decide_true]
            · rw [z, Nat.min_self, ← z, List.drop_length, z, List.drop_length]
              simp [ltPs]
            · rw [Nat.min_eq_right (by omega), List.drop_length, List.drop_eq_getElem_cons z]
              simp only [ltPs]
              exact (decide_eq_false (by omega)).symm
    | _ => simp only [cmpP] at hc; cases hc
  | n, .none, db, A, s, a, b, as, bs, hn, ra, rb, ca, cb, hc, hu => by simp only [cmpP] at hc; cases hc
  | n, .bool _, db, A, s, a, b, as, bs, hn, ra, rb, ca, cb, hc, hu => by simp only [cmpP] at hc; cases hc
  | n, .list _, db, A, s, a, b, as, bs, hn, ra, rb, ca, cb, hc, hu => by simp only [cmpP] at hc; cases hc
  | n, .dict _, db, A, s, a, b, as, bs, hn, ra, rb, ca, cb, hc, hu => by simp only [cmpP] at hc; cases hc
def ordB (f : PyData → PyData → Bool) (g : Int → Int → Bool) (h : Str → Str → Bool) : D → D → Option Bool
  | .int i, .int j => some (g i j)
  | .str x, .str y => some (h x y)
  | .tup xs, .tup ys => if (D.tup xs).okD && (D.tup ys).okD && cmpP (D.tup xs).py (D.tup ys).py then some (f (D.tup xs).py (D.tup ys).py) else none
  | _, _ => none
def ltB : D → D → Option Bool := ordB ltP (fun i j => decide (i < j)) (fun x y => decide (x.cps.toList < y.cps.toList))
def leB : D → D → Option Bool := ordB leP (fun i j => decide (i ≤ j)) (fun x y => !decide (y.cps.toList < x.cps.toList))
def gtB : D → D → Option Bool
  | .int i, .int j => some (decide (j < i))
  | .str x, .str y => some (decide (y.cps.toList < x.cps.toList))
  | _, _ => none
def geB : D → D → Option Bool
  | .int i, .int j => some (decide (j ≤ i))
  | .str x, .str y => some (!decide (x.cps.toList < y.cps.toList))
  | _, _ => none
def neB (a b : D) : Option Bool := (eqB a b).map (!·)
def isNB : D → D → Option Bool
  | x, .non => some x.isNon
  | _, _ => none
def ltD (a b : D) : Option D := (ltB a b).map .bl
def leD (a b : D) : Option D := (leB a b).map .bl
def gtD (a b : D) : Option D := (gtB a b).map .bl
def geD (a b : D) : Option D := (geB a b).map .bl
abbrev Isb (f : D → D → Option D) (g : D → D → Option Bool) : Prop := ∀ a b, f a b = (g a b).map .bl
theorem ltD_is : Isb ltD ltB := fun _ _ => rfl
theorem gtD_is : Isb gtD gtB := fun _ _ => rfl
theorem eqD_is : Isb eqD eqB := fun _ _ => rfl
theorem neD_is : Isb neD neB := fun a b => by
  show (eqB a b).map (fun k => D.bl (!k)) = ((eqB a b).map (!·)).map .bl
  cases eqB a b <;> rfl
theorem isND_is : Isb isND isNB := fun a b => by cases b <;> rfl
def rOrdP (K : PySem.W.Frag) (f : PyData → PyData → Bool) : R2 := fun x y H Q => ∃ d e, Dp K H x d ∧ Dp K H y e ∧ SeqAt.shaped d = true ∧ SeqAt.shaped e = true ∧ cmpP d e = true ∧ Q (.bl (f d e)) H
def rLtA (K : PySem.W.Frag) : R2 := fun x y H Q => rI0 (fun i j => .bl (decide (i < j))) x y H Q ∨ (∃ i j, x = .str i ∧ y = .str j ∧ Q (.bl (decide (i.cps.toList < j.cps.toList))) H) ∨ rOrdP K ltP x y H Q
def rGtA : R2 := fun x y H Q => rI0 (fun i j => .bl (decide (j < i))) x y H Q ∨ (∃ i j, x = .str i ∧ y = .str j ∧ Q (.bl (decide (j.cps.toList < i.cps.toList))) H)
def rGeA : R2 := fun x y H Q => rI0 (fun i j => .bl (decide (j ≤ i))) x y H Q ∨ (∃ i j, x = .str i ∧ y = .str j ∧ Q (.bl (!decide (i.cps.toList < j.cps.toList))) H)
section
variable {X : Cx}
theorem op_ltP (hu : X.A.units + 64 < cLine) : OpR X (compareOp .Lt) (rOrdP X.K ltP) := by
  intro pins s σ H x y v u Q I rx ry h
  obtain ⟨d, e, hd, he, sd, se, hc, q⟩ := h
  obtain ⟨as, r1⟩ := Dp.reads I d x v hd rx
  obtain ⟨bs, r2⟩ := Dp.reads I e y u he ry
  have := SeqAt.depth_of_shaped sd
  exact rc_lt _ d e X.A s v u as bs (Nat.le_refl _) r1 r2 (SeqAt.canLay_of_shaped sd) (SeqAt.canLay_of_shaped se) hc (by omega) X.prog X.w _ _ ⟨.bl _, H, I, rfl, q⟩
theorem op_ltA (hu : X.A.units + 64 < cLine) : OpR X (compareOp .Lt) (rLtA X.K) := OpR.or op_lt (OpR.or op_lt_str (op_ltP hu))
theorem op_gtA (hu : X.A.units + 64 < cLine) : OpR X (compareOp .Gt) rGtA := OpR.or op_gt op_gt_str
theorem op_geA (hu : X.A.units + 64 < cLine) : OpR X (compareOp .GtE) rGeA := OpR.or op_ge op_ge_str
end
section
variable {K : PySem.W.Frag}
theorem ord_tup {f : PyData → PyData → Bool} {x y : V} {xs ys : List D} {F H : Hp} {Q : VK} (s : Same F H) (hx : RepH K F H x (.tup xs)) (hy : RepH K F H y (.tup ys)) (hc : ((D.tup xs).okD && (D.tup ys).okD && cmpP (D.tup xs).py (D.tup ys).py) = true) (q : Q (.bl (f (D.tup xs).py (D.tup ys).py)) H) : rOrdP K f x y H Q := by
  rw [Bool.and_eq_true, Bool.and_eq_true] at hc
  obtain ⟨c1, c2⟩ := Bool.and_eq_true_iff.mp hc.1.1
  obtain ⟨c3, c4⟩ := Bool.and_eq_true_iff.mp hc.1.2
  exact ⟨_, _, hx.dp s c1, hy.dp s c3, c2, c4, hc.2, q⟩
theorem ltD_ok : R2ok K (rLtA K) ltD := by
  intro x y dx dy F H Q d s hx hy hd k
  unfold ltD ltB ordB at hd
  split at hd
  · cases hd
    exact .inl ⟨_, _, hx.int, hy.int, k _ F H (Ext.refl s) (.bl _)⟩
  · cases hd
    exact .inr (.inl ⟨_, _, hx.str, hy.str, k _ F H (Ext.refl s) (.bl _)⟩)
  · split at hd
    · cases hd
      exact .inr (.inr (ord_tup s hx hy (by assumption) (k _ F H (Ext.refl s) (.bl _))))
    · cases hd
  · cases hd
theorem gtD_ok : R2ok K rGtA gtD := by
  intro x y dx dy F H Q d s hx hy hd k
  unfold gtD gtB at hd
  split at hd
  · cases hd
    exact .inl ⟨_, _, hx.int, hy.int, k _ F H (Ext.refl s) (.bl _)⟩
  · cases hd
    exact .inr ⟨_, _, hx.str, hy.str, k _ F H (Ext.refl s) (.bl _)⟩
  · cases hd
theorem geD_ok : R2ok K rGeA geD := by
  intro x y dx dy F H Q d s hx hy hd k
  unfold geD geB at hd
  split at hd
  · cases hd
    exact .inl ⟨_, _, hx.int, hy.int, k _ F H (Ext.refl s) (.bl _)⟩
  · cases hd
    exact .inr ⟨_, _, hx.str, hy.str, k _ F H (Ext.refl s) (.bl _)⟩
  · cases hd
end
def flatD : D → Bool
  | .non => true
  | .bl _ => true
  | .int _ => true
  | .str _ => true
  | _ => false
def eqF : D → D → Bool
  | .non, .non => true
  | .bl a, .bl b => a == b
  | .bl a, .int b => (if a then 1 else 0) == b
  | .int a, .bl b => a == (if b then 1 else 0)
  | .int a, .int b => a == b
  | .str a, .str b => a == b
  | _, _ => false
def inB (x : D) : D → Option Bool
  | .lst ds => if flatD x && ds.all flatD then some (ds.any fun y => eqF y x) else if x.okD && (D.lst ds).okD then some ((pys ds).any fun z => PyData.eqv z x.py) else none
  | .tup ds => if flatD x && ds.all flatD then some (ds.any fun y => eqF y x) else if x.okD && (D.tup ds).okD then some ((pys ds).any fun z => PyData.eqv z x.py) else none
  | .str z => match x with
    | .str w => some (!(Builtin.Str.occurrences z w 0 z.length 1).isEmpty)
    | _ => none
  | _ => none
def inD (x c : D) : Option D := (inB x c).map .bl
theorem inD_is : Isb inD inB := fun _ _ => rfl
section
variable {K : PySem.W.Frag} {F H : Hp}
theorem flat_rep {v : V} {d : D} (r : Rep K F v d) (h : flatD d = true) : flatV v = true := by
  cases r <;> first | rfl | cases h
theorem eqF_rep {v w : V} {d e : D} (r : Rep K F v d) (q : Rep K F w e) (h : flatD d = true) (h' : flatD e = true) : eqV v w = eqF d e := by
  cases r <;> first | (cases q <;> first | rfl | cases h') | cases h
theorem any_rep {w : V} {e : D} (q : Rep K F w e) (h' : flatD e = true) : ∀ {vs : List V} {ds : List D}, Reps K F vs ds → ds.all flatD = true → vs.all flatV = true ∧ (vs.any fun y => eqV y w) = ds.any fun y => eqF y e
  | _, _, .nil, _ => ⟨rfl, rfl⟩
  | _, _, .cons r rs, h => by
    simp only [List.all_cons, Bool.and_eq_true] at h
    obtain ⟨h1, h2⟩ := any_rep q h' rs h.2
    simp only [List.all_cons, List.any_cons, Bool.and_eq_true]
    exact ⟨⟨flat_rep r h.1, h1⟩, by rw [eqF_rep r q h.1 h', h2]⟩
theorem RepH.flat {v : V} {d : D} (r : RepH K F H v d) (h : flatD d = true) : Rep K F v d := by
  rcases r with r | ⟨a, rfl, r⟩
  · exact r
  · cases r <;> cases h
end
def rInT (K : PySem.W.Frag) : R2 := fun x y H Q => ∃ d ds, Dp K H x d ∧ Dp K H y (.tuple ds) ∧ SeqAt.shaped d = true ∧ SeqAt.shaped (.tuple ds) = true ∧ Q (.bl (ds.any fun z => PyData.eqv z d)) H
theorem op_inT {X : Cx} (hu : X.A.units + 65 < cLine) : OpR X (compareOp .In) (rInT X.K) := by
  intro pins s σ H x y v u Q I rx ry ⟨d, ds, g1, g2, k1, k2, q⟩
  obtain ⟨as, r1⟩ := Dp.reads I d x v g1 rx
  obtain ⟨bs, r2⟩ := Dp.reads I (.tuple ds) y u g2 ry
  exact SeqAt.in_tuple_reads r2 r1 (SeqAt.canLay_of_shaped k2) (SeqAt.canLay_of_shaped k1) (room_in_shaped k1 hu) ⟨.bl _, H, I, rfl, q⟩
def rInA (K : PySem.W.Frag) : R2 := fun x y H Q => rIn K false x y H Q ∨ (rInD K x y H Q ∨ rInT K x y H Q) ∨ (∃ i j, x = .str i ∧ y = .str j ∧ Q (.bl (!(Builtin.Str.occurrences j i 0 j.length 1).isEmpty)) H)
theorem room65 {A : Around} {k : Nat} (h : Room k A) : A.units + 65 < cLine := by
  have := h.un
  omega
theorem op_inA {X : Cx} {k : Nat} (hr : Room k X.A) : OpR X (compareOp .In) (rInA X.K) := OpR.or op_in_seq (OpR.or (OpR.or (op_inD (room65 hr)) (op_inT (room65 hr))) op_in_str)
theorem inD_ok {K : PySem.W.Frag} : R2ok K (rInA K) inD := by
  intro x y dx dy F H Q d s hx hy hd k
  unfold inD inB at hd
  split at hd
  · obtain ⟨a, xs, rfl, ha, la, ra⟩ := hy.lst s
    split at hd
    · rename_i hc
      cases hd
      rw [Bool.and_eq_true] at hc
      have rx := hx.flat hc.1
      obtain ⟨h1, h2⟩ := any_rep rx hc.1 ra hc.2
      refine .inl ⟨a, xs, rfl, .inl (SqL.of ha), flat_rep rx hc.1, h1, ?_⟩
      show Q (.bl (xs.any fun y => eqV y x)) H
      rw [h2]
      exact k _ F H (Ext.refl s) (.bl _)
    · split at hd
      · rename_i ds _ hc
        cases hd
        rw [Bool.and_eq_true] at hc
        obtain ⟨c1, c2⟩ := Bool.and_eq_true_iff.mp hc.1
        obtain ⟨c3, c4⟩ := Bool.and_eq_true_iff.mp hc.2
        have hd2 := hy.dp s c3
        simp only [D.py] at hd2 c4
        exact .inr (.inl (.inl ⟨_, _, hx.dp s c1, hd2, c2, c4, k _ F H (Ext.refl s) (.bl _)⟩))
      · cases hd
  · obtain ⟨a, xs, rfl, ha, la, ra, wa⟩ := hy.tup s
    split at hd
    · rename_i hc
      cases hd
      rw [Bool.and_eq_true] at hc
      have rx := hx.flat hc.1
      obtain ⟨h1, h2⟩ := any_rep rx hc.1 ra hc.2
      refine .inl ⟨a, xs, rfl, .inr ha, flat_rep rx hc.1, h1, ?_⟩
      show Q (.bl (xs.any fun y => eqV y x)) H
      rw [h2]
      exact k _ F H (Ext.refl s) (.bl _)
    · split at hd
      · rename_i ds _ hc
        cases hd
        rw [Bool.and_eq_true] at hc
        obtain ⟨c1, c2⟩ := Bool.and_eq_true_iff.mp hc.1
        obtain ⟨c3, c4⟩ := Bool.and_eq_true_iff.mp hc.2
        have hd2 := hy.dp s c3
        simp only [D.py] at hd2 c4
        exact .inr (.inl (.inr ⟨_, _, hx.dp s c1, hd2, c2, c4, k _ F H (Ext.refl s) (.bl _)⟩))
      · cases hd
  · split at hd
    · cases hd
      exact .inr (.inr ⟨_, _, hx.str, hy.str, k _ F H (Ext.refl s) (.bl _)⟩)
    · cases hd
  · cases hd
end VL
set_option Elab.async false
set_option linter.all false
set_option maxRecDepth 100000
set_option autoImplicit false
namespace VL
open PySem PySem.Spec L2
open PyProof.Rows hiding St
inductive Kd where
  | l | t
def KIter (h : Heap) (it a : Addr) (i : Nat) : Kd → Prop
  | .l => h.IsListIter it a i
  | .t => h.IsTupleIter it a i
def KIs (h : Heap) (a : Addr) (items : Array Value) : Kd → Prop
  | .l => h.IsList a items
  | .t => h.IsTuple a items
def KSq (K : PySem.W.Frag) (H : Hp) (a : Addr) (xs : List V) : Kd → Prop
  | .l => SqL K H a xs
  | .t => SqT K H a xs
def kObj (a : Addr) : Kd → Obj
  | .l => { cls := .type "list_iterator", data := .fields #[.ref a, .int 0 0] }
  | .t => { cls := .type "tuple_iterator", data := .fields #[.ref a, .int 0 0] }
theorem KIter.keep {h h' : Heap} {it a : Addr} {i : Nat} {k : Kd} (x : KIter h it a i k) (q : ∀ o, h.get? it = some o → h'.get? it = some o) : KIter h' it a i k := by
  cases k with
  | l => exact Heap.IsListIter.at x q
  | t => exact Heap.IsTupleIter.at x q
theorem KIter.there {h : Heap} {it a : Addr} {i : Nat} {k : Kd} (x : KIter h it a i k) : ∃ o, h.get? it = some o ∧ ∀ v, o.data ≠ .cell v := by
  cases k with
  | l =>
    obtain ⟨o, e, _, d⟩ := x
    exact ⟨o, e, fun v z => by rw [d] at z; cases z⟩
  | t =>
    obtain ⟨o, e, _, d⟩ := x
    exact ⟨o, e, fun v z => by rw [d] at z; cases z⟩
theorem KIter.of_new {h : Heap} {it a : Addr} {k : Kd} (e : h.get? it = some (kObj a k)) : KIter h it a 0 k := by
  cases k with
  | l => exact ⟨_, e, rfl, rfl⟩
  | t => exact ⟨_, e, rfl, rfl⟩
theorem kDraws {prog : Program} {w : World} {A : Around} (hh : A.handled = none) (it a : Addr) (hne : a ≠ it) (items : Array Value) : ∀ k : Kd, Draws prog w A it [it, a] items.size (fun i v => items[i]? = some v) (fun i h => KIter h it a i k ∧ KIs h a items k)
  | .l => Draws.list hh it a hne items
  | .t => Draws.tuple hh it a hne items
theorem kBegins (a : Addr) (items : Array Value) : ∀ k : Kd, Begins (.ref a) (kObj a k) fun h => KIs h a items k
  | .l => begins_list a items
  | .t => begins_tuple a items
section
variable {X : Cx} {pins : List (Addr × Obj)} {σ : St} {H : Hp} {s : Shared} {a : Addr} {xs ys : List V}
theorem inv_sq {k : Kd} (I : Inv X pins σ H s) (h : KSq X.K H a xs k) : ∃ its : List Value, Vals xs its ∧ KIs s.heap a its.toArray k ∧ a < s.heap.objs.size := by
  cases k with
  | l =>
    obtain ⟨its, r, p, _⟩ := I.list h
    exact ⟨its, r, p.isList, p.lt⟩
  | t =>
    obtain ⟨its, r, p, _⟩ := I.tuple h
    obtain ⟨o, e, _⟩ := id p
    exact ⟨its, r, p, Heap.lt_size e⟩
theorem inv_sq_inj {k : Kd} (I : Inv X pins σ H s) (h : KSq X.K H a xs k) (h' : KSq X.K H a ys k) : xs = ys := by
  cases k with
  | l => exact I.list_inj h h'
  | t => exact I.tuple_inj h h'
end
theorem KSq.same {K : PySem.W.Frag} {H H' : Hp} {a : Addr} {xs : List V} {k : Kd} (e : Same H H') (h : KSq K H a xs k) : KSq K H' a xs k := by
  cases k with
  | l => exact SqL.same e h
  | t => exact SqT.same e h
def Itz2 (K : PySem.W.Frag) (k1 k2 : Kd) (a b : Addr) : It :=
  ⟨fun i H => ∃ (xs ys : List V) (x y : V), KSq K H a xs k1 ∧ KSq K H b ys k2 ∧ xs[i]? = some x ∧ ys[i]? = some y,
    fun i H v H' => ∃ T x y, v = .ref T ∧ H T = none ∧ H' = upd H T (.tup [x, y]) ∧ (∀ xs, KSq K H a xs k1 → xs[i]? = some x) ∧ ∀ ys, KSq K H b ys k2 → ys[i]? = some y,
    fun i H => ∃ xs ys : List V, KSq K H a xs k1 ∧ KSq K H b ys k2 ∧ i = min xs.length ys.length⟩
def zTn (k1 k2 : Kd) (z TI TO i1 i2 a b : Addr) (i : Nat) (h : Heap) : Prop := IsZip h z TI TO .none ∧ IsTupOf2 h TI (.ref i1) (.ref i2) ∧ (∃ a1 a2, IsTupOf2 h TO a1 a2) ∧ KIter h i1 a i k1 ∧ KIter h i2 b i k2
theorem turn_zip2 {P : Program} {w : World} {K : PySem.W.Frag} {elts : List Expr} {kk : Nat} {tpos : Pos} {k1 k2 : Kd} {a b : Addr} {N : Nat} (ha : a < N) (hb : b < N) :
    Turn P w K (.Tuple elts kk tpos) (Itz2 K k1 k2 a b) [N + 4, N + 2, N + 3, N, N + 1] (N + 4) (zTn k1 k2 (N + 4) (N + 2) (N + 3) N (N + 1) a b) where
  mem := by simp
  obj := fun i h st c hc => by
    obtain ⟨hz, hTI, ⟨x, y, hTO⟩, h1, h2⟩ := st
    simp only [List.mem_cons, List.not_mem_nil, or_false] at hc
    rcases hc with q | q | q | q | q
    · subst q; exact ⟨_, hz, fun v z => nomatch z⟩
    · subst q; exact ⟨_, hTI, fun v z => nomatch z⟩
    · subst q; exact ⟨_, hTO, fun v z => nomatch z⟩
    · exact q ▸ h1.there
    · exact q ▸ h2.there
  keep := fun i h h' st k => by
    obtain ⟨hz, hTI, ⟨x, y, hTO⟩, h1, h2⟩ := st
    exact ⟨k _ (by simp) _ hz, k _ (by simp) _ hTI, ⟨x, y, k _ (by simp) _ hTO⟩, h1.keep fun o q => k _ (by simp) o q, h2.keep fun o q => k _ (by simp) o q⟩
  item := by
    intro X hP hw hK hc i pins s σ H E I hf st hg
    subst hP hw hK
    obtain ⟨hz, hTI, hTO, h1, h2⟩ := st
    obtain ⟨xs, ys, x, y, hqx, hqy, hx, hy⟩ := hg
    obtain ⟨its, rv, p1, _⟩ := inv_sq I hqx
    obtain ⟨its2, rv2, p2, _⟩ := inv_sq I hqy
    obtain ⟨u, hu, ru⟩ := rv.get hx
    obtain ⟨u2, hu2, ru2⟩ := rv2.get hy
    have hne1 : a ≠ N := Nat.ne_of_lt ha
    have hne2 : b ≠ N + 1 := Nat.ne_of_lt (Nat.lt_succ_of_lt hb)
    have GN := GoesN.zip2 (prog := X.prog) (w := X.w) (A := X.A) (elts := elts) (x1 := kk) (pos := tpos) (zip_sep2 (N := N) (fp1 := [a]) (fp2 := [b]) (by simpa using ha) (by simpa using hb))
      (kDraws (prog := X.prog) (w := X.w) (A := X.A.in1) (I.ok.hd hc) N a hne1 its.toArray k1) (kDraws (prog := X.prog) (w := X.w) (A := X.A.in1) (I.ok.hd hc) (N + 1) b hne2 its2.toArray k2)
    have il1 : i < its.length := by
      rcases Nat.lt_or_ge i its.length with z | z
      · exact z
      · rw [List.getElem?_eq_none z] at hu; cases hu
    have il2 : i < its2.length := by
      rcases Nat.lt_or_ge i its2.length with z | z
      · exact z
      · rw [List.getElem?_eq_none z] at hu2; cases hu2
    refine GN.goes i s (fun v s2 => ∃ x H', Inv X pins σ H' s2 ∧ RelV x v ∧ (Itz2 X.K k1 k2 a b).yld i H x H' ∧ zTn k1 k2 (N + 4) (N + 2) (N + 3) N (N + 1) a b (i + 1) s2.heap ∧ ∀ b ∈ [N + 4, N + 2, N + 3, N, N + 1], H' b = none) E (by simp only [List.size_toArray]; omega) ⟨hz, hTI, hTO, ⟨h1, p1⟩, ⟨h2, p2⟩⟩ fun v h' tk hY st' hk htk => ?_
    obtain ⟨T, w1, w2, rfl, hT, e1, e2, hTt⟩ := hY
    have ew1 : w1 = u := by
      have : its[i]? = some w1 := by simpa using e1
      rw [hu] at this
      exact (Option.some.inj this).symm
    have ew2 : w2 = u2 := by
      have : its2[i]? = some w2 := by simpa using e2
      rw [hu2] at this
      exact (Option.some.inj this).symm
    subst ew1 ew2
    obtain ⟨hz', hTI', hTO', ⟨h1', _⟩, ⟨h2', _⟩⟩ := st'
    have new : ObjOk X.prog X.w (upd H T (.tup [x, y])) h' T (.tup [x, y]) := ⟨by show 2 ≤ sizeLine; decide, [w1, w2], .cons ru (.cons ru2 .nil), hTt⟩
    have I1 : Inv X pins σ (upd H T (.tup [x, y])) { s with heap := h', toks := tk } :=
      I.turnedNew (ch := [N + 4, N + 2, N + 3, N, N + 1]) (fun c o hb q => hk c o (fun z => hb (by
        simp only [List.mem_cons, List.not_mem_nil, or_false] at z ⊢
        rcases z with z | z | z | z
        · exact .inl z
        · exact .inr (.inr (.inl z))
        · exact .inr (.inr (.inr (.inl z)))
        · exact .inr (.inr (.inr (.inr z))))) q) hf hT new
    refine ⟨.ref T, _, I1, rfl, ⟨T, x, y, rfl, I.hok.fresh hT, rfl, fun l hl => by rw [inv_sq_inj I hl hqx]; exact hx, fun l hl => by rw [inv_sq_inj I hl hqy]; exact hy⟩, ⟨hz', hTI', hTO', h1', h2'⟩, fun c hcm => ?_⟩
    have hc1 := (hf c hcm).1
    by_cases e : c = T
    · subst e
      exfalso
      have : ∃ o, s.heap.get? c = some o := by
        simp only [List.mem_cons, List.not_mem_nil, or_false] at hcm
        rcases hcm with q | q | q | q | q
        · exact ⟨_, q ▸ hz⟩
        · exact ⟨_, q ▸ hTI⟩
        · obtain ⟨_, _, hTO⟩ := hTO; exact ⟨_, q ▸ hTO⟩
        · obtain ⟨o, z, _⟩ := h1.there; exact ⟨o, q ▸ z⟩
        · obtain ⟨o, z, _⟩ := h2.there; exact ⟨o, q ▸ z⟩
      obtain ⟨o, z⟩ := this
      exact absurd (Heap.lt_size z) (Nat.not_lt.mpr hT)
    · rw [upd_ne e]
      exact hc1
  done := by
    intro X hP hw hK hc i pins s σ H E I hf st hg
    subst hP hw hK
    obtain ⟨hz, hTI, hTO, h1, h2⟩ := st
    obtain ⟨xs, ys, hqx, hqy, hend⟩ := hg
    obtain ⟨its, rv, p1, _⟩ := inv_sq I hqx
    obtain ⟨its2, rv2, p2, _⟩ := inv_sq I hqy
    have hne1 : a ≠ N := Nat.ne_of_lt ha
    have hne2 : b ≠ N + 1 := Nat.ne_of_lt (Nat.lt_succ_of_lt hb)
    have GN := GoesN.zip2 (prog := X.prog) (w := X.w) (A := X.A) (elts := elts) (x1 := kk) (pos := tpos) (zip_sep2 (N := N) (fp1 := [a]) (fp2 := [b]) (by simpa using ha) (by simpa using hb))
      (kDraws (prog := X.prog) (w := X.w) (A := X.A.in1) (I.ok.hd hc) N a hne1 its.toArray k1) (kDraws (prog := X.prog) (w := X.w) (A := X.A.in1) (I.ok.hd hc) (N + 1) b hne2 its2.toArray k2)
    have ei : i = min its.toArray.size its2.toArray.size := by
      rw [List.size_toArray, List.size_toArray, ← rv.length, ← rv2.length]
      exact hend
    refine GN.stops s _ E (by rw [← ei]; exact ⟨hz, hTI, hTO, ⟨h1, p1⟩, ⟨h2, p2⟩⟩) fun h' tk hk htk => ?_
    exact I.turnedL (ch := [N + 4, N + 2, N + 3, N, N + 1]) (fun c o hb q => hk c o (fun z => hb (by
        simp only [List.mem_cons, List.not_mem_nil, or_false] at z ⊢
        rcases z with z | z | z | z
        · exact .inl z
        · exact .inr (.inr (.inl z))
        · exact .inr (.inr (.inr (.inl z)))
        · exact .inr (.inr (.inr (.inr z))))) q) hf
  self := fun A i s Q E st h => wpAny_pyIter_zip st.1 h
def iZip2 (K : PySem.W.Frag) (ta : TA) : TI := fun σ H R => ta σ H fun vs H1 => ∃ k1 k2 a b xs ys, vs = [.ref a, .ref b] ∧ KSq K H1 a xs k1 ∧ KSq K H1 b ys k2 ∧ R (Itz2 K k1 k2 a b) H1
theorem pi_zip2 {X : Cx} {e e2 : Expr} {ta : TA} {p pos tpos : Pos} {elts : List Expr} {kk : Nat} (hg : Gl X "zip") (hm : X.mg "zip" = none) (ha : PA X [e, e2] ta)
    (hs : starEach [e, e2] X.env = (false, eval e X.env) :: starEach [e2] X.env := by rfl) (hpl : (backTo pos (starEach [e2] X.env)).any (·.1) = false := by rfl) :
    PI X (.Tuple elts kk tpos) (.Call (.Name "zip" p) [e, e2] [] pos) (iZip2 X.K ta) := by
  refine ⟨fun pins s σ H R I h => Call_ (ld_blt I hg hm PyProof.Rows.boot_zip (PyProof.Rows.callWith_type1 (thn (ha.run pos pins s σ H _ I h) fun us s1 ⟨vs, H1, I1, r1, q1⟩ => ?_) hs hpl))⟩
  obtain ⟨k1, k2, a, b, xs, ys, rfl, hqx, hqy, q⟩ := q1
  obtain ⟨u1, u2, rfl, r, r'⟩ := vals2 r1
  cases r
  cases r'
  obtain ⟨its, rv, p1, la⟩ := inv_sq I1 hqx
  obtain ⟨its2, rv2, p2, lb⟩ := inv_sq I1 hqy
  refine zip_begins2 (kBegins a its.toArray k1) (kBegins b its2.toArray k2) p1 p2 fun h' hz hTI hTO g1 g2 hsz hk => wpAny_pyIter_zip hz ?_
  have I2 : Inv X pins σ H1 { s1 with heap := h' } := I1.kept (t' := s1.toks) hk
  refine ⟨_, _, _, Itz2 X.K k1 k2 a b, H1, rfl, I2, turn_zip2 (N := s1.heap.objs.size) la lb, ⟨hz, hTI, ⟨_, _, hTO⟩, KIter.of_new g1, KIter.of_new g2⟩, fun c hcm => ?_, q⟩
  have hle : s1.heap.objs.size ≤ c := by
    simp only [List.mem_cons, List.not_mem_nil, or_false] at hcm
    rcases hcm with z | z | z | z | z <;> rw [z] <;> first | exact Nat.le_refl _ | exact Nat.le_add_right _ _
  exact I1.fpOk hle (I1.hok.fresh hle)
def zipL : List D → List D → List D
  | x :: xs, y :: ys => .tup [x, y] :: zipL xs ys
  | _, _ => []
def seqD : D → Option (List D)
  | .lst ds => some ds
  | .tup ds => some ds
  | .tupL ds => some ds
  | _ => none
def zipD (x y : D) : Option (List D) := match seqD x, seqD y with
  | some xs, some ys => some (zipL xs ys)
  | _, _ => none
theorem zipL_len : ∀ (xs ys : List D), (zipL xs ys).length = min xs.length ys.length
  | [], _ => by simp [zipL]
  | _ :: _, [] => by simp [zipL]
  | x :: xs, y :: ys => by simp only [zipL, List.length_cons, zipL_len xs ys]; omega
theorem zipL_at : ∀ {xs ys : List D} {i : Nat} {d : D}, (zipL xs ys)[i]? = some d → ∃ x y, xs[i]? = some x ∧ ys[i]? = some y ∧ d = .tup [x, y]
  | [], _, _, _, h => by simp [zipL] at h
  | _ :: _, [], _, _, h => by simp [zipL] at h
  | x :: xs, y :: ys, 0, d, h => by simp [zipL] at h; exact ⟨x, y, rfl, rfl, h.symm⟩
  | x :: xs, y :: ys, i + 1, d, h => zipL_at (xs := xs) (ys := ys) (by simpa [zipL] using h)
theorem rep_seq {K : PySem.W.Frag} {F : Hp} {v : V} {d : D} {ds : List D} (r : Rep K F v d) (h : seqD d = some ds) : ∃ k a xs, v = .ref a ∧ KSq K F a xs k ∧ xs.length ≤ sizeLine ∧ Reps K F xs ds := by
  cases r with
  | lst h1 l1 r1 => cases h; exact ⟨.l, _, _, rfl, SqL.of h1, l1, r1⟩
  | tup h1 l1 r1 => cases h; exact ⟨.t, _, _, rfl, h1.sq, l1, r1⟩
  | tupL h1 _ l1 r1 => cases h; exact ⟨.t, _, _, rfl, sqT_frz h1, l1, r1⟩
  | _ => cases h
theorem walks_zip {K : PySem.W.Frag} {F : Hp} {a b : Addr} {xs ys : List V} {ds es : List D} {k1 k2 : Kd} (h1 : KSq K F a xs k1) (h2 : KSq K F b ys k2) (l1 : xs.length ≤ sizeLine) (r1 : Reps K F xs ds) (r2 : Reps K F ys es) : Walks K (Itz2 K k1 k2 a b) F (zipL ds es) := by
  refine ⟨by rw [zipL_len, ← r1.length]; omega, fun F1 H1 e1 e2 => ⟨fun i d q => ?_, ?_⟩⟩
  · obtain ⟨dx, dy, hx, hy, rfl⟩ := zipL_at q
    obtain ⟨v, hv, rv⟩ := r1.get hx
    obtain ⟨u, hu, ru⟩ := r2.get hy
    refine ⟨⟨xs, ys, v, u, (h1.same e1).same e2, (h2.same e1).same e2, hv, hu⟩, fun x H' y => ?_⟩
    obtain ⟨T, x1, x2, rfl, nT, rfl, f1, f2⟩ := y
    have ex1 := f1 xs ((h1.same e1).same e2)
    have ex2 := f2 ys ((h2.same e1).same e2)
    rw [hv] at ex1
    rw [hu] at ex2
    cases ex1
    cases ex2
    exact ⟨_, Ext.fresh e2 _ nT, new_tup e2 nT (by show 2 ≤ sizeLine; decide) (.cons (rv.mono e1) (.cons (ru.mono e1) .nil))⟩
  · refine ⟨xs, ys, (h1.same e1).same e2, (h2.same e1).same e2, ?_⟩
    rw [zipL_len, r1.length, r2.length]
theorem it_zip {X : Cx} {G : Gd} {W : WX} {ρ : Rho} {elts : List Expr} {kk : Nat} {tpos p pos : Pos} {a b : Expr} {ma mb : Rs D} (hg : Gl X "zip") (hm : X.mg "zip" = none) (ha : EV X G W ρ a ma) (hb : EV X G W ρ b mb)
    (hs : starEach [a, b] X.env = (false, eval a X.env) :: starEach [b] X.env := by rfl) (hs2 : starEach [b] X.env = (false, eval b X.env) :: starEach [] X.env := by rfl) (hpl : (backTo pos (starEach [b] X.env)).any (·.1) = false := by rfl) :
    IT X G W ρ (.Tuple elts kk tpos) (.Call (.Name "zip" p) [a, b] [] pos) (ma.bind fun x => mb.bind fun y => Rs.of (zipD x y)) := by
  obtain ⟨t, pe, q⟩ := ha
  obtain ⟨t2, pe2, q2⟩ := hb
  refine ⟨_, pi_zip2 hg hm (pa_cons pe (pa_cons pe2 pa_nil hs2) hs) hs hpl, fun F0 σ F H R hh hp => ?_⟩
  refine q F0 σ F H _ hh (hp.bind fun d v F' H' e1 r1 hp1 => ?_)
  refine q2 F0 σ F' H' _ (hh.more e1) (hp1.bind fun d2 v2 F2 H2 e2 r2 hp2 => ?_)
  obtain ⟨ds, hd, k⟩ := hp2.of
  unfold zipD at hd
  split at hd
  · rename_i xs ys hx hy
    cases hd
    obtain ⟨k1, a1, vs1, rfl, g1, l1, w1⟩ := rep_seq (r1.mono e2.ext) hx
    obtain ⟨k2, a2, vs2, rfl, g2, l2, w2⟩ := rep_seq r2 hy
    exact ⟨k1, k2, a1, a2, vs1, vs2, rfl, g1.same e2.sub, g2.same e2.sub, k _ F2 H2 (Ext.refl e2.sub) (walks_zip g1 g2 l1 w1 w2)⟩
  · cases hd
set_option maxHeartbeats 1000000 in
theorem meets_enumK {v : Value} {o : Obj} {Hp0 : Heap → Prop} (B : Begins v o Hp0) :
    Meets (Builtin.«enumerate.__new__» ⟨[.type "enumerate", v], []⟩) (fun _ R s => Hp0 s.heap ∧ R (.ok (.ret (.ref (s.heap.push o).objs.size))) { s with heap := (s.heap.push o).push { cls := .type "enumerate", data := .fields #[.none, .bool false, .ref s.heap.objs.size, rawInt 0, .none, .none] } }) :=
  .of_wp fun prog w A R s h => by
    obtain ⟨hp, g, d, tk, os⟩ := s
    obtain ⟨h1, h⟩ := h
    have hsub := sub_enumerate
    have q1 : ∀ {A' : Around} {E : Value → Shared → Prop} {Q : Value → Shared → Prop}, Q (.ref hp.objs.size) ⟨hp.push o, g, d, tk, os⟩ → wpAny (model prog w) A' (pyIter v) Q E ⟨hp, g, d, tk, os⟩ := fun q => B.iter prog w _ _ ⟨hp, g, d, tk, os⟩ _ h1 q
    wp_walk using q1
    refine wpAny_stack_any fun st => wpAny_pure ?_
    split
    · rename_i c _ _ _ _ _
      cases (c == Value.type "enumerate") <;> (wp_walk using q1; exact ⟨_, rfl, h⟩)
    · wp_walk using q1
      exact ⟨_, rfl, h⟩
theorem call_enumK {prog : Program} {w : World} {A : Around} {E : Value → Shared → Prop} {s : Shared} {v : Value} {o : Obj} {Hp0 : Heap → Prop} {Q : Value → Shared → Prop} (B : Begins v o Hp0) (h1 : Hp0 s.heap)
    (h : ∀ h', IsEnum h' (s.heap.objs.size + 1) s.heap.objs.size 0 .none → h'.get? s.heap.objs.size = some o → h'.objs.size = s.heap.objs.size + 2 → (∀ b o, s.heap.get? b = some o → h'.get? b = some o) → Q (.ref (s.heap.objs.size + 1)) { s with heap := h' }) :
    wpAny (model prog w) A (call (.type "enumerate") [v]) Q E s := by
  refine callType_new F.called_enumerate (by decide) (F.typeCall_enumerate_1 _) (F.newCall_enumerate_1 _) (fun obj => F.args_object_init_2 obj _) F.entry_enumerate_new (meets_enumK B) ⟨h1, ?_⟩
  have hz : (s.heap.push o).objs.size = s.heap.objs.size + 1 := Heap.size_push ..
  show _ ∧ _
  rw [hz]
  have g0 : ((s.heap.push o).push { cls := .type "enumerate", data := .fields #[.none, .bool false, .ref s.heap.objs.size, rawInt 0, .none, .none] }).get? (s.heap.objs.size + 1) = some { cls := .type "enumerate", data := .fields #[.none, .bool false, .ref s.heap.objs.size, rawInt 0, .none, .none] } := by
    rw [← hz]
    exact Heap.get?_push_size _ rfl
  refine ⟨⟨_, g0, rfl⟩, h _ g0 ?_ ?_ ?_⟩
  · exact Heap.get?_push_of_some _ (Heap.get?_push_size _ B.free)
  · rw [Heap.size_push, hz]
  · exact fun b o' e => Heap.get?_push_of_some _ (Heap.get?_push_of_some _ e)
def Ite2 (K : PySem.W.Frag) (k1 : Kd) (a : Addr) : It :=
  ⟨fun i H => ∃ (xs : List V) (x : V), KSq K H a xs k1 ∧ xs[i]? = some x,
    fun i H v H' => ∃ T x, v = .ref T ∧ H T = none ∧ H' = upd H T (.tup [.int (0 + (i : Int)), x]) ∧ ∀ xs, KSq K H a xs k1 → xs[i]? = some x,
    fun i H => ∃ xs : List V, KSq K H a xs k1 ∧ i = xs.length⟩
def eTn (k1 : Kd) (e it a : Addr) (i : Nat) (h : Heap) : Prop := (∃ old, IsEnum h e it (0 + (i : Int)) old) ∧ KIter h it a i k1
theorem turn_enum2 {P : Program} {w : World} {K : PySem.W.Frag} {elts : List Expr} {kk : Nat} {tpos : Pos} {k1 : Kd} {a : Addr} {N : Nat} (ha : a < N) :
    Turn P w K (.Tuple elts kk tpos) (Ite2 K k1 a) [N + 1, N] (N + 1) (eTn k1 (N + 1) N a) where
  mem := by simp
  obj := fun i h st c hc => by
    obtain ⟨⟨old, hz⟩, h1⟩ := st
    simp only [List.mem_cons, List.not_mem_nil, or_false] at hc
    rcases hc with q | q
    · subst q; exact ⟨_, hz, fun v z => nomatch z⟩
    · exact q ▸ h1.there
  keep := fun i h h' st k => by
    obtain ⟨⟨old, hz⟩, h1⟩ := st
    exact ⟨⟨old, k _ (by simp) _ hz⟩, h1.keep fun o q => k _ (by simp) o q⟩
  item := by
    intro X hP hw hK hc i pins s σ H E I hf st hg
    subst hP hw hK
    obtain ⟨hz, h1⟩ := st
    obtain ⟨xs, x, hqx, hx⟩ := hg
    obtain ⟨its, rv, p1, _⟩ := inv_sq I hqx
    obtain ⟨u, hu, ru⟩ := rv.get hx
    have hne1 : a ≠ N := Nat.ne_of_lt ha
    have hne2 : N + 1 ≠ a := fun z => by
      have : a < N := ha
      rw [← z] at this
      exact absurd this (Nat.not_lt.mpr (Nat.le_succ N))
    have GN := GoesN.enumFrom (prog := X.prog) (w := X.w) (A := X.A) (elts := elts) (x1 := kk) (pos := tpos) 0 (kDraws (prog := X.prog) (w := X.w) (A := X.A.in1) (I.ok.hd hc) N a hne1 its.toArray k1) (N + 1) (Nat.succ_ne_self N) (by
      simp only [List.mem_cons, List.not_mem_nil, or_false, not_or]
      exact ⟨Nat.succ_ne_self N, hne2⟩) (by simp)
    have il1 : i < its.length := by
      rcases Nat.lt_or_ge i its.length with z | z
      · exact z
      · rw [List.getElem?_eq_none z] at hu; cases hu
    refine GN.goes i s (fun v s2 => ∃ x H', Inv X pins σ H' s2 ∧ RelV x v ∧ (Ite2 X.K k1 a).yld i H x H' ∧ eTn k1 (N + 1) N a (i + 1) s2.heap ∧ ∀ b ∈ [N + 1, N], H' b = none) E (by simp only [List.size_toArray]; omega) ⟨hz, ⟨h1, p1⟩⟩ fun v h' tk hY st' hk htk => ?_
    obtain ⟨T, t0, w1, rfl, hT, e1, hTt⟩ := hY
    have ew1 : w1 = u := by
      have : its[i]? = some w1 := by simpa using e1
      rw [hu] at this
      exact (Option.some.inj this).symm
    subst ew1
    obtain ⟨hz', ⟨h1', _⟩⟩ := st'
    have new : ObjOk X.prog X.w (upd H T (.tup [.int (0 + (i : Int)), x])) h' T (.tup [.int (0 + (i : Int)), x]) := ⟨by show 2 ≤ sizeLine; decide, [.int (0 + (i : Int)) t0, w1], .cons ⟨t0, rfl⟩ (.cons ru .nil), hTt⟩
    have I1 : Inv X pins σ (upd H T (.tup [.int (0 + (i : Int)), x])) { s with heap := h', toks := tk } := I.turnedNew (ch := [N + 1, N]) (fun c o hb q => hk c o hb q) hf hT new
    refine ⟨.ref T, _, I1, rfl, ⟨T, x, rfl, I.hok.fresh hT, rfl, fun l hl => by rw [inv_sq_inj I hl hqx]; exact hx⟩, ⟨hz', h1'⟩, fun c hcm => ?_⟩
    have hc1 := (hf c hcm).1
    by_cases e : c = T
    · subst e
      exfalso
      have : ∃ o, s.heap.get? c = some o := by
        simp only [List.mem_cons, List.not_mem_nil, or_false] at hcm
        rcases hcm with q | q
        · obtain ⟨_, hz⟩ := hz; exact ⟨_, q ▸ hz⟩
        · obtain ⟨o, z, _⟩ := h1.there; exact ⟨o, q ▸ z⟩
      obtain ⟨o, z⟩ := this
      exact absurd (Heap.lt_size z) (Nat.not_lt.mpr hT)
    · rw [upd_ne e]
      exact hc1
  done := by
    intro X hP hw hK hc i pins s σ H E I hf st hg
    subst hP hw hK
    obtain ⟨hz, h1⟩ := st
    obtain ⟨xs, hqx, hend⟩ := hg
    obtain ⟨its, rv, p1, _⟩ := inv_sq I hqx
    have hne1 : a ≠ N := Nat.ne_of_lt ha
    have hne2 : N + 1 ≠ a := fun z => by
      have : a < N := ha
      rw [← z] at this
      exact absurd this (Nat.not_lt.mpr (Nat.le_succ N))
    have GN := GoesN.enumFrom (prog := X.prog) (w := X.w) (A := X.A) (elts := elts) (x1 := kk) (pos := tpos) 0 (kDraws (prog := X.prog) (w := X.w) (A := X.A.in1) (I.ok.hd hc) N a hne1 its.toArray k1) (N + 1) (Nat.succ_ne_self N) (by
      simp only [List.mem_cons, List.not_mem_nil, or_false, not_or]
      exact ⟨Nat.succ_ne_self N, hne2⟩) (by simp)
    have ei : i = its.toArray.size := by
      rw [List.size_toArray, ← rv.length]
      exact hend
    refine GN.stops s _ E (by rw [← ei]; exact ⟨hz, ⟨h1, p1⟩⟩) fun h' tk hk htk => I.turnedL (ch := [N + 1, N]) (fun c o hb q => hk c o hb q) hf
  self := fun A i s Q E st h => by
    obtain ⟨⟨old, hz⟩, _⟩ := st
    exact wpAny_pyIter_enum hz h
def iEnum2 (K : PySem.W.Frag) (ta : TA) : TI := fun σ H R => ta σ H fun vs H1 => ∃ k1 a xs, vs = [.ref a] ∧ KSq K H1 a xs k1 ∧ R (Ite2 K k1 a) H1
theorem pi_enum2 {X : Cx} {e : Expr} {ta : TA} {p pos tpos : Pos} {elts : List Expr} {kk : Nat} (hg : Gl X "enumerate") (hm : X.mg "enumerate" = none) (ha : PA X [e] ta)
    (hs : starEach [e] X.env = (false, eval e X.env) :: starEach [] X.env := by rfl) (hpl : (backTo pos (starEach [] X.env)).any (·.1) = false := by rfl) :
    PI X (.Tuple elts kk tpos) (.Call (.Name "enumerate" p) [e] [] pos) (iEnum2 X.K ta) := by
  refine ⟨fun pins s σ H R I h => Call_ (ld_blt I hg hm boot_enumerate (PyProof.Rows.callWith_type1 (thn (ha.run pos pins s σ H _ I h) fun us s1 ⟨vs, H1, I1, r1, q1⟩ => ?_) hs hpl))⟩
  obtain ⟨k1, a, xs, rfl, hqx, q⟩ := q1
  obtain ⟨u1, rfl, r⟩ := vals1 r1
  cases r
  obtain ⟨its, rv, p1, la⟩ := inv_sq I1 hqx
  refine call_enumK (kBegins a its.toArray k1) p1 fun h' hz g1 hsz hk => wpAny_pyIter_enum hz ?_
  have I2 : Inv X pins σ H1 { s1 with heap := h' } := I1.kept (t' := s1.toks) hk
  refine ⟨_, _, _, Ite2 X.K k1 a, H1, rfl, I2, turn_enum2 (N := s1.heap.objs.size) la, ⟨⟨_, hz⟩, KIter.of_new g1⟩, fun c hcm => ?_, q⟩
  have hle : s1.heap.objs.size ≤ c := by
    simp only [List.mem_cons, List.not_mem_nil, or_false] at hcm
    rcases hcm with z | z <;> rw [z] <;> first | exact Nat.le_refl _ | exact Nat.le_add_right _ _
  exact I1.fpOk hle (I1.hok.fresh hle)
def enumL : Nat → List D → List D
  | _, [] => []
  | i, x :: xs => .tup [.int (0 + (i : Int)), x] :: enumL (i + 1) xs
def enumD (x : D) : Option (List D) := (seqD x).map (enumL 0)
theorem enumL_len : ∀ (i : Nat) (xs : List D), (enumL i xs).length = xs.length
  | _, [] => rfl
  | i, x :: xs => by simp only [enumL, List.length_cons, enumL_len (i + 1) xs]
theorem enumL_at : ∀ {j : Nat} {xs : List D} {i : Nat} {d : D}, (enumL j xs)[i]? = some d → ∃ x, xs[i]? = some x ∧ d = .tup [.int (0 + ((j + i : Nat) : Int)), x]
  | _, [], _, _, h => by simp [enumL] at h
  | j, x :: xs, 0, d, h => by simp only [enumL, List.getElem?_cons_zero, Option.some.injEq] at h; exact ⟨x, rfl, h.symm⟩
  | j, x :: xs, i + 1, d, h => by
    obtain ⟨y, h1, h2⟩ := enumL_at (j := j + 1) (xs := xs) (i := i) (by simpa [enumL] using h)
    exact ⟨y, by simpa using h1, by rw [h2, show j + 1 + i = j + (i + 1) by omega]⟩
theorem walks_enum {K : PySem.W.Frag} {F : Hp} {a : Addr} {xs : List V} {ds : List D} {k1 : Kd} (h1 : KSq K F a xs k1) (l1 : xs.length ≤ sizeLine) (r1 : Reps K F xs ds) : Walks K (Ite2 K k1 a) F (enumL 0 ds) := by
  refine ⟨by rw [enumL_len, ← r1.length]; exact l1, fun F1 H1 e1 e2 => ⟨fun i d q => ?_, ?_⟩⟩
  · obtain ⟨dx, hx, rfl⟩ := enumL_at q
    obtain ⟨v, hv, rv⟩ := r1.get hx
    refine ⟨⟨xs, v, (h1.same e1).same e2, hv⟩, fun x H' y => ?_⟩
    obtain ⟨T, x1, rfl, nT, rfl, f1⟩ := y
    have ex1 := f1 xs ((h1.same e1).same e2)
    rw [hv] at ex1
    cases ex1
    rw [Nat.zero_add]
    exact ⟨_, Ext.fresh e2 _ nT, new_tup e2 nT (by show 2 ≤ sizeLine; decide) (.cons (.int _) (.cons (rv.mono e1) .nil))⟩
  · refine ⟨xs, (h1.same e1).same e2, ?_⟩
    rw [enumL_len, r1.length]
theorem it_enum {X : Cx} {G : Gd} {W : WX} {ρ : Rho} {elts : List Expr} {kk : Nat} {tpos p pos : Pos} {a : Expr} {ma : Rs D} (hg : Gl X "enumerate") (hm : X.mg "enumerate" = none) (ha : EV X G W ρ a ma)
    (hs : starEach [a] X.env = (false, eval a X.env) :: starEach [] X.env := by rfl) (hpl : (backTo pos (starEach [] X.env)).any (·.1) = false := by rfl) :
    IT X G W ρ (.Tuple elts kk tpos) (.Call (.Name "enumerate" p) [a] [] pos) (ma.bind fun x => Rs.of (enumD x)) := by
  obtain ⟨t, pe, q⟩ := ha
  refine ⟨_, pi_enum2 hg hm (pa_cons pe pa_nil hs) hs hpl, fun F0 σ F H R hh hp => ?_⟩
  refine q F0 σ F H _ hh (hp.bind fun d v F' H' e1 r1 hp1 => ?_)
  obtain ⟨ds, hd, k⟩ := hp1.of
  unfold enumD at hd
  cases hx : seqD d with
  | none => rw [hx] at hd; cases hd
  | some xs =>
    rw [hx] at hd
    cases hd
    obtain ⟨k1, a1, vs1, rfl, g1, l1, w1⟩ := rep_seq r1 hx
    exact ⟨k1, a1, vs1, rfl, g1.same e1.sub, k _ F' H' (Ext.refl e1.sub) (walks_enum g1 l1 w1)⟩
end VL
set_option Elab.async false
set_option linter.all false
set_option maxRecDepth 100000
set_option autoImplicit false
namespace VL
open PySem PySem.Spec L2
open PyProof.Rows hiding St
section
variable {X : Cx} {G : Gd} {W : WX} {ρ ρx : Rho} {a b c : Expr} {ma mb mc : Rs D} {pos p : Pos}
theorem tv_cmp {op : CmpOp} {r : R2} {f : D → D → Option D} {g : D → D → Option Bool} (ho : OpR X (compareOp op) r) (hf : R2ok X.K r f) (hg : Isb f g) (ha : EO X G W ρ a ma) (hb : EO X G W ρ b mb) (hm : behindInMarks op b = false) :
    TV X G W ρ (.Compare a [op] [b] pos) (ma.bind fun x => mb.bind fun y => Rs.of (g x y)) := by
  obtain ⟨ta, pa, qa⟩ := ha
  obtain ⟨tb, pb, qb⟩ := hb
  refine ⟨_, pt_cmpR ho pa pb hm, fun F0 σ F H Q hh hp => ?_⟩
  refine qa F0 σ F H _ hh (hp.bind fun dx x F1 H1 e1 r1 hp1 => ?_)
  refine qb F0 σ F1 H1 _ (hh.more e1) (hp1.bind fun dy y F2 H2 e2 r2 hp2 => ?_)
  obtain ⟨d, hd, k⟩ := hp2.of
  refine hf e2.sub (r1.more e2) r2 (by rw [hg, hd]; rfl) fun v F' H' e3 r3 => ?_
  cases r3
  exact ⟨d, rfl, k _ F' H' e3 rfl⟩
theorem chain_ok {r r' : R2} {f f' : D → D → Option D} {g : D → D → Option Bool} {ta tb tc : TE} (hf : R2ok X.K r f) (hg : Isb f g) (hf' : R2ok X.K r' f')
    (qa : ∀ F0 σ F H Q, Holds X.K (G.at F0) ρ σ F H → Post X.K (RepH X.K) (fun c d H => W c d σ H) F H Q ma → ta σ H Q) (qb : ∀ F0 σ F H Q, Holds X.K (G.at F0) ρ σ F H → Post X.K (RepH X.K) (fun c d H => W c d σ H) F H Q mb → tb σ H Q)
    (qc : ∀ F0 σ F H Q, Holds X.K (G.at F0) ρ σ F H → Post X.K (RepH X.K) (fun c d H => W c d σ H) F H Q mc → tc σ H Q) {F0 : Hp} {σ : St} {F H : Hp} {Q : VK} (hh : Holds X.K (G.at F0) ρ σ F H)
    (hp : Post X.K (RF X.K) (fun c d H => W c d σ H) F H Q (ma.bind fun x => mb.bind fun y => (Rs.of (g x y)).bind fun k => if k then mc.bind fun z => Rs.of (f' y z) else .ok (.bl false))) : tChain r r' ta tb tc σ H Q := by
  refine qa F0 σ F H _ hh (hp.bind fun dx x F1 H1 e1 r1 hp1 => ?_)
  refine qb F0 σ F1 H1 _ (hh.more e1) (hp1.bind fun dy y F2 H2 e2 r2 hp2 => ?_)
  cases hk : g dx dy with
  | none => rw [hk] at hp2; exact hp2.elim
  | some k =>
    rw [hk] at hp2
    refine hf e2.sub (r1.more e2) r2 (by rw [hg, hk]; rfl) fun v F3 H3 e3 r3 => ?_
    cases r3
    refine ⟨k, rfl, ?_⟩
    have hp3 := Post.more hp2 e3
    cases k with
    | true =>
      refine iteT (qc F0 σ F3 H3 _ (((hh.more e1).more e2).more e3) (Post.bind (f := fun z => Rs.of (f' dy z)) hp3 fun dz z F4 H4 e4 r4 hp4 => ?_))
      obtain ⟨d, hd, k⟩ := hp4.of
      exact hf' e4.sub ((r2.more e3).more e4) r4 hd k
    | false => exact iteF (hp3 _ F3 H3 (Ext.refl e3.sub) (.bl false))
theorem tv_chain {op op' : CmpOp} {r r' : R2} {f f' : D → D → Option D} {g g' : D → D → Option Bool} (ho : OpR X (compareOp op) r) (hf : R2ok X.K r f) (hg : Isb f g) (ho' : OpR X (compareOp op') r') (hf' : R2ok X.K r' f') (hg' : Isb f' g') (ha : EO X G W ρ a ma) (hb : EO X G W ρ b mb) (hc : EO X G W ρ c mc)
    (pe : ∀ {ta tb tc : TE}, PE X a ta → PE X b tb → PE X c tc → PT X (.Compare a [op, op'] [b, c] pos) (tTest (tChain r r' ta tb tc))) :
    TV X G W ρ (.Compare a [op, op'] [b, c] pos) (ma.bind fun x => mb.bind fun y => (Rs.of (g x y)).bind fun k => if k then mc.bind fun z => Rs.of (g' y z) else .ok false) := by
  obtain ⟨ta, pa, qa⟩ := ha
  obtain ⟨tb, pb, qb⟩ := hb
  obtain ⟨tc, pc, qc⟩ := hc
  refine ⟨_, pe pa pb pc, fun F0 σ F H Q hh hp => ?_⟩
  refine chain_ok (Q := fun x H' => ∃ k, x = .bl k ∧ Q k H') hf hg hf' qa qb qc hh ?_
  cases ma with
  | ex c fs => exact hp
  | no => exact hp
  | ok x =>
    cases mb with
    | ex c fs => exact hp
    | no => exact hp
    | ok y =>
      simp only [Rs.bind_ok] at hp ⊢
      cases hk : g x y with
      | none => rw [hk] at hp; exact hp
      | some k =>
        rw [hk] at hp
        cases k with
        | false => exact fun v F' H' e1 r1 => by cases r1; exact ⟨false, rfl, hp _ F' H' e1 rfl⟩
        | true =>
          cases mc with
          | ex c fs => exact hp
          | no => exact hp
          | ok z =>
            simp only [Rs.bind_ok, Rs.of_some, if_true] at hp ⊢
            rw [hg']
            cases hz : g' y z with
            | none => rw [hz] at hp; exact hp
            | some k => rw [hz] at hp; exact fun v F' H' e1 r1 => by cases r1; exact ⟨k, rfl, hp _ F' H' e1 rfl⟩
theorem ev_globC {x : Str} {v : V} {u : Value} {d : D} (hm : X.mg x = some u) (rv : RelV v u) (r : ∀ F, Rep X.K F v d) (hg : Gl X x := by rfl) (hd : (x == ("__debug__" : Str)) = false := by decide) : EV X G W ρ (.Name x pos) (.ok d) := ev_c (pe_glob hg hm rv hd) r
theorem reps_ints {K : PySem.W.Frag} {F : Hp} : ∀ is : List Int, Reps K F (is.map V.int) (is.map D.int)
  | [] => .nil
  | i :: r => .cons (.int i) (reps_ints r)
theorem ev_glob_tup {x : Str} {f : Addr} {is : List Int} (hT : ∀ H, SqT X.K H f (is.map V.int)) (hm : X.mg x = some (.ref f)) (hl : is.length ≤ sizeLine := by decide) (hg : Gl X x := by rfl) (hd : (x == ("__debug__" : Str)) = false := by decide) : EV X G W ρ (.Name x pos) (.ok (.tup (is.map D.int))) :=
  ev_globC hm (v := .ref f) rfl (fun F => .tup (.inr ⟨hT _, fun x hx => by obtain ⟨i, _, rfl⟩ := List.mem_map.mp hx; exact ⟨i, rfl⟩⟩) (by rw [List.length_map]; exact hl) (reps_ints is)) hg hd
end
def kindD : D → Option String
  | .non => some "NoneType"
  | .bl _ => some "bool"
  | .int _ => some "int"
  | .str _ => some "str"
  | .lst _ => some "list"
  | .tup _ => some "tuple"
  | .tupL _ => some "tuple"
  | _ => none
def isiK (k t : String) : Bool := k == t || (k == "bool" && t == "int")
def isiB (t : String) (d : D) : Option Bool := (kindD d).map fun k => isiK k t
def isiD (t : String) (d : D) : Option D := (isiB t d).map .bl
def isiD2 (t u : String) (d : D) : Option D := (kindD d).map fun k => .bl (isiK k t || isiK k u)
theorem sqT_ty {K : PySem.W.Frag} {H : Hp} {a : Addr} {xs : List V} (h : SqT K H a xs) : TyX K H (.ref a) (.type "tuple") := by
  rcases h with (h | ⟨o, h⟩) | ⟨o, its, n, hk, hc, _⟩
  · exact .base (.tup h)
  · exact .fTuple h
  · exact .kTuple hk hc
theorem RepH.ty {K : PySem.W.Frag} {F H : Hp} (s : Same F H) {v : V} {d : D} {k : String} (r : RepH K F H v d) (h : kindD d = some k) : TyX K H v (.type k) := by
  cases d with
  | non => cases h; rw [r.non]; exact .base .non
  | bl b => cases h; rw [r.bl]; exact .base (.bl b)
  | int i => cases h; rw [r.int]; exact .base (.int i)
  | str x => cases h; rw [r.str]; exact .base (.str x)
  | lst ds =>
    cases h
    obtain ⟨a, xs, rfl, ha, _, _⟩ := r.lst s
    exact .base (.lst ha)
  | tup ds =>
    cases h
    obtain ⟨a, xs, rfl, ha, _⟩ := r.tup s
    exact sqT_ty ha
  | tupL ds =>
    cases h
    obtain ⟨a, xs, rfl, ha, _⟩ := r.tupL s
    exact sqT_ty ha
  | _ => cases h
def KitT (t : String) : Prop := ∀ k ∈ ["NoneType", "bool", "int", "str", "list", "tuple"], kitB k t = some (isiK k t)
theorem kitT_int : KitT "int" := by unfold KitT; decide +kernel
theorem kitT_bool : KitT "bool" := by unfold KitT; decide +kernel
theorem kitT_str : KitT "str" := by unfold KitT; decide +kernel
theorem kitT_tuple : KitT "tuple" := by unfold KitT; decide +kernel
theorem kitT_list : KitT "list" := by unfold KitT; decide +kernel
theorem kind_mem {d : D} {k : String} (h : kindD d = some k) : k ∈ ["NoneType", "bool", "int", "str", "list", "tuple"] := by
  cases d <;> cases h <;> simp
section
variable {X : Cx} {G : Gd} {W : WX} {ρ ρx : Rho} {a b c : Expr} {ma mb mc : Rs D} {pos p p2 : Pos}
theorem ev_isi {t : String} {tn : Str} (hm : X.mg "isinstance" = none) (ht : X.mg tn = none) (hv : bootBuiltins tn = some (.type t)) (hk : KitT t) (ha : EO X G W ρ a ma) (hg : Gl X "isinstance" := by rfl) (hg2 : Gl X tn := by rfl) (hn : tn ≠ "__name__" := by decide) (hd : (tn == ("__debug__" : Str)) = false := by decide)
    (hs : starEach [a, .Name tn p2] X.env = (false, eval a X.env) :: starEach [.Name tn p2] X.env := by rfl) (hs2 : starEach [.Name tn p2] X.env = (false, eval (.Name tn p2) X.env) :: starEach [] X.env := by rfl) (hpl : (backTo pos (starEach [.Name tn p2] X.env)).any (·.1) = false := by rfl) :
    EV X G W ρ (.Call (.Name "isinstance" p) [a, .Name tn p2] [] pos) (ma.bind fun x => Rs.of (isiD t x)) := by
  obtain ⟨ta, pa, qa⟩ := ha
  refine ⟨_, pe_callB call_isi hg hm boot_isinstance (pa_cons pa (pa_cons (pe_bltn (v := .ty t) hg2 ht hv rfl hn hd) pa_nil hs2) hs) (by decide) (by decide) hs hpl, fun F0 σ F H Q hh hp => ?_⟩
  refine qa F0 σ F H _ hh (hp.bind fun dx x F1 H1 e1 r1 hp1 => ?_)
  obtain ⟨d, hd, k⟩ := hp1.of
  unfold isiD isiB at hd
  cases hx : kindD dx with
  | none => rw [hx] at hd; cases hd
  | some kd =>
    rw [hx] at hd
    cases hd
    exact ⟨x, .ty t, .type kd, .type t, _, rfl, .ty t, r1.ty e1.sub hx, kit_ty (hk kd (kind_mem hx)), k _ F1 H1 (Ext.refl e1.sub) (.bl _)⟩
theorem ev_isi2 {t u : String} {tn un : Str} {x1 : Nat} {p3 p4 : Pos} (hm : X.mg "isinstance" = none) (ht : X.mg tn = none) (hv : bootBuiltins tn = some (.type t)) (ht2 : X.mg un = none) (hv2 : bootBuiltins un = some (.type u)) (hk : KitT t) (hk2 : KitT u) (ha : EO X G W ρ a ma)
    (hg : Gl X "isinstance" := by rfl) (hg2 : Gl X tn := by rfl) (hg3 : Gl X un := by rfl) (hn : tn ≠ "__name__" := by decide) (hd : (tn == ("__debug__" : Str)) = false := by decide) (hn3 : un ≠ "__name__" := by decide) (hd3 : (un == ("__debug__" : Str)) = false := by decide)
    (hs : starEach [a, .Tuple [.Name tn p2, .Name un p3] x1 p4] X.env = (false, eval a X.env) :: starEach [.Tuple [.Name tn p2, .Name un p3] x1 p4] X.env := by rfl)
    (hs2 : starEach [.Tuple [.Name tn p2, .Name un p3] x1 p4] X.env = (false, eval (.Tuple [.Name tn p2, .Name un p3] x1 p4) X.env) :: starEach [] X.env := by rfl)
    (hs3 : starEach [.Name tn p2, .Name un p3] X.env = (false, eval (.Name tn p2) X.env) :: starEach [.Name un p3] X.env := by rfl) (hs4 : starEach [.Name un p3] X.env = (false, eval (.Name un p3) X.env) :: starEach [] X.env := by rfl)
    (hpl : (backTo pos (starEach [.Tuple [.Name tn p2, .Name un p3] x1 p4] X.env)).any (·.1) = false := by rfl) :
    EV X G W ρ (.Call (.Name "isinstance" p) [a, .Tuple [.Name tn p2, .Name un p3] x1 p4] [] pos) (ma.bind fun x => Rs.of (isiD2 t u x)) := by
  obtain ⟨ta, pa, qa⟩ := ha
  refine ⟨_, pe_callB call_isiT hg hm boot_isinstance (pa_cons pa (pa_cons (pe_tup (pa_cons (pe_bltn (v := .ty t) hg2 ht hv rfl hn hd) (pa_cons (pe_bltn (v := .ty u) hg3 ht2 hv2 rfl hn3 hd3) pa_nil hs4) hs3)) pa_nil hs2) hs) (by decide) (by decide) hs hpl, fun F0 σ F H Q hh hp => ?_⟩
  refine qa F0 σ F H _ hh (hp.bind fun dx x F1 H1 e1 r1 hp1 => ?_)
  obtain ⟨d, hd, k⟩ := hp1.of
  unfold isiD2 at hd
  cases hx : kindD dx with
  | none => rw [hx] at hd; cases hd
  | some kd =>
    rw [hx] at hd
    cases hd
    refine ⟨by show 2 ≤ sizeLine; decide, fun q hq => ?_⟩
    have e2 := Ext.loose e1.sub (.tup [.ty t, .ty u]) hq
    have k1 := kit_ty (K := X.K) (hk kd (kind_mem hx))
    have k2 := kit_ty (K := X.K) (hk2 kd (kind_mem hx))
    refine ⟨x, q, [.ty t, .ty u], .type kd, [.type t, .type u], _, rfl, upd_same, .cons (.ty t) (.cons (.ty u) .nil), (r1.more e2).ty e2.sub hx, ?_, k _ F1 _ e2 (.bl _)⟩
    refine kitAny_cons k1 (fun e => ?_) fun e => by rw [e]; rfl
    rw [e, Bool.false_or]
    exact kitAny_cons k2 (fun e => by rw [e]; rfl) fun e => e
end
section
variable {X : Cx} {G : Gd} {W : WX} {ρx ρ : Rho} {rest sts : List Stmt} {α β R : Type} {pn : α → Rho} {pl : β → Rho} {ι : R → Fl α β}
theorem bk_setV {i : Nat} {st : Stmt} {d : D} {m : Rs (Fl α β)} (ha : AS X G W ρ st i (.ok d)) (hr : BK X G W ρx (ρ.set i (some (.val d))) rest pn pl m) (hi : i < ρ.length := by exact Nat.le_of_ble_eq_true rfl) (wx : Wk ρ ρx := by first | exact Wk.nil | exact Wk.refl | (repeat (first | exact Wk.nil | apply Wk.keep | apply Wk.drop))) : BK X G W ρx ρ (st :: rest) pn pl m := by
  obtain ⟨te, p, q⟩ := ha
  intro F0 σ F H E hh hp
  refine any_cons p (q F0 σ F H _ hh fun v F' H' e1 r1 => ?_)
  exact hr F0 _ F' H' E ((hh.more e1).setV r1 hi) hp
theorem bi_setV {i : Nat} {st : Stmt} {d : D} {m : Rs R} (ha : AS X G W ρ st i (.ok d)) (hr : BI X G W ρx (ρ.set i (some (.val d))) rest pn pl ι m) (hi : i < ρ.length := by exact Nat.le_of_ble_eq_true rfl) (wx : Wk ρ ρx := by first | exact Wk.nil | exact Wk.refl | (repeat (first | exact Wk.nil | apply Wk.keep | apply Wk.drop))) : BI X G W ρx ρ (st :: rest) pn pl ι m := bk_setV ha hr hi wx
theorem bk_par {i j : Nat} {x y : Str} {a b : Expr} {px py pt : Pos} {kt k2 : Nat} {pt2 pos : Pos} {ma mb : Rs D} {f : D → D → Rs (Fl α β)} (calm : X.calm = true) (nd : X.N.Nodup) (ha : EV X G W ρ a ma) (hb : EV X G W ρ b mb)
    (hr : ∀ d e, BK X G W ρx ((ρ.set i (some (.val d))).set j (some (.val e))) rest pn pl (f d e)) (hi : X.N[i]? = some x := by rfl) (hj : X.N[j]? = some y := by rfl) (hij : i ≠ j := by decide) (hx : X.env.scope.names.lookup x = some .local := by rfl) (hy : X.env.scope.names.lookup y = some .local := by rfl)
    (hw : swappedStores [.Tuple [.Name x px, .Name y py] kt pt] (.Tuple [a, b] k2 pt2) X.env = pure (some [x, y]) := by rfl) (hs : swapsWithSole [.Tuple [.Name x px, .Name y py] kt pt] (.Tuple [a, b] k2 pt2) pos.line X.env = pure false := by rfl)
    (hsa : starEach [a, b] X.env = (false, eval a X.env) :: starEach [b] X.env := by rfl) (hsb : starEach [b] X.env = (false, eval b X.env) :: starEach [] X.env := by rfl) (hli : i < ρ.length := by exact Nat.le_of_ble_eq_true rfl) (hlj : j < ρ.length := by exact Nat.le_of_ble_eq_true rfl) (wx : Wk ρ ρx := by first | exact Wk.nil | exact Wk.refl | (repeat (first | exact Wk.nil | apply Wk.keep | apply Wk.drop))) :
    BK X G W ρx ρ (.Assign [.Tuple [.Name x px, .Name y py] kt pt] (.Tuple [a, b] k2 pt2) pos :: rest) pn pl (ma.bind fun d => mb.bind fun e => f d e) := by
  obtain ⟨ta, pa, qa⟩ := ha
  obtain ⟨tb, pb, qb⟩ := hb
  intro F0 σ F H E hh hp
  refine any_cons (ps_par calm nd hi hj hij hx hy (pa_cons pa (pa_cons pb pa_nil hsb) hsa) hw hs) ?_
  refine qa F0 σ F H _ hh (post_seq hh wx hp fun d v F1 H1 e1 r1 hp1 => ?_)
  refine qb F0 σ F1 H1 _ (hh.more e1) (post_seq (hh.more e1) wx hp1 fun e u F2 H2 e2 r2 hp2 => ?_)
  refine ⟨v, u, rfl, ?_⟩
  exact hr d e F0 _ F2 H2 E ((((hh.more e1).more e2).setV (r1.mono e2.ext) hli).setV r2 (by simpa using hlj)) hp2
theorem bi_par {i j : Nat} {x y : Str} {a b : Expr} {px py pt : Pos} {kt k2 : Nat} {pt2 pos : Pos} {ma mb : Rs D} {f : D → D → Rs R} (calm : X.calm = true) (nd : X.N.Nodup) (ha : EV X G W ρ a ma) (hb : EV X G W ρ b mb)
    (hr : ∀ d e, BI X G W ρx ((ρ.set i (some (.val d))).set j (some (.val e))) rest pn pl ι (f d e)) (hi : X.N[i]? = some x := by rfl) (hj : X.N[j]? = some y := by rfl) (hij : i ≠ j := by decide) (hx : X.env.scope.names.lookup x = some .local := by rfl) (hy : X.env.scope.names.lookup y = some .local := by rfl)
    (hw : swappedStores [.Tuple [.Name x px, .Name y py] kt pt] (.Tuple [a, b] k2 pt2) X.env = pure (some [x, y]) := by rfl) (hs : swapsWithSole [.Tuple [.Name x px, .Name y py] kt pt] (.Tuple [a, b] k2 pt2) pos.line X.env = pure false := by rfl)
    (hsa : starEach [a, b] X.env = (false, eval a X.env) :: starEach [b] X.env := by rfl) (hsb : starEach [b] X.env = (false, eval b X.env) :: starEach [] X.env := by rfl) (hli : i < ρ.length := by exact Nat.le_of_ble_eq_true rfl) (hlj : j < ρ.length := by exact Nat.le_of_ble_eq_true rfl) (wx : Wk ρ ρx := by first | exact Wk.nil | exact Wk.refl | (repeat (first | exact Wk.nil | apply Wk.keep | apply Wk.drop))) :
    BI X G W ρx ρ (.Assign [.Tuple [.Name x px, .Name y py] kt pt] (.Tuple [a, b] k2 pt2) pos :: rest) pn pl ι (ma.bind fun d => mb.bind fun e => f d e) := by
  unfold BI
  have z := bk_par (f := fun d e => (f d e).bind fun r => .ok (ι r)) (rest := rest) (pos := pos) (px := px) (py := py) (pt := pt) (kt := kt) (k2 := k2) (pt2 := pt2) calm nd ha hb hr hi hj hij hx hy hw hs hsa hsb hli hlj wx
  have e2 : ((ma.bind fun d => mb.bind fun e => f d e).bind fun r => (.ok (ι r) : Rs (Fl α β))) = ma.bind fun d => mb.bind fun e => (f d e).bind fun r => .ok (ι r) := by
    cases ma <;> simp only [Rs.bind_ok, Rs.bind_ex, Rs.bind_no, Rs.assoc]
  rw [e2]
  exact z
def listL : D → Option (List D)
  | .lst xs => some xs
  | .tup xs => some xs
  | .tupL xs => some xs
  | .scr xs => some xs
  | _ => none
theorem ef_list {a : Expr} {ma : Rs D} {p pos : Pos} (hm : X.mg "list" = none) (ha : EO X G W ρ a ma) (hg : Gl X "list" := by rfl) (hs : starEach [a] X.env = (false, eval a X.env) :: starEach [] X.env := by rfl) (hpl : (backTo pos (starEach [] X.env)).any (·.1) = false := by rfl) :
    EF X G W ρ (.Call (.Name "list" p) [a] [] pos) (ma.bind fun x => Rs.of (listL x)) := by
  obtain ⟨ta, pa, qa⟩ := ha
  refine ⟨_, pe_callTy call_list_of hg hm boot_list (pa_cons pa pa_nil hs) (by decide) (by decide) hs hpl, fun F0 σ F H Q hh hp => ?_⟩
  refine qa F0 σ F H _ hh ?_
  cases ma with
  | ex c fs => exact hp
  | no => exact hp
  | ok d =>
    intro v F1 H1 e1 r1
    obtain ⟨ds, hd, k⟩ := Post.of (o := listL d) hp
    have fin : ∀ {ys : List V}, ys.length ≤ sizeLine → Reps X.K F1 ys ds → ∀ l, H1 l = none → Q (.ref l) (upd H1 l (.lst ys)) := fun {ys} hl hr l hn =>
      k _ F1 _ (e1.trans (Ext.loose e1.sub _ hn)) ⟨l, rfl, e1.same.free hn, sub_none e1.sub hn, .lst upd_same hl hr⟩
    cases d with
    | lst xs =>
      cases hd
      obtain ⟨a, ys, rfl, h1, l1, w1⟩ := r1.lst e1.sub
      exact ⟨a, ys, rfl, .inl (SqL.of h1), fin l1 w1⟩
    | tup xs =>
      cases hd
      obtain ⟨a, ys, rfl, h1, l1, w1, _⟩ := r1.tup e1.sub
      exact ⟨a, ys, rfl, .inr h1, fin l1 w1⟩
    | tupL xs =>
      cases hd
      obtain ⟨a, ys, rfl, h1, l1, w1⟩ := r1.tupL e1.sub
      exact ⟨a, ys, rfl, .inr h1, fin l1 w1⟩
    | scr xs =>
      cases hd
      obtain ⟨a, ys, rfl, h1, l1, w1⟩ := r1.scr e1.sub
      exact ⟨a, ys, rfl, .inl h1, fin l1 w1⟩
    | _ => cases hd
theorem bi_as (ρ' : Rho) {m m' : Rs R} (h : BI X G W ρx ρ' sts pn pl ι m) (er : ρ = ρ') (e : m = m') : BI X G W ρx ρ sts pn pl ι m' := by
  subst er e
  exact h
theorem keeps_no {P : Program} {w : World} {K : PySem.W.Frag} {mg : Str → Option Value} {base : Heap} {x qual : Str} {params : Arguments} {body : List Stmt} {scope : Scope} {dvs : List V} {kws : List (Str × V)} {f : Addr} {fd : FuncData} {N ps : List Str} {k : Nat} {m : List D → Rs D}
    (Fd : FunD K x qual params body scope dvs kws f fd) (S : FnScope N ps scope) (hm : ∀ ds, m ds = .no) : Keeps P w K mg base (k + 1) f fd ps m := by
  refine Fd.ok S (fun vs H Q E h => h.1) (fun cdv A outer s H vs Q E hr h => ?_)
  obtain ⟨hl, F, ds, hs, hr1, hp⟩ := h
  rw [hm] at hp
  exact hp.elim
end
abbrev Kt := (β : Type) → (List D → Rs β) → Rs β
def AC (X : Cx) (G : Gd) (W : WX) (ρ : Rho) (es : List Expr) (κ : Kt) : Prop := ∃ ms, AV X G W ρ es ms ∧ ∀ (β : Type) (k : List D → Rs β), κ β k = ms.bind k
def OC (X : Cx) (G : Gd) (W : WX) (ρ : Rho) (es : List Expr) (κ : Kt) : Prop := ∃ ms, AO X G W ρ es ms ∧ ∀ (β : Type) (k : List D → Rs β), κ β k = ms.bind k
theorem cons_eq {m : Rs D} {ms : Rs (List D)} {κ : Kt} (h : ∀ (β : Type) (k : List D → Rs β), κ β k = ms.bind k) (β : Type) (k : List D → Rs β) :
    (m.bind fun x => κ β fun xs => k (x :: xs)) = (m.bind fun x => ms.bind fun xs => .ok (x :: xs)).bind k := by
  rw [Rs.assoc]
  cases m with
  | ok x =>
    simp only [Rs.bind_ok]
    rw [h, Rs.assoc]
    rfl
  | ex c fs => rfl
  | no => rfl
section
variable {X : Cx} {G : Gd} {W : WX} {ρ : Rho} {e : Expr} {es : List Expr} {m : Rs D} {κ : Kt} {pos p : Pos}
theorem ac_nil : AC X G W ρ [] (fun β k => k []) := ⟨_, av_nil, fun _ _ => rfl⟩
theorem ac_cons (ha : EV X G W ρ e m) (hr : AC X G W ρ es κ) (hs : starEach (e :: es) X.env = (false, eval e X.env) :: starEach es X.env := by rfl) : AC X G W ρ (e :: es) (fun β k => m.bind fun x => κ β fun xs => k (x :: xs)) := by
  obtain ⟨ms, h1, h2⟩ := hr
  exact ⟨_, av_cons ha h1 hs, cons_eq h2⟩
theorem oc_nil : OC X G W ρ [] (fun β k => k []) := ⟨_, ao_nil, fun _ _ => rfl⟩
theorem oc_cons (ha : EO X G W ρ e m) (hr : OC X G W ρ es κ) (hs : starEach (e :: es) X.env = (false, eval e X.env) :: starEach es X.env := by rfl) : OC X G W ρ (e :: es) (fun β k => m.bind fun x => κ β fun xs => k (x :: xs)) := by
  obtain ⟨ms, h1, h2⟩ := hr
  exact ⟨_, ao_cons ha h1 hs, cons_eq h2⟩
theorem ev_tupC {x1} (h : AC X G W ρ es κ) (hl : Nat.ble es.length sizeLine = true := by rfl) : EV X G W ρ (.Tuple es x1 pos) (κ D fun xs => .ok (.tup xs)) := by
  obtain ⟨ms, h1, h2⟩ := h
  rw [h2]
  exact ev_tupM h1 (Nat.le_of_ble_eq_true hl)
theorem ev_lstC (h : AC X G W ρ es κ) (hl : Nat.ble es.length sizeLine = true := by rfl) : EV X G W ρ (.List es pos) (κ D fun xs => .ok (.lst xs)) := by
  obtain ⟨ms, h1, h2⟩ := h
  rw [h2]
  exact ev_lstM h1 (Nat.le_of_ble_eq_true hl)
theorem ef_lstC (h : AC X G W ρ es κ) (hl : Nat.ble es.length sizeLine = true := by rfl) : EF X G W ρ (.List es pos) (κ (List D) fun xs => .ok xs) := by
  obtain ⟨ms, h1, h2⟩ := h
  rw [h2, Rs.bind_id]
  exact ef_lstM h1 (Nat.le_of_ble_eq_true hl)
theorem ev_callC {k : Nat} {f : Addr} {fd : FuncData} {ps : List Str} {m : List D → Rs D} {x : Str} (tk : L2N.Takes X W) (Fk : Keeps X.prog X.w X.K X.mg X.base k f fd ps m) (hr : Room k X.A) (hm : X.mg x = some (.ref f)) (hk : PySem.W.keepIn X.K (.ref f) = true)
    (hb : Binds X.K fd ps []) (ha : AC X G W ρ (e :: es) κ) (hln : (e :: es).length = ps.length := by rfl) (hg : Gl X x := by rfl) (hdb : (x == ("__debug__" : Str)) = false := by decide) (he : starEach (e :: es) X.env = (false, eval e X.env) :: starEach es X.env := by rfl)
    (hpl : (backTo pos (starEach es X.env)).any (·.1) = false := by rfl) : EV X G W ρ (.Call (.Name x p) (e :: es) [] pos) (κ D m) := by
  obtain ⟨ms, h1, h2⟩ := ha
  rw [h2]
  exact ev_call tk Fk hr hm hk hb h1 hln hg hdb he hpl
theorem ev_callBC {id : String} {x : Str} {r : List V → Hp → VK → Prop} {f : List D → Option D} (hc : CallR X (.builtin id) r) (hf : RCok X.K r f) (hm : X.mg x = none) (hv : bootBuiltins x = some (.builtin id)) (ha : OC X G W ρ (e :: es) κ) (hg : Gl X x := by rfl) (hn : x ≠ "__name__" := by decide)
    (hdb : (x == ("__debug__" : Str)) = false := by decide) (he : starEach (e :: es) X.env = (false, eval e X.env) :: starEach es X.env := by rfl) (hpl : (backTo pos (starEach es X.env)).any (·.1) = false := by rfl) : EV X G W ρ (.Call (.Name x p) (e :: es) [] pos) (κ D fun ds => Rs.of (f ds)) := by
  obtain ⟨ms, h1, h2⟩ := ha
  rw [h2]
  exact ev_callB hc hf hm hv h1 hg hn hdb he hpl
theorem ev_callTyC {id : String} {x : Str} {r : List V → Hp → VK → Prop} {f : List D → Option D} (hc : CallR X (.type id) r) (hf : RCok X.K r f) (hm : X.mg x = none) (hv : bootBuiltins x = some (.type id)) (ha : OC X G W ρ (e :: es) κ) (hg : Gl X x := by rfl) (hn : x ≠ "__name__" := by decide)
    (hdb : (x == ("__debug__" : Str)) = false := by decide) (he : starEach (e :: es) X.env = (false, eval e X.env) :: starEach es X.env := by rfl) (hpl : (backTo pos (starEach es X.env)).any (·.1) = false := by rfl) : EV X G W ρ (.Call (.Name x p) (e :: es) [] pos) (κ D fun ds => Rs.of (f ds)) := by
  obtain ⟨ms, h1, h2⟩ := ha
  rw [h2]
  exact ev_callTy hc hf hm hv h1 hg hn hdb he hpl
end
end VL
set_option Elab.async false
set_option linter.all false
set_option maxRecDepth 100000
set_option autoImplicit false
namespace VL
open PySem PySem.Spec L2
open PyProof.Rows hiding St
structure ExtB (b : Addr) (F H F' H' : Hp) : Prop where
  same : ∀ a o, a ≠ b → H a = some o → H' a = some o
  there : ∃ o, H' b = some o ∧ nT o
  sub : Same F' H'
  ext : Same F F'
  new : ∀ a o, F' a = some o → F a = some o ∨ Nw H a o
theorem Ext.toB {b : Addr} {F H F' H' : Hp} {o : HO} (e : Ext F H F' H') (h : H b = some o) (t : nT o) : ExtB b F H F' H' := ⟨fun a o _ q => e.same a o q, ⟨o, e.same _ _ h, t⟩, e.sub, e.ext, e.new⟩
theorem ExtB.trans {b : Addr} {F H F1 H1 F2 H2 : Hp} (x : ExtB b F H F1 H1) (y : ExtB b F1 H1 F2 H2) : ExtB b F H F2 H2 :=
  ⟨fun a o n q => y.same a o n (x.same a o n q), y.there, y.sub, x.ext.trans y.ext, fun a o q => by
    rcases y.new a o q with z | z
    · exact x.new a o z
    · refine .inr ?_
      by_cases e : a = b
      · subst e
        obtain ⟨o2, q2, nt_⟩ := x.there
        exact (z.not q2 nt_).elim
      · exact z.back fun o' q3 => x.same a o' e q3⟩
theorem ExtB.stays {b : Addr} {F H F' H' : Hp} {p : Addr} {o : HO} (e : ExtB b F H F' H') (hf : F p = none) (h : H p = some o) (t : nT o) : F' p = none := by
  cases q : F' p with
  | none => rfl
  | some u =>
    rcases e.new p u q with z | z
    · rw [hf] at z
      cases z
    · exact (z.not h t).elim
theorem Own.moreB {K : PySem.W.Frag} {b : Addr} {F H F' H' : Hp} {a : Addr} {d : D} (e : ExtB b F H F' H') (n : a ≠ b) (h : Own K F H a d) : Own K F' H' a d := by
  obtain ⟨o, q, nt_⟩ := h.there
  exact h.move e.ext ((e.same _ _ n q).trans q.symm)
theorem Holds.moreB {K : PySem.W.Frag} {G : Gd} {ρ : Rho} {σ : St} {F H F' H' : Hp} {i : Nat} {l : Bool} {d d' : D} {b : Addr} (h : Holds K G ρ σ F H) (hi : ρ[i]? = some (some (.own l d))) (hb : σ[i]? = some (some (.ref b))) (e : ExtB b F H F' H') (ho : Own K F' H' b d') :
    Holds K G (ρ.set i (some (.own l d'))) σ F' H' := by
  obtain ⟨b', h1, hf, h0, hw⟩ := h.own i l d hi
  rw [hb] at h1
  cases h1
  obtain ⟨ob, hob, nt_⟩ := hw.there
  have il : i < ρ.length := by
    rcases Nat.lt_or_ge i ρ.length with z | z
    · exact z
    · rw [List.getElem?_eq_none z] at hi
      cases hi
  have nb : ∀ a o, G.H0 a = some o → a ∉ G.bs → a ≠ b := fun a o q n z => by
    subst z
    cases l with
    | true =>
      rw [h0.1] at q
      cases q
    | false => exact n h0
  refine ⟨⟨e.sub, fun a o q n => e.same a o (nb a o q n) (h.base a o q n), fun a ha => ?_, h.ext.trans e.ext, fun a o q => ?_⟩, fun j x q => ?_, fun j m x q => ?_, fun j k l1 l2 d1 d2 a n q1 q2 s1 s2 => ?_, by simpa using h.len⟩
  · by_cases z : a = b
    · subst z
      exact e.there
    · obtain ⟨o, q, t⟩ := h.bsT a ha
      exact ⟨o, e.same a o z q, t⟩
  · rcases e.new a o q with z | z
    · exact h.new a o z
    · exact .inr (h.toGnd.nwG z)
  · rcases set_at q with ⟨rfl, z⟩ | ⟨n, z⟩
    · cases z
    · obtain ⟨v, g1, g2⟩ := h.val j x z
      exact ⟨v, g1, g2.mono e.ext⟩
  · rcases set_at q with ⟨rfl, z⟩ | ⟨n, z⟩
    · cases z
      exact ⟨b, hb, e.stays hf hob nt_, h0, ho⟩
    · obtain ⟨a, g1, g2, g3, g4⟩ := h.own j m x z
      have ne : a ≠ b := fun z' => by
        subst z'
        exact h.sep i j _ _ _ _ a n hi z hb g1
      obtain ⟨oa, hoa, nt_⟩ := g4.there
      exact ⟨a, g1, e.stays g2 hoa nt_, g3, g4.moreB e ne⟩
  · rcases set_at q1 with ⟨rfl, z⟩ | ⟨n1, z1⟩
    · rcases set_at q2 with ⟨rfl, z2⟩ | ⟨n2, z2⟩
      · exact n rfl
      · exact h.sep _ _ _ _ _ _ a n hi z2 s1 s2
    · rcases set_at q2 with ⟨rfl, z2⟩ | ⟨n2, z2⟩
      · exact h.sep _ _ _ _ _ _ a n z1 hi s1 s2
      · exact h.sep j k l1 l2 d1 d2 a n z1 z2 s1 s2
def PostB {α β : Type} (K : PySem.W.Frag) (Rl : Hp → α → β → Prop) (b : Addr) (F H : Hp) (Q : α → Hp → Prop) : Rs (β × List D) → Prop
  | .ok r => ∀ v F' H', ExtB b F H F' H' → Rl F' v r.1 → Own K F' H' b (.lst r.2) → Q v H'
  | _ => False
theorem PostB.more {α β : Type} {K : PySem.W.Frag} {Rl : Hp → α → β → Prop} {b : Addr} {F H F' H' : Hp} {Q : α → Hp → Prop} {m : Rs (β × List D)} (h : PostB K Rl b F H Q m) (e : ExtB b F H F' H') : PostB K Rl b F' H' Q m := by
  cases m with
  | ok d => exact fun v F2 H2 e2 r => h v F2 H2 (e.trans e2) r
  | ex c fs => exact h
  | no => exact h
theorem PostB.bind {α β γ δ : Type} {K : PySem.W.Frag} {R1 : Hp → α → β → Prop} {R2 : Hp → γ → δ → Prop} {b : Addr} {F H : Hp} {Q1 : α → Hp → Prop} {Q : γ → Hp → Prop} {m : Rs (β × List D)} {f : β × List D → Rs (δ × List D)}
    (h : PostB K R2 b F H Q (m.bind f)) (k : ∀ r v F' H', ExtB b F H F' H' → R1 F' v r.1 → Own K F' H' b (.lst r.2) → PostB K R2 b F' H' Q (f r) → Q1 v H') : PostB K R1 b F H Q1 m := by
  cases m with
  | ok d => exact fun v F2 H2 e2 r o => k d v F2 H2 e2 r o (PostB.more h e2)
  | ex c fs => exact h
  | no => exact h
abbrev RFb (K : PySem.W.Frag) : Hp → V → D → Prop := fun F v d => Rep K F v d
abbrev RLb (K : PySem.W.Frag) : Hp → List V → List D → Prop := fun F v d => Reps K F v d
abbrev RBb : Hp → Bool → Bool → Prop := fun _ b c => b = c
abbrev At (ρ : Rho) (i : Nat) (l : Bool) (s : List D) : Prop := ρ[i]? = some (some (.own l (.lst s)))
def EB (X : Cx) (G : Gd) (ρ : Rho) (i : Nat) (e : Expr) (m : Rs (D × List D)) : Prop :=
  ∀ F0 σ F H Q b, Holds X.K (G.at F0) ρ σ F H → σ[i]? = some (some (.ref b)) → PostB X.K (RFb X.K) b F H Q m → ∃ t, PE X e t ∧ t σ H Q
def AB (X : Cx) (G : Gd) (ρ : Rho) (i : Nat) (es : List Expr) (m : Rs (List D × List D)) : Prop :=
  (∀ r, m = .ok r → r.1.length = es.length) ∧ ∀ F0 σ F H Q b, Holds X.K (G.at F0) ρ σ F H → σ[i]? = some (some (.ref b)) → PostB X.K (RLb X.K) b F H Q m → ∃ t, PA X es t ∧ t σ H Q
def tAnyE (X : Cx) (e : Expr) : TE := fun σ H Q => ∃ t, PE X e t ∧ t σ H Q
theorem pe_any {X : Cx} {e : Expr} : PE X e (tAnyE X e) := ⟨fun pins s σ H Q I ⟨_, p, h⟩ => p.run pins s σ H Q I h⟩
def tAnyA (X : Cx) (es : List Expr) : TA := fun σ H Q => ∃ t, PA X es t ∧ t σ H Q
theorem pa_any {X : Cx} {es : List Expr} : PA X es (tAnyA X es) := ⟨fun pos pins s σ H Q I ⟨_, p, h⟩ => p.run pos pins s σ H Q I h⟩
def tAnyT (X : Cx) (e : Expr) : TT := fun σ H Q => ∃ t, PT X e t ∧ t σ H Q
theorem pt_any {X : Cx} {e : Expr} : PT X e (tAnyT X e) := ⟨fun pins s σ H Q I ⟨_, p, h⟩ => p.run pins s σ H Q I h⟩
section
variable {X : Cx} {G : Gd} {ρ : Rho} {i : Nat} {l : Bool} {s : List D} {e a b c : Expr} {es : List Expr} {pos p : Pos}
theorem post_toB {α β : Type} {K : PySem.W.Frag} {Rl : Hp → Hp → α → β → Prop} {Rb : Hp → α → β → Prop} {σ : St} {F0 F H : Hp} {bx : Addr} {Q : α → Hp → Prop} {m : Rs β} (hR : ∀ F H v d, Rl F H v d → Rb F v d) (hi : At ρ i l s) (hh : Holds K (G.at F0) ρ σ F H) (hb : σ[i]? = some (some (.ref bx)))
    (h : PostB K Rb bx F H Q (m.bind fun d => .ok (d, s))) : Post K Rl (fun c d H => W0 c d σ H) F H Q m := by
  cases m with
  | ok d =>
    intro v F' H' e1 r1
    obtain ⟨b', h1, hf, h0, hw⟩ := hh.own i l _ hi
    rw [hb] at h1
    cases h1
    obtain ⟨o, ho, nt_⟩ := hw.there
    exact h v F' H' (e1.toB ho nt_) (hR _ _ _ _ r1) (hw.ext e1)
  | ex c fs => exact h.elim
  | no => exact h.elim
theorem eb_pure {m : Rs D} (he : EV X G W0 ρ e m) (hi : At ρ i l s := by rfl) : EB X G ρ i e (m.bind fun d => .ok (d, s)) := by
  obtain ⟨t, p, q⟩ := he
  intro F0 σ F H Q b hh hb hp
  exact ⟨t, p, q F0 σ F H Q hh (post_toB (fun _ _ _ _ r => r) hi hh hb hp)⟩
theorem bin_B {r : R2} {f : D → D → Option D} {ma : Rs (D × List D)} {mb : List D → Rs (D × List D)} (hf : R2ok X.K r f) (ha : EB X G ρ i a ma) (hb : ∀ s', EB X G (ρ.set i (some (.own l (.lst s')))) i b (mb s')) (hi : At ρ i l s)
    {F0 : Hp} {σ : St} {F H : Hp} {Q : VK} {bx : Addr} (hh : Holds X.K (G.at F0) ρ σ F H) (hbx : σ[i]? = some (some (.ref bx))) (hp : PostB X.K (RFb X.K) bx F H Q (ma.bind fun u => (mb u.2).bind fun v => (Rs.of (f u.1 v.1)).bind fun d => .ok (d, v.2))) :
    tAnyE X a σ H fun x H1 => tAnyE X b σ H1 fun y H2 => r x y H2 Q := by
  refine ha F0 σ F H _ bx hh hbx (hp.bind fun u x F1 H1 e1 r1 o1 hp1 => ?_)
  refine hb u.2 F0 σ F1 H1 _ bx (hh.moreB hi hbx e1 o1) hbx (hp1.bind fun v y F2 H2 e2 r2 o2 hp2 => ?_)
  cases hd : f u.1 v.1 with
  | none => rw [hd] at hp2; exact hp2.elim
  | some d =>
    rw [hd] at hp2
    obtain ⟨ob, hob, nt_⟩ := o2.there
    exact hf e2.sub (.inl (r1.mono e2.ext)) (.inl r2) hd fun w F3 H3 e3 r3 => hp2 w F3 H3 (e3.toB hob nt_) r3 (o2.ext e3)
theorem eb_bin {op : Operator} {r : R2} {f : D → D → Option D} {ma : Rs (D × List D)} {mb : List D → Rs (D × List D)} (ho : OpR X (binaryOp op) r) (hf : R2ok X.K r f) (ha : EB X G ρ i a ma) (hb : ∀ s', EB X G (ρ.set i (some (.own l (.lst s')))) i b (mb s')) (hi : At ρ i l s := by rfl) :
    EB X G ρ i (.BinOp a op b pos) (ma.bind fun u => (mb u.2).bind fun v => (Rs.of (f u.1 v.1)).bind fun d => .ok (d, v.2)) := fun F0 σ F H Q bx hh hbx hp => ⟨_, pe_op ho pe_any pe_any, bin_B hf ha hb hi hh hbx hp⟩
theorem eb_ix {r : R2} {f : D → D → Option D} {ma : Rs (D × List D)} {mb : List D → Rs (D × List D)} (ho : IxR X r) (hf : R2ok X.K r f) (ha : EB X G ρ i a ma) (hb : ∀ s', EB X G (ρ.set i (some (.own l (.lst s')))) i b (mb s')) (hm : PlainIx b) (hi : At ρ i l s := by rfl) :
    EB X G ρ i (.Subscript a b pos) (ma.bind fun u => (mb u.2).bind fun v => (Rs.of (f u.1 v.1)).bind fun d => .ok (d, v.2)) := fun F0 σ F H Q bx hh hbx hp => ⟨_, pe_ix ho pe_any pe_any hm, bin_B hf ha hb hi hh hbx hp⟩
theorem ab_nil (hi : At ρ i l s := by rfl) : AB X G ρ i [] (.ok ([], s)) := ⟨fun r h => by cases h; rfl, fun F0 σ F H Q b hh hb hp => by
  obtain ⟨b', h1, hf, h0, hw⟩ := hh.own i l _ hi
  rw [hb] at h1
  cases h1
  obtain ⟨o, ho, nt_⟩ := hw.there
  exact ⟨_, pa_nil, hp [] F H ((Ext.refl hh.sub).toB ho nt_) .nil hw⟩⟩
theorem ab_cons {m : Rs (D × List D)} {ms : List D → Rs (List D × List D)} (ha : EB X G ρ i e m) (hr : ∀ s', AB X G (ρ.set i (some (.own l (.lst s')))) i es (ms s')) (hs : starEach (e :: es) X.env = (false, eval e X.env) :: starEach es X.env := by rfl) (hi : At ρ i l s := by rfl) :
    AB X G ρ i (e :: es) (m.bind fun u => (ms u.2).bind fun v => .ok (u.1 :: v.1, v.2)) := by
  refine ⟨fun r h => ?_, fun F0 σ F H Q bx hh hbx hp => ⟨_, pa_cons pe_any pa_any hs, ?_⟩⟩
  · cases m with
    | ok u =>
      simp only [Rs.bind_ok] at h
      cases hm : ms u.2 with
      | ok v =>
        rw [hm] at h
        cases h
        exact congrArg (· + 1) ((hr u.2).1 v hm)
      | ex c fs => rw [hm] at h; cases h
      | no => rw [hm] at h; cases h
    | ex c fs => cases h
    | no => cases h
  · refine ha F0 σ F H _ bx hh hbx (hp.bind fun u x F1 H1 e1 r1 o1 hp1 => ?_)
    refine (hr u.2).2 F0 σ F1 H1 _ bx (hh.moreB hi hbx e1 o1) hbx (hp1.bind fun v y F2 H2 e2 r2 o2 hp2 => ?_)
    obtain ⟨ob, hob, nt_⟩ := o2.there
    exact hp2 _ F2 H2 ((Ext.refl e2.sub).toB hob nt_) (.cons (r1.mono e2.ext) r2) o2
theorem eb_tup {x1} {ms : Rs (List D × List D)} (h : AB X G ρ i es ms) (hl : Nat.ble es.length sizeLine = true := by rfl) : EB X G ρ i (.Tuple es x1 pos) (ms.bind fun v => .ok (.tup v.1, v.2)) := by
  intro F0 σ F H Q bx hh hbx hp
  refine ⟨_, pe_tup pa_any, h.2 F0 σ F H _ bx hh hbx ?_⟩
  cases ms with
  | ex c fs => exact hp
  | no => exact hp
  | ok v =>
    intro xs F1 H1 e1 r1 o1
    obtain ⟨ob, hob, nt_⟩ := o1.there
    have l2 : xs.length ≤ sizeLine := by
      rw [Reps.length r1, h.1 v rfl]
      exact Nat.le_of_ble_eq_true hl
    exact ⟨l2, fun q hn => hp _ _ _ (e1.trans ((Ext.fresh e1.sub _ hn).toB hob nt_)) (new_tup e1.sub hn l2 r1) (o1.ext (Ext.fresh e1.sub _ hn))⟩
theorem reps_h {K : PySem.W.Frag} {F H : Hp} : ∀ {vs : List V} {ds : List D}, Reps K F vs ds → RepHs K F H vs ds
  | _, _, .nil => .nil
  | _, _, .cons h r => .cons (.inl h) (reps_h r)
theorem eb_callB {id : String} {x : Str} {r : List V → Hp → VK → Prop} {f : List D → Option D} {ms : Rs (List D × List D)} (hc : CallR X (.builtin id) r) (hf : RCok X.K r f) (hm : X.mg x = none) (hv : bootBuiltins x = some (.builtin id)) (ha : AB X G ρ i (e :: es) ms) (hg : Gl X x := by rfl) (hn : x ≠ "__name__" := by decide)
    (hdb : (x == ("__debug__" : Str)) = false := by decide) (he : starEach (e :: es) X.env = (false, eval e X.env) :: starEach es X.env := by rfl) (hpl : (backTo pos (starEach es X.env)).any (·.1) = false := by rfl) : EB X G ρ i (.Call (.Name x p) (e :: es) [] pos) (ms.bind fun v => (Rs.of (f v.1)).bind fun d => .ok (d, v.2)) := by
  intro F0 σ F H Q bx hh hbx hp
  refine ⟨_, pe_callB hc hg hm hv pa_any hn hdb he hpl, ha.2 F0 σ F H _ bx hh hbx (hp.bind fun u xs F1 H1 e1 r1 o1 hp1 => ?_)⟩
  cases hd : f u.1 with
  | none => rw [hd] at hp1; exact hp1.elim
  | some d =>
    rw [hd] at hp1
    obtain ⟨ob, hob, nt_⟩ := o1.there
    exact hf e1.sub (reps_h r1) hd fun w F3 H3 e3 r3 => hp1 w F3 H3 (e3.toB hob nt_) r3 (o1.ext e3)
theorem eb_callTy {id : String} {x : Str} {r : List V → Hp → VK → Prop} {f : List D → Option D} {ms : Rs (List D × List D)} (hc : CallR X (.type id) r) (hf : RCok X.K r f) (hm : X.mg x = none) (hv : bootBuiltins x = some (.type id)) (ha : AB X G ρ i (e :: es) ms) (hg : Gl X x := by rfl) (hn : x ≠ "__name__" := by decide)
    (hdb : (x == ("__debug__" : Str)) = false := by decide) (he : starEach (e :: es) X.env = (false, eval e X.env) :: starEach es X.env := by rfl) (hpl : (backTo pos (starEach es X.env)).any (·.1) = false := by rfl) : EB X G ρ i (.Call (.Name x p) (e :: es) [] pos) (ms.bind fun v => (Rs.of (f v.1)).bind fun d => .ok (d, v.2)) := by
  intro F0 σ F H Q bx hh hbx hp
  refine ⟨_, pe_callTy hc hg hm hv pa_any hn hdb he hpl, ha.2 F0 σ F H _ bx hh hbx (hp.bind fun u xs F1 H1 e1 r1 o1 hp1 => ?_)⟩
  cases hd : f u.1 with
  | none => rw [hd] at hp1; exact hp1.elim
  | some d =>
    rw [hd] at hp1
    obtain ⟨ob, hob, nt_⟩ := o1.there
    exact hf e1.sub (reps_h r1) hd fun w F3 H3 e3 r3 => hp1 w F3 H3 (e3.toB hob nt_) r3 (o1.ext e3)
theorem eb_own {k : Nat} {f : Addr} {fd : FuncData} {ps : List Str} {m : List D → Rs D} {x : Str} {ms : Rs (List D × List D)} (Fk : Keeps X.prog X.w X.K X.mg X.base k f fd ps m) (hr : Room k X.A) (hm : X.mg x = some (.ref f)) (hk : PySem.W.keepIn X.K (.ref f) = true)
    (hb : Binds X.K fd ps []) (ha : AB X G ρ i (e :: es) ms) (hln : (e :: es).length = ps.length := by rfl) (hg : Gl X x := by rfl) (hdb : (x == ("__debug__" : Str)) = false := by decide) (he : starEach (e :: es) X.env = (false, eval e X.env) :: starEach es X.env := by rfl)
    (hpl : (backTo pos (starEach es X.env)).any (·.1) = false := by rfl) : EB X G ρ i (.Call (.Name x p) (e :: es) [] pos) (ms.bind fun v => (m v.1).bind fun d => .ok (d, v.2)) := by
  intro F0 σ F H Q bx hh hbx hp
  refine ⟨_, pe_callSD (E := WE W0) Fk hr hg hm hk hb .nil (fun σ => L2N.passAt takes0N σ) pa_any hdb he hpl, ha.2 F0 σ F H _ bx hh hbx ?_⟩
  cases ms with
  | ex c fs => exact hp
  | no => exact hp
  | ok v =>
    intro vs F' H' e1 r1 o1
    show spM X.K ps.length m (vs ++ []) H' Q _
    rw [List.append_nil]
    refine ⟨(Reps.length r1).trans ((ha.1 v rfl).trans hln), F', v.1, e1.sub, r1, ?_⟩
    simp only [Rs.bind_ok] at hp
    obtain ⟨ob, hob, nt_⟩ := o1.there
    cases hm : m v.1 with
    | ex c fs => rw [hm] at hp; exact hp.elim
    | no => rw [hm] at hp; exact hp.elim
    | ok d =>
      rw [hm] at hp
      exact fun w F2 H2 e2 r2 => hp w F2 H2 (e1.trans (e2.toB hob nt_)) r2 (o1.ext e2)
end
end VL
set_option Elab.async false
set_option linter.all false
set_option maxRecDepth 100000
set_option autoImplicit false
namespace VL
open PySem PySem.Spec L2
open PyProof.Rows hiding St
def spIO (K : PySem.W.Frag) (n : Nat) (m : List D → List D → Rs (D × List D)) : Sp := fun vs H Q _ => vs.length = n ∧ ∃ b ws F ds s, vs = .ref b :: ws ∧ Same F H ∧ F b = none ∧ Own K F H b (.lst s) ∧ Reps K F ws ds ∧ PostB K (RFb K) b F H Q (m s ds)
abbrev KeepsIO (P : Program) (w : World) (K : PySem.W.Frag) (mg : Str → Option Value) (base : Heap) (k : Nat) (f : Addr) (fd : FuncData) (ps : List Str) (m : List D → List D → Rs (D × List D)) : Prop := FnOk P w K mg base (L2N.CX P w) k f fd ps (spIO K ps.length m)
section
variable {X : Cx} {G : Gd} {ρ : Rho} {i : Nat} {l : Bool} {s : List D} {e a b c : Expr} {es : List Expr} {pos p p2 : Pos}
theorem eb_io {k : Nat} {f : Addr} {fd : FuncData} {ps : List Str} {m : List D → List D → Rs (D × List D)} {x bn : Str} {ms : Rs (List D × List D)} (Fk : KeepsIO X.prog X.w X.K X.mg X.base k f fd ps m) (hr : Room k X.A) (hm : X.mg x = some (.ref f)) (hk : PySem.W.keepIn X.K (.ref f) = true)
    (hb : Binds X.K fd ps []) (hv : PE X (.Name bn p2) (tVar i)) (ha : AB X G ρ i es ms) (hi : At ρ i l s := by rfl) (hln : es.length + 1 = ps.length := by rfl) (hg : Gl X x := by rfl) (hdb : (x == ("__debug__" : Str)) = false := by decide) (he : starEach (.Name bn p2 :: es) X.env = (false, eval (.Name bn p2) X.env) :: starEach es X.env := by rfl)
    (hpl : (backTo pos (starEach es X.env)).any (·.1) = false := by rfl) : EB X G ρ i (.Call (.Name x p) (.Name bn p2 :: es) [] pos) (ms.bind fun v => m v.2 v.1) := by
  intro F0 σ F H Q bx hh hbx hp
  refine ⟨_, pe_callSD (E := WE W0) Fk hr hg hm hk hb .nil (fun σ => L2N.passAt takes0N σ) (pa_cons hv pa_any he) hdb he hpl, _, hbx, ha.2 F0 σ F H _ bx hh hbx ?_⟩
  cases ms with
  | ex c fs => exact hp
  | no => exact hp
  | ok v =>
    intro ws F' H' e1 r1 o1
    show spIO X.K ps.length m (.ref bx :: ws ++ []) H' Q _
    rw [List.append_nil]
    obtain ⟨b', h1, hf, h0, hw⟩ := hh.own i l _ hi
    rw [hbx] at h1
    cases h1
    obtain ⟨o, ho, nt_⟩ := hw.there
    refine ⟨by rw [List.length_cons, Reps.length r1, ha.1 v rfl]; exact hln, bx, ws, F', v.1, v.2, rfl, e1.sub, e1.stays hf ho nt_, o1, r1, PostB.more (m := m v.2 v.1) hp e1⟩
end
section
variable {X : Cx} {G : Gd} {W : WX} {ρx ρ : Rho} {rest sts : List Stmt} {α β R : Type} {pn : α → Rho} {pl : β → Rho} {ι : R → Fl α β} {i : Nat} {l : Bool} {s : List D}
theorem postS_noX {γ : Type} {F0 : Hp} {E : Ends} {m : Rs γ} {f : γ → Rs (Fl α β)} (h : PostS X.K (G.at F0) W ρx pn pl E (m.noX.bind f)) : ∃ r, m = .ok r ∧ PostS X.K (G.at F0) W ρx pn pl E (f r) := by
  cases m with
  | ok r => exact ⟨r, rfl, h⟩
  | ex c fs => exact h.elim
  | no => exact h.elim
theorem box_at {F0 : Hp} {σ : St} {F H : Hp} (hh : Holds X.K (G.at F0) ρ σ F H) (hi : At ρ i l s) : ∃ b, σ[i]? = some (some (.ref b)) := by
  obtain ⟨b, h1, _⟩ := hh.own i l _ hi
  exact ⟨b, h1⟩
abbrev ioI {α β : Type} : D × List D → Fl α β := fun p => .rt p.1 [.lst p.2]
theorem bk_retB {e : Expr} {pos : Pos} {b : Addr} {m : Rs (D × List D)} (he : EB X G ρ i e m) (hi : At ρ i false s := by rfl) (hb : G.bs = [b] := by rfl) : BI X G W ρx ρ (.Return (some e) pos :: rest) pn pl ioI m.noX := by
  intro F0 σ F H E hh hp
  have hp' : PostS X.K (G.at F0) W ρx pn pl E (m.noX.bind fun r => (.ok (ioI r) : Rs (Fl α β))) := hp
  obtain ⟨r, rfl, hp2⟩ := postS_noX hp'
  obtain ⟨b', hb'⟩ := box_at hh hi
  refine any_cons (ps_ret pe_any) (he F0 σ F H _ b' hh hb' fun v F' H' e1 r1 o1 => ?_)
  have hh1 := hh.moreB hi hb' e1 o1
  have hi2 : (ρ.set i (some (.own false (.lst r.2))))[i]? = some (some (Cl.own false (.lst r.2))) := by
    rw [List.getElem?_set_self]
    rcases Nat.lt_or_ge i ρ.length with z | z
    · exact z
    · have hi' : ρ[i]? = _ := hi
      rw [List.getElem?_eq_none z] at hi'
      cases hi'
  obtain ⟨a, g1, g2, g3, g4⟩ := hh1.own i false _ hi2
  refine hp2 v F' H' hh1.toGnd r1 ?_
  have g3' : a ∈ G.bs := g3
  show OwnsL X.K F' H' G.bs _
  rw [hb] at g3' ⊢
  cases List.mem_singleton.mp g3'
  refine ⟨rfl, fun j a' q' => ?_⟩
  cases j with
  | zero =>
    cases q'
    exact ⟨g2, _, rfl, g4⟩
  | succ j => simp at q'
theorem bi_retP {e : Expr} {pos : Pos} {b : Addr} {m : Rs D} (he : EV X G W ρ e m) (hi : At ρ i false s := by rfl) (hb : G.bs = [b] := by rfl) (wx : Wk ρ ρx := by first | exact Wk.nil | exact Wk.refl | (repeat (first | exact Wk.nil | apply Wk.keep | apply Wk.drop))) : BI X G W ρx ρ (.Return (some e) pos :: rest) pn pl ioI (m.bind fun d => .ok (d, s)) := by
  unfold BI
  rw [Rs.assoc]
  exact bk_retIO (i := i) (b := b) (s := .lst s) he hi hb wx
def popL (ys : List D) : D → Option (D × List D)
  | .int k => (ixN ys.length k).bind fun j => (ys[j]?).map fun d => (d, ys.eraseIdx j)
  | _ => none
theorem bk_appPop {j k : Nat} {x y : Str} {e : Expr} {xpos apos cpos ypos bpos dpos pos : Pos} {l2 l3 : Bool} {c ys : List D} {m : Rs (D × List D)} {f : List D → List D → List D → Rs (Fl α β)} (hv : PE X (.Name x xpos) (tVar j)) (hy : PE X (.Name y ypos) (tVar k)) (he : EB X G ρ i e m)
    (hr : ∀ c' ys' s', BK X G W ρx (((ρ.set i (some (.own l (.lst s')))).set k (some (.own l3 (.lst ys')))).set j (some (.own l2 (.lst c')))) rest pn pl (f c' ys' s')) (hi : At ρ i l s := by rfl) (hj : At ρ j l2 c := by rfl) (hk : At ρ k l3 ys := by rfl) (hij : i ≠ j := by decide) (hik : i ≠ k := by decide) (hkj : k ≠ j := by decide)
    (hbase : attributeBase (.Name x xpos) "append" X.env (eval (.Name x xpos) X.env) = eval (.Name x xpos) X.env := by rfl)
    (hbase2 : attributeBase (.Name y ypos) "pop" X.env (eval (.Name y ypos) X.env) = eval (.Name y ypos) X.env := by rfl)
    (hfew2 : ((backTo dpos (starEach [e] X.env)).all (fun x => !x.1) && (backToKw dpos (keywordEach [] X.env)).all (fun x => x.1.isSome) && decide ([e].length + ([] : List Keyword).length + (if ([] : List Keyword).isEmpty then 0 else 1) < 30)) = true := by rfl)
    (hst2 : starEach [e] X.env = (false, eval e X.env) :: starEach [] X.env := by rfl) (hline2 : (bpos.endLine == dpos.line) = true := by rfl)
    (hfew : ((backTo cpos (starEach [.Call (.Attribute (.Name y ypos) "pop" bpos) [e] [] dpos] X.env)).all (fun x => !x.1) && (backToKw cpos (keywordEach [] X.env)).all (fun x => x.1.isSome) && decide (([Expr.Call (Expr.Attribute (Expr.Name y ypos) "pop" bpos) [e] [] dpos] : List Expr).length + ([] : List Keyword).length + (if ([] : List Keyword).isEmpty then 0 else 1) < 30)) = true := by rfl)
    (hst : starEach [.Call (.Attribute (.Name y ypos) "pop" bpos) [e] [] dpos] X.env = (false, eval (.Call (.Attribute (.Name y ypos) "pop" bpos) [e] [] dpos) X.env) :: starEach [] X.env := by rfl)
    (hline : (apos.endLine == cpos.line) = true := by rfl) (hs : swapsWith (.Call (.Attribute (.Name x xpos) "append" apos) [.Call (.Attribute (.Name y ypos) "pop" bpos) [e] [] dpos] [] cpos) none pos.line X.env = pure false := by rfl) :
    BK X G W ρx ρ (.Expr (.Call (.Attribute (.Name x xpos) "append" apos) [.Call (.Attribute (.Name y ypos) "pop" bpos) [e] [] dpos] [] cpos) pos :: rest) pn pl (m.noX.bind fun u => (Rs.of (popL ys u.1)).bind fun q => (Rs.of (appL c q.1)).bind fun c' => f c' q.2 u.2) := by
  intro F0 σ F H E hh hp
  obtain ⟨r, hm, hp9⟩ := postS_noX hp
  clear hp
  subst hm
  have hp := hp9
  clear hp9
  obtain ⟨b, hb⟩ := box_at hh hi
  refine any_cons (ps_expr (pe_bm PySem.F.plainAttrs_list PySem.F.slot_list_append PySem.F.type_list_append mt_append hv (pa_cons (pe_bm PySem.F.plainAttrs_list PySem.F.slot_list_pop PySem.F.type_list_pop mt_popAt hy (pa_cons pe_any pa_nil hst2) hbase2 hfew2 hline2 hst2 rfl) pa_nil hst) hbase hfew hline hst rfl) hs) ?_
  obtain ⟨a, h1, h2, h3, h4⟩ := hh.own j l2 _ hj
  obtain ⟨xs, h5, l5, r5⟩ := h4.asL
  obtain ⟨ay, y1, y2, y3, y4⟩ := hh.own k l3 _ hk
  obtain ⟨vs, y5, ly, ry⟩ := y4.asL
  have nab : a ≠ b := fun z => by
    subst z
    exact hh.sep i j _ _ _ _ a hij hi hj hb h1
  have nyb : ay ≠ b := fun z => by
    subst z
    exact hh.sep i k _ _ _ _ ay hik hi hk hb y1
  have nya : a ≠ ay := fun z => by
    subst z
    exact hh.sep k j _ _ _ _ a hkj hk hj y1 h1
  refine ⟨.ref a, h1, .inl ⟨rfl, _, SqL.of h5⟩, .ref ay, y1, .inl ⟨rfl, _, SqL.of y5⟩, ?_⟩
  refine he F0 σ F H _ b hh hb fun v F' H' e1 r1 o1 => ?_
  have hh1 := hh.moreB hi hb e1 o1
  have h6 := e1.same _ _ nab h5
  have y6 := e1.same _ _ nyb y5
  obtain ⟨d, s'⟩ := r
  have r1' : Rep X.K F' v d := r1
  cases r1' with
  | int n =>
    cases hx : ixN ys.length n with
    | none =>
      simp only [popL, hx] at hp
      exact hp.elim
    | some jj =>
      simp only [popL, hx] at hp
      obtain ⟨q1, q2, q3, q4⟩ := ixN_seq hx
      have hg : ys[jj]? = some ys[jj] := List.getElem?_eq_getElem q2
      simp only [Option.bind_some, hg, Option.map_some, Rs.of_some, Rs.bind_ok] at hp
      obtain ⟨w, hw1, hw2⟩ := ry.get hg
      have lyl : ys.length ≤ sizeLine := by rw [← ry.length]; exact ly
      have hsl := line63
      refine ⟨ay, vs, n, jj, w, rfl, rfl, y6, by omega, by omega, by rw [ry.length]; exact q1, hw1, ?_⟩
      unfold appL at hp
      split at hp
      · rename_i hlt
        have l6 : xs.length < sizeLine := by rw [r5.length]; exact hlt
        have h7 : upd H' ay (.lst (vs.eraseIdx jj)) a = some (.lst xs) := by rw [upd_ne nya]; exact h6
        refine ⟨a, xs, w, rfl, rfl, h7, l6, ?_⟩
        have hk2 : (ρ.set i (some (.own l (.lst s'))))[k]? = some (some (Cl.own l3 (.lst ys))) := by rw [List.getElem?_set_ne hik]; exact hk
        have hh2 := hh1.write hk2 y1 (o := .lst (vs.eraseIdx jj)) (d' := .lst (ys.eraseIdx jj)) (.lst upd_same (Nat.le_trans (List.length_eraseIdx_le ..) ly) ((ry.mono e1.ext).eraseIdx jj))
        have hj2 : ((ρ.set i (some (.own l (.lst s')))).set k (some (.own l3 (.lst (ys.eraseIdx jj)))))[j]? = some (some (Cl.own l2 (.lst c))) := by rw [List.getElem?_set_ne hkj, List.getElem?_set_ne hij]; exact hj
        refine hr _ _ _ F0 σ F' _ E (hh2.write hj2 h1 (.lst upd_same ?_ ((r5.mono e1.ext).append (.one (hw2.mono e1.ext))))) hp
        rw [List.length_append, List.length_singleton]
        exact l6
      · exact hp.elim
  | _ => exact hp.elim
theorem bi_appPop {j k : Nat} {x y : Str} {e : Expr} {xpos apos cpos ypos bpos dpos pos : Pos} {l2 l3 : Bool} {c ys : List D} {m : Rs (D × List D)} {f : List D → List D → List D → Rs R} (hv : PE X (.Name x xpos) (tVar j)) (hy : PE X (.Name y ypos) (tVar k)) (he : EB X G ρ i e m)
    (hr : ∀ c' ys' s', BI X G W ρx (((ρ.set i (some (.own l (.lst s')))).set k (some (.own l3 (.lst ys')))).set j (some (.own l2 (.lst c')))) rest pn pl ι (f c' ys' s')) (hi : At ρ i l s := by rfl) (hj : At ρ j l2 c := by rfl) (hk : At ρ k l3 ys := by rfl) (hij : i ≠ j := by decide) (hik : i ≠ k := by decide) (hkj : k ≠ j := by decide)
    (hbase : attributeBase (.Name x xpos) "append" X.env (eval (.Name x xpos) X.env) = eval (.Name x xpos) X.env := by rfl)
    (hbase2 : attributeBase (.Name y ypos) "pop" X.env (eval (.Name y ypos) X.env) = eval (.Name y ypos) X.env := by rfl)
    (hfew2 : ((backTo dpos (starEach [e] X.env)).all (fun x => !x.1) && (backToKw dpos (keywordEach [] X.env)).all (fun x => x.1.isSome) && decide ([e].length + ([] : List Keyword).length + (if ([] : List Keyword).isEmpty then 0 else 1) < 30)) = true := by rfl)
    (hst2 : starEach [e] X.env = (false, eval e X.env) :: starEach [] X.env := by rfl) (hline2 : (bpos.endLine == dpos.line) = true := by rfl)
    (hfew : ((backTo cpos (starEach [.Call (.Attribute (.Name y ypos) "pop" bpos) [e] [] dpos] X.env)).all (fun x => !x.1) && (backToKw cpos (keywordEach [] X.env)).all (fun x => x.1.isSome) && decide (([Expr.Call (Expr.Attribute (Expr.Name y ypos) "pop" bpos) [e] [] dpos] : List Expr).length + ([] : List Keyword).length + (if ([] : List Keyword).isEmpty then 0 else 1) < 30)) = true := by rfl)
    (hst : starEach [.Call (.Attribute (.Name y ypos) "pop" bpos) [e] [] dpos] X.env = (false, eval (.Call (.Attribute (.Name y ypos) "pop" bpos) [e] [] dpos) X.env) :: starEach [] X.env := by rfl)
    (hline : (apos.endLine == cpos.line) = true := by rfl) (hs : swapsWith (.Call (.Attribute (.Name x xpos) "append" apos) [.Call (.Attribute (.Name y ypos) "pop" bpos) [e] [] dpos] [] cpos) none pos.line X.env = pure false := by rfl) :
    BI X G W ρx ρ (.Expr (.Call (.Attribute (.Name x xpos) "append" apos) [.Call (.Attribute (.Name y ypos) "pop" bpos) [e] [] dpos] [] cpos) pos :: rest) pn pl ι (m.noX.bind fun u => (Rs.of (popL ys u.1)).bind fun q => (Rs.of (appL c q.1)).bind fun c' => f c' q.2 u.2) := by
  unfold BI
  have z := bk_appPop (ρx := ρx) (W := W) (rest := rest) (pn := pn) (pl := pl) (f := fun c' ys' s' => (f c' ys' s').bind fun r => .ok (ι r)) hv hy he hr hi hj hk hij hik hkj hbase hbase2 hfew2 hst2 hline2 hfew hst hline hs
  have e2 : ((m.noX.bind fun u => (Rs.of (popL ys u.1)).bind fun q => (Rs.of (appL c q.1)).bind fun c' => f c' q.2 u.2).bind fun r => (.ok (ι r) : Rs (Fl α β))) = m.noX.bind fun u => (Rs.of (popL ys u.1)).bind fun q => (Rs.of (appL c q.1)).bind fun c' => (f c' q.2 u.2).bind fun r => .ok (ι r) := by
    cases m <;> simp only [Rs.noX, Rs.bind_ok, Rs.bind_ex, Rs.bind_no, Rs.assoc]
  rw [e2]
  exact z
theorem bi_ifrI {c : Expr} {a : List Stmt} {pos : Pos} {tc : Rs Bool} {ma mr : Rs R} (ι' : R → Fl Empty β) (hι : ∀ r, (ι' r).lift = ι r) (hc : TV X G W ρ c tc) (ha : BI X G W ρx ρ a pEmp pl ι' ma) (hr : BI X G W ρx ρ rest pn pl ι mr) (wx : Wk ρ ρx := by first | exact Wk.nil | exact Wk.refl | (repeat (first | exact Wk.nil | apply Wk.keep | apply Wk.drop))) :
    BI X G W ρx ρ (.If c a [] pos :: rest) pn pl ι (tc.bind fun k => if k then ma else mr) := by
  unfold BI
  have z := bk_ifr hc ha hr wx (pos := pos)
  have e2 : ((tc.bind fun k => if k then ma else mr).bind fun r => (.ok (ι r) : Rs (Fl α β))) = tc.bind fun k => if k then liftF (ma.bind fun r => .ok (ι' r)) else (mr.bind fun r => .ok (ι r)) := by
    cases tc with
    | ok k =>
      cases k with
      | true =>
        cases ma with
        | ok r => simp only [liftF, Rs.bind_ok, if_true, hι]
        | ex c fs => rfl
        | no => rfl
      | false => rfl
    | ex c fs => rfl
    | no => rfl
  rw [e2]
  exact z
end
theorem keeps_io {P : Program} {w : World} {K : PySem.W.Frag} {mg : Str → Option Value} {base : Heap} {x qual : Str} {params : Arguments} {body : List Stmt} {scope : Scope} {dvs : List V} {kws : List (Str × V)} {f : Addr} {fd : FuncData} {N ps : List Str} {k : Nat} {m : List D → List D → Rs (D × List D)}
    (Fd : FunD K x qual params body scope dvs kws f fd) (S : FnScope N ps scope)
    (hb : ∀ (cdv : Value) (A : Around) (outer : List Env) (s : Shared) (H : Hp) (E : XK) (F : Hp) (b : Addr) (s0 ds : List D), ds.length + 1 = ps.length → Room k (A.deeper (envOfC qual scope s.heap.objs.size f cdv)) →
      BI (cxOf (L2N.CX P w) P w K mg base N qual scope f cdv A outer s H E) ⟨F, H, [b]⟩ (fun c d _ H => E c d H) [] (some (Cl.own false (.lst s0)) :: ds.map (fun d => some (Cl.val d)) ++ List.replicate (N.length - (ds.length + 1)) none) body (fun _ : Unit => []) (fun _ : Unit => []) ioI ((m s0 ds).noX)) :
    KeepsIO P w K mg base (k + 1) f fd ps m := by
  refine Fd.ok S (fun vs H Q E h => h.1) (fun cdv A outer s H vs Q E hr h => ?_)
  obtain ⟨hl, b, ws, F, ds, s0, rfl, hs, hFb, hob, hr1, hp⟩ := h
  have hlen : ds.length + 1 = ps.length := by rw [← hr1.length]; exact hl
  have hbk := hb cdv A outer s H E F b s0 ds hlen hr
  obtain ⟨ob, hobh, nt_⟩ := hob.there
  have at0 : ∀ (i : Nat) (c : Cl), (some (Cl.own false (.lst s0)) :: ds.map (fun d => some (Cl.val d)) ++ List.replicate (N.length - (ds.length + 1)) none)[i]? = some (some c) → (i = 0 ∧ c = .own false (.lst s0)) ∨ ∃ j d, i = j + 1 ∧ ds[j]? = some d ∧ c = .val d := fun i c q => by
    cases i with
    | zero => exact .inl ⟨rfl, by simpa using q.symm⟩
    | succ j =>
      obtain ⟨d, h1, h2⟩ := rho_start (ds := ds) (n := N.length - (ds.length + 1)) (i := j) (c := c) (by simpa using q)
      exact .inr ⟨j, d, rfl, h1, h2⟩
  refine hbk F (L2.start N (.ref b :: ws)) F H _ ⟨⟨hs, fun a o q _ => q, fun a q => ?_, Same.refl F, fun a o q => .inl q⟩, fun i d q => ?_, fun i l d q => ?_, fun i j l m' d e a n q q2 => ?_, ?_⟩ ?_
  · have : a = b := by simpa [Gd.at] using q
    subst this
    exact ⟨_, hobh, nt_⟩
  · rcases at0 i _ q with ⟨_, z⟩ | ⟨j, d', rfl, h1, h2⟩
    · cases z
    · cases h2
      obtain ⟨v, g1, g2⟩ := hr1.get h1
      refine ⟨v, ?_, g2⟩
      unfold L2.start
      rw [List.getElem?_append_left (by
        rw [List.length_map, List.length_cons]
        rcases Nat.lt_or_ge j ws.length with z | z
        · omega
        · rw [List.getElem?_eq_none z] at g1; cases g1), List.getElem?_map, List.getElem?_cons_succ, g1]
      rfl
  · rcases at0 i _ q with ⟨rfl, z⟩ | ⟨j, d', rfl, h1, h2⟩
    · cases z
      exact ⟨b, rfl, hFb, by simp [OwnAt, Gd.at], hob⟩
    · cases h2
  · rcases at0 i _ q with ⟨rfl, z⟩ | ⟨_, d', rfl, h1, h2⟩
    · rcases at0 j _ q2 with ⟨rfl, z2⟩ | ⟨_, d', rfl, h1, h2⟩
      · exact absurd rfl n
      · cases h2
    · cases h2
  · unfold L2.start
    simp only [List.length_append, List.length_map, List.length_cons, List.length_replicate]
    rw [hr1.length]
    exact Nat.le_refl _
  · cases hm : m s0 ds with
    | ex c fs => rw [hm] at hp; exact hp.elim
    | no => rw [hm] at hp; exact hp.elim
    | ok r =>
      rw [hm] at hp
      refine fun v F' H' g rv ow => ?_
      obtain ⟨_, ow⟩ := ow
      obtain ⟨f1, d, hd, ho⟩ := ow 0 b rfl
      cases hd
      obtain ⟨o', ho', nt_⟩ := ho.there
      refine hp v F' H' ⟨fun a o n q => g.base a o q (by simpa [Gd.at] using n), ⟨o', ho', nt_⟩, g.sub, g.ext, fun a o q => ?_⟩ rv ho
      rcases g.new a o q with z | z
      · exact .inl z
      · rcases z with z | z
        · exact .inr (.inl z.1)
        · exact .inr (.inr ⟨z.1, z.2.1⟩)
end VL
set_option Elab.async false
set_option linter.all false
set_option maxRecDepth 100000
set_option autoImplicit false
namespace VL
open PySem PySem.Spec L2
open PyProof.Rows hiding St
def PostN (K : PySem.W.Frag) (b : Addr) (F H : Hp) (Q : VK) : Rs (List D × List D) → Prop
  | .ok r => ∀ a F' H', ExtB b F H F' H' → H a = none → F' a = none → Own K F' H' a (.lst r.1) → Own K F' H' b (.lst r.2) → Q (.ref a) H'
  | _ => False
def tAnyI (X : Cx) (tg iter : Expr) : TI := fun σ H R => ∃ w, PI X tg iter w ∧ w σ H R
theorem pi_any {X : Cx} {tg iter : Expr} : PI X tg iter (tAnyI X tg iter) := ⟨fun pins s σ H R I ⟨_, p, h⟩ => p.run pins s σ H R I h⟩
def IB (X : Cx) (G : Gd) (ρ : Rho) (i : Nat) (tg iter : Expr) (m : Rs (List D × List D)) : Prop :=
  ∀ F0 σ F H R b, Holds X.K (G.at F0) ρ σ F H → σ[i]? = some (some (.ref b)) → PostB X.K (fun F' J ds => Walks X.K J F' ds) b F H R m → tAnyI X tg iter σ H R
def compBM {γ : Type} (u : D → Option γ) (fc : γ → List D → Rs (Bool × List D)) (fe : γ → List D → Rs (D × List D)) : List D → List D → Rs (List D × List D)
  | [], s => .ok ([], s)
  | d :: ds, s => (Rs.of (u d)).bind fun y => (fc y s).noX.bind fun b => if b.1 then (fe y b.2).noX.bind fun e => (compBM u fc fe ds e.2).bind fun es => .ok (e.1 :: es.1, es.2) else compBM u fc fe ds b.2
def TBs (X : Cx) (G : Gd) (ρ : Rho) (i : Nat) (ifs : List Expr) (m : Rs (Bool × List D)) : Prop :=
  ∀ F0 σ F H Q b, Holds X.K (G.at F0) ρ σ F H → σ[i]? = some (some (.ref b)) → PostB X.K RBb b F H Q m → ∃ t, PTs X ifs t ∧ t σ H Q
section
variable {X : Cx} {G : Gd} {ρ : Rho} {i : Nat} {l : Bool} {s : List D} {tg e a b c : Expr} {es : List Expr} {pos p p2 : Pos}
theorem tbs_nil (hi : At ρ i l s := by rfl) : TBs X G ρ i [] (.ok (true, s)) := fun F0 σ F H Q b hh hb hp => by
  obtain ⟨b', h1, hf, h0, hw⟩ := hh.own i l _ hi
  rw [hb] at h1
  cases h1
  obtain ⟨o, ho, nt_⟩ := hw.there
  exact ⟨_, pts_nil, hp true F H ((Ext.refl hh.sub).toB ho nt_) rfl hw⟩
theorem ib_pure {m : Rs (List D)} (h : IT X G W0 ρ tg e m) (hi : At ρ i l s := by rfl) : IB X G ρ i tg e (m.bind fun ds => .ok (ds, s)) := by
  obtain ⟨w, p, q⟩ := h
  intro F0 σ F H R b hh hb hp
  exact ⟨w, p, q F0 σ F H R hh (post_toB (fun _ _ _ _ r => r) hi hh hb hp)⟩
theorem ib_range {m : Rs (D × List D)} (hg : Gl X "range") (hm : X.mg "range" = none) (h : EB X G ρ i e m) (hs : starEach [e] X.env = (false, eval e X.env) :: starEach [] X.env := by rfl) (hs2 : starEach [] X.env = [] := by rfl) :
    IB X G ρ i tg (.Call (.Name "range" p) [e] [] pos) (m.bind fun u => (Rs.of (rangeD u.1)).bind fun ds => .ok (ds, u.2)) := by
  intro F0 σ F H R b hh hb hp
  refine ⟨_, pi_range1 hg hm (pa_cons pe_any pa_nil hs) (hs.trans (by rw [hs2])), ?_⟩
  refine h F0 σ F H _ b hh hb (hp.bind fun u v F' H' e1 r1 o1 hp1 => ?_)
  obtain ⟨ob, hob, nt_⟩ := o1.there
  obtain ⟨d, s'⟩ := u
  have r1' : Rep X.K F' v d := r1
  cases r1' with
  | int n =>
    simp only [rangeD] at hp1
    split at hp1
    · rename_i hn
      exact ⟨n, rfl, by omega, by omega, hp1 _ F' H' ((Ext.refl e1.sub).toB hob nt_) (walks_range (Nat.le_trans (by omega : n.toNat ≤ 16000000) (by decide))) o1⟩
    · exact hp1.elim
  | _ => exact hp1.elim
theorem PostB.noX {α β γ δ : Type} {K : PySem.W.Frag} {R1 : Hp → α → β → Prop} {b : Addr} {F H : Hp} {Q1 : α → Hp → Prop} {m : Rs (β × List D)} (h : ∀ r, m = .ok r → ∀ v F' H', ExtB b F H F' H' → R1 F' v r.1 → Own K F' H' b (.lst r.2) → Q1 v H') (hn : m.noX ≠ .no) : PostB K R1 b F H Q1 m := by
  cases m with
  | ok d => exact h d rfl
  | ex c fs => exact absurd rfl hn
  | no => exact absurd rfl hn
theorem ExtB.beside {b : Addr} {F1 H1 F H : Hp} {p : Addr} {o : HO} (e : ExtB b F1 H1 F H) (h1 : H1 p = none) (hf : F p = none) (n : p ≠ b) : ExtB b F1 H1 F (upd H p o) :=
  ⟨fun c x nb q => by
    rw [upd_ne (ne_of_none q h1)]
    exact e.same _ _ nb q, by
    obtain ⟨o', q, nt_⟩ := e.there
    exact ⟨o', by rw [upd_ne (Ne.symm n)]; exact q, nt_⟩, fun c x q => by
    have n : c ≠ p := fun n => by
      subst n
      rw [hf] at q
      cases q
    rw [upd_ne n]
    exact e.sub _ _ q, e.ext, e.new⟩
theorem holds_box {K : PySem.W.Frag} {σ : St} {F0 F H : Hp} {bx : Addr} (hh : Holds K (G.at F0) ρ σ F H) (hi : At ρ i l s) (hb : σ[i]? = some (some (.ref bx))) : F bx = none ∧ Own K F H bx (.lst s) := by
  obtain ⟨b', h1, hf, h0, hw⟩ := hh.own i l _ hi
  rw [hb] at h1
  cases h1
  exact ⟨hf, hw⟩
theorem at_set {ρ : Rho} {i : Nat} {l : Bool} {s s' : List D} (h : At ρ i l s) : At (ρ.set i (some (.own l (.lst s')))) i l s' := by
  show (ρ.set i _)[i]? = _
  rw [List.getElem?_set_self]
  rcases Nat.lt_or_ge i ρ.length with z | z
  · exact z
  · have h' : ρ[i]? = _ := h
    rw [List.getElem?_eq_none z] at h'
    cases h'
theorem lc_readB {γ : Type} {u : D → Option γ} {p : γ → List D → Rho} {is vs : List Nat} {iter elt : Expr} {ifs : List Expr} {scope : Scope} {mi : Rs (List D × List D)} {fc : γ → List D → Rs (Bool × List D)} {fe : γ → List D → Rs (D × List D)}
    (hi : At ρ i l s) (hiv : i ∉ vs) (qI : IB X G ρ i tg iter mi) (his : ∀ j ∈ is, j ∈ vs)
    (ht : ∀ s H C cl fp s', TT1 (XB X scope s H C cl fp) G tg (rWipe (ρ.set i (some (.own l (.lst s')))) vs) is u (fun y => p y s')) (hc : ∀ s H C cl fp y s', TBs (XB X scope s H C cl fp) G (p y s') i ifs (fc y s')) (he : ∀ s H C cl fp y s', EB (XB X scope s H C cl fp) G (p y s') i elt (fe y s'))
    (hpi : ∀ y s', At (p y s') i l s') (hps : ∀ y s' s'', (p y s').set i (some (.own l (.lst s''))) = p y s'')
    {F0 : Hp} {σ : St} {F H : Hp} {Q : VK} {bx : Addr} (hh : Holds X.K (G.at F0) ρ σ F H) (hbx : σ[i]? = some (some (.ref bx))) (hp : PostN X.K bx F H Q (mi.bind fun it => compBM u fc fe it.1 it.2)) :
    tLc (tAnyI X tg iter) (gAll X scope tg) (ttAll X scope ifs) (teAll X scope elt) vs σ H Q := by
  refine qI F0 σ F H _ bx hh hbx ?_
  cases mi with
  | ex c fs => exact hp
  | no => exact hp
  | ok it =>
  obtain ⟨items, s1⟩ := it
  have hp : PostN X.K bx F H Q (compBM u fc fe items s1) := hp
  intro J F1 H1 e1 hw ob1 D0 hD
  have hh1 := hh.moreB hi hbx e1 ob1
  have nD : D0 ≠ bx := fun z => by
    subst z
    obtain ⟨o, q, nt_⟩ := e1.there
    rw [hD] at q
    cases q
  have hDH : H D0 = none := by
    cases q : H D0 with
    | none => rfl
    | some o => rw [e1.same _ _ nD q] at hD; cases hD
  have h0 := hh1.toGnd.free0 hD
  have hno1 := fun j l e q => hh1.notOwn hD j l e q
  have hno : ∀ (s2 : List D) (j : Nat) (l' : Bool) (e : D), (ρ.set i (some (.own l (.lst s2))))[j]? = some (some (.own l' e)) → σ[j]? ≠ some (some (.ref D0)) := fun s2 j l' e q => by
    rcases set_at q with ⟨rfl, z⟩ | ⟨n, z⟩
    · rw [hbx]
      intro h
      cases h
      exact nD rfl
    · refine hno1 j l' e ?_
      show (ρ.set i _)[j]? = _
      rw [List.getElem?_set_ne n]
      exact z
  have hFD : F1 D0 = none := sub_none e1.sub hD
  refine ⟨fun k m H2 => m = items.length - k ∧ k ≤ items.length ∧ ∃ F2 acc s2, Holds X.K (G.at F0) (ρ.set i (some (.own l (.lst s2)))) σ F2 H2 ∧ ExtB bx F1 H1 F2 H2 ∧ F2 D0 = none ∧ Own X.K F2 H2 D0 (.lst acc) ∧ acc.length ≤ k ∧
      PostN X.K bx F H Q ((compBM u fc fe (items.drop k) s2).bind fun es => .ok (acc ++ es.1, es.2)), ⟨items.length, by simp, Nat.zero_le _, F1, [], s1, hh1.free hFD h0 (hno s1), ?_, hFD, .lst upd_same (Nat.zero_le _) .nil, Nat.zero_le _, ?_⟩, ?_⟩
  · obtain ⟨o, q, nt_⟩ := e1.there
    exact ExtB.beside ((Ext.refl e1.sub).toB q nt_) hD hFD nD
  · have e : ((compBM u fc fe (items.drop 0) s1).bind fun es => (.ok ([] ++ es.1, es.2) : Rs (List D × List D))) = compBM u fc fe items s1 := by
      rw [List.drop_zero]
      cases compBM u fc fe items s1 <;> rfl
    rw [e]
    exact hp
  · rintro k m H2 ⟨rfl, hil, F2, acc, s2, hh2, x2, f2, o2, la, hp2⟩
    obtain ⟨wgo, wstop⟩ := hw.2 F2 H2 x2.ext hh2.sub
    by_cases hlt : k < items.length
    · have hg : items[k]? = some items[k] := List.getElem?_eq_getElem hlt
      obtain ⟨g1, g2⟩ := wgo k _ hg
      rw [List.drop_eq_getElem_cons hlt] at hp2
      refine .inr ⟨g1, fun H' => ∃ F' acc' s', Holds X.K (G.at F0) (ρ.set i (some (.own l (.lst s')))) σ F' H' ∧ ExtB bx F1 H1 F' H' ∧ F' D0 = none ∧ Own X.K F' H' D0 (.lst acc') ∧ acc'.length ≤ k + 1 ∧ PostN X.K bx F H Q ((compBM u fc fe (items.drop (k + 1)) s').bind fun es => .ok (acc' ++ es.1, es.2)),
        fun H' ⟨F', acc', s', q1, q2, q3, q4, q5, q6⟩ => ⟨items.length - (k + 1), by omega, rfl, hlt, F', acc', s', q1, q2, q3, q4, q5, q6⟩, fun x H' y => ?_⟩
      obtain ⟨F3, e3, r3⟩ := g2 x H' y
      have hh3 := hh2.more e3
      have o3 := o2.ext e3
      obtain ⟨xs2, q2', _, _⟩ := o2.asL
      have f3 := e3.stays f2 q2' (fun _ z => nomatch z)
      have x3 : ExtB bx F1 H1 F3 H' := by
        obtain ⟨o, q, nt_⟩ := x2.there
        exact x2.trans (e3.toB q nt_)
      simp only [compBM] at hp2
      cases hu : u items[k] with
      | none =>
        rw [hu] at hp2
        exact hp2.elim
      | some y =>
        rw [hu] at hp2
        simp only [Rs.of_some, Rs.bind_ok] at hp2
        intro s' H0' C' cl' fp'
        refine ht s' H0' C' cl' fp' s2 F0 _ F3 H' x _ y _ (hh3.wipe vs) r3 hu fun σ4 w4 hh4 => ⟨?_, ?_⟩
        · rw [w4 vs his]
          exact wipe_wipe fun i hi => hi
        have hb4 : σ4[i]? = some (some (.ref bx)) := by
          have z1 := wipe_get (σ := σ4) hiv
          rw [w4 vs his, wipe_wipe fun i hi => hi, wipe_get hiv] at z1
          rw [← z1]
          exact hbx
        intro s5 H05 C5 cl5 fp5
        refine hc s5 H05 C5 cl5 fp5 y s2 F0 σ4 F3 H' _ bx hh4 hb4 (PostB.noX (γ := Unit) (δ := Unit) (fun rb hb v F4 H4 e4 rv ob4 => ?_) fun hn => ?_)
        · obtain ⟨bb, s4⟩ := rb
          have rv' : v = bb := rv
          subst rv'
          rw [hb] at hp2
          simp only [Rs.noX_ok, Rs.bind_ok] at hp2
          have hh4' : Holds X.K (G.at F0) (ρ.set i (some (.own l (.lst s4)))) σ F4 H4 := by
            have z := hh3.moreB (at_set hi) hbx e4 ob4
            rw [List.set_set] at z
            exact z
          have o4 := o3.moreB e4 nD
          obtain ⟨xs3, q3', _, _⟩ := o3.asL
          have f4 := e4.stays f3 q3' (fun _ z => nomatch z)
          cases v with
          | true =>
            refine iteT ?_
            intro s6 H06 C6 cl6 fp6
            have hh44 : Holds X.K (G.at F0) (p y s4) σ4 F4 H4 := by
              have z := hh4.moreB (hpi y s2) hb4 e4 ob4
              have z2 := hps y s2 s4
              rw [z2] at z
              exact z
            refine he s6 H06 C6 cl6 fp6 y s4 F0 σ4 F4 H4 _ bx hh44 hb4 (PostB.noX (γ := Unit) (δ := Unit) (fun rd hd v F5 H5 e5 r5 ob5 => ?_) fun hn => ?_)
            · obtain ⟨d, s5'⟩ := rd
              simp only [if_true] at hp2
              rw [hd] at hp2
              simp only [Rs.noX_ok, Rs.bind_ok] at hp2
              have hh5 : Holds X.K (G.at F0) (ρ.set i (some (.own l (.lst s5')))) σ F5 H5 := by
                have z := hh4'.moreB (at_set hi) hbx e5 ob5
                rw [List.set_set] at z
                exact z
              have o5 := o4.moreB e5 nD
              obtain ⟨xs4, q4', _, _⟩ := o4.asL
              have f5 := e5.stays f4 q4' (fun _ z => nomatch z)
              obtain ⟨xs5, q5', l5, r5'⟩ := o5.asL
              have lx : xs5.length < sizeLine := by
                rw [r5'.length]
                have hw1 : items.length ≤ sizeLine := hw.1
                omega
              refine ⟨xs5, q5', lx, F5, acc ++ [d], s5', hh5.free f5 h0 (hno s5'), ExtB.beside (x3.trans (e4.trans e5)) hD f5 nD, f5, .lst upd_same ?_ (r5'.append (.one r5)), ?_, ?_⟩
              · rw [List.length_append, List.length_singleton]
                exact lx
              · rw [List.length_append, List.length_singleton]
                omega
              · have e : ((compBM u fc fe (items.drop (k + 1)) s5').bind fun es => (.ok (acc ++ [d] ++ es.1, es.2) : Rs (List D × List D))) = (((compBM u fc fe (items.drop (k + 1)) s5').bind fun es => (.ok (d :: es.1, es.2) : Rs (List D × List D))).bind fun es => .ok (acc ++ es.1, es.2)) := by
                  cases compBM u fc fe (items.drop (k + 1)) s5' with
                  | ok es => simp
                  | ex _ _ => rfl
                  | no => rfl
                rw [e]
                exact hp2
            · simp only [if_true] at hp2
              rw [hn] at hp2
              exact hp2.elim
          | false =>
            refine iteF ⟨F4, acc, s4, hh4', x3.trans e4, f4, o4, by omega, ?_⟩
            simpa using hp2
        · rw [hn] at hp2
          exact hp2.elim
    · have ei : k = items.length := by omega
      subst ei
      rw [List.drop_length] at hp2
      simp only [compBM, Rs.bind_ok, List.append_nil] at hp2
      exact .inl ⟨wstop, hp2 D0 F2 H2 (e1.trans x2) hDH f2 o2 (holds_box hh2 (at_set hi) hbx).2⟩
def EFB (X : Cx) (G : Gd) (ρ : Rho) (i : Nat) (e : Expr) (m : Rs (List D × List D)) : Prop :=
  ∀ F0 σ F H Q b, Holds X.K (G.at F0) ρ σ F H → σ[i]? = some (some (.ref b)) → PostN X.K b F H Q m → ∃ t, PE X e t ∧ t σ H Q
theorem EFB.eb {m : Rs (List D × List D)} (h : EFB X G ρ i e m) : EB X G ρ i e (m.bind fun v => .ok (.lst v.1, v.2)) := by
  intro F0 σ F H Q b hh hb hp
  refine h F0 σ F H Q b hh hb ?_
  cases m with
  | ex c fs => exact hp
  | no => exact hp
  | ok r =>
    intro a F' H' e1 hn hf ho hob
    obtain ⟨o, ha, hr⟩ := ho.rep rfl e1.sub hf
    refine hp _ (upd F' a o) H' ⟨e1.same, e1.there, fun c x q => ?_, e1.ext.trans (same_upd hf), fun c x q => ?_⟩ hr (hob.move (same_upd hf) rfl)
    · by_cases e : c = a
      · subst e
        rw [upd_same] at q
        cases q
        exact ha
      · rw [upd_ne e] at q
        exact e1.sub _ _ q
    · by_cases e : c = a
      · subst e
        exact .inr (.inl hn)
      · rw [upd_ne e] at q
        exact e1.new _ _ q
theorem efb_comp {γ : Type} {u : D → Option γ} {p : γ → List D → Rho} {is : List Nat} {own : List (Str × Nat)} {iter elt : Expr} {ifs : List Expr} {scope : Scope} {mi : Rs (List D × List D)} {fc : γ → List D → Rs (Bool × List D)} {fe : γ → List D → Rs (D × List D)}
    (calm : X.calm = true) (nd : X.N.Nodup) (qI : IB X G ρ i tg iter mi) (ok : BlkOk X.N X.env.scope scope own) (his : ∀ j ∈ is, j ∈ own.map (·.2)) (hiv : i ∉ own.map (·.2))
    (ht : ∀ s H C cl fp s', TT1 (XB X scope s H C cl fp) G tg (rWipe (ρ.set i (some (.own l (.lst s')))) (own.map (·.2))) is u (fun y => p y s')) (hc : ∀ s H C cl fp y s', TBs (XB X scope s H C cl fp) G (p y s') i ifs (fc y s')) (he : ∀ s H C cl fp y s', EB (XB X scope s H C cl fp) G (p y s') i elt (fe y s'))
    (hi : At ρ i l s := by rfl) (hpi : ∀ y s', At (p y s') i l s' := by intro _ _; rfl) (hps : ∀ y s' s'', (p y s').set i (some (.own l (.lst s''))) = p y s'' := by intro _ _ _; rfl)
    (hs : ∀ x, foldedSetIterable iter X.env x = pure x := by intro _; rfl) : EFB X G ρ i (.ListComp elt [⟨tg, iter, ifs, 0⟩] scope pos) (mi.bind fun it => compBM u fc fe it.1 it.2) :=
  fun F0 σ F H Q b hh hb hp => ⟨_, pe_lc calm nd pi_any ok hgAll htAll heAll hs, lc_readB hi hiv qI his ht hc he hpi hps hh hb hp⟩
def ASB (X : Cx) (G : Gd) (ρ : Rho) (i : Nat) (st : Stmt) (j : Nat) (m : Rs (D × List D)) : Prop :=
  ∀ F0 σ F H Q b, Holds X.K (G.at F0) ρ σ F H → σ[i]? = some (some (.ref b)) → PostB X.K (RFb X.K) b F H Q m → ∃ te, PS X st (tAsg te (gName j)) ∧ te σ H Q
theorem asb_eb {j : Nat} {x : Str} {pos' : Pos} {m : Rs (D × List D)} (nd : X.N.Nodup) (h : EB X G ρ i e m) (hj : X.N[j]? = some x := by rfl) (hx : Loc X.env.scope x := by first | exact Or.inl rfl | exact Or.inr rfl) (hs : swapsWith e (some (.Name x pos')) pos.line X.env = pure false := by rfl)
    (hf : X.fn x = true ∨ X.env.scope.names.lookup x = some .local := by first | exact .inl rfl | exact .inr rfl) : ASB X G ρ i (.Assign [.Name x pos'] e pos) j m := fun F0 σ F H Q b hh hb hp => by
  obtain ⟨t, p, q⟩ := h F0 σ F H Q b hh hb hp
  exact ⟨t, ps_set nd hj hx p hs hf, q⟩
end
section
variable {X : Cx} {G : Gd} {W : WX} {ρx ρ : Rho} {rest sts : List Stmt} {α β R : Type} {pn : α → Rho} {pl : β → Rho} {ι : R → Fl α β} {i : Nat} {l : Bool} {s : List D}
theorem bi_setS {j : Nat} {st : Stmt} {m : Rs (D × List D)} {f : D → List D → Rs R} (he : ASB X G ρ i st j m) (hr : ∀ d s', BI X G W ρx ((ρ.set i (some (.own l (.lst s')))).set j (some (.val d))) rest pn pl ι (f d s')) (hi : At ρ i l s := by rfl) (hl : j < ρ.length := by exact Nat.le_of_ble_eq_true rfl) :
    BI X G W ρx ρ (st :: rest) pn pl ι (m.noX.bind fun u => f u.1 u.2) := by
  intro F0 σ F H E hh hp
  rw [Rs.assoc] at hp
  obtain ⟨r, rfl, hp⟩ := postS_noX hp
  obtain ⟨b, hb⟩ := box_at hh hi
  obtain ⟨te, p, q⟩ := he F0 σ F H (fun v H' => gName j v σ H' (fun σ' H' => tAny X rest E σ' H')) b hh hb fun v F' H' e1 r1 o1 => hr r.1 r.2 F0 _ F' H' E ((hh.moreB hi hb e1 o1).setV r1 (by rw [List.length_set]; exact hl)) hp
  exact any_cons p q
end
end VL
set_option Elab.async false
set_option linter.all false
set_option maxRecDepth 100000
set_option autoImplicit false
namespace VL
open PySem PySem.Spec L2
open PyProof.Rows hiding St
section
variable {X : Cx} {G : Gd} {W : WX} {ρ : Rho} {e : Expr} {es : List Expr} {m : Rs D} {κ : Kt} {pos p : Pos}
theorem RepHs.append {K : PySem.W.Frag} {F H : Hp} : ∀ {vs ws : List V} {ds es : List D}, RepHs K F H vs ds → RepHs K F H ws es → RepHs K F H (vs ++ ws) (ds ++ es)
  | _, _, _, _, .nil, h => h
  | _, _, _, _, .cons a r, h => .cons a (RepHs.append r h)
theorem seqD_reps {K : PySem.W.Frag} {F H : Hp} {v : V} {d : D} {ds : List D} (s : Same F H) (r : RepH K F H v d) (h : seqD d = some ds) : ∃ a xs, v = .ref a ∧ (SqT K H a xs ∨ SqL K H a xs) ∧ Reps K F xs ds := by
  cases d with
  | lst xs =>
    cases h
    obtain ⟨a, ys, rfl, h1, l1, w1⟩ := r.lst s
    exact ⟨a, ys, rfl, .inr (SqL.of h1), w1⟩
  | tup xs =>
    cases h
    obtain ⟨a, ys, rfl, h1, l1, w1, _⟩ := r.tup s
    exact ⟨a, ys, rfl, .inl h1, w1⟩
  | tupL xs =>
    cases h
    obtain ⟨a, ys, rfl, h1, l1, w1⟩ := r.tupL s
    exact ⟨a, ys, rfl, .inl h1, w1⟩
  | _ => cases h
def AS2 (X : Cx) (G : Gd) (W : WX) (ρ : Rho) (es : List Expr) (m : Rs (List D)) : Prop :=
  ∃ t, PA X es t ∧ ∀ F0 σ F H Q, Holds X.K (G.at F0) ρ σ F H → Post X.K (RL X.K) (fun c d H => W c d σ H) F H Q m → t σ H Q
def SC (X : Cx) (G : Gd) (W : WX) (ρ : Rho) (es : List Expr) (κ : Kt) : Prop := ∃ ms, AS2 X G W ρ es ms ∧ ∀ (β : Type) (k : List D → Rs β), κ β k = ms.bind k
theorem sc_nil : SC X G W ρ [] (fun β k => k []) := ⟨.ok [], ⟨_, pa_nil, fun F0 σ F H Q hh hp => hp [] F H (Ext.refl hh.sub) .nil⟩, fun _ _ => rfl⟩
theorem sc_cons (ha : EV X G W ρ e m) (hr : SC X G W ρ es κ) (hs : starEach (e :: es) X.env = (false, eval e X.env) :: starEach es X.env := by rfl) : SC X G W ρ (e :: es) (fun β k => m.bind fun x => κ β fun xs => k (x :: xs)) := by
  obtain ⟨ms, ⟨t, pt, qt⟩, h2⟩ := hr
  obtain ⟨te, pe, qe⟩ := ha
  refine ⟨_, ⟨_, pa_cons pe pt hs, fun F0 σ F H Q hh hp => ?_⟩, cons_eq h2⟩
  refine qe F0 σ F H _ hh (hp.bind fun d v F1 H1 e1 r1 hp1 => ?_)
  refine qt F0 σ F1 H1 _ (hh.more e1) (hp1.bind fun ds vs F2 H2 e2 r2 hp2 => ?_)
  exact hp2 _ F2 H2 (Ext.refl e2.sub) (.cons (r1.mono e2.ext) r2)
theorem sc_star (ha : EO X G W ρ e m) (hr : SC X G W ρ es κ) (hs : starEach (.Starred e p :: es) X.env = (true, eval e X.env) :: starEach es X.env := by rfl) :
    SC X G W ρ (.Starred e p :: es) (fun β k => m.bind fun x => (Rs.of (seqD x)).bind fun ys => κ β fun xs => k (ys ++ xs)) := by
  obtain ⟨ms, ⟨t, pt, qt⟩, h2⟩ := hr
  obtain ⟨te, pe, qe⟩ := ha
  refine ⟨m.bind fun x => (Rs.of (seqD x)).bind fun ys => ms.bind fun xs => .ok (ys ++ xs), ⟨_, StX.pa_star pe pt hs, fun F0 σ F H Q hh hp => ?_⟩, fun β k => ?_⟩
  · refine qe F0 σ F H _ hh (hp.bind fun d v F1 H1 e1 r1 hp1 => ?_)
    cases hd : seqD d with
    | none => rw [hd] at hp1; exact hp1.elim
    | some ys =>
      rw [hd] at hp1
      obtain ⟨a, xs, rfl, h1, h2⟩ := seqD_reps e1.sub r1 hd
      refine ⟨a, xs, rfl, h1, ?_⟩
      refine qt F0 σ F1 H1 _ (hh.more e1) (Post.bind (m := ms) hp1 fun ds vs F2 H2 e2 r2 hp2 => ?_)
      exact hp2 _ F2 H2 (Ext.refl e2.sub) ((h2.mono e2.ext).append r2)
  · rw [Rs.assoc]
    cases m with
    | ok x =>
      simp only [Rs.bind_ok]
      rw [Rs.assoc]
      cases Rs.of (seqD x) with
      | ok ys =>
        simp only [Rs.bind_ok]
        rw [h2, Rs.assoc]
        rfl
      | ex c fs => rfl
      | no => rfl
    | ex c fs => rfl
    | no => rfl
theorem ev_tupS {x1} (h : SC X G W ρ es κ) : EV X G W ρ (.Tuple es x1 pos) (κ D fun xs => Rs.of (tupR xs)) := by
  obtain ⟨ms, ⟨t, pt, qt⟩, h2⟩ := h
  rw [h2]
  refine ⟨_, pe_tup pt, fun F0 σ F H Q hh hp => qt F0 σ F H _ hh (hp.bind fun ds vs F1 H1 e1 r1 hp1 => ?_)⟩
  obtain ⟨d, hd, k⟩ := Post.of hp1
  obtain ⟨hl, rfl⟩ := tupR_some hd
  have l2 : vs.length ≤ sizeLine := by rw [Reps.length r1]; exact hl
  exact ⟨l2, fun q hn => k _ _ _ (Ext.fresh e1.sub _ hn) (new_tup e1.sub hn l2 r1)⟩
end
section
variable {X : Cx} {CX : CXT} {k n : Nat} {f : Addr} {fd : FuncData} {ps ks : List Str} {sp : Sp} {E : L2.St → XK} {x : Str} {p pos : Pos} {e : Expr} {es : List Expr} {kws : List Keyword} {t tk : TA} {g : List Value → List Value → List Value} {gV : List V → List V → List V}
theorem run_fnKS {pins : List (Addr × Obj)} {σ : L2.St} {H : Hp} {s : Shared} {Q : VK} {us ws : List Value} {vs zs : List V} (F : FnOk X.prog X.w X.K X.mg X.base CX k f fd ps sp) (hr : Room k X.A) (hb : KBn X.K fd ps n ks g gV) (hx : PassesAt CX X σ (E σ))
    (I : Inv X pins σ H s) (r : Vals vs us) (rz : Vals zs ws) (l1 : vs.length = n) (l2 : zs.length = ks.length) (h : sp (gV vs zs) H Q (E σ)) : wpAny (model X.prog X.w) X.A (call (.ref f) us (ks.zip ws)) (EP X pins σ Q) X.xe s := by
  have r2 := hb.rel r rz
  refine wpAny_call (codeAny_mono (F.run X.A X.stack s H ⟨us, ks.zip ws⟩ (g us ws) (gV vs zs) Q (E σ) hr I.env0 (hb.to s us ws I.kIn (r.length.symm.trans l1) (rz.length.symm.trans l2)) r2 h) fun r s' hq => ?_)
  cases r with
  | error e => exact hx pins H s e s' I hq
  | ok fl =>
    cases fl with
    | ret u => exact I.after hq
    | next => exact False.elim hq
    | brk => exact False.elim hq
    | cont => exact False.elim hq
end
def gOf {α : Type} (is : List Nat) (us ws : List α) : List α := us ++ is.filterMap (ws[·]?)
theorem vals_pick {zs : List V} {ws : List Value} (h : Vals zs ws) : ∀ is : List Nat, Vals (is.filterMap (zs[·]?)) (is.filterMap (ws[·]?))
  | [] => .nil
  | i :: is => by
    rw [List.filterMap_cons, List.filterMap_cons]
    cases hz : zs[i]? with
    | none =>
      rw [h.none_of hz]
      exact vals_pick h is
    | some z =>
      obtain ⟨u, hu, r⟩ := h.get hz
      rw [hu]
      exact .cons r (vals_pick h is)
theorem reps_pick {K : PySem.W.Frag} {F : Hp} {zs : List V} {ws : List D} (h : Reps K F zs ws) : ∀ is : List Nat, Reps K F (is.filterMap (zs[·]?)) (is.filterMap (ws[·]?))
  | [] => .nil
  | i :: is => by
    rw [List.filterMap_cons, List.filterMap_cons]
    cases hz : zs[i]? with
    | none =>
      have : ws[i]? = none := by
        cases hw : ws[i]? with
        | none => rfl
        | some d =>
          obtain ⟨v, h1, _⟩ := h.get hw
          rw [hz] at h1
          cases h1
      rw [this]
      exact reps_pick h is
    | some z =>
      obtain ⟨u, hu, r⟩ := h.getV hz
      rw [hu]
      exact .cons r (reps_pick h is)
theorem kbN {K : PySem.W.Frag} {x qual : Str} {params : Arguments} {body : List Stmt} {scope : Scope} {kws : List (Str × V)} {f : Addr} {fd : FuncData} {ps : List Str} (F : FunD K x qual params body scope [] kws f fd) (n : Nat) (ks : List Str) (is : List Nat)
    (h : ∀ (kV doc pm : Value) (an : Option Addr) (cdv ct : Value) (us ws : List Value), us.length = n → ws.length = ks.length → bindArgs (PySem.W.fnOf x qual params body scope .none kV doc pm an cdv ct) ⟨us, ks.zip ws⟩ = pure (ps.zip (gOf is us ws))) : KBn K fd ps n ks (gOf is) (gOf is) := by
  obtain ⟨oc, od, dV, kV, doc, pm, an, cdv, ct, osl, rfl, lk, hcd, hD, hK⟩ := F.ex
  rcases hD with ⟨_, rfl⟩ | ⟨e, _⟩
  · exact ⟨fun s us ws _ h1 h2 => .of_eq (h kV doc pm an cdv ct us ws h1 h2), fun r1 r2 => r1.append (vals_pick r2 is)⟩
  · exact absurd rfl e
def KV (X : Cx) (G : Gd) (W : WX) (ρ : Rho) (kws : List Keyword) (m : Rs (List D)) : Prop :=
  (∀ r, m = .ok r → r.length = kws.length) ∧ ∃ t, PK X kws t ∧ ∀ F0 σ F H Q, Holds X.K (G.at F0) ρ σ F H → Post X.K (RL X.K) (fun c d H => W c d σ H) F H Q m → t σ H Q
def KC (X : Cx) (G : Gd) (W : WX) (ρ : Rho) (kws : List Keyword) (κ : Kt) : Prop := ∃ ms, KV X G W ρ kws ms ∧ ∀ (β : Type) (k : List D → Rs β), κ β k = ms.bind k
section
variable {X : Cx} {G : Gd} {W : WX} {ρ : Rho} {e : Expr} {es : List Expr} {m : Rs D} {κ κ' : Kt} {pos p kpos : Pos} {kws : List Keyword} {nm : Option Str}
theorem kc_nil : KC X G W ρ [] (fun β k => k []) := ⟨.ok [], ⟨fun r h => by cases h; rfl, _, pk_nil, fun F0 σ F H Q hh hp => hp [] F H (Ext.refl hh.sub) .nil⟩, fun _ _ => rfl⟩
theorem kc_cons (ha : EV X G W ρ e m) (hr : KC X G W ρ kws κ) : KC X G W ρ (⟨nm, e, kpos⟩ :: kws) (fun β k => m.bind fun x => κ β fun xs => k (x :: xs)) := by
  obtain ⟨ms, ⟨hl, t, pt, qt⟩, h2⟩ := hr
  obtain ⟨te, pe, qe⟩ := ha
  refine ⟨_, ⟨fun r h => ?_, _, pk_cons pe pt, fun F0 σ F H Q hh hp => ?_⟩, cons_eq h2⟩
  · cases m with
    | ok x =>
      cases ms with
      | ok xs =>
        cases h
        exact congrArg (· + 1) (hl xs rfl)
      | ex c fs => cases h
      | no => cases h
    | ex c fs => cases h
    | no => cases h
  · refine qe F0 σ F H _ hh (hp.bind fun d v F1 H1 e1 r1 hp1 => ?_)
    refine qt F0 σ F1 H1 _ (hh.more e1) (hp1.bind fun ds vs F2 H2 e2 r2 hp2 => ?_)
    exact hp2 _ F2 H2 (Ext.refl e2.sub) (.cons (r1.mono e2.ext) r2)
end
end VL
set_option Elab.async false
set_option linter.all false
set_option maxRecDepth 100000
set_option autoImplicit false
namespace VL
open PySem PySem.Spec L2
open PyProof.Rows hiding St
def spF (K : PySem.W.Frag) (n : Nat) (m : List D → Rs (List D)) : Sp := fun vs H Q E => vs.length = n ∧ ∃ F ds, Same F H ∧ Reps K F vs ds ∧ Post K (RN K H) E F H Q (m ds).noX
abbrev KeepsF (P : Program) (w : World) (K : PySem.W.Frag) (mg : Str → Option Value) (base : Heap) (k : Nat) (f : Addr) (fd : FuncData) (ps : List Str) (m : List D → Rs (List D)) : Prop := FnOk P w K mg base (L2N.CX P w) k f fd ps (spF K ps.length m)
def PostR (K : PySem.W.Frag) (G : Gd) (W : WX) (E : Ends) : Rs (List D) → Prop
  | .ok r => ∀ a F H, Gnd K G F H → G.H0 a = none → F a = none → Own K F H a (.lst r) → E.rt (.ref a) H
  | _ => False
def BN (X : Cx) (G : Gd) (W : WX) (ρ : Rho) (sts : List Stmt) (m : Rs (List D)) : Prop :=
  ∀ F0 σ F H E, Holds X.K (G.at F0) ρ σ F H → PostR X.K (G.at F0) W E m → tAny X sts E σ H
section
variable {X : Cx} {G : Gd} {ρ : Rho} {rest : List Stmt} {e : Expr} {pos : Pos}
theorem bn_set {i : Nat} {st : Stmt} {m : Rs D} {f : D → Rs (List D)} (ha : AS X G W0 ρ st i m) (hr : ∀ d, BN X G W0 (ρ.set i (some (.val d))) rest (f d)) (hi : i < ρ.length := by exact Nat.le_of_ble_eq_true rfl) : BN X G W0 ρ (st :: rest) (m.bind f) := by
  obtain ⟨te, p, q⟩ := ha
  intro F0 σ F H E hh hp
  refine any_cons p (q F0 σ F H _ hh ?_)
  cases m with
  | ok d => exact fun v F' H' e1 r1 => hr d F0 _ F' H' E ((hh.more e1).setV r1 hi) hp
  | ex c fs => exact hp.elim
  | no => exact hp.elim
theorem bn_ret {m : Rs (List D)} (he : EF X G W0 ρ e m) : BN X G W0 ρ (.Return (some e) pos :: rest) m := by
  obtain ⟨te, p, q⟩ := he
  intro F0 σ F H E hh hp
  refine any_cons (ps_ret p) (q F0 σ F H _ hh ?_)
  cases m with
  | ok r =>
    intro v F' H' e1 r1
    obtain ⟨a, rfl, hn, hf, ho⟩ := r1
    exact hp a F' H' (hh.toGnd.more e1) (hh.toGnd.free0 hn).1 hf ho
  | ex c fs => exact hp.elim
  | no => exact hp.elim
theorem bn_as (ρ' : Rho) {sts : List Stmt} {m m' : Rs (List D)} (h : BN X G W0 ρ' sts m) (er : ρ = ρ') (e : m = m') : BN X G W0 ρ sts m' := by
  subst er e
  exact h
end
theorem holds_start {K : PySem.W.Frag} {F H : Hp} {N : List Str} {vs : List V} {ds : List D} (hs : Same F H) (hr1 : Reps K F vs ds) : Holds K (Gd.at ⟨F, H, []⟩ F) (ds.map (fun d => some (Cl.val d)) ++ List.replicate (N.length - ds.length) none) (L2.start N vs) F H := by
  refine ⟨⟨hs, fun a o q _ => q, fun a q => by simp [Gd.at] at q, Same.refl F, fun a o q => .inl q⟩, fun i d q => ?_, fun i l d q => ?_, fun i j l m' d e a n q => ?_, ?_⟩
  · obtain ⟨d', h1, h2⟩ := rho_start q
    cases h2
    obtain ⟨v, g1, g2⟩ := hr1.get h1
    refine ⟨v, ?_, g2⟩
    unfold L2.start
    rw [List.getElem?_append_left (by
      rw [List.length_map]
      rcases Nat.lt_or_ge i vs.length with z | z
      · exact z
      · rw [List.getElem?_eq_none z] at g1; cases g1), List.getElem?_map, g1]
    rfl
  · obtain ⟨d', h1, h2⟩ := rho_start q
    cases h2
  · obtain ⟨d', h1, h2⟩ := rho_start q
    cases h2
  · unfold L2.start
    rw [List.length_append, List.length_append, List.length_map, List.length_map, List.length_replicate, List.length_replicate, hr1.length]
    exact Nat.le_refl _
theorem keeps_new {P : Program} {w : World} {K : PySem.W.Frag} {mg : Str → Option Value} {base : Heap} {x qual : Str} {params : Arguments} {body : List Stmt} {scope : Scope} {dvs : List V} {kws : List (Str × V)} {f : Addr} {fd : FuncData} {N ps : List Str} {k : Nat} {m : List D → Rs (List D)}
    (Fd : FunD K x qual params body scope dvs kws f fd) (S : FnScope N ps scope)
    (hb : ∀ (cdv : Value) (A : Around) (outer : List Env) (s : Shared) (H : Hp) (E : XK) (F : Hp) (ds : List D), ds.length = ps.length → Room k (A.deeper (envOfC qual scope s.heap.objs.size f cdv)) →
      BN (cxOf (L2N.CX P w) P w K mg base N qual scope f cdv A outer s H E) ⟨F, H, []⟩ W0 (ds.map (fun d => some (Cl.val d)) ++ List.replicate (N.length - ds.length) none) body (m ds)) :
    KeepsF P w K mg base (k + 1) f fd ps m := by
  refine Fd.ok S (fun vs H Q E h => h.1) (fun cdv A outer s H vs Q E hr h => ?_)
  obtain ⟨hl, F, ds, hs, hr1, hp⟩ := h
  refine hb cdv A outer s H E F ds (hr1.length.symm.trans hl) hr F (start N vs) F H _ (holds_start hs hr1) ?_
  cases hm : m ds with
  | ok r =>
    rw [hm] at hp
    exact fun a F' H' g h0 hf ho => hp _ F' H' (gnd_ext g) ⟨a, rfl, h0, hf, ho⟩
  | ex c fs => rw [hm] at hp; exact hp.elim
  | no => rw [hm] at hp; exact hp.elim
section
variable {X : Cx} {G : Gd} {W : WX} {ρ : Rho} {e : Expr} {es : List Expr} {κ : Kt} {pos p : Pos}
theorem ef_callC {k : Nat} {f : Addr} {fd : FuncData} {ps : List Str} {m : List D → Rs (List D)} {x : Str} (Fk : KeepsF X.prog X.w X.K X.mg X.base k f fd ps m) (hr : Room k X.A) (hm : X.mg x = some (.ref f)) (hk : PySem.W.keepIn X.K (.ref f) = true)
    (hb : Binds X.K fd ps []) (ha : AC X G W ρ (e :: es) κ) (hln : (e :: es).length = ps.length := by rfl) (hg : Gl X x := by rfl) (hdb : (x == ("__debug__" : Str)) = false := by decide) (he : starEach (e :: es) X.env = (false, eval e X.env) :: starEach es X.env := by rfl)
    (hpl : (backTo pos (starEach es X.env)).any (·.1) = false := by rfl) : EF X G W ρ (.Call (.Name x p) (e :: es) [] pos) (κ (List D) fun ds => (m ds).noX) := by
  obtain ⟨ms, ⟨ln, t, pa, qa⟩, h2⟩ := ha
  rw [h2]
  refine ⟨_, pe_callSD (E := WE W0) Fk hr hg hm hk hb .nil (fun σ => L2N.passAt takes0N σ) pa hdb he hpl, fun F0 σ F H Q hh hp => ?_⟩
  refine qa F0 σ F H _ hh ?_
  cases ms with
  | ex c fs => exact hp
  | no => exact hp
  | ok ds =>
    intro vs F' H' e1 r1
    show spF X.K ps.length m (vs ++ []) H' Q _
    rw [List.append_nil]
    refine ⟨(Reps.length r1).trans ((ln ds rfl).trans hln), F', ds, e1.sub, r1, ?_⟩
    have hp' : Post X.K (RN X.K H) (fun c d H => W c d σ H) F H Q (m ds).noX := hp
    cases hmd : m ds with
    | ok r =>
      rw [hmd] at hp'
      refine fun v F2 H2 e2 r2 => hp' v F2 H2 (e1.trans e2) ?_
      obtain ⟨a, h1, h2, h3, h4⟩ := r2
      exact ⟨a, h1, e1.same.free h2, h3, h4⟩
    | ex c fs => rw [hmd] at hp'; exact hp'.elim
    | no => rw [hmd] at hp'; exact hp'.elim
theorem ev_box {k : Nat} {f : Addr} {fd : FuncData} {ps : List Str} {m : List D → List D → Rs (D × List D)} {x : Str} {mb : Rs (List D)} (Fk : KeepsIO X.prog X.w X.K X.mg X.base k f fd ps m) (hr : Room k X.A) (hm : X.mg x = some (.ref f)) (hk : PySem.W.keepIn X.K (.ref f) = true)
    (hb : Binds X.K fd ps []) (he0 : EF X G W ρ e mb) (ha : AC X G W ρ es κ) (hln : es.length + 1 = ps.length := by rfl) (hg : Gl X x := by rfl) (hdb : (x == ("__debug__" : Str)) = false := by decide) (he : starEach (e :: es) X.env = (false, eval e X.env) :: starEach es X.env := by rfl)
    (hpl : (backTo pos (starEach es X.env)).any (·.1) = false := by rfl) : EV X G W ρ (.Call (.Name x p) (e :: es) [] pos) (mb.bind fun s => κ D fun ds => (m s ds).noX.bind fun u => .ok u.1) := by
  obtain ⟨ms, ⟨ln, t, pa, qa⟩, h2⟩ := ha
  obtain ⟨te, pe, qe⟩ := he0
  refine ⟨_, pe_callSD (E := WE W0) Fk hr hg hm hk hb .nil (fun σ => L2N.passAt takes0N σ) (pa_cons pe pa he) hdb he hpl, fun F0 σ F H Q hh hp => ?_⟩
  refine qe F0 σ F H _ hh ?_
  cases mb with
  | ex c fs => exact hp
  | no => exact hp
  | ok s =>
    have hp : Post X.K (RF X.K) (fun c d H => W c d σ H) F H Q (κ D fun ds => (m s ds).noX.bind fun u => .ok u.1) := hp
    rw [h2] at hp
    rintro v F1 H1 e1 ⟨a, rfl, hn, hf, ho⟩
    refine qa F0 σ F1 H1 _ (hh.more e1) ?_
    cases ms with
    | ex c fs => exact Post.more hp e1
    | no => exact hp
    | ok ds =>
      intro vs F' H' e2 r1
      show spIO X.K ps.length m (.ref a :: vs ++ []) H' Q _
      rw [List.append_nil]
      obtain ⟨o, hob, nt_⟩ := ho.there
      refine ⟨by rw [List.length_cons, Reps.length r1, ln ds rfl]; exact hln, a, vs, F', ds, s, rfl, e2.sub, e2.stays hf hob nt_, ho.ext e2, r1, ?_⟩
      cases hmd : m s ds with
      | ex c fs => simp only [Rs.bind_ok, hmd] at hp; exact hp.elim
      | no => simp only [Rs.bind_ok, hmd] at hp; exact hp.elim
      | ok r =>
        simp only [Rs.bind_ok, hmd, Rs.noX_ok] at hp
        intro w F3 H3 e3 r3 o3
        refine hp w F3 H3 ⟨fun b x q => ?_, e3.sub, (e1.ext.trans e2.ext).trans e3.ext, fun b x q => ?_⟩ r3
        · have nb : b ≠ a := ne_of_none q hn
          exact e3.same _ _ nb (e2.same _ _ (e1.same _ _ q))
        · rcases e3.new b x q with z | z
          · exact (e1.trans e2).new b x z
          · exact .inr (z.back fun o' q2 => e2.same _ _ (e1.same _ _ q2))
end
def Fl.toIO {ε β' : Type} (f : ε → Rs (D × List D)) : Fl ε β' → Rs (D × List D)
  | .nx z => f z
  | .rt d [.lst s] => .ok (d, s)
  | _ => .no
section
variable {X : Cx} {G : Gd} {W : WX} {ρx ρ : Rho} {rest sts : List Stmt} {α β R : Type} {pn : α → Rho} {pl : β → Rho} {ι : R → Fl α β} {i : Nat} {l : Bool} {s : List D}
theorem bi_forIO {ε γ : Type} {post : ε → Rho} {u : D → Option γ} {p : ε → γ → Rho} {is : List Nat} {tg iter : Expr} {body : List Stmt} {pos : Pos} {mi : Rs (List D)} {fb : ε → γ → Rs (Fl ε ε)} {z0 : ε} {f : ε → Rs (D × List D)} {b : Addr}
    (po : PassesOwn (model X.prog X.w) X.A X.env X.xe) (calm : X.calm = true) (hbs : G.bs = [b]) (hi : IT X G W ρ tg iter mi) (h0 : Wk ρ (post z0)) (ht : ∀ z, TT1 X G tg (post z) is u (p z)) (hb : ∀ z y, BK X G W ρx (p z y) body post post (fb z y))
    (hr : ∀ z, BI X G W ρx (post z) rest pn pl ioI (f z)) (wx : Wk ρ ρx := by first | exact Wk.nil | exact Wk.refl | (repeat (first | exact Wk.nil | apply Wk.keep | apply Wk.drop))) (hs : ∀ x, foldedSetIterable iter X.env x = pure x := by intro _; rfl) :
    BI X G W ρx ρ (.For tg iter body [] pos :: rest) pn pl ioI (mi.bind fun items => (loopM (β := β) (fun z d => (Rs.of (u d)).bind (fb z)) items z0).bind (Fl.toIO f)) := by
  unfold BI
  have z := bk_for (pos := pos) po calm hi h0 ht hb hr wx hs
  intro F0 σ F H E hh hp
  refine z F0 σ F H E hh ?_
  cases mi with
  | ex c fs => exact hp
  | no => exact hp
  | ok items =>
    simp only [Rs.bind_ok] at hp ⊢
    cases hl : loopM (β := β) (fun z d => (Rs.of (u d)).bind (fb z)) items z0 with
    | ex c fs => rw [hl] at hp; exact hp
    | no => rw [hl] at hp; exact hp
    | ok fl =>
      rw [hl] at hp
      cases fl with
      | nx z => exact hp
      | bk y => exact hp.elim
      | ct y => exact hp.elim
      | rt d s =>
        simp only [Rs.bind_ok] at hp
        unfold Fl.toIO at hp
        split at hp
        · rename_i h; cases h
        · rename_i h; cases h; exact hp
        · exact hp.elim
end
end VL
set_option Elab.async false
set_option linter.all false
set_option maxRecDepth 100000
set_option autoImplicit false
namespace VL
open PySem PySem.Spec L2
open PyProof.Rows hiding St
def CellOk (K : PySem.W.Frag) (Hs F H : Hp) (o : Bool) (v : V) (d : D) : Prop := match o with
  | false => Rep K F v d
  | true => ∃ a, v = .ref a ∧ Hs a = none ∧ F a = none ∧ Own K F H a d
def clOf : Bool → D → Cl
  | false, d => .val d
  | true, d => .own true d
theorem CellOk.more {K : PySem.W.Frag} {Hs F H F' H' : Hp} {o : Bool} {v : V} {d : D} (e : Ext F H F' H') (h : CellOk K Hs F H o v d) : CellOk K Hs F' H' o v d := by
  cases o with
  | false => exact Rep.mono e.ext h
  | true =>
    obtain ⟨a, h1, h2, h3, h4⟩ := h
    obtain ⟨u, hu, nt_⟩ := h4.there
    exact ⟨a, h1, h2, e.stays h3 hu nt_, h4.ext e⟩
theorem CellOk.moreB {K : PySem.W.Frag} {Hs F H F' H' : Hp} {o : Bool} {v : V} {d : D} {b : Addr} (e : ExtB b F H F' H') (hb : Hs b ≠ none) (h : CellOk K Hs F H o v d) : CellOk K Hs F' H' o v d := by
  cases o with
  | false => exact Rep.mono e.ext h
  | true =>
    obtain ⟨a, h1, h2, h3, h4⟩ := h
    obtain ⟨u, hu, nt_⟩ := h4.there
    have n : a ≠ b := fun z => by subst z; exact hb h2
    exact ⟨a, h1, h2, e.stays h3 hu nt_, h4.moreB e n⟩
theorem Holds.setC {K : PySem.W.Frag} {G : Gd} {ρ : Rho} {σ : St} {Hs F H : Hp} {i : Nat} {o : Bool} {v : V} {d : D} (hh : Holds K G ρ σ F H) (c : CellOk K Hs F H o v d)
    (h0 : ∀ a, v = .ref a → Hs a = none → OwnAt G a true ∧ ∀ (j : Nat) (m : Bool) (e : D), ρ[j]? = some (some (.own m e)) → σ[j]? ≠ some (some (.ref a))) (hi : i < ρ.length) : Holds K G (ρ.set i (some (clOf o d))) (σ.set i (some v)) F H := by
  cases o with
  | false => exact hh.setV c hi
  | true =>
    obtain ⟨a, rfl, h2, h3, h4⟩ := c
    obtain ⟨g1, g2⟩ := h0 a rfl h2
    exact hh.setO h4 h3 g1 g2 hi
theorem Holds.setC2 {K : PySem.W.Frag} {G : Gd} {ρ0 ρ : Rho} {σ : St} {Fs Hs Hm F H : Hp} {i j : Nat} {o1 o2 : Bool} {v1 v2 : V} {d1 d2 : D} (hh0 : Holds K G ρ0 σ Fs Hs) (hρ : ∀ (k : Nat) (m : Bool) (e : D), ρ[k]? = some (some (.own m e)) → ∃ m' e', ρ0[k]? = some (some (.own m' e')))
    (hh : Holds K G ρ σ F H) (c1 : CellOk K Hs F H o1 v1 d1) (c2 : CellOk K Hm F H o2 v2 d2) (hsm : ∀ a, Hm a = none → Hs a = none) (hm : o1 = true → ∀ a, v1 = .ref a → Hm a ≠ none) (hij : i ≠ j) (hi : i < ρ.length) (hj : j < ρ.length) :
    Holds K G ((ρ.set i (some (clOf o1 d1))).set j (some (clOf o2 d2))) ((σ.set i (some v1)).set j (some v2)) F H := by
  have fr : ∀ a, Hs a = none → OwnAt G a true ∧ ∀ (j : Nat) (m : Bool) (e : D), ρ[j]? = some (some (.own m e)) → σ[j]? ≠ some (some (.ref a)) := fun a ha =>
    ⟨hh0.toGnd.free0 ha, fun k m e q => by
      obtain ⟨m', e', q'⟩ := hρ k m e q
      exact hh0.notOwn ha k m' e' q'⟩
  refine (hh.setC c1 (fun a _ ha => fr a ha) hi).setC c2 (fun a ea ha => ?_) (by rw [List.length_set]; exact hj)
  obtain ⟨g1, g2⟩ := fr a (hsm a ha)
  refine ⟨g1, fun k m e q => ?_⟩
  rcases set_at q with ⟨rfl, z⟩ | ⟨n, z⟩
  · rw [List.getElem?_set_self (by have := hh.len; omega)]
    intro q2
    cases q2
    cases o1 with
    | false => cases z
    | true => exact hm rfl a rfl ha
  · rw [List.getElem?_set_ne n]
    exact g2 k m e z
def EC (X : Cx) (G : Gd) (W : WX) (ρ : Rho) (o : Bool) (e : Expr) {γ : Type} (wr : γ → D) (m : Rs γ) : Prop :=
  ∃ t, PE X e t ∧ ∀ F0 σ F H Q, Holds X.K (G.at F0) ρ σ F H → Post X.K (fun F' H' v g => CellOk X.K H F' H' o v (wr g)) (fun c d H => W c d σ H) F H Q m → t σ H Q
section
variable {X : Cx} {G : Gd} {W : WX} {ρ : Rho} {i : Nat} {l : Bool} {s : List D} {e a b c : Expr} {es : List Expr} {pos p p2 : Pos}
theorem EV.ec {m : Rs D} (h : EV X G W ρ e m) : EC X G W ρ false e (fun d => d) m := h
theorem EF.ec {m : Rs (List D)} (h : EF X G W ρ e m) : EC X G W ρ true e .lst m := h
def ECB (X : Cx) (G : Gd) (ρ : Rho) (i : Nat) (o : Bool) (e : Expr) {γ : Type} (wr : γ → D) (m : Rs (γ × List D)) : Prop :=
  ∀ F0 σ F H (Q : VK) b, Holds X.K (G.at F0) ρ σ F H → σ[i]? = some (some (.ref b)) → (∃ r, m = .ok r ∧ ∀ v F' H', ExtB b F H F' H' → CellOk X.K H F' H' o v (wr r.1) → Own X.K F' H' b (.lst r.2) → Q v H') → ∃ t, PE X e t ∧ t σ H Q
theorem EB.ecb {m : Rs (D × List D)} (h : EB X G ρ i e m) : ECB X G ρ i false e (fun d => d) m := fun F0 σ F H Q b hh hb ⟨r, hm, hq⟩ => by
  subst hm
  exact h F0 σ F H Q b hh hb hq
theorem EFB.ecb {m : Rs (List D × List D)} (h : EFB X G ρ i e m) : ECB X G ρ i true e .lst m := fun F0 σ F H Q b hh hb ⟨r, hm, hq⟩ => by
  subst hm
  exact h F0 σ F H Q b hh hb fun a F' H' e1 h1 h2 h3 h4 => hq _ F' H' e1 ⟨a, rfl, h1, h2, h3⟩ h4
theorem EC.ecb {o : Bool} {γ : Type} {wr : γ → D} {m : Rs γ} (h : EC X G W0 ρ o e wr m) (hi : At ρ i l s := by rfl) : ECB X G ρ i o e wr (m.bind fun g => .ok (g, s)) := fun F0 σ F H Q b hh hb ⟨r, hm, hq⟩ => by
  obtain ⟨t, p, q⟩ := h
  refine ⟨t, p, q F0 σ F H Q hh ?_⟩
  cases m with
  | ok g =>
    cases hm
    intro v F' H' e1 r1
    obtain ⟨hf, hw⟩ := holds_box hh hi hb
    obtain ⟨o', ho, nt_⟩ := hw.there
    exact hq v F' H' (e1.toB ho nt_) r1 (hw.ext e1)
  | ex c fs => cases hm
  | no => cases hm
end
section
variable {X : Cx} {G : Gd} {W : WX} {ρx ρ : Rho} {rest sts : List Stmt} {α β R : Type} {pn : α → Rho} {pl : β → Rho} {ι : R → Fl α β} {i : Nat} {l : Bool} {s : List D}
theorem bi_parC {γ δ : Type} {o1 o2 : Bool} {w1 : γ → D} {w2 : δ → D} {i j : Nat} {x y : Str} {a b : Expr} {px py pt : Pos} {kt k2 : Nat} {pt2 pos : Pos} {ma : Rs γ} {mb : Rs δ} {f : γ → δ → Rs R} (calm : X.calm = true) (nd : X.N.Nodup) (ha : EC X G W ρ o1 a w1 ma) (hb : EC X G W ρ o2 b w2 mb)
    (hr : ∀ d e, BI X G W ρx ((ρ.set i (some (clOf o1 (w1 d)))).set j (some (clOf o2 (w2 e)))) rest pn pl ι (f d e)) (hi : X.N[i]? = some x := by rfl) (hj : X.N[j]? = some y := by rfl) (hij : i ≠ j := by decide) (hx : X.env.scope.names.lookup x = some .local := by rfl) (hy : X.env.scope.names.lookup y = some .local := by rfl)
    (hw : swappedStores [.Tuple [.Name x px, .Name y py] kt pt] (.Tuple [a, b] k2 pt2) X.env = pure (some [x, y]) := by rfl) (hs : swapsWithSole [.Tuple [.Name x px, .Name y py] kt pt] (.Tuple [a, b] k2 pt2) pos.line X.env = pure false := by rfl)
    (hsa : starEach [a, b] X.env = (false, eval a X.env) :: starEach [b] X.env := by rfl) (hsb : starEach [b] X.env = (false, eval b X.env) :: starEach [] X.env := by rfl) (hli : i < ρ.length := by exact Nat.le_of_ble_eq_true rfl) (hlj : j < ρ.length := by exact Nat.le_of_ble_eq_true rfl) (wx : Wk ρ ρx := by first | exact Wk.nil | exact Wk.refl | (repeat (first | exact Wk.nil | apply Wk.keep | apply Wk.drop))) :
    BI X G W ρx ρ (.Assign [.Tuple [.Name x px, .Name y py] kt pt] (.Tuple [a, b] k2 pt2) pos :: rest) pn pl ι (ma.bind fun d => mb.bind fun e => f d e) := by
  obtain ⟨ta, pa, qa⟩ := ha
  obtain ⟨tb, pb, qb⟩ := hb
  intro F0 σ F H E hh hp
  have e2 : ((ma.bind fun d => mb.bind fun e => f d e).bind fun r => (.ok (ι r) : Rs (Fl α β))) = ma.bind fun d => mb.bind fun e => (f d e).bind fun r => .ok (ι r) := by
    cases ma <;> simp only [Rs.bind_ok, Rs.bind_ex, Rs.bind_no, Rs.assoc]
  rw [e2] at hp
  refine any_cons (ps_par calm nd hi hj hij hx hy (pa_cons pa (pa_cons pb pa_nil hsb) hsa) hw hs) ?_
  refine qa F0 σ F H _ hh (post_seq hh wx hp fun d v F1 H1 e1 r1 hp1 => ?_)
  refine qb F0 σ F1 H1 _ (hh.more e1) (post_seq (hh.more e1) wx hp1 fun e u F2 H2 e2 r2 hp2 => ?_)
  refine ⟨v, u, rfl, ?_⟩
  refine hr d e F0 _ F2 H2 E (Holds.setC2 hh (fun k m e q => ⟨m, e, q⟩) ((hh.more e1).more e2) (CellOk.more e2 r1) r2 (fun a ha => e1.same.free ha) (fun ho a ea hn => ?_) hij hli hlj) hp2
  subst ho
  obtain ⟨a', ea', _, _, h4⟩ := r1
  rw [ea] at ea'
  cases ea'
  obtain ⟨o', ho', nt_⟩ := h4.there
  rw [hn] at ho'
  cases ho'
theorem bi_parB {γ δ : Type} {o1 o2 : Bool} {w1 : γ → D} {w2 : δ → D} {k j : Nat} {x y : Str} {a b : Expr} {px py pt : Pos} {kt k2 : Nat} {pt2 pos : Pos} {ma : Rs (γ × List D)} {mb : List D → Rs (δ × List D)} {f : γ → δ → List D → Rs R} (calm : X.calm = true) (nd : X.N.Nodup) (ha : ECB X G ρ i o1 a w1 ma) (hb : ∀ s', ECB X G (ρ.set i (some (.own l (.lst s')))) i o2 b w2 (mb s'))
    (hr : ∀ d e s', BI X G W ρx (((ρ.set i (some (.own l (.lst s')))).set k (some (clOf o1 (w1 d)))).set j (some (clOf o2 (w2 e)))) rest pn pl ι (f d e s')) (hi : At ρ i l s := by rfl) (hk : X.N[k]? = some x := by rfl) (hj : X.N[j]? = some y := by rfl) (hij : k ≠ j := by decide) (hx : X.env.scope.names.lookup x = some .local := by rfl) (hy : X.env.scope.names.lookup y = some .local := by rfl)
    (hw : swappedStores [.Tuple [.Name x px, .Name y py] kt pt] (.Tuple [a, b] k2 pt2) X.env = pure (some [x, y]) := by rfl) (hs : swapsWithSole [.Tuple [.Name x px, .Name y py] kt pt] (.Tuple [a, b] k2 pt2) pos.line X.env = pure false := by rfl)
    (hsa : starEach [a, b] X.env = (false, eval a X.env) :: starEach [b] X.env := by rfl) (hsb : starEach [b] X.env = (false, eval b X.env) :: starEach [] X.env := by rfl) (hlk : k < ρ.length := by exact Nat.le_of_ble_eq_true rfl) (hlj : j < ρ.length := by exact Nat.le_of_ble_eq_true rfl) :
    BI X G W ρx ρ (.Assign [.Tuple [.Name x px, .Name y py] kt pt] (.Tuple [a, b] k2 pt2) pos :: rest) pn pl ι (ma.noX.bind fun u => (mb u.2).noX.bind fun v => f u.1 v.1 v.2) := by
  intro F0 σ F H E hh hp
  rw [Rs.assoc] at hp
  obtain ⟨r, hma, hp1⟩ := postS_noX hp
  clear hp
  rw [Rs.assoc] at hp1
  obtain ⟨q, hmb, hp2⟩ := postS_noX hp1
  clear hp1
  obtain ⟨bx, hbx⟩ := box_at hh hi
  obtain ⟨fb, ow⟩ := holds_box hh hi hbx
  obtain ⟨ob, hob, nt_⟩ := ow.there
  refine any_cons (ps_par calm nd hk hj hij hx hy (pa_cons pe_any (pa_cons pe_any pa_nil hsb) hsa) hw hs) ?_
  refine ha F0 σ F H _ bx hh hbx ⟨r, hma, fun v F1 H1 e1 r1 o1' => ?_⟩
  have hh1 := hh.moreB hi hbx e1 o1'
  refine hb r.2 F0 σ F1 H1 _ bx hh1 hbx ⟨q, hmb, fun u F2 H2 e2 r2 o2' => ?_⟩
  have hh2 := hh1.moreB (at_set hi) hbx e2 o2'
  rw [List.set_set] at hh2
  refine ⟨v, u, rfl, ?_⟩
  refine hr r.1 q.1 q.2 F0 _ F2 H2 E (Holds.setC2 hh (fun k m e q' => ?_) hh2 (CellOk.moreB e2 (by rw [hob]; exact fun z => by cases z) r1) r2 (fun a ha => ?_) (fun ho a ea hn => ?_) hij (by rw [List.length_set]; exact hlk) (by rw [List.length_set]; exact hlj)) hp2
  · rcases set_at q' with ⟨rfl, z⟩ | ⟨n, z⟩
    · exact ⟨l, _, hi⟩
    · exact ⟨m, e, z⟩
  · cases h0 : H a with
    | none => rfl
    | some o' =>
      by_cases z : a = bx
      · subst z
        obtain ⟨o3, h3, nt_⟩ := e1.there
        rw [ha] at h3
        cases h3
      · rw [e1.same _ _ z h0] at ha
        cases ha
  · subst ho
    obtain ⟨a', ea', _, _, h4⟩ := r1
    rw [ea] at ea'
    cases ea'
    obtain ⟨o', ho', nt_⟩ := h4.there
    rw [hn] at ho'
    cases ho'
theorem bk_of {m : Rs (Fl α β)} (h : BI X G W ρx ρ sts pn pl (fun r : Fl α β => r) m) : BK X G W ρx ρ sts pn pl m := by
  unfold BI at h
  rw [Rs.bind_id] at h
  exact h
end
def unL2 : D → Option (D × D)
  | .tup [a, b] => some (a, b)
  | .lst [a, b] => some (a, b)
  | _ => none
def unL3 : D → Option (D × D × D)
  | .tup [a, b, c] => some (a, b, c)
  | .lst [a, b, c] => some (a, b, c)
  | _ => none
section
variable {X : Cx} {G : Gd} {W : WX} {ρx ρ : Rho} {rest sts : List Stmt} {α β R : Type} {pn : α → Rho} {pl : β → Rho} {ι : R → Fl α β} {i : Nat} {l : Bool} {s : List D}
theorem tg_or {X : Cx} {tg : Expr} {v : V} {σ : St} {H : Hp} {Q : St → Hp → Prop} {g : TG} (p : PG X tg g) (h : g v σ H Q) : tAnyG X tg v σ H Q := ⟨g, p, h⟩
theorem tl_2 {i j k : Nat} {a b : Expr} {pos : Pos} (hc : X.calm = true) (ha : PG X a (gName i)) (hb : PG X b (gName j)) (hl : i < ρ.length := by exact Nat.le_of_ble_eq_true rfl) (hl2 : j < ρ.length := by exact Nat.le_of_ble_eq_true rfl)
    (h1 : (assignEach [a, b] X.env).map (·.2) = assign a X.env :: (assignEach [b] X.env).map (·.2) := by rfl) (h2 : (assignEach [b] X.env).map (·.2) = assign b X.env :: (assignEach [] X.env).map (·.2) := by rfl)
    (hn : (assignEach [a, b] X.env).length = 2 := by rfl) (hst : (assignEach [a, b] X.env).findIdx? (·.1) = none := by rfl) :
    TT1 X G (.Tuple [a, b] k pos) ρ [i, j] unL2 (fun z => (ρ.set i (some (.val z.1))).set j (some (.val z.2))) := by
  intro F0 σ F H v d z Q hh r e kk
  have fin : ∀ {v1 v2 : V}, Rep X.K F v1 z.1 → Rep X.K F v2 z.2 → (gCons (gName i) (gCons (gName j) gNil)) [v1, v2] σ H Q := fun {v1 v2} r1 r2 =>
    ⟨_, _, rfl, _, _, rfl, rfl, kk _ (fun vs hv => (wipe_set (hv j (by simp))).trans (wipe_set (hv i (by simp)))) ((hh.setV r1 hl).setV r2 (by simpa using hl2))⟩
  unfold unL2 at e
  split at e
  · cases e
    cases r with
    | tup h l r =>
      cases r with
      | cons r1 r =>
        cases r with
        | cons r2 r =>
          cases r
          exact tg_or (pg_tup hc (pgs_cons ha (pgs_cons hb pgs_nil h2) h1) hn hst) ⟨_, _, rfl, SqT.same hh.sub h.sq, rfl, fin r1 r2⟩
  · cases e
    cases r with
    | lst h l r =>
      cases r with
      | cons r1 r =>
        cases r with
        | cons r2 r =>
          cases r
          exact tg_or (pg_lst hc (pgs_cons ha (pgs_cons hb pgs_nil h2) h1) hn hst) ⟨_, _, rfl, SqL.of (hh.sub _ _ h), rfl, fin r1 r2⟩
  · cases e
theorem tl_3 {i j k n : Nat} {a b c : Expr} {pos : Pos} (hc : X.calm = true) (ha : PG X a (gName i)) (hb : PG X b (gName j)) (hcc : PG X c (gName k)) (hl : i < ρ.length := by exact Nat.le_of_ble_eq_true rfl) (hl2 : j < ρ.length := by exact Nat.le_of_ble_eq_true rfl) (hl3 : k < ρ.length := by exact Nat.le_of_ble_eq_true rfl)
    (h1 : (assignEach [a, b, c] X.env).map (·.2) = assign a X.env :: (assignEach [b, c] X.env).map (·.2) := by rfl) (h2 : (assignEach [b, c] X.env).map (·.2) = assign b X.env :: (assignEach [c] X.env).map (·.2) := by rfl)
    (h3 : (assignEach [c] X.env).map (·.2) = assign c X.env :: (assignEach [] X.env).map (·.2) := by rfl)
    (hn : (assignEach [a, b, c] X.env).length = 3 := by rfl) (hst : (assignEach [a, b, c] X.env).findIdx? (·.1) = none := by rfl) :
    TT1 X G (.Tuple [a, b, c] n pos) ρ [i, j, k] unL3 (fun z => ((ρ.set i (some (.val z.1))).set j (some (.val z.2.1))).set k (some (.val z.2.2))) := by
  intro F0 σ F H v d z Q hh r e kk
  have fin : ∀ {v1 v2 v3 : V}, Rep X.K F v1 z.1 → Rep X.K F v2 z.2.1 → Rep X.K F v3 z.2.2 → (gCons (gName i) (gCons (gName j) (gCons (gName k) gNil))) [v1, v2, v3] σ H Q := fun {v1 v2 v3} r1 r2 r3 =>
    ⟨_, _, rfl, _, _, rfl, _, _, rfl, rfl, kk _ (fun vs hv => ((wipe_set (hv k (by simp))).trans (wipe_set (hv j (by simp)))).trans (wipe_set (hv i (by simp)))) (((hh.setV r1 hl).setV r2 (by simpa using hl2)).setV r3 (by simpa using hl3))⟩
  unfold unL3 at e
  split at e
  · cases e
    cases r with
    | tup h l r =>
      cases r with
      | cons r1 r =>
        cases r with
        | cons r2 r =>
          cases r with
          | cons r3 r =>
            cases r
            exact tg_or (pg_tup hc (pgs_cons ha (pgs_cons hb (pgs_cons hcc pgs_nil h3) h2) h1) hn hst) ⟨_, _, rfl, SqT.same hh.sub h.sq, rfl, fin r1 r2 r3⟩
  · cases e
    cases r with
    | lst h l r =>
      cases r with
      | cons r1 r =>
        cases r with
        | cons r2 r =>
          cases r with
          | cons r3 r =>
            cases r
            exact tg_or (pg_lst hc (pgs_cons ha (pgs_cons hb (pgs_cons hcc pgs_nil h3) h2) h1) hn hst) ⟨_, _, rfl, SqL.of (hh.sub _ _ h), rfl, fin r1 r2 r3⟩
  · cases e
theorem bi_unp {γ : Type} {u : D → Option γ} {p : γ → Rho} {is : List Nat} {tg e : Expr} {pos : Pos} {m : Rs D} {f : γ → Rs R} (he : EV X G W ρ e m) (ht : TT1 X G tg ρ is u p) (hr : ∀ z, BI X G W ρx (p z) rest pn pl ι (f z))
    (hs : swapsWithSole [tg] e pos.line X.env = pure false := by rfl) (hw : swappedStores [tg] e X.env = pure none := by rfl) (h1 : (assignEach [tg] X.env).map (·.2) = [assign tg X.env] := by rfl) (wx : Wk ρ ρx := by first | exact Wk.nil | exact Wk.refl | (repeat (first | exact Wk.nil | apply Wk.keep | apply Wk.drop))) :
    BI X G W ρx ρ (.Assign [tg] e pos :: rest) pn pl ι (m.bind fun d => (Rs.of (u d)).bind f) := by
  obtain ⟨te, pe, qe⟩ := he
  intro F0 σ F H E hh hp
  rw [Rs.assoc] at hp
  refine any_cons (ps_asg pe pg_any hs hw h1) ?_
  refine qe F0 σ F H _ hh (post_seq hh wx hp fun d v F1 H1 e1 r1 hp1 => ?_)
  cases hu : u d with
  | none => rw [hu] at hp1; exact hp1.elim
  | some z =>
    rw [hu] at hp1
    exact ht F0 σ F1 H1 v d z _ (hh.more e1) r1 hu fun σ' _ hh2 => hr z F0 σ' F1 H1 E hh2 hp1
end
end VL
set_option Elab.async false
set_option linter.all false
set_option maxRecDepth 100000
set_option autoImplicit false
namespace VL
open PySem PySem.Spec L2
open PyProof.Rows hiding St
def fldD (c : Str) (i : Nat) : D → Option D
  | .obj c' xs => if c' = c then xs[i]? else none
  | _ => none
theorem RepH.slt {K : PySem.W.Frag} {F H : Hp} {v : V} {c : Str} {ds : List D} (s : Same F H) (h : RepH K F H v (.obj c ds)) : ∃ a dx xs, v = .ref a ∧ SlX.Slt H a (He.ga K c) dx (xs.map some) ∧ Reps K F xs ds := by
  rcases h with h | ⟨a, rfl, h⟩
  · cases h with
    | obj h1 h2 h3 => exact ⟨_, _, _, rfl, .inr ⟨s _ _ h1, s _ _ h2⟩, h3⟩
  · cases h with
    | obj h1 h2 h3 => exact ⟨_, _, _, rfl, .inr ⟨h1, s _ _ h2⟩, h3⟩
section
variable {X : Cx} {G : Gd} {W : WX} {ρ : Rho} {e : Expr} {es : List Expr} {m : Rs D} {κ : Kt} {pos p apos : Pos}
theorem ev_fld {c f : Str} {i : Nat} (sc : SlX.SCls X.K (He.ga X.K c)) (st : ∃ p, SlX.Slot1 X.K (He.ga X.K c) f p i) (he : EO X G W ρ e m) (hb : attributeBase e f X.env (eval e X.env) = eval e X.env := by rfl) : EV X G W ρ (.Attribute e f pos) (m.bind fun x => Rs.of (fldD c i x)) := by
  obtain ⟨t, pe, q⟩ := he
  obtain ⟨pd, st⟩ := st
  refine ⟨_, SlX.pe_sl pe hb, fun F0 σ F H Q hh hp => q F0 σ F H _ hh (hp.bind fun d v F1 H1 e1 r1 hp1 => ?_)⟩
  obtain ⟨x, hx, k⟩ := Post.of hp1
  unfold fldD at hx
  split at hx
  · rename_i c' xs
    split at hx
    · rename_i ec
      subst ec
      obtain ⟨a, dx, vs, rfl, h1, h2⟩ := RepH.slt e1.sub r1
      obtain ⟨w, hw, rw'⟩ := h2.get hx
      exact ⟨a, _, dx, pd, _, i, w, rfl, h1, sc, st, by rw [List.getElem?_map, hw]; rfl, k _ F1 H1 (Ext.refl e1.sub) rw'⟩
    · cases hx
  · cases hx
structure Prp (K : PySem.W.Frag) (C : Addr) (f : Str) (g : Addr) : Prop where
  ex : ∃ p : Addr, PySem.W.findIn K (.ref C) f = some (some (.ref p)) ∧ PySem.W.specialIn K (.ref p) "__get__" = some (some (.builtin "property.__get__")) ∧ PySem.W.takesIn K (.ref p) = some true ∧ ∃ rest, PySem.W.recIn K p "property" = some (.ref g :: rest)
def isObj (c : Str) : D → Bool
  | .obj c' _ => decide (c' = c)
  | _ => false
theorem ev_prop {k : Nat} {g : Addr} {fd : FuncData} {ps : List Str} {mf : List D → Rs D} {c f : Str} (sc : SlX.SCls X.K (He.ga X.K c)) (pr : Prp X.K (He.ga X.K c) f g) (Fk : Keeps X.prog X.w X.K X.mg X.base k g fd ps mf) (hb : Binds X.K fd ps []) (hr : Room (k + 1) X.A) (he : EV X G W ρ e m)
    (hba : attributeBase e f X.env (eval e X.env) = eval e X.env := by rfl) (hln : ps.length = 1 := by rfl) : EV X G W ρ (.Attribute e f pos) (m.bind fun x => if isObj c x then (mf [x]).noX else .no) := by
  obtain ⟨t, pe, q⟩ := he
  obtain ⟨pd, h1, h2, h3, h4⟩ := pr.ex
  have hx : ∀ (H : Hp) (s : Shared) (e : Value) (s' : Shared), L2N.CX X.prog X.w X.stack H s E0 e s' → False := fun H s e s' z => by
    obtain ⟨_, _, _, _, _, _, _, _, _, _, _, _, z⟩ := z
    exact z.elim
  refine ⟨_, SlX.pe_propSl (E := E0) pe sc h1 h2 h3 h4 (Fk.raw hb .nil) hr hx hba, fun F0 σ F H Q hh hp => q F0 σ F H _ hh (hp.bind fun d v F1 H1 e1 r1 hp1 => ?_)⟩
  cases d with
  | obj c' xs =>
    by_cases ec : c' = c
    · simp only [isObj, ec, decide_true, if_true] at hp1
      subst ec
      obtain ⟨a, dx, vs, rfl, g1, g2⟩ := RepH.slt e1.sub (.inl r1)
      refine ⟨a, dx, _, rfl, g1, ?_⟩
      show spM X.K ps.length mf ([V.ref a] ++ []) H1 Q E0
      rw [List.append_nil]
      refine ⟨hln.symm, F1, [.obj c' xs], e1.sub, .one r1, ?_⟩
      cases hm : mf [.obj c' xs] with
      | ok d =>
        rw [hm] at hp1
        exact hp1
      | ex cc fs => rw [hm] at hp1; exact hp1.elim
      | no => rw [hm] at hp1; exact hp1.elim
    · simp only [isObj, ec, decide_false, Bool.false_eq_true, if_false] at hp1
      exact hp1.elim
  | _ => exact hp1.elim
theorem ev_propF {k : Nat} {g : Addr} {fd : FuncData} {ps : List Str} {mf : List D → Rs D} {c f : Str} {i : Nat} (sc : SlX.SCls X.K (He.ga X.K c)) (pr : Prp X.K (He.ga X.K c) f g) (Fk : Keeps X.prog X.w X.K X.mg X.base k g fd ps mf) (hmf : ∀ x, mf [x] = Rs.of (fldD c i x)) (hb : Binds X.K fd ps []) (hr : Room (k + 1) X.A) (he : EV X G W ρ e m)
    (hba : attributeBase e f X.env (eval e X.env) = eval e X.env := by rfl) (hln : ps.length = 1 := by rfl) : EV X G W ρ (.Attribute e f pos) (m.bind fun x => Rs.of (fldD c i x)) := by
  have z := ev_prop (pos := pos) sc pr Fk hb hr he hba hln
  have e2 : (m.bind fun x => if isObj c x then (mf [x]).noX else .no) = m.bind fun x => Rs.of (fldD c i x) := by
    congr 1
    funext x
    rw [hmf]
    cases x with
    | obj c' xs =>
      by_cases ec : c' = c
      · simp only [isObj, ec, decide_true, if_true]
        cases fldD c i (.obj c xs) <;> rfl
      · simp only [isObj, fldD, ec, decide_false, Bool.false_eq_true, if_false]
        rfl
    | _ => rfl
  rw [← e2]
  exact z
end
def gSl (K : PySem.W.Frag) (ta : TE) (f : Str) : TG := fun y σ H Q => ta σ H fun x H2 => ∃ a C dx p vs i, x = .ref a ∧ SlX.Slt H2 a C dx vs ∧ SlX.SCls K C ∧ SlX.Slot1 K C f p i ∧ Q σ (SlX.slH H2 a C dx (SlX.putS i y vs))
theorem pg_sl {X : Cx} {o : Expr} {f : Str} {pos : Pos} {ta : TE} (ha : PE X o ta) : PG X (.Attribute o f pos) (gSl X.K ta f) := by
  refine ⟨fun pins s σ H y u Q I r h => ?_⟩
  refine PySem.W.kas_attr (thn (ha.run pins s σ H _ I h) fun ov s2 ⟨x, H2, I2, rx, a, C, dx, p, vs, i, ex, hsl, c, t, q2⟩ => ?_)
  subst ex
  obtain rfl : ov = Value.ref a := rx
  exact SlX.setslot_ok I2 hsl c t r fun s3 I3 => ⟨σ, _, I3, q2⟩
def spI (K : PySem.W.Frag) (c : Str) (n : Nat) (m : List D → Rs D) : Sp := fun vs H Q E => vs.length = n ∧ ∃ x dx ws H0 F ds, vs = .ref x :: ws ∧ H = upd (upd H0 dx (.own x)) x (.ins (He.ga K c) dx []) ∧ H0 x = none ∧ H0 dx = none ∧ dx ≠ x ∧ Same F H0 ∧ Reps K F ws ds ∧
  (match m ds with
  | .ok d => ∀ F' H', Ext F H0 F' H' → Rep K F' (.ref x) d → Q .non H'
  | .ex cc fs => ∀ dd F' H', Ext F H0 F' H' → XRep K F' dd fs → E (.ref (He.ga K cc)) (some dd) H'
  | .no => False)
abbrev KeepsI (P : Program) (w : World) (K : PySem.W.Frag) (mg : Str → Option Value) (base : Heap) (k : Nat) (c : Str) (f : Addr) (fd : FuncData) (ps : List Str) (m : List D → Rs D) : Prop := FnOk P w K mg base (L2N.CX P w) k f fd ps (spI K c ps.length m)
section
variable {X : Cx} {G : Gd} {W : WX} {ρ : Rho} {e : Expr} {es : List Expr} {m : Rs D} {κ : Kt} {pos p apos : Pos}
theorem ev_make {k : Nat} {f : Addr} {fd : FuncData} {ps : List Str} {mf : List D → Rs D} {c x : Str} {ds : List Value} {dvs : List V} {dd : List D} (M : Mk X.K (He.ga X.K c) f) (Fk : KeepsI X.prog X.w X.K X.mg X.base k c f fd ps mf) (hr : Room (k + 1) X.A) (hm : X.mg x = some (.ref (He.ga X.K c)))
    (hb : Binds X.K fd ps ds) (hd : Vals dvs ds) (hdd : ∀ F, Reps X.K F dvs dd) (ha : AC X G W ρ (e :: es) κ) (hln : (e :: es).length + dd.length + 1 = ps.length := by rfl) (hg : Gl X x := by rfl) (hdb : (x == ("__debug__" : Str)) = false := by decide) (he : starEach (e :: es) X.env = (false, eval e X.env) :: starEach es X.env := by rfl)
    (hpl : (backTo pos (starEach es X.env)).any (·.1) = false := by rfl) : EV X G W ρ (.Call (.Name x p) (e :: es) [] pos) (κ D fun us => (mf (us ++ dd)).noX) := by
  obtain ⟨ms, ⟨ln, t, pa, qa⟩, h2⟩ := ha
  rw [h2]
  refine ⟨_, pe_make (E := E0) M Fk hr hg hm hb hd passLN pa hdb he hpl, fun F0 σ F H Q hh hp => ?_⟩
  refine qa F0 σ F H _ hh ?_
  cases ms with
  | ex c fs => exact hp
  | no => exact hp
  | ok us =>
    intro vs F' H' e1 r1
    intro y dx hy hdx ne
    have hp' : Post X.K (RF X.K) (fun c d H => W c d σ H) F H Q (mf (us ++ dd)).noX := hp
    have r2 : Reps X.K F' (vs ++ dvs) (us ++ dd) := Reps.append r1 (hdd F')
    refine ⟨?_, y, dx, vs ++ dvs, H', F', us ++ dd, rfl, rfl, hy, hdx, ne, e1.sub, r2, ?_⟩
    · rw [List.length_cons, Reps.length r2, List.length_append, ln us rfl]
      exact hln
    · cases hmf : mf (us ++ dd) with
      | ok d =>
        rw [hmf] at hp'
        exact fun F2 H2 e2 r => ⟨rfl, hp' _ F2 H2 (e1.trans e2) r⟩
      | ex c fs => rw [hmf] at hp'; exact hp'.elim
      | no => rw [hmf] at hp'; exact hp'.elim
end
end VL
set_option Elab.async false
set_option linter.all false
set_option maxRecDepth 100000
set_option autoImplicit false
namespace VL
open PySem PySem.Spec L2
open PyProof.Rows hiding St
theorem upd_id {H : Hp} {a : Addr} {o : HO} (h : H a = some o) : upd H a o = H := by
  funext b
  by_cases e : b = a
  · subst e
    rw [upd_same, h]
  · rw [upd_ne e]
end VL
set_option Elab.async false
set_option linter.all false
set_option maxRecDepth 100000
set_option autoImplicit false
set_option Elab.async false
set_option linter.all false
set_option maxRecDepth 100000
set_option autoImplicit false
namespace VL
open PySem PySem.Spec L2
open PyProof.Rows hiding St
open PySem.W (alike alikeAll dataLt AllAlike Sortable SortsAt dataKind EachIs sortLe sortVals keyToks keyToksAll) in
section
def tupNe : PyData → Bool
  | .tuple (_ :: _) => true
  | _ => false
def noTup : PyData → Bool
  | .tuple _ => false
  | .none => false
  | _ => true
def sortOk (ps : List PyData) : Bool := (ps.all fun p => ps.all fun q => alike p q) && ((ps.all tupNe || ps.all noTup) && ps.all fun p => decide (p.depth ≤ 32))
theorem sortOk_alike {ps : List PyData} (h : sortOk ps = true) : AllAlike ps := by
  have h1 := (Bool.and_eq_true_iff.mp h).1
  exact fun p hp q hq => List.all_eq_true.mp (List.all_eq_true.mp h1 p hp) q hq
theorem sortOk_able {ps : List PyData} (h : sortOk ps = true) : Sortable ps := by
  have h1 := (Bool.and_eq_true_iff.mp (Bool.and_eq_true_iff.mp h).2).1
  rcases (Bool.or_eq_true_iff.mp h1) with z | z
  · refine .inl fun d hd => ?_
    have w := List.all_eq_true.mp z d hd
    cases d with
    | tuple xs =>
      cases xs with
      | nil => cases w
      | cons x r => exact ⟨x, r, rfl⟩
    | _ => cases w
  · refine .inr fun d hd => ?_
    have w := List.all_eq_true.mp z d hd
    refine ⟨fun e => ?_, fun xs e => ?_⟩
    · subst e; cases w
    · subst e; cases w
theorem sortOk_depth {ps : List PyData} (h : sortOk ps = true) : ∀ d ∈ ps, d.depth ≤ 32 := fun d hd => of_decide_eq_true (List.all_eq_true.mp (Bool.and_eq_true_iff.mp (Bool.and_eq_true_iff.mp h).2).2 d hd)
theorem each_reads {X : Cx} {pins : List (Addr × Obj)} {σ : L2.St} {H : Hp} {s : Shared} (I : Inv X pins σ H s) : ∀ {xs : List V} {us : List Value} {ps : List PyData}, DpAll X.K H xs ps → Vals xs us → EachIs (fun v d => ∃ as, Reads s.heap v d as) us ps
  | [], _, _, h, r => by cases h; cases r; exact .nil
  | x :: xs, _, _, h, r => by
    cases h with
    | cons h1 h2 =>
      cases r with
      | cons r1 r2 => exact .cons (Dp.reads I _ _ _ h1 r1) (each_reads I h2 r2)
theorem each_pair {R : Value → V → Prop} {P : Value → PyData → Prop} : ∀ {us : List Value} {xs : List V} {ps : List PyData}, Paired (fun (x : V) (u : Value) => R u x) xs us → EachIs P us ps → EachIs (fun u (q : V × PyData) => R u q.1 ∧ P u q.2) us (xs.zip ps)
  | _, _, _, .nil, h => by cases h; exact .nil
  | _, _, _, .cons r1 r2, h => by
    cases h with
    | cons h1 h2 => exact .cons ⟨r1, h1⟩ (each_pair r2 h2)
theorem each_snd {P : Value → PyData → Prop} : ∀ {us : List Value} {qs : List (V × PyData)}, EachIs P us (qs.map (·.2)) → EachIs (fun u q => P u q.2) us qs
  | _, [], h => by cases h; exact .nil
  | _, q :: qs, h => by
    cases h with
    | cons h1 h2 => exact .cons h1 (each_snd h2)
theorem each_vals {P : Value → V × PyData → Prop} (hP : ∀ u q, P u q → RelV q.1 u) : ∀ {us : List Value} {qs : List (V × PyData)}, EachIs P us qs → Vals (qs.map (·.1)) us
  | _, _, .nil => .nil
  | _, _, .cons h1 h2 => .cons (hP _ _ h1) (each_vals hP h2)
def leV (p q : V × PyData) : Bool := !dataLt q.2 p.2
def rSrt (K : PySem.W.Frag) : List V → Hp → VK → Prop := fun vs H Q => ∃ (a : Addr) (xs : List V) (ps : List PyData), vs = [V.ref a] ∧ (SqT K H a xs ∨ SqL K H a xs) ∧ DpAll K H xs ps ∧ sortOk ps = true ∧
  ∀ p, H p = none → Q (.ref p) (upd H p (.lst (((xs.zip ps).mergeSort leV).map (·.1))))
theorem call_sort {X : Cx} (hu : X.A.units + 64 < cLine) : CallR X (.builtin "sorted") (rSrt X.K) := by
  intro pins s σ H vs us Q I r h
  obtain ⟨a, xs, ps, rfl, hsq, hd, ok, q⟩ := h
  rw [Vals.ref1 r]
  obtain ⟨its, rv, T, o, n, hT, ho, hc, hdt, hz⟩ : ∃ (its : List Value) (_ : Vals xs its) (T : String) (o : Obj) (n : Nat), (T = "list" ∨ T = "tuple") ∧ s.heap.get? a = some o ∧ o.cls = .type T ∧ o.data = .seq its.toArray n ∧ xs.length ≤ sizeLine := by
    rcases hsq with h | h
    · obtain ⟨its, r, ⟨o, ho, hc, n, hd⟩, hz⟩ := I.tuple h
      exact ⟨its, r, "tuple", o, n, .inr rfl, ho, hc, hd, hz⟩
    · obtain ⟨its, r, pl, hz⟩ := I.list h
      obtain ⟨o, ho, hc, n, hd⟩ := pl.isList
      exact ⟨its, r, "list", o, n, .inl rfl, ho, hc, hd, hz⟩
  have hlen : its.length ≤ sizeLine := by rw [← rv.length]; exact hz
  have e0 := each_reads I hd rv
  refine Calls.call_function_entry kind_sorted plain_sorted entry_sorted (args_sorted1 _) ?_
  unfold Builtin.«sorted»
  refine wpAny_bind (m := checkCount "sorted" 1 1 _) (wpAny_pure (wpAny_bind (wpAny_collect_seq a hT ho hc hdt (fun h' hk => ?_) (by rw [List.size_toArray]; exact hlen))))
  have et : its.toArray.toList = its := by simp
  rw [et]
  refine wpAny_bind (wpAny_newList ?_ hlen)
  have hnew : (h'.push (seqObj "list" its.toArray 0)).get? h'.objs.size = some (seqObj "list" its.toArray 0) := Heap.get?_push_size _ rfl
  have keep2 : ∀ b o, s.heap.get? b = some o → b ≠ h'.objs.size ∧ (h'.push (seqObj "list" its.toArray 0)).get? b = some o := fun b o e => ⟨Nat.ne_of_lt (Heap.lt_size (hk b o e)), Heap.get?_push_of_some _ (hk b o e)⟩
  have gone : s.heap.get? h'.objs.size = none := by
    cases e : s.heap.get? h'.objs.size with
    | none => rfl
    | some o => exact absurd (Heap.lt_size (hk _ _ e)) (Nat.lt_irrefl _)
  have hn : H h'.objs.size = none := I.hok.gone gone
  have e1 : EachIs (fun v d => ∃ as, Reads (PySem.W.sortingHeap (h'.push (seqObj "list" its.toArray 0)) h'.objs.size its) v d as) its ps := e0.mono fun v d ⟨as, hr⟩ =>
    ⟨as, Reads.keeps (fun b o e => PySem.W.sortingHeap_old (keep2 b o e).1 (keep2 b o e).2) hr⟩
  have S : SortsAt X.prog X.w X.A.in1.in1 { s with heap := PySem.W.sortingHeap (h'.push (seqObj "list" its.toArray 0)) h'.objs.size its } (dataKind (PySem.W.sortingHeap (h'.push (seqObj "list" its.toArray 0)) h'.objs.size its) ps) its :=
    SortsAt.data e1 (sortOk_alike ok) (sortOk_able ok) fun d hd => by
      have h1 := sortOk_depth ok d hd
      simp only [units_in1]
      omega
  show wpAny (model X.prog X.w) X.A.in1 _ _ _ { s with heap := h'.push (seqObj "list" its.toArray 0) }
  refine wpAny_bind (wpAny_holding (wpAny_call_entry slot_list_sort ⟨_, hnew, rfl⟩ entry_list_sort (PySem.W.list_sort_vals (s := { s with heap := h'.push (seqObj "list" its.toArray 0) }) hnew S hlen ?_) (args_list_sort _)))
  refine ⟨_, rfl, wpAny_pure ⟨_, rfl, ?_⟩⟩
  have key : EachIs (fun v d => (dataKind (PySem.W.sortingHeap (h'.push (seqObj "list" its.toArray 0)) h'.objs.size its) ps).keyOf v = some (keyToks d)) its ps := by
    have e2 := PySem.W.each_mem e1
    exact e2.mono fun v d ⟨⟨as, hr⟩, hm⟩ => PySem.W.dataKind_some (sortOk_alike ok) hm hr
  have lz : xs.length = ps.length := rv.length.trans e0.length
  have ezip : (xs.zip ps).map (·.2) = ps := List.map_snd_zip (by omega)
  have e3 : EachIs (fun v (p : V × PyData) => RelV p.1 v) its (xs.zip ps) := (each_pair (R := fun u x => RelV x u) rv e0).mono fun _ _ h => h.1
  have k3 := each_snd (qs := xs.zip ps) (by rw [ezip]; exact key)
  have out := PySem.W.sortVals_each (κ := dataKind (PySem.W.sortingHeap (h'.push (seqObj "list" its.toArray 0)) h'.objs.size its) ps) (rev := false) (k := fun p : V × PyData => (show (dataKind (PySem.W.sortingHeap (h'.push (seqObj "list" its.toArray 0)) h'.objs.size its) ps).α from keyToks p.2)) e3 k3
  have hv : Vals (((xs.zip ps).mergeSort leV).map (·.1)) (sortVals (dataKind (PySem.W.sortingHeap (h'.push (seqObj "list" its.toArray 0)) h'.objs.size its) ps) false its its) := each_vals (fun _ _ h => h) out
  obtain ⟨ep, he⟩ := sortedHeap_at (out := (sortVals (dataKind (PySem.W.sortingHeap (h'.push (seqObj "list" its.toArray 0)) h'.objs.size its) ps) false its its).toArray) hnew
  have hl2 : (((xs.zip ps).mergeSort leV).map (·.1)).length ≤ sizeLine := by
    rw [List.length_map, (List.mergeSort_perm _ _).length_eq, List.length_zip]
    omega
  refine ⟨.ref _, upd H h'.objs.size (.lst (((xs.zip ps).mergeSort leV).map (·.1))), I.laidN (t' := s.toks) (fun b o e => ?_) gone hn ⟨hl2, _, ep, hv, he⟩, rfl, q _ hn⟩
  rw [sortedHeap_old (keep2 b o e).1 (Heap.lt_size (keep2 b o e).2)]
  exact (keep2 b o e).2
end
end VL
set_option Elab.async false
set_option linter.all false
set_option maxRecDepth 100000
set_option autoImplicit false
namespace VL
open PySem PySem.Spec L2
open PyProof.Rows hiding St
section
variable {α : Type} {le : α → α → Bool}
def insW (le : α → α → Bool) (x : α) : List α → List α
  | [] => [x]
  | y :: ys => if le x y then x :: y :: ys else y :: insW le x ys
def isortW (le : α → α → Bool) : List α → List α
  | [] => []
  | x :: xs => insW le x (isortW le xs)
theorem insW_mem {x z : α} : ∀ {l : List α}, z ∈ insW le x l → z = x ∨ z ∈ l
  | [], h => by simpa [insW] using h
  | y :: ys, h => by
    unfold insW at h
    split at h
    · simpa using h
    · rcases List.mem_cons.mp h with z1 | z1
      · exact .inr (by simp [z1])
      · rcases insW_mem z1 with w | w
        · exact .inl w
        · exact .inr (by simp [w])
theorem isortW_mem {z : α} : ∀ {l : List α}, z ∈ isortW le l → z ∈ l
  | [], h => h
  | x :: xs, h => by
    rcases insW_mem h with w | w
    · simp [w]
    · exact List.mem_cons_of_mem _ (isortW_mem w)
theorem insW_pw (T : PySem.W.TotalLe le) {x : α} : ∀ {l : List α}, l.Pairwise (fun a b => le a b = true) → (insW le x l).Pairwise (fun a b => le a b = true)
  | [], _ => List.pairwise_singleton _ _
  | y :: ys, h => by
    obtain ⟨h1, h2⟩ := List.pairwise_cons.mp h
    unfold insW
    split
    · rename_i e
      refine List.pairwise_cons.mpr ⟨fun z hz => ?_, h⟩
      rcases List.mem_cons.mp hz with rfl | hz
      · exact e
      · exact T.trans _ _ _ e (h1 z hz)
    · rename_i e
      have e' : le y x = true := (T.total x y).resolve_left e
      refine List.pairwise_cons.mpr ⟨fun z hz => ?_, insW_pw T h2⟩
      rcases insW_mem hz with rfl | hz
      · exact e'
      · exact h1 z hz
theorem isortW_pw (T : PySem.W.TotalLe le) : ∀ l : List α, (isortW le l).Pairwise (fun a b => le a b = true)
  | [] => .nil
  | x :: xs => insW_pw T (isortW_pw T xs)
theorem insW_filter (T : PySem.W.TotalLe le) {x c : α} : ∀ l : List α, (insW le x l).filter (PySem.W.sameRank le c) = (x :: l).filter (PySem.W.sameRank le c)
  | [] => rfl
  | y :: ys => by
    unfold insW
    split
    · rfl
    · rename_i e
      rw [List.filter_cons, insW_filter T ys, List.filter_cons, List.filter_cons, List.filter_cons]
      by_cases h1 : PySem.W.sameRank le c x = true
      · by_cases h2 : PySem.W.sameRank le c y = true
        · refine absurd ?_ e
          unfold PySem.W.sameRank at h1 h2
          rw [Bool.and_eq_true] at h1 h2
          exact T.trans _ _ _ h1.2 h2.1
        · rw [if_neg h2, if_neg h2]
      · rw [if_neg h1, if_neg h1]
theorem isortW_filter (T : PySem.W.TotalLe le) (c : α) : ∀ l : List α, (isortW le l).filter (PySem.W.sameRank le c) = l.filter (PySem.W.sameRank le c)
  | [] => rfl
  | x :: xs => by
    show (insW le x (isortW le xs)).filter _ = _
    rw [insW_filter T, List.filter_cons, List.filter_cons, isortW_filter T c xs]
theorem isortW_eq (T : PySem.W.TotalLe le) (l : List α) : isortW le l = l.mergeSort le := PySem.W.sort_unique T (isortW_pw T l) fun c => isortW_filter T c l
theorem insW_congr {le' : α → α → Bool} {x : α} : ∀ {l : List α}, (∀ y ∈ l, le x y = le' x y) → insW le x l = insW le' x l
  | [], _ => rfl
  | y :: ys, h => by
    unfold insW
    rw [h y (by simp), insW_congr fun z hz => h z (by simp [hz])]
theorem isortW_congr {le' : α → α → Bool} : ∀ {l : List α}, (∀ x ∈ l, ∀ y ∈ l, le x y = le' x y) → isortW le l = isortW le' l
  | [], _ => rfl
  | x :: xs, h => by
    show insW le x (isortW le xs) = insW le' x (isortW le' xs)
    rw [isortW_congr fun a ha b hb => h a (by simp [ha]) b (by simp [hb])]
    exact insW_congr fun y hy => h x (by simp) y (by simp [isortW_mem hy])
end
mutual
theorem dataLt_ltP : ∀ (x y : PyData), PySem.W.alike x y = true → cmpP x y = true → PySem.W.dataLt x y = ltP x y
  | .int i, .int j, _, _ => by rw [PySem.W.dataLt_int]; simp only [ltP]
  | .str x, .str y, _, _ => by rw [PySem.W.dataLt_str]; simp only [ltP]
  | .tuple xs, .tuple ys, h, c => by
    rw [PySem.W.dataLt_tuple]
    simp only [ltP]
    exact dataLts_ltP xs ys (by simpa only [PySem.W.alike] using h) (by simpa only [cmpP] using c)
  | .none, _, _, c => by simp [cmpP] at c
  | .bool _, _, _, c => by simp [cmpP] at c
  | .list _, _, _, c => by simp [cmpP] at c
  | .dict _, _, _, c => by simp [cmpP] at c
  | .int _, .none, _, c | .int _, .bool _, _, c | .int _, .str _, _, c | .int _, .list _, _, c | .int _, .tuple _, _, c | .int _, .dict _, _, c => by simp [cmpP] at c
  | .str _, .none, _, c | .str _, .bool _, _, c | .str _, .int _, _, c | .str _, .list _, _, c | .str _, .tuple _, _, c | .str _, .dict _, _, c => by simp [cmpP] at c
  | .tuple _, .none, _, c | .tuple _, .bool _, _, c | .tuple _, .int _, _, c | .tuple _, .list _, _, c | .tuple _, .str _, _, c | .tuple _, .dict _, _, c => by simp [cmpP] at c
theorem dataLts_ltP : ∀ (xs ys : List PyData), PySem.W.alikeAll xs ys = true → cmpPs xs ys = true → PyProof.Rows.lexLt PyProof.Rows.itemOrd (PySem.W.keyToksAll xs) (PySem.W.keyToksAll ys) = ltPs xs ys
  | [], [], _, _ => by simp only [ltPs]; rfl
  | [], y :: ys, _, _ => by
    simp only [ltPs]
    rw [PySem.W.keyToksAll, PySem.W.keyToksAll, PyProof.Rows.lex_diff (O := PyProof.Rows.itemOrd) (by simp)]
    rfl
  | x :: xs, [], _, _ => by
    simp only [ltPs]
    rw [PySem.W.keyToksAll, PySem.W.keyToksAll, PyProof.Rows.lex_diff (O := PyProof.Rows.itemOrd) (by simp)]
    rfl
  | x :: xs, y :: ys, h, c => by
    obtain ⟨h1, h2⟩ := PySem.W.alike_all_cons h
    simp only [cmpPs, Bool.and_eq_true, Bool.or_eq_true] at c
    simp only [ltPs]
    cases e : PyData.eqv x y with
    | true => rw [PySem.W.dataLt_all_yes h1 e, if_pos rfl]; exact dataLts_ltP xs ys h2 c.2
    | false =>
      rw [PySem.W.dataLt_all_no h1 e, if_neg (by simp)]
      exact dataLt_ltP x y h1 (c.1.resolve_left (by simp [e]))
end
def leS (a b : D) : Bool := !ltP b.py a.py
def cmpAll (ps : List PyData) : Bool := ps.all fun p => ps.all fun q => cmpP p q
def sortL (ds : List D) : Option (List D) := if areData ds && (sortOk (pys ds) && cmpAll (pys ds)) then some (isortW leS ds) else none
def sortD : List D → Option D
  | [x] => (seqD x).bind fun ds => (sortL ds).map .lst
  | _ => none
theorem pys_map : ∀ ds : List D, pys ds = ds.map D.py
  | [] => by simp only [pys, List.map_nil]
  | d :: ds => by simp only [pys, List.map_cons, pys_map ds]
theorem reps_pairs {K : PySem.W.Frag} {F : Hp} : ∀ {l : List (V × D)}, (∀ p ∈ l, Rep K F p.1 p.2) → Reps K F (l.map (·.1)) (l.map (·.2))
  | [], _ => .nil
  | p :: l, h => .cons (h p (by simp)) (reps_pairs fun q hq => h q (by simp [hq]))
theorem pairs_reps {K : PySem.W.Frag} {F : Hp} : ∀ {vs : List V} {ds : List D}, Reps K F vs ds → ∀ p ∈ vs.zip ds, Rep K F p.1 p.2
  | _, _, .nil, p, h => by simp at h
  | _, _, .cons h r, p, hp => by
    rw [List.zip_cons_cons] at hp
    rcases List.mem_cons.mp hp with rfl | hp
    · exact h
    · exact pairs_reps r p hp
def leK (a b : D) : Bool := !PySem.W.dataLt b.py a.py
theorem leK_total : PySem.W.TotalLe leK := PySem.W.sortLe_total (PyProof.Rows.listOrd PyProof.Rows.itemOrd) false (fun d : D => (PySem.W.keyToks d.py : (PyProof.Rows.listOrd PyProof.Rows.itemOrd).α))
theorem sort_reps {K : PySem.W.Frag} {F : Hp} {vs : List V} {ds es : List D} (r : Reps K F vs ds) (h : sortL ds = some es) : Reps K F (((vs.zip (pys ds)).mergeSort leV).map (·.1)) es := by
  unfold sortL at h
  split at h
  · rename_i ok
    cases h
    have ok1 := (Bool.and_eq_true_iff.mp ok).2
    have ok2 := (Bool.and_eq_true_iff.mp ok1).1
    have ok3 := (Bool.and_eq_true_iff.mp ok1).2
    have hl := r.length
    have e1 : ((vs.zip ds).mergeSort fun p q => leK p.2 q.2).map (fun p => (p.1, p.2.py)) = (vs.zip (pys ds)).mergeSort leV := by
      rw [PySem.W.sort_maps (r := fun p q : V × D => leK p.2 q.2) (s := leV) (fun p : V × D => (p.1, p.2.py)) (fun _ _ _ _ => rfl)]
      congr 1
      rw [pys_map, List.zip_map_right]
      rfl
    have e2 : ((vs.zip ds).mergeSort fun p q => leK p.2 q.2).map (·.2) = ds.mergeSort leK := by
      rw [PySem.W.sort_maps (r := fun p q : V × D => leK p.2 q.2) (s := leK) (fun p : V × D => p.2) (fun _ _ _ _ => rfl), List.map_snd_zip (by omega)]
    have e3 : isortW leS ds = ds.mergeSort leK := by
      rw [← isortW_eq leK_total]
      refine isortW_congr fun x hx y hy => ?_
      have mx : x.py ∈ pys ds := by rw [pys_map]; exact List.mem_map_of_mem hx
      have my : y.py ∈ pys ds := by rw [pys_map]; exact List.mem_map_of_mem hy
      unfold leS leK
      rw [dataLt_ltP _ _ (sortOk_alike ok2 _ my _ mx) (List.all_eq_true.mp (List.all_eq_true.mp ok3 _ my) _ mx)]
    rw [e3, ← e2, ← e1, List.map_map]
    exact reps_pairs fun p hp => pairs_reps r p ((List.mergeSort_perm _ _).mem_iff.mp hp)
  · cases h
theorem insW_len {α : Type} {le : α → α → Bool} (x : α) : ∀ l : List α, (insW le x l).length = l.length + 1
  | [] => rfl
  | y :: ys => by
    unfold insW
    split
    · rfl
    · simp only [List.length_cons, insW_len x ys]
theorem isortW_len {α : Type} {le : α → α → Bool} : ∀ l : List α, (isortW le l).length = l.length
  | [] => rfl
  | x :: xs => (insW_len x _).trans (congrArg (· + 1) (isortW_len xs))
theorem sortL_len {ds es : List D} (h : sortL ds = some es) : es.length = ds.length := by
  unfold sortL at h
  split at h
  · cases h
    exact isortW_len ds
  · cases h
theorem seqD_repsL {K : PySem.W.Frag} {F H : Hp} {v : V} {d : D} {ds : List D} (s : Same F H) (r : RepH K F H v d) (h : seqD d = some ds) : ∃ a xs, v = .ref a ∧ (SqT K H a xs ∨ SqL K H a xs) ∧ Reps K F xs ds ∧ xs.length ≤ sizeLine := by
  cases d with
  | lst xs =>
    cases h
    obtain ⟨a, ys, rfl, h1, l1, w1⟩ := r.lst s
    exact ⟨a, ys, rfl, .inr (SqL.of h1), w1, l1⟩
  | tup xs =>
    cases h
    obtain ⟨a, ys, rfl, h1, l1, w1, _⟩ := r.tup s
    exact ⟨a, ys, rfl, .inl h1, w1, l1⟩
  | tupL xs =>
    cases h
    obtain ⟨a, ys, rfl, h1, l1, w1⟩ := r.tupL s
    exact ⟨a, ys, rfl, .inl h1, w1, l1⟩
  | _ => cases h
theorem sortD_ok {K : PySem.W.Frag} : RCok K (rSrt K) sortD := by
  intro xs ds F H Q d s r e k
  cases r with
  | nil => cases e
  | cons h r =>
    cases r with
    | cons _ _ => simp only [sortD] at e; cases e
    | nil =>
      rename_i v x
      simp only [sortD] at e
      cases hx : seqD x with
      | none => rw [hx] at e; cases e
      | some ys =>
        rw [hx] at e
        simp only [Option.bind_some] at e
        cases hs : sortL ys with
        | none => rw [hs] at e; cases e
        | some zs =>
          rw [hs] at e
          cases e
          obtain ⟨a, vs, rfl, h1, h2, h3⟩ := seqD_repsL s h hx
          have hs' := hs
          unfold sortL at hs'
          split at hs'
          · rename_i ok
            have ok0 := (Bool.and_eq_true_iff.mp ok).1
            have ok1 := (Bool.and_eq_true_iff.mp (Bool.and_eq_true_iff.mp ok).2).1
            refine ⟨a, vs, pys ys, rfl, h1, Reps.dp s h2 ok0, ok1, fun p hp => ?_⟩
            have rr := sort_reps h2 hs
            have hl : (((vs.zip (pys ys)).mergeSort leV).map (·.1)).length ≤ sizeLine := by
              rw [Reps.length rr, sortL_len hs, ← Reps.length h2]
              exact h3
            exact k _ _ _ (Ext.fresh s _ hp) (new_lst s hp hl rr)
          · cases hs'
def minI : List Int → Option Int
  | [] => none
  | i :: is => some (is.foldl (fun a b => if b < a then b else a) i)
theorem minF : ∀ (is : List Int) (i : Int), (is.foldl (fun a b => if b < a then b else a) i = i ∨ is.foldl (fun a b => if b < a then b else a) i ∈ is) ∧ is.foldl (fun a b => if b < a then b else a) i ≤ i ∧ ∀ j ∈ is, is.foldl (fun a b => if b < a then b else a) i ≤ j
  | [], i => ⟨.inl rfl, Int.le_refl _, fun j hj => by simp at hj⟩
  | k :: is, i => by
    obtain ⟨h1, h2, h3⟩ := minF is (if k < i then k else i)
    rw [List.foldl_cons]
    refine ⟨?_, ?_, fun j hj => ?_⟩
    · rcases h1 with z | z
      · by_cases e : k < i
        · rw [if_pos e] at z ⊢
          exact .inr (by rw [z]; simp)
        · rw [if_neg e] at z ⊢
          exact .inl z
      · exact .inr (List.mem_cons_of_mem _ z)
    · refine Int.le_trans h2 ?_
      split <;> omega
    · rcases List.mem_cons.mp hj with rfl | hj
      · refine Int.le_trans h2 ?_
        split <;> omega
      · exact h3 j hj
def minD : List D → Option D
  | [.int i, .int j] => some (.int (if j < i then j else i))
  | [.lst ds] => ((intsD ds).bind minI).map .int
  | _ => none
def rMinA (K : PySem.W.Frag) : List V → Hp → VK → Prop := fun xs H Q => (∃ i j, xs = [.int i, .int j] ∧ Q (.int (if j < i then j else i)) H) ∨ rMin K xs H Q
theorem call_minA {X : Cx} (hc : X.calm = true) : CallR X (.builtin "min") (rMinA X.K) := CallR.or (call_min2 hc) (cr_min hc)
theorem minD_ok {K : PySem.W.Frag} : RCok K (rMinA K) minD := by
  intro xs ds F H Q d s r e k
  unfold minD at e
  split at e
  · cases e
    cases r with
    | cons h1 r =>
      cases r with
      | cons h2 r =>
        cases r
        cases h1.int
        cases h2.int
        exact .inl ⟨_, _, rfl, k _ F H (Ext.refl s) (.int _)⟩
  · rename_i ds
    cases r with
    | cons h1 r =>
      cases r
      obtain ⟨a, ys, rfl, g1, g2, g3⟩ := h1.lst s
      cases hi : intsD ds with
      | none => rw [hi] at e; cases e
      | some is =>
        rw [hi] at e
        cases is with
        | nil => cases e
        | cons i is =>
          simp only [Option.bind_some, minI, Option.map_some] at e
          cases e
          have ev := intsD_vals hi g3
          subst ev
          obtain ⟨m1, m2, m3⟩ := minF is i
          refine .inr ⟨a, i :: is, rfl, SqL.of g1, by simp, fun m hm hle => ?_⟩
          have em : m = is.foldl (fun a b => if b < a then b else a) i := by
            apply Int.le_antisymm
            · rcases m1 with z | z
              · rw [z]; exact hle i (by simp)
              · exact hle _ (List.mem_cons_of_mem _ z)
            · rcases List.mem_cons.mp hm with rfl | hm
              · exact m2
              · exact m3 m hm
          rw [em]
          exact k _ F H (Ext.refl s) (.int _)
  · cases e
end VL
set_option Elab.async false
set_option linter.all false
set_option maxRecDepth 100000
set_option autoImplicit false
namespace VL
open PySem PySem.Spec L2
open PyProof.Rows hiding St
section
variable {X : Cx} {G : Gd} {W : WX} {ρ : Rho} {o e a b : Expr} {es : List Expr} {m mo me : Rs D} {κ : Kt} {pos p apos : Pos}
theorem ef_or {ma mb : Rs (List D)} (ha : EF X G W ρ a ma) (hb : EF X G W ρ b mb) : EF X G W ρ (.BoolOp .Or [a, b] pos) (ma.bind fun l => if l.isEmpty then mb else .ok l) := by
  obtain ⟨ta, pa, qa⟩ := ha
  obtain ⟨tb, pb, qb⟩ := hb
  refine ⟨_, pe_orT pa (pe_one pb), fun F0 σ F H Q hh hp => qa F0 σ F H _ hh ?_⟩
  cases ma with
  | ex c fs => exact hp
  | no => exact hp
  | ok l =>
    rintro v F1 H1 e1 ⟨ad, rfl, hn, hf, ho⟩
    obtain ⟨xs, h1, h2, h3⟩ := ho.asL
    refine ⟨!xs.isEmpty, .inl ⟨xs, SqL.of h1, rfl⟩, ?_⟩
    have el : xs.isEmpty = l.isEmpty := by
      cases h3 <;> rfl
    rw [el]
    simp only [Rs.bind_ok] at hp
    cases he : l.isEmpty with
    | true =>
      rw [he, if_pos rfl] at hp
      refine iteF (qb F0 σ F1 H1 Q (hh.more e1) ?_)
      cases mb with
      | ex c fs => exact Post.more hp e1
      | no => exact hp
      | ok r =>
        rintro v F2 H2 e2 ⟨a2, rfl, hn2, hf2, ho2⟩
        exact hp _ F2 H2 (e1.trans e2) ⟨a2, rfl, e1.same.free hn2, hf2, ho2⟩
    | false =>
      rw [he] at hp
      exact iteT (hp _ F1 H1 e1 ⟨ad, rfl, hn, hf, ho⟩)
end
end VL
set_option Elab.async false
set_option linter.all false
set_option maxRecDepth 100000
set_option autoImplicit false
namespace VL
open PySem PySem.Spec L2
open PyProof.Rows hiding St
abbrev KtB := (β : Type) → (List D → List D → Rs β) → Rs β
def BC (X : Cx) (G : Gd) (ρ : Rho) (i : Nat) (es : List Expr) (κ : KtB) : Prop := ∃ ms, AB X G ρ i es ms ∧ ∀ (β : Type) (k : List D → List D → Rs β), κ β k = ms.bind fun v => k v.1 v.2
section
variable {X : Cx} {G : Gd} {ρ : Rho} {i : Nat} {l : Bool} {s : List D} {e : Expr} {es : List Expr} {pos p p2 : Pos} {m : Rs (D × List D)} {κ : KtB} {κ' : List D → KtB}
theorem bc_nil (hi : At ρ i l s := by rfl) : BC X G ρ i [] (fun β k => k [] s) := ⟨_, ab_nil hi, fun _ _ => rfl⟩
theorem bc_cons (ha : EB X G ρ i e m) (hr : ∀ s', BC X G (ρ.set i (some (.own l (.lst s')))) i es (κ' s')) (hs : starEach (e :: es) X.env = (false, eval e X.env) :: starEach es X.env := by rfl) (hi : At ρ i l s := by rfl) :
    BC X G ρ i (e :: es) (fun β k => m.bind fun u => κ' u.2 β fun xs s' => k (u.1 :: xs) s') := by
  have ch := fun s' => (hr s').choose_spec
  refine ⟨_, ab_cons (ms := fun s' => (hr s').choose) ha (fun s' => (ch s').1) hs hi, fun β k => ?_⟩
  rw [Rs.assoc]
  cases m with
  | ok u =>
    show κ' u.2 β (fun xs s' => k (u.1 :: xs) s') = _
    rw [(ch u.2).2, Rs.bind_ok, Rs.assoc]
    rfl
  | ex c fs => rfl
  | no => rfl
theorem eb_tupC {x1} (h : BC X G ρ i es κ) (hl : Nat.ble es.length sizeLine = true := by rfl) : EB X G ρ i (.Tuple es x1 pos) (κ _ fun xs s' => .ok (.tup xs, s')) := by
  obtain ⟨ms, h1, h2⟩ := h
  rw [h2]
  exact eb_tup h1 hl
theorem eb_callBC {id : String} {x : Str} {r : List V → Hp → VK → Prop} {f : List D → Option D} (hc : CallR X (.builtin id) r) (hf : RCok X.K r f) (hm : X.mg x = none) (hv : bootBuiltins x = some (.builtin id)) (ha : BC X G ρ i (e :: es) κ) (hg : Gl X x := by rfl) (hn : x ≠ "__name__" := by decide)
    (hdb : (x == ("__debug__" : Str)) = false := by decide) (he : starEach (e :: es) X.env = (false, eval e X.env) :: starEach es X.env := by rfl) (hpl : (backTo pos (starEach es X.env)).any (·.1) = false := by rfl) : EB X G ρ i (.Call (.Name x p) (e :: es) [] pos) (κ _ fun xs s' => (Rs.of (f xs)).bind fun d => .ok (d, s')) := by
  obtain ⟨ms, h1, h2⟩ := ha
  rw [h2]
  exact eb_callB hc hf hm hv h1 hg hn hdb he hpl
theorem eb_callTyC {id : String} {x : Str} {r : List V → Hp → VK → Prop} {f : List D → Option D} (hc : CallR X (.type id) r) (hf : RCok X.K r f) (hm : X.mg x = none) (hv : bootBuiltins x = some (.type id)) (ha : BC X G ρ i (e :: es) κ) (hg : Gl X x := by rfl) (hn : x ≠ "__name__" := by decide)
    (hdb : (x == ("__debug__" : Str)) = false := by decide) (he : starEach (e :: es) X.env = (false, eval e X.env) :: starEach es X.env := by rfl) (hpl : (backTo pos (starEach es X.env)).any (·.1) = false := by rfl) : EB X G ρ i (.Call (.Name x p) (e :: es) [] pos) (κ _ fun xs s' => (Rs.of (f xs)).bind fun d => .ok (d, s')) := by
  obtain ⟨ms, h1, h2⟩ := ha
  rw [h2]
  exact eb_callTy hc hf hm hv h1 hg hn hdb he hpl
theorem eb_ownC {k : Nat} {f : Addr} {fd : FuncData} {ps : List Str} {mf : List D → Rs D} {x : Str} (Fk : Keeps X.prog X.w X.K X.mg X.base k f fd ps mf) (hr : Room k X.A) (hm : X.mg x = some (.ref f)) (hk : PySem.W.keepIn X.K (.ref f) = true)
    (hb : Binds X.K fd ps []) (ha : BC X G ρ i (e :: es) κ) (hln : (e :: es).length = ps.length := by rfl) (hg : Gl X x := by rfl) (hdb : (x == ("__debug__" : Str)) = false := by decide) (he : starEach (e :: es) X.env = (false, eval e X.env) :: starEach es X.env := by rfl)
    (hpl : (backTo pos (starEach es X.env)).any (·.1) = false := by rfl) : EB X G ρ i (.Call (.Name x p) (e :: es) [] pos) (κ _ fun xs s' => (mf xs).bind fun d => .ok (d, s')) := by
  obtain ⟨ms, h1, h2⟩ := ha
  rw [h2]
  exact eb_own Fk hr hm hk hb h1 hln hg hdb he hpl
theorem eb_ioC {k : Nat} {f : Addr} {fd : FuncData} {ps : List Str} {mf : List D → List D → Rs (D × List D)} {x bn : Str} (Fk : KeepsIO X.prog X.w X.K X.mg X.base k f fd ps mf) (hr : Room k X.A) (hm : X.mg x = some (.ref f)) (hk : PySem.W.keepIn X.K (.ref f) = true)
    (hb : Binds X.K fd ps []) (hv : PE X (.Name bn p2) (tVar i)) (ha : BC X G ρ i es κ) (hi : At ρ i l s := by rfl) (hln : es.length + 1 = ps.length := by rfl) (hg : Gl X x := by rfl) (hdb : (x == ("__debug__" : Str)) = false := by decide) (he : starEach (.Name bn p2 :: es) X.env = (false, eval (.Name bn p2) X.env) :: starEach es X.env := by rfl)
    (hpl : (backTo pos (starEach es X.env)).any (·.1) = false := by rfl) : EB X G ρ i (.Call (.Name x p) (.Name bn p2 :: es) [] pos) (κ _ fun xs s' => mf s' xs) := by
  obtain ⟨ms, h1, h2⟩ := ha
  rw [h2]
  exact eb_io Fk hr hm hk hb hv h1 hi hln hg hdb he hpl
end
end VL
set_option Elab.async false
set_option linter.all false
set_option maxRecDepth 100000
set_option autoImplicit false
namespace VL
open PySem PySem.Spec L2
open PyProof.Rows hiding St
def recA (K : PySem.W.Frag) (C : Addr) (T : String) (f : Str) : Addr := match PySem.W.recIn K (He.ma K C f) T with
  | some (.ref g :: _) => g
  | _ => 0
section
variable {X : Cx} {G : Gd} {W : WX} {ρx ρ : Rho} {rest sts : List Stmt} {α β R : Type} {pn : α → Rho} {pl : β → Rho} {ι : R → Fl α β} {i : Nat} {l : Bool} {s : List D}
theorem bi_nox {m : Rs R} (h : BI X G W ρx ρ sts pn pl ι m) : BI X G W ρx ρ sts pn pl ι m.noX := by
  cases m with
  | ok r => exact h
  | ex c fs => exact fun F0 σ F H E hh hp => hp.elim
  | no => exact h
end
end VL
namespace VL
open PySem PySem.Spec L2
open PyProof.Rows hiding St
theorem eb_val {X : Cx} {G : Gd} {ρ : Rho} {i : Nat} {l : Bool} {s : List D} {e : Expr} {d : D} (he : EV X G W0 ρ e (.ok d)) (hi : At ρ i l s := by rfl) : EB X G ρ i e (.ok (d, s)) := eb_pure he hi
end VL
namespace VL
open PySem PySem.Spec L2
open PyProof.Rows hiding St
theorem ev_as {X : Cx} {G : Gd} {W : WX} {ρ : Rho} {e : Expr} (ρ' : Rho) {m m' : Rs D} (h : EV X G W ρ' e m) (er : ρ = ρ') (em : m = m') : EV X G W ρ e m' := by
  subst er em
  exact h
end VL
set_option Elab.async false
set_option linter.all false
set_option maxRecDepth 100000
set_option autoImplicit false
namespace VL
open PySem PySem.Spec L2
open PyProof.Rows hiding St
section
variable {X : Cx} {G : Gd} {W : WX} {ρ : Rho} {e a b : Expr} {es : List Expr} {m ma mb : Rs D} {κ : Kt} {pos p : Pos} {d x y : D}
theorem ac_consV (ha : EV X G W ρ e (.ok d)) (hr : AC X G W ρ es κ) (hs : starEach (e :: es) X.env = (false, eval e X.env) :: starEach es X.env := by rfl) : AC X G W ρ (e :: es) (fun β k => κ β fun xs => k (d :: xs)) := ac_cons ha hr hs
theorem oc_consV (ha : EO X G W ρ e (.ok d)) (hr : OC X G W ρ es κ) (hs : starEach (e :: es) X.env = (false, eval e X.env) :: starEach es X.env := by rfl) : OC X G W ρ (e :: es) (fun β k => κ β fun xs => k (d :: xs)) := oc_cons ha hr hs
theorem sc_consV (ha : EV X G W ρ e (.ok d)) (hr : SC X G W ρ es κ) (hs : starEach (e :: es) X.env = (false, eval e X.env) :: starEach es X.env := by rfl) : SC X G W ρ (e :: es) (fun β k => κ β fun xs => k (d :: xs)) := sc_cons ha hr hs
theorem kc_consV {nm : Option Str} {kpos : Pos} {kws : List Keyword} (ha : EV X G W ρ e (.ok d)) (hr : KC X G W ρ kws κ) : KC X G W ρ (⟨nm, e, kpos⟩ :: kws) (fun β k => κ β fun xs => k (d :: xs)) := kc_cons ha hr
theorem ev_bin2 {op : Operator} {r : R2} {f : D → D → Option D} (ho : OpR X (binaryOp op) r) (hf : R2ok X.K r f) (ha : EO X G W ρ a (.ok x)) (hb : EO X G W ρ b (.ok y)) : EV X G W ρ (.BinOp a op b pos) (Rs.of (f x y)) := ev_bin ho hf ha hb
theorem ev_binL {op : Operator} {r : R2} {f : D → D → Option D} (ho : OpR X (binaryOp op) r) (hf : R2ok X.K r f) (ha : EO X G W ρ a (.ok x)) (hb : EO X G W ρ b mb) : EV X G W ρ (.BinOp a op b pos) (mb.bind fun y => Rs.of (f x y)) := ev_bin ho hf ha hb
theorem ev_binR {op : Operator} {r : R2} {f : D → D → Option D} (ho : OpR X (binaryOp op) r) (hf : R2ok X.K r f) (ha : EO X G W ρ a ma) (hb : EO X G W ρ b (.ok y)) : EV X G W ρ (.BinOp a op b pos) (ma.bind fun x => Rs.of (f x y)) := ev_bin ho hf ha hb
theorem ev_cmp2 {op : CmpOp} {r : R2} {f : D → D → Option D} (ho : OpR X (compareOp op) r) (hf : R2ok X.K r f) (ha : EO X G W ρ a (.ok x)) (hb : EO X G W ρ b (.ok y)) (hm : behindInMarks op b = false) : EV X G W ρ (.Compare a [op] [b] pos) (Rs.of (f x y)) := ev_cmp ho hf ha hb hm
theorem ev_ix2 {r : R2} {f : D → D → Option D} (ho : IxR X r) (hf : R2ok X.K r f) (ha : EO X G W ρ a (.ok x)) (hb : EO X G W ρ b (.ok y)) (hm : PlainIx b) : EV X G W ρ (.Subscript a b pos) (Rs.of (f x y)) := ev_ix ho hf ha hb hm
theorem tv_cmp2 {op : CmpOp} {r : R2} {f : D → D → Option D} {g : D → D → Option Bool} (ho : OpR X (compareOp op) r) (hf : R2ok X.K r f) (hg : Isb f g) (ha : EO X G W ρ a (.ok x)) (hb : EO X G W ρ b (.ok y)) (hm : behindInMarks op b = false) : TV X G W ρ (.Compare a [op] [b] pos) (Rs.of (g x y)) := tv_cmp ho hf hg ha hb hm
theorem tv_cmpL {op : CmpOp} {r : R2} {f : D → D → Option D} {g : D → D → Option Bool} (ho : OpR X (compareOp op) r) (hf : R2ok X.K r f) (hg : Isb f g) (ha : EO X G W ρ a (.ok x)) (hb : EO X G W ρ b mb) (hm : behindInMarks op b = false) : TV X G W ρ (.Compare a [op] [b] pos) (mb.bind fun y => Rs.of (g x y)) := tv_cmp ho hf hg ha hb hm
theorem tv_cmpR {op : CmpOp} {r : R2} {f : D → D → Option D} {g : D → D → Option Bool} (ho : OpR X (compareOp op) r) (hf : R2ok X.K r f) (hg : Isb f g) (ha : EO X G W ρ a ma) (hb : EO X G W ρ b (.ok y)) (hm : behindInMarks op b = false) : TV X G W ρ (.Compare a [op] [b] pos) (ma.bind fun x => Rs.of (g x y)) := tv_cmp ho hf hg ha hb hm
theorem it_seqV {tg e : Expr} (h : EV X G W ρ e (.ok d)) : IT X G W ρ tg e (Rs.of (itemsD d)) := it_seq h
theorem bi_at {R : Type} {ρx : Rho} {sts : List Stmt} {α β : Type} {pn : α → Rho} {pl : β → Rho} {ι : R → Fl α β} (ρ' : Rho) {m : Rs R} (h : BI X G W ρx ρ' sts pn pl ι m) (er : ρ = ρ' := by rfl) : BI X G W ρx ρ sts pn pl ι m := by
  subst er
  exact h
end
end VL
set_option Elab.async false
set_option linter.all false
set_option maxRecDepth 100000
set_option autoImplicit false
namespace VL
open PySem PySem.Spec L2
open PyProof.Rows hiding St
abbrev FrB := PySem.W.Frag → Bool
structure DefA where
  ad : PySem.W.Frag → Addr
  nm : Str
  ql : Str
  pr : Arguments
  bd : List Stmt
  sc : Scope
  df : List He.Dv
def DefA.told (d : DefA) : He.FnW := some (d.nm, d.ql, d.pr, .stmts d.bd, d.sc, mainGlobals, [], builtinsNs)
def DefA.dv (K : PySem.W.Frag) (d : DefA) : List V := d.df.map (He.Dv.v K)
def fnA (K : PySem.W.Frag) (a : Addr) : He.FnW := match K.lookup a with
  | some ⟨_, _, .func q, _⟩ => some (q.name, q.qualname, q.params, q.body, q.scope, q.globals, q.closure, q.builtins)
  | _ => none
def DefA.fine (K : PySem.W.Frag) (d : DefA) : Bool := PySem.W.keepIn K (.ref (d.ad K)) && (match K.lookup (d.ad K) with
  | some ⟨_, _, .func q, _⟩ => PySem.W.codeIn K q.code d.ql && He.dflB K q.defaults (d.dv K)
  | _ => false)
theorem DefA.fun_ {K : PySem.W.Frag} {d : DefA} (e : fnA K (d.ad K) = d.told) (c : d.fine K = true) : ∃ fd, FunD K d.nm d.ql d.pr d.bd d.sc (d.dv K) [] (d.ad K) fd := by
  obtain ⟨kp, c2⟩ := He.ba c
  unfold fnA at e
  cases z : K.lookup (d.ad K) with
  | none =>
    rw [z] at c2
    cases c2
  | some o =>
    obtain ⟨o1, o2, o3, o4⟩ := o
    rw [z] at c2 e
    cases o3 with
    | func q =>
      obtain ⟨q1, q2, q3, q4, q5, q6, q7, q8, q9, q10, q11, q12, q13, q14, q15⟩ := q
      have e2 : (some (q1, q2, q3, q4, q5, q6, q7, q15) : He.FnW) = d.told := e
      simp only [DefA.told, Option.some.injEq, Prod.mk.injEq] at e2
      obtain ⟨h1, h2, h3, h4, h5, h6, h7, h8⟩ := e2
      subst h1 h2 h3 h4 h5 h6 h7 h8
      have c3 : (PySem.W.codeIn K q13 d.ql && He.dflB K q8 (d.dv K)) = true := c2
      obtain ⟨k1, k2⟩ := He.ba c3
      exact ⟨_, ⟨o1, o2, q8, q9, q10, q11, q12, q13, q14, o4, rfl, z, k1, He.dflB_ok k2, .inl rfl⟩, kp⟩
    | _ => cases c2
abbrev AlV : Type := Bool × List He.FnW
def obsV (fs : List FrB) (fn : List DefA) (K : PySem.W.Frag) : AlV := ((fs.all fun f => f K) && fn.all fun d => d.fine K, fn.map fun d => fnA K (d.ad K))
def valV (fn : List DefA) : AlV := (true, fn.map DefA.told)
def SaysV (fs : List FrB) (fn : List DefA) (K : PySem.W.Frag) : Prop := obsV fs fn K = valV fn
def stepF (g : Addr → Option Obj) (as : List Addr) : List Addr := as.flatMap fun a => match g a with
  | some o => (He.refsD o).filter fun b => !(b == a)
  | none => []
def asF (g : Addr → Option Obj) : Nat → List Addr → List Addr
  | 0, as => as
  | n + 1, as => as ++ asF g n (stepF g as)
def obsVG (n : Nat) (fs : List FrB) (fn : List DefA) (g : Addr → Option Obj) : AlV := obsV fs fn (He.frG g (PySem.cStatics :: asF g n [mainGlobals]))
def hookV (n : Nat) (fs : List FrB) (fn : List DefA) : PySem.W.Hook where
  α := AlV
  obs := fun z => obsVG n fs fn z.heap.get?
  val := fun _ => valV fn
  says := fun _ z => ∃ K : PySem.W.Frag, K.In z ∧ SaysV fs fn K
  of := fun _ _ e => ⟨_, He.frG_in, e⟩
  keeps := fun _ _ _ ⟨K, hK, c⟩ k => ⟨K, hK.keeps k, c⟩
theorem obsVG_eq {n : Nat} {fs : List FrB} {fn : List DefA} {g : Addr → Option Obj} {z : Shared} (h : ∀ a, g a = z.heap.get? a) : obsVG n fs fn g = (hookV n fs fn).obs z := by
  rw [show g = z.heap.get? from funext h] <;> rfl
section
variable {fs : List FrB} {fn : List DefA} {K : PySem.W.Frag}
theorem SaysV.fact (c : SaysV fs fn K) (i : Nat) {f : FrB} (h : fs[i]? = some f := by rfl) : f K = true :=
  List.all_eq_true.mp (He.ba (congrArg (fun z : AlV => z.1) c)).1 f (List.mem_of_getElem? h)
theorem SaysV.fn_ (c : SaysV fs fn K) (i : Nat) {d : DefA} (h : fn[i]? = some d := by rfl) : ∃ fd, FunD K d.nm d.ql d.pr d.bd d.sc (d.dv K) [] (d.ad K) fd := by
  have e : fn.map (fun d => fnA K (d.ad K)) = fn.map DefA.told := congrArg (fun z : AlV => z.2) c
  have e2 : (fn.map fun d => fnA K (d.ad K))[i]? = (fn.map DefA.told)[i]? := by rw [e]
  rw [List.getElem?_map, List.getElem?_map, h] at e2
  exact DefA.fun_ (Option.some.inj e2) (List.all_eq_true.mp (He.ba (congrArg (fun z : AlV => z.1) c)).2 d (List.mem_of_getElem? h))
end
def sclsB (C : PySem.W.Frag → Addr) : FrB := fun K => PySem.W.plainGet K (C K) Str.empty && (PySem.W.isClsIn K (C K) && (PySem.W.plainOver K (C K) && He.eqO (PySem.W.findIn K (.ref (C K)) "__setattr__") (some (some (.builtin "object.__setattr__")))))
theorem sclsB_ok {C : PySem.W.Frag → Addr} {K : PySem.W.Frag} (h : sclsB C K = true) : SlX.SCls K (C K) := by
  obtain ⟨h1, h⟩ := He.ba h
  obtain ⟨h2, h⟩ := He.ba h
  obtain ⟨h3, h4⟩ := He.ba h
  exact ⟨h1, h2, h3, He.eqO_ok h4⟩
def slotB (C : PySem.W.Frag → Addr) (f : Str) (i : Nat) : FrB := fun K => He.eqO (PySem.W.findIn K (.ref (C K)) f) (some (some (.ref (He.ma K (C K) f)))) && (He.eqO (PySem.W.specialIn K (.ref (He.ma K (C K) f)) "__get__") (some (some (.builtin "member_descriptor.__get__"))) && (decide (PySem.W.takesIn K (.ref (He.ma K (C K) f)) = some true) &&
  (decide (PySem.W.typeIn K (.ref (He.ma K (C K) f)) = some (.type "member_descriptor")) && (decide (PySem.W.slotIn K (He.ma K (C K) f) (C K) = some i) && decide (i < 1000)))))
theorem slotB_ok {C : PySem.W.Frag → Addr} {f : Str} {i : Nat} {K : PySem.W.Frag} (h : slotB C f i K = true) : ∃ p, SlX.Slot1 K (C K) f p i := by
  obtain ⟨h1, h⟩ := He.ba h
  obtain ⟨h2, h⟩ := He.ba h
  obtain ⟨h3, h⟩ := He.ba h
  obtain ⟨h4, h⟩ := He.ba h
  obtain ⟨h5, h6⟩ := He.ba h
  exact ⟨_, He.eqO_ok h1, He.eqO_ok h2, of_decide_eq_true h3, of_decide_eq_true h4, of_decide_eq_true h5, of_decide_eq_true h6⟩
def hdRef : Option (List Value) → Option Addr
  | some (.ref g :: _) => some g
  | _ => none
theorem hdRef_ok {o : Option (List Value)} {g : Addr} (h : hdRef o = some g) : ∃ rest, o = some (.ref g :: rest) := by
  unfold hdRef at h
  split at h
  · cases h
    exact ⟨_, rfl⟩
  · cases h
def propB (C : PySem.W.Frag → Addr) (f : Str) : FrB := fun K => He.eqO (PySem.W.findIn K (.ref (C K)) f) (some (some (.ref (He.ma K (C K) f)))) && (He.eqO (PySem.W.specialIn K (.ref (He.ma K (C K) f)) "__get__") (some (some (.builtin "property.__get__"))) && (decide (PySem.W.takesIn K (.ref (He.ma K (C K) f)) = some true) &&
  decide (hdRef (PySem.W.recIn K (He.ma K (C K) f) "property") = some (recA K (C K) "property" f))))
theorem propB_ok {C : PySem.W.Frag → Addr} {f : Str} {K : PySem.W.Frag} (h : propB C f K = true) : Prp K (C K) f (recA K (C K) "property" f) := by
  obtain ⟨h1, h⟩ := He.ba h
  obtain ⟨h2, h⟩ := He.ba h
  obtain ⟨h3, h4⟩ := He.ba h
  exact ⟨_, He.eqO_ok h1, He.eqO_ok h2, of_decide_eq_true h3, hdRef_ok (of_decide_eq_true h4)⟩
def gloB (x : Str) : FrB := fun K => (He.Fa.glo x).ok K
def freeB (x : Str) : FrB := fun K => (He.Fa.free x).ok K
def mkrB (x : Str) : FrB := fun K => (He.Fa.mkr x).ok K
def gtupB (x : Str) (is : List Int) : FrB := fun K => He.tupB K x (is.map He.Dv.int)
theorem gtupB_ok {x : Str} {is : List Int} {K : PySem.W.Frag} (h : gtupB x is K = true) (H : Hp) : SqT K H (He.ga K x) (is.map V.int) := by
  have z := He.tupB_ok h H
  rw [List.map_map] at z
  exact z
end VL
namespace VL
open PySem PySem.Spec PyProof.Rows L2
theorem walk_ofV {l : PySem.W.OpenLaw} {n k : Nat} {q : Program} {loose : List Str} {XP : (Str → Option Value) → Heap → Prop} {YP : World → Heap → Prop} {d : DefRec} {CX : World → CXT} {x : Str}
    (hn : l.most = some n) (hn2 : n ≤ sizeLine) (hdf : d.params.defaults = []) (hr : Room k callerA)
    (F : ∀ (w : World) (mg : Str → Option Value) (fa : Addr) (z : Heap), YP w z → z.Ns mainGlobals mg → mg d.name = some (.ref fa) →
      ∃ (K : PySem.W.Frag) (fd : FuncData) (sp : Sp), K.In z ∧ (∀ (s : Shared) (u : Value), BindsTo s fd ⟨[u], []⟩ [(x, u)]) ∧
        (∀ (H : Hp) (a : Addr) (ns : List Int), ns.length ≤ n → (∀ i ∈ ns, Builtin.Int.intBits i ≤ 1048576) → Only H → SqL K H a (ns.map V.int) → sp [.ref a] H (fun v _ => v = .bl true) fun _ _ _ => False) ∧
        ∀ base : Heap, K.In base → base.Ns mainGlobals mg → FnOk l.prog w K mg base (CX w) k fa fd [x] sp)
    (hCX : ∀ (w : World) (H : Hp) (s : Shared) (e : Value) (s' : Shared), CX w [] H s (fun _ _ _ => False) e s' → False) :
    PySem.W.WalkO q loose XP YP l.row.toRowW d [] (fun f vs => PySem.call f vs) := by
  refine Att.attach_callB hn hdf fun w s₀ s₁ mg mb fa o pm cd doc a vs ns G Y ho hd hcd hmg hobj hints hlen hbits hg => ?_
  obtain ⟨K, fd, sp, KX, hb, hsp, hF⟩ := F w mg fa _ Y G.T.g hmg
  exact law_call KX G.T.g G.T.b G.T.builtins G.T.nolimit hg hobj hints (Nat.le_trans hlen hn2) hr hF hb (fun H hO hS => hsp H a ns hlen hbits hO hS) fun H e s' => hCX w H s₁ e s'
theorem cx_no {P : Program} (w : World) (H : Hp) (s : Shared) (e : Value) (s' : Shared) (h : L2N.CX P w [] H s (fun _ _ _ => False) e s') : False := by
  obtain ⟨_, _, _, _, _, _, _, _, _, _, _, _, z⟩ := h
  exact z
theorem end_ok {K : PySem.W.Frag} {H : Hp} {a : Addr} {ns : List Int} {m : D → Rs D} (hl : ns.length ≤ 63) (hS : SqL K H a (ns.map V.int)) (h : m (.scr (ns.map .int)) = .ok (.bl true)) :
    spM K 1 (fun ds => match ds with | [x] => m x | _ => .no) [.ref a] H (fun v _ => v = .bl true) fun _ _ _ => False := by
  refine ⟨rfl, H, [.scr (ns.map .int)], Same.refl H, .one (.scr hS (by rw [List.length_map]; exact Nat.le_trans hl (by decide)) (reps_ints ns)), ?_⟩
  show Post K (RF K) _ H H _ (m (.scr (ns.map .int)))
  rw [h]
  intro v F' H' e r
  cases r
  rfl
end VL
set_option Elab.async false
set_option linter.all false
set_option maxRecDepth 100000
set_option autoImplicit false
set_option Elab.async false
set_option linter.all false
set_option maxRecDepth 100000
set_option autoImplicit false
set_option Elab.async false
set_option linter.all false
set_option maxRecDepth 100000
set_option autoImplicit false
namespace VL
open PySem PySem.Spec L2
open PyProof.Rows hiding St
section
variable {X : Cx} {G : Gd} {W : WX} {ρx ρ : Rho} {rest sts : List Stmt} {α β R : Type} {pn : α → Rho} {pl : β → Rho} {ι : R → Fl α β} {i : Nat} {l : Bool} {s : List D}
theorem bk_forB {ε γ : Type} {post : ε → Rho} {u : D → Option γ} {p : ε → γ → Rho} {is : List Nat} {tg iter : Expr} {body : List Stmt} {pos : Pos} {mi : Rs (List D × List D)} {fb : ε → γ → Rs (Fl ε ε)} {z0 : List D → ε} {f : ε → Rs (Fl α β)}
    (po : PassesOwn (model X.prog X.w) X.A X.env X.xe) (calm : X.calm = true) (hiB : IB X G ρ i tg iter mi) (h0 : ∀ s', Wk (ρ.set i (some (.own l (.lst s')))) (post (z0 s'))) (ht : ∀ z, TT1 X G tg (post z) is u (p z)) (hb : ∀ z y, BK X G W ρx (p z y) body post post (fb z y))
    (hr : ∀ z, BK X G W ρx (post z) rest pn pl (f z)) (hi : At ρ i l s := by rfl) (hs : ∀ x, foldedSetIterable iter X.env x = pure x := by intro _; rfl) :
    BK X G W ρx ρ (.For tg iter body [] pos :: rest) pn pl (mi.noX.bind fun it => (loopM (fun z d => (Rs.of (u d)).bind (fb z)) it.1 (z0 it.2)).bind (Fl.andThen f)) := by
  intro F0 σ F H E hh hp
  obtain ⟨r, hm, hp1⟩ := postS_noX hp
  clear hp
  subst hm
  obtain ⟨items, s1⟩ := r
  obtain ⟨bx, hbx⟩ := box_at hh hi
  refine any_cons (ps_for po calm pi_any pg_any pss_any hs) ?_
  refine hiB F0 σ F H _ bx hh hbx fun J F1 H1 e1 hw o1 => ?_
  have hh1 := (hh.moreB hi hbx e1 o1).weak (h0 s1)
  refine ⟨fun k m σ H => m = items.length - k ∧ k ≤ items.length ∧ ∃ z F, Holds X.K (G.at F0) (post z) σ F H ∧ Same F1 F ∧ PostS X.K (G.at F0) W ρx pn pl E ((loopM (fun z d => (Rs.of (u d)).bind (fb z)) (items.drop k) z).bind (Fl.andThen f)),
    ⟨items.length, by simp, Nat.zero_le _, z0 s1, F1, hh1, Same.refl F1, hp1⟩, ?_⟩
  rintro k m σ2 H2 ⟨rfl, hil, z, F2, hh2, s2, hp2⟩
  obtain ⟨wgo, wstop⟩ := hw.2 F2 H2 s2 hh2.sub
  by_cases hlt : k < items.length
  · have hg : items[k]? = some items[k] := List.getElem?_eq_getElem hlt
    obtain ⟨g1, g2⟩ := wgo k _ hg
    rw [List.drop_eq_getElem_cons hlt] at hp2
    refine .inr ⟨g1, fun σ' H' => ∃ z' F', Holds X.K (G.at F0) (post z') σ' F' H' ∧ Same F1 F' ∧ PostS X.K (G.at F0) W ρx pn pl E ((loopM (fun z d => (Rs.of (u d)).bind (fb z)) (items.drop (k + 1)) z').bind (Fl.andThen f)), fun σ' H' ⟨z', F', q1, q2, q3⟩ => ⟨items.length - (k + 1), by omega, rfl, hlt, z', F', q1, q2, q3⟩, fun x H' y => ?_⟩
    obtain ⟨F3, e3, r3⟩ := g2 x H' y
    have hh3 := hh2.more e3
    simp only [loopM] at hp2
    cases hu : u items[k] with
    | none =>
      rw [hu] at hp2
      exact hp2.elim
    | some y =>
      rw [hu] at hp2
      simp only [Rs.of_some, Rs.bind_ok] at hp2
      refine ht z F0 σ2 F3 H' x _ y _ hh3 r3 hu fun σ4 _ hh4 => ?_
      refine hb z y F3 σ4 F3 H' _ hh4.rebase ?_
      cases hfb : fb z y with
      | no =>
        rw [hfb] at hp2
        exact hp2
      | ex c fs =>
        rw [hfb] at hp2
        exact PostS.rebase (W := W) (m := (Rs.ex c fs : Rs (Fl α β))) (pn := pn) (pl := pl) (E := E) hh4.toGnd hp2
      | ok fl =>
        rw [hfb] at hp2
        simp only [Rs.bind_ok] at hp2
        cases fl with
        | nx z' => exact fun σ5 F5 H5 hh5 => ⟨z', F5, hh5.unbase hh4.toGnd, (s2.trans e3.ext).trans hh5.ext, hp2⟩
        | ct z' => exact fun σ5 F5 H5 hh5 => ⟨z', F5, hh5.unbase hh4.toGnd, (s2.trans e3.ext).trans hh5.ext, hp2⟩
        | bk z' => exact fun σ5 F5 H5 hh5 => hr z' F0 σ5 F5 H5 E (hh5.unbase hh4.toGnd) hp2
        | rt v s => exact fun v2 F5 H5 hh5 => hp2 v2 F5 H5 (hh4.toGnd.unbase hh5)
  · have ei : k = items.length := by omega
    subst ei
    rw [List.drop_length] at hp2
    exact .inl ⟨wstop, hr z F0 σ2 F2 H2 E hh2 hp2⟩
end
end VL
set_option Elab.async false
set_option linter.all false
set_option maxRecDepth 100000
set_option autoImplicit false
namespace VL
open PySem PySem.Spec L2
open PyProof.Rows hiding St
theorem xO_ok {P : Program} {w : World} {H : Hp} {h : Heap} {a : Addr} {cls : Value} {d : Option Addr} {oe : Obj} {vs : Array Value} (e : h.get? a = some oe) (z : L2N.Zn cls d oe) (hd : oe.data = .fields vs) : ObjOk P w H h a (xO cls d a) :=
  ⟨⟨oe, vs, e, z, hd⟩, ⟨oe, e⟩, fun h1 h2 ⟨o1, v1, e1, z1, d1⟩ k => ⟨o1, v1, k _ e1, z1, d1⟩⟩
theorem xO_at {P : Program} {w : World} {H : Hp} {h : Heap} {a : Addr} {cls : Value} {d : Option Addr} (hok : HOk P w H h) (e : H a = some (xO cls d a)) : ∃ (oe : Obj) (vs : Array Value), h.get? a = some oe ∧ L2N.Zn cls d oe ∧ oe.data = .fields vs := (hok a _ e).1
section
variable {X : Cx} {pins : List (Addr × Obj)} {σ : L2.St} {H : Hp} {s : Shared}
theorem Inv_track {a : Addr} {cls : Value} {d : Option Addr} {oe : Obj} {vs : Array Value} (I : Inv X pins σ H s) (na : H a = none) (he : s.heap.get? a = some oe) (hz : L2N.Zn cls d oe) (hd : oe.data = .fields vs) (n0 : X.s_0.heap.get? a = none) (nL : a ≠ X.env.locals) (np : ∀ p ∈ X.pn ++ pins, p.1 ≠ a) :
    Inv X pins σ (upd H a (xO cls d a)) s where
  ok := I.ok
  os := I.os
  bare := I.bare
  base := {
    keep := I.base.keep
    slot := I.base.slot
    free := fun b o e n hx => by
      rw [upd_ne (fun z => by rw [z, n0] at e; cases e)]
      exact I.base.free b o e n hx
    there := I.base.there
    tups := fun b xs e => by
      have z := I.base.tups b xs e
      rw [upd_ne (ne_of_none z na)]
      exact z
    frzs := fun b o u e => by
      have z := I.base.frzs b o u e
      rw [upd_ne (ne_of_none z na)]
      exact z
    tbls := fun b ps e => by
      obtain ⟨m, z⟩ := I.base.tbls b ps e
      exact ⟨m, by rw [upd_ne (ne_of_none z na)]; exact z⟩ }
  loc := I.loc
  cell := I.cell
  free := by
    rw [upd_ne (Ne.symm nL)]
    exact I.free
  freeC := fun y c e => by
    obtain ⟨v, oc, hc, hcd⟩ := I.cell y c e
    rw [upd_ne (fun z => by
      rw [z, he] at hc
      cases hc
      rw [hd] at hcd
      cases hcd)]
    exact I.freeC y c e
  pin := fun p hp => by
    obtain ⟨h1, h2, h3, h4, h5⟩ := I.pin p hp
    exact ⟨h1, by rw [upd_ne (np p hp)]; exact h2, h3, h4, h5⟩
  hok := HOk.laidN I.hok (fun _ _ z => z) na (xO_ok he hz hd)
  len := I.len
theorem Inv_suite0 (I : Inv X pins σ H s) (a : Addr) : Inv (X.suite a (X.pn ++ pins)) [] σ H s :=
  ⟨I.ok.suite _ _, I.os, I.bare, I.base, I.loc, I.cell, I.free, I.freeC, fun p hp => I.pin p (by rw [List.append_nil] at hp; exact hp), I.hok, I.len⟩
theorem Inv_unsuite0 {a : Addr} {pn' : List (Addr × Obj)} (I : Inv (X.suite a (X.pn ++ pins)) pn' σ H s) (ok : X.Ok) : Inv X pins σ H s :=
  ⟨ok, I.os, I.bare, I.base, I.loc, I.cell, I.free, I.freeC, fun p hp => I.pin p (List.mem_append_left _ hp), I.hok, I.len⟩
end
def goneE (i : Nat) (D : Ends) : Ends := { nx := fun σ H => D.nx (σ.set i none) H, rt := D.rt, bk := fun σ H => D.bk (σ.set i none) H, ct := fun σ H => D.ct (σ.set i none) H }
def wX (K : PySem.W.Frag) (Wout : WX) (D : Ends) : List (Value × Nat × (Addr → TS)) → WX
  | [] => Wout
  | (c, i, ts) :: r => fun cls d σ H => ∃ b, PySem.W.exmOne K cls c = some b ∧ (b = true → ∀ a, H a = none → ts a (goneE i D) (σ.set i (some (.ref a))) (upd H a (xO cls d a))) ∧ (b = false → wX K Wout D r cls d σ H)
inductive HdX (X : Cx) : List ExceptHandler → List (Value × Nat × (Addr → TS)) → Prop
  | nil : HdX X [] []
  | cons {x n : Str} {c : Value} {i : Nat} {ts : Addr → TS} {b₀ : Stmt} {su : List Stmt} {np hp : Pos} {hds : List ExceptHandler} {l : List (Value × Nat × (Addr → TS))} (hc : Names X x c) (hi : X.N[i]? = some n) (hln : X.env.kindOf n = some .local)
      (hsu : ∀ (a : Addr) (pn : List (Addr × Obj)), PSs (X.suite a pn) (b₀ :: su) (ts a)) (r : HdX X hds l) : HdX X (.ExceptHandler (some (.Name x np)) (some n) (b₀ :: su) hp :: hds) ((c, i, ts) :: l)
section
variable {X : Cx} {body : List Stmt} {h₀ : ExceptHandler} {hds : List ExceptHandler} {l : List (Value × Nat × (Addr → TS))} {pos : Pos} {tb : WX → TS} {Wout : WX}
theorem ps_tryX (hs : X.stack = X.env :: X.outer) (hf : X.env.frame = some X.env.locals) (hN : X.N.Nodup) (hx : X.ex = []) (tk : L2N.Takes X Wout)
    (hb : ∀ (W : WX) (pn : List (Addr × Obj)) (xe : Value → Shared → Prop), L2N.Takes (X.tr pn xe) W → PassesOwn (model X.prog X.w) X.A X.env xe → PSs (X.tr pn xe) body (tb W)) (hh : HdX X (h₀ :: hds) l) :
    PS X (.Try body (h₀ :: hds) [] [] pos) (fun D σ H => tb (wX X.K Wout D l) D σ H) := by
  refine ⟨fun pins s σ H D I h => ?_⟩
  have ok := I.ok
  have hfr : X.A.frames = some (X.env :: X.outer) := ok.frames.trans (by rw [hs])
  refine wpAny_Try_except ?_
  refine wpAny_mono ((hb (wX X.K Wout D l) (X.pn ++ pins) (fun er t₁ => wpAny (model X.prog X.w) X.A (noteFrame er X.env) (fun _ t₂ => wpAny (model X.prog X.w) X.A (setFlight er none) (fun _ t₃ =>
    wpAny (model X.prog X.w) X.A (handleBy er X.env (h₀ :: hds)) (SP X pins D) X.xe t₃) X.xe t₂) X.xe t₁) (fun u s' xx => ?_) PassesOwn.looking).run [] s σ H D (I.toTry _) h) (fun f s1 hsp => ?_) (fun _ _ z => z)
  · obtain ⟨a, B, sI, pins', σ', H', cls, d, rfl, J', nb, up, sky, na, os, ag, w⟩ := xx
    have J : Inv X pins σ' H' sI := J'.ofTry ok
    have sk2 : Sky B (X.env :: X.outer) a (L2N.Zn cls d) X.env.locals s'.heap := hs ▸ sky
    show wpAny (model X.prog X.w) X.A (noteFrame (.ref a) X.env) _ _ _
    refine L2N.Sky.land L2N.Zn.steady hfr hf sk2 fun h3 fl3 up3 => ?_
    have J3 : Inv X pins σ' H' { s' with heap := h3 } := J.landed nb fl3.1 (up.trans up3) os ag
    obtain ⟨oe3, vs3, he3, hz3, hd3⟩ := fl3.there
    have nfr : a ∉ frs (X.env :: X.outer) := fun hm => by
      obtain ⟨_, o', e', hnf⟩ := fl3.2.2.1.mem hm
      rw [he3] at e'
      cases e'
      exact hnf _ hd3
    have nL : a ≠ X.env.locals := fun z => nfr (List.mem_filterMap.mpr ⟨X.env, List.mem_cons_self, by rw [hf, z]⟩)
    have nI : sI.heap.get? a = none := by
      cases e : sI.heap.get? a with
      | none => rfl
      | some o =>
        have z := nb a o e (by rw [hs]; exact nfr)
        rw [fl3.2.1] at z
        cases z
    have n0 : X.s_0.heap.get? a = none := by
      cases e : X.s_0.heap.get? a with
      | none => rfl
      | some o =>
        obtain ⟨o', z⟩ := J.base.there a o e (by rw [hx]; exact fun z => nomatch z)
        rw [nI] at z
        cases z
    have np : ∀ p ∈ X.pn ++ pins, p.1 ≠ a := fun p hp z => by
      obtain ⟨e, _⟩ := J.pin p hp
      rw [z, nI] at e
      cases e
    have S3 := Inv_suite0 J3 a
    have go : ∀ {hd2 : List ExceptHandler} {l2 : List (Value × Nat × (Addr → TS))}, HdX X hd2 l2 → wX X.K Wout D l2 cls d σ' H' → wpAny (model X.prog X.w) X.A (handleBy (.ref a) X.env hd2) (SP X pins D) X.xe { s' with heap := h3 } := by
      intro hd2 l2 hk
      induction hk with
      | nil =>
        intro w
        refine wpAny_handleBy_nil ?_
        obtain ⟨k1, k2, k3, oe, vs, T, oT, ts', he, hz, hd, h1, hr⟩ := id fl3
        unfold PySem.passOn
        refine wpAny_bind (wpAny_field he hd h1 ?_)
        rw [if_neg (show ¬ ((Value.ref T == Value.none) = true) from by simp)]
        have fin : wpAny (model X.prog X.w) X.A (setFlight (.ref a) X.env.frame) (fun _ t4 => wpAny (model X.prog X.w) X.A (throw (.ref a) : Sem Flow) (SP X pins D) X.xe t4) X.xe { s' with heap := h3 } := by
          rw [hf]
          refine HandSPX.setFlight_upZ fl3 fun h4 hh4 up4 => wpAny_throw (tk _ _ ?_)
          exact ⟨a, B, sI, pins, σ', H', cls, d, rfl, J, nb, (up.trans up3).trans up4, .inr (.inr (hs ▸ hh4)), na, os, ag, w⟩
        first
          | exact wpAny_bind (wpAny_pure (wpAny_bind fin))
          | exact wpAny_bind fin
      | @cons x n c i ts b₀ su np' hp hds2 l3 hc hi hln hsu r ih =>
        intro w
        obtain ⟨b, hb1, hyes, hno⟩ := w
        refine wpAny_handleBy_cons (codeAny_handlers_test ?_) (by intro q; cases q)
        have LT : PySem.W.Looks (model X.prog X.w) h3 (typeOf (.ref a)) cls := fun A1 Q1 E1 t1 k q => wpAny_typeOf_ref (k _ _ he3) (by rw [hz3.1]; exact q)
        have LM := PySem.W.exm_one (M := model X.prog X.w) J3.kIn LT hb1
        have test : ∀ {Q1 : Value → Shared → Prop} {E1 : Value → Shared → Prop}, Q1 c { s' with heap := h3 } → wpAny (model X.prog X.w) (X.A.mark (some (.ref a))) (eval (.Name x np') X.env) Q1 E1 { s' with heap := h3 } := fun {Q1 E1} q => by
          obtain ⟨hg, hdb, hm | ⟨hm, hv, hnn⟩⟩ := hc
          · exact ld_glob (X := X.suite a (X.pn ++ pins)) S3 hg hm q hdb
          · exact ld_blt (X := X.suite a (X.pn ++ pins)) S3 hg hm hv q hnn hdb
        refine test (LM.here ?_)
        cases b with
        | true =>
          refine codeAny_handlers_suite_as ?_
          refine HandSPX.lands_againZ fl3 fun h4 fl4 up4 => ?_
          have J4 : Inv X pins σ' H' { s' with heap := h4 } := J.landed nb fl4.1 ((up.trans up3).trans up4) os ag
          obtain ⟨oe4, vs4, he4, hz4, hd4⟩ := fl4.there
          have S4 := Inv_suite0 (Inv_track (vs := vs4) J4 na he4 hz4 hd4 n0 nL np) a
          refine store_ok (X := X.suite a (X.pn ++ pins)) (v := .ref a) S4 hN hi (.inl hln) rfl (fun s5 S5 => ?_) (.inr hln)
          refine wpAny_mono ((hsu a (X.pn ++ pins)).run [] s5 _ _ (goneE i D) S5 (hyes rfl a na)) (fun f s6 hsp => ?_) (fun _ _ z => False.elim z)
          have fin : ∀ {σ6 : L2.St} {H6 : Hp} {Q1 : Shared → Prop}, Inv (X.suite a (X.pn ++ pins)) [] σ6 H6 s6 → (∀ s7, Inv X pins (σ6.set i none) H6 s7 → Q1 s7) →
              wpAny (model X.prog X.w) X.A (do bindName X.env n .none; unbindBehindTheSuite X.env n hp) (fun _ s7 => Q1 s7) X.xe s6 := fun {σ6 H6 Q1} S6 hq => gone_ok (Inv_unsuite0 S6 ok) hN hi hln hq
          cases f with
          | next =>
            obtain ⟨σ6, H6, S6, q6⟩ := hsp
            exact fin S6 fun s7 J7 => ⟨_, _, J7, q6⟩
          | brk =>
            obtain ⟨σ6, H6, S6, q6⟩ := hsp
            exact fin S6 fun s7 J7 => ⟨_, _, J7, q6⟩
          | cont =>
            obtain ⟨σ6, H6, S6, q6⟩ := hsp
            exact fin S6 fun s7 J7 => ⟨_, _, J7, q6⟩
          | ret u =>
            obtain ⟨v6, σ6, H6, S6, r6, q6⟩ := hsp
            exact fin S6 fun s7 J7 => ⟨_, _, _, J7, r6, q6⟩
        | false =>
          show wpAny _ X.A (handleBy (.ref a) X.env hds2) _ _ _
          exact ih (hno rfl)
    exact go hh w
  · cases f with
    | next =>
      obtain ⟨σ', H', J', q⟩ := hsp
      exact wpAny_execs_nil ⟨σ', H', J'.ofTry ok, q⟩
    | brk =>
      obtain ⟨σ', H', J', q⟩ := hsp
      exact ⟨σ', H', J'.ofTry ok, q⟩
    | cont =>
      obtain ⟨σ', H', J', q⟩ := hsp
      exact ⟨σ', H', J'.ofTry ok, q⟩
    | ret u =>
      obtain ⟨v, σ', H', J', r, q⟩ := hsp
      exact ⟨v, σ', H', J'.ofTry ok, r, q⟩
end
section
variable {X : Cx} {x : Str} {e : Expr} {es : List Expr} {ta : TA} {p pos : Pos}
theorem mk_endN {pins : List (Addr × Obj)} {σ : L2.St} {H1 H2 : Hp} {Q : XK} {hp hp2 h2 : Heap} {g1 g2 : Array GenState} {d1 d2 : Drawn} {t1 t2 : Nat} {os1 os2 : OsState} {a C d : Addr} {fs : List (Str × V)} (T : Raises X (.ref C)) (I1 : Inv X pins σ H1 ⟨hp, g1, d1, t1, os1⟩)
    (ha : hp.objs.size ≤ a) (k : ∀ b o, hp.get? b = some o → hp2.get? b = some o) (un : Un (frs X.stack) [] (upd H1 a (exo a C none)) H2 hp2 h2) (hok : HOk X.prog X.w H2 h2) (ho : os2 = os1) (hb : AllBare g2) (ea : H2 a = some (exo a C (some d))) (ed : H2 d = some (exd d fs)) (hd1 : H1 d = none) (q : Q (.ref C) (some d) (upd (del H2 a) d (.xd fs))) :
    L2N.MkP X pins σ Q (.ref a) ⟨h2, g2, d2, t2, os2⟩ := by
  have z := mk_end0 (t2 := t2) (d2 := d2) I1 ha k un hok ho hb ea ed hd1
  obtain ⟨tq, Gq, Jq, kq, nq, oq, aq⟩ := z
  refine ⟨a, _, _, ⟨Gq, g2, d2, t2, os2⟩, _, .ref C, some d, rfl, Jq, kq, nq, oq, ⟨rfl, rfl, fun vs hv => ?_⟩, rfl, rfl, aq, rfl, hb, T, q⟩
  cases hv
  rfl
theorem pmk_oexN {CX : CXT} {C fI : Addr} {k : Nat} {fd : FuncData} {ps : List Str} {sp : Sp} {ds : List Value} {dvs : List V} (T : OexC X.K C) (iC : PySem.W.findIn X.K (.ref C) "__init__" = some (some (.ref fI))) (tI : PySem.W.typeIn X.K (.ref fI) = some (.type "function"))
    (F1 : FnOk X.prog X.w X.K X.mg X.base CX k fI fd ps sp) (hr : Room (k + 1) X.A) (hb : Binds X.K fd ps ds) (hd : Vals dvs ds) (hx : Passes CX X (fun _ _ _ => False)) (hg : Gl X x) (hm : X.mg x = some (.ref C)) (ha : PA X (e :: es) ta)
    (hdb : (x == ("__debug__" : Str)) = false := by decide) (he : starEach (e :: es) X.env = (false, eval e X.env) :: starEach es X.env := by rfl) (hpl : (backTo pos (starEach es X.env)).any (·.1) = false := by rfl) : L2N.PMk X (.Call (.Name x p) (e :: es) [] pos) (tMkO C sp dvs ta) := by
  intro pins s0 σ H0 Qx I0 hq0
  obtain ⟨n0, q0, N0, b0, bm, s9, u0, a0, c0, d0, j0, j1, j2, j3, j5, hC, hbm⟩ := T.cls
  refine wpAny_Call_Name_kw (ld_glob I0 hg hm ?_ hdb)
  refine PySem.W.callWith_K (h₀ := X.base) I0.ok.mod.kin T.kC (thn (ha.run pos pins s0 σ H0 _ I0 hq0) fun as s1 ⟨vs, H1, I1, r1, hz, q1⟩ => ⟨I1.kIn, ?_⟩) he hpl
  show wpAny _ _ (call (.ref C) as) _ _ _
  obtain ⟨hp, gg, dr, tt, os⟩ := s1
  have big := Nat.le_succ hp.objs.size
  have hq := q1 (hp.objs.size + 1) (I1.hok.fresh big)
  have kk : ∀ c o, hp.get? c = some o → ((hp.push (PySem.W.kdv_tup as)).push (PySem.HandSPX.excO C hp.objs.size)).get? c = some o := fun c o z => Heap.get?_push_of_some _ (Heap.get?_push_of_some _ z)
  have hg2 : ((hp.push (PySem.W.kdv_tup as)).push (PySem.HandSPX.excO C hp.objs.size)).get? (hp.objs.size + 1) = some (PySem.HandSPX.excO C hp.objs.size) := by heap_get
  have I2 : Inv X pins σ (upd H1 (hp.objs.size + 1) (exo (hp.objs.size + 1) C none)) ⟨(hp.push (PySem.W.kdv_tup as)).push (PySem.HandSPX.excO C hp.objs.size), gg, dr, tt, os⟩ :=
    I1.laid (h' := (hp.push (PySem.W.kdv_tup as)).push (PySem.HandSPX.excO C hp.objs.size)) (o := exo (hp.objs.size + 1) C none) (a := hp.objs.size + 1) (t' := tt) kk big (exo_ok hg2)
  have rr2 : Vals (V.ref (hp.objs.size + 1) :: (vs ++ dvs)) (Value.ref (hp.objs.size + 1) :: (as ++ ds)) := .cons rfl (r1.append hd)
  have ln : (Value.ref (hp.objs.size + 1) :: as ++ ds).length = ps.length := by
    have z := rr2.length
    rw [F1.len _ _ _ _ hq] at z
    exact z.symm
  have few : as.length ≤ sizeLine := by
    rw [← Paired.length r1, sizeLine_eq]
    omega
  refine wpAny_call (PySem.HandSPX.call_own F.excBase_ValueError (fun Y => PySem.HandSPX.refsVE_contains Y bm hbm) (I1.kIn _ _ hC) (PySem.W.looks_findIn I1.kIn iC) (fun y => PySem.W.bind_fn I1.kIn y tI) few
    (codeAny_mono (F1.run _ X.stack _ _ ⟨Value.ref (hp.objs.size + 1) :: as, []⟩ (Value.ref (hp.objs.size + 1) :: (as ++ ds)) _ _ (fun _ _ _ => False) (hr.make C as []) (I2.env0.make C as []) (hb _ (Value.ref (hp.objs.size + 1) :: as) I2.kIn ln) rr2 hq) fun rr s3 hq3 => ?_))
  cases rr with
  | error er => exact hx pins σ _ _ er s3 I2 hq3
  | ok fl =>
    cases fl with
    | ret u =>
      obtain ⟨v, H3, os3, bare3, un3, hok3, rv, ev, d, fs, ea, ed, hd1, q3⟩ := hq3
      subst ev
      obtain ⟨h3, g3, d3, t3, o3⟩ := s3
      exact ⟨rv, mk_endN (raises_own T.exC T.tyC) I1 big kk un3 hok3 os3 bare3 ea ed hd1 q3⟩
    | next => exact hq3.elim
    | brk => exact hq3.elim
    | cont => exact hq3.elim
end
end VL
set_option Elab.async false
set_option linter.all false
set_option maxRecDepth 100000
set_option autoImplicit false
set_option Elab.async false
set_option linter.all false
set_option maxRecDepth 100000
set_option autoImplicit false
set_option Elab.async false
set_option linter.all false
set_option maxRecDepth 100000
set_option autoImplicit false
namespace VL
open PySem PySem.Spec L2
open PyProof.Rows hiding St
theorem exn_look {K : PySem.W.Frag} {F : Hp} {f : Str} {d : D} : ∀ {vs : List (Str × V)} {fs : List (Str × D)}, vs.map (·.1) = fs.map (·.1) → Reps K F (vs.map (·.2)) (fs.map (·.2)) → fs.lookup f = some d → ∃ v, vs.lookup f = some v ∧ Rep K F v d
  | [], [], _, _, h => by simp at h
  | [], _ :: _, h, _, _ => by simp at h
  | _ :: _, [], h, _, _ => by simp at h
  | (a, v) :: vs, (b, e) :: fs, h, r, l => by
    simp only [List.map_cons, List.cons.injEq] at h r
    obtain ⟨rfl, h2⟩ := h
    cases r with
    | cons r1 r2 =>
      rw [List.lookup_cons] at l ⊢
      cases hb : f == a with
      | true =>
        rw [hb] at l
        cases l
        exact ⟨v, rfl, r1⟩
      | false =>
        rw [hb] at l
        exact exn_look h2 r2 l
def fldX (cs : List Str) (f : Str) : D → Option D
  | .exn c fs => if cs.contains c then fs.lookup f else none
  | _ => none
def tXg (K : PySem.W.Frag) (f : Str) (te : TE) : TE := fun σ H Q => te σ H fun x H1 => ∃ (a C dd : Addr) (fs : List (Str × V)) (v : V), x = .ref a ∧ H1 a = some (xO (.ref C) (some dd) a) ∧ XfC K C ∧ PySem.W.findIn K (.ref C) f = some none ∧ H1 dd = some (.xd fs) ∧ fs.lookup f = some v ∧ Q v H1
theorem pe_xg {X : Cx} {e : Expr} {te : TE} {pos : Pos} {n : Str} (he : PE X e te) (hb : attributeBase e n X.env (eval e X.env) = eval e X.env := by rfl) : PE X (.Attribute e n pos) (tXg X.K n te) := by
  refine ⟨fun pins s σ H Q I h => attr_of hb (thn (he.run pins s σ H _ I h) fun u s1 hh => ?_)⟩
  obtain ⟨x, H1, I1, rx, a, C, dd, fs, v, ex, ea, T, hno, ed, l, q⟩ := hh
  subst ex
  obtain rfl : u = Value.ref a := rx
  obtain ⟨oe, vs, ha, hz, hd⟩ := xO_at I1.hok ea
  obtain ⟨mA, hns, hr⟩ := show ObjOk X.prog X.w H1 s1.heap dd (.xd fs) from I1.hok dd _ ed
  obtain ⟨od, ho, hl⟩ := lookIn_ns hns
  obtain ⟨u, hu, ru⟩ := RelO.some_of (v := v) (o := mA n) (by rw [← l]; exact hr n)
  have J : PySem.W.InstAt s1.heap a oe C (some od) := ⟨ha, hz.1, by unfold PySem.W.notCls; rw [hd] <;> rfl, by rw [hz.2.1]; exact ho⟩
  exact HandSPX.exc_get I1.kIn J T.ga T.gg T.exC (PySem.W.findObj_own T.hdC hno rfl (by rw [hl, hu])) (handed_of ru) ⟨v, H1, I1.tok _, ru, q⟩
theorem ev_xfld {X : Cx} {G : Gd} {W : WX} {ρ : Rho} {e : Expr} {m : Rs D} {pos : Pos} {f : Str} {cs : List Str} (hT : ∀ c ∈ cs, XfC X.K (He.ga X.K c) ∧ PySem.W.findIn X.K (.ref (He.ga X.K c)) f = some none) (he : EV X G W ρ e m) (hb : attributeBase e f X.env (eval e X.env) = eval e X.env := by rfl) :
    EV X G W ρ (.Attribute e f pos) (m.bind fun d => Rs.of (fldX cs f d)) := by
  obtain ⟨t, pe, q⟩ := he
  refine ⟨_, pe_xg pe hb, fun F0 σ F H Q hh hp => ?_⟩
  refine q F0 σ F H _ hh (hp.bind fun d v F' H' e1 r1 hp1 => ?_)
  obtain ⟨d2, hd, k⟩ := hp1.of
  unfold fldX at hd
  split at hd
  · split at hd
    · rename_i hc
      cases r1 with
      | exn g1 g2 g3 g4 =>
        obtain ⟨v2, l2, r2⟩ := exn_look g3 g4 hd
        obtain ⟨T, hno⟩ := hT _ (List.contains_iff_mem.mp hc)
        exact ⟨_, _, _, _, v2, rfl, e1.sub _ _ g1, T, hno, e1.sub _ _ g2, l2, k _ F' H' (Ext.refl e1.sub) r2⟩
    · cases hd
  · cases hd
end VL
set_option Elab.async false
set_option linter.all false
set_option maxRecDepth 100000
set_option autoImplicit false
namespace VL
open PySem PySem.Spec L2
open PyProof.Rows hiding St
def spX (K : PySem.W.Frag) (c f : Str) : Sp := fun vs H Q E => ∃ (a : Addr) (v : V), vs = [.ref a, v] ∧ H a = some (exo a (He.ga K c) none) ∧ ∀ dx, H dx = none → dx ≠ a → Q .non (upd (upd H dx (exd dx [(f, v)])) a (exo a (He.ga K c) (some dx)))
theorem keeps_xinit {P : Program} {w : World} {K : PySem.W.Frag} {mg : Str → Option Value} {base : Heap} {x qual : Str} {params : Arguments} {body : List Stmt} {scope : Scope} {dvs : List V} {kws : List (Str × V)} {fa : Addr} {fd : FuncData} {k : Nat} {c sn pn f : Str} {spos apos ppos pos : Pos}
    (Fd : FunD K x qual params body scope dvs kws fa fd) (S : FnScope [sn, pn] [sn, pn] scope) (hbody : body = [.Assign [.Attribute (.Name sn spos) f apos] (.Name pn ppos) pos]) (hs1 : Vis scope sn) (hs2 : Vis scope pn) (hd1 : (sn == ("__debug__" : Str)) = false) (hd2 : (pn == ("__debug__" : Str)) = false) (hd3 : (sn == ("__classdict__" : Str)) = false) (hd4 : (pn == ("__classdict__" : Str)) = false) (T : OexC K (He.ga K c)) (hno : PySem.W.findIn K (.ref (He.ga K c)) f = some none) :
    FnOk P w K mg base (L2N.CX P w) (k + 1) fa fd [sn, pn] (spX K c f) := by
  subst hbody
  refine Fd.ok S (fun vs H Q E h => ?_) (fun cdv A outer s H vs Q E hr h => ?_)
  · obtain ⟨a, v, rfl, _⟩ := h
    rfl
  · obtain ⟨a, v, rfl, he, q⟩ := h
    refine ⟨_, pss_one (ps_ost (pe_var (i := 0) rfl hs1 hd1 hd3) (pe_var (i := 1) rfl hs2 hd2 hd4)), ?_⟩
    exact ⟨v, rfl, .ref a, rfl, a, He.ga K c, rfl, T, hno, .inl ⟨he, fun dx n1 n2 => q dx n1 n2⟩⟩
theorem bk_raiseX {CX : CXT} {X : Cx} {G : Gd} {W : WX} {ρx ρ : Rho} {rest : List Stmt} {α β : Type} {pn : α → Rho} {pl : β → Rho} {c f sn pnm : Str} {e : Expr} {m : Rs D} {p pos pos2 : Pos} {fI : Addr} {fd : FuncData} {k : Nat} (calm : X.calm = true) (tk : L2N.Takes X W) (T : OexC X.K (He.ga X.K c))
    (iC : PySem.W.findIn X.K (.ref (He.ga X.K c)) "__init__" = some (some (.ref fI))) (tI : PySem.W.typeIn X.K (.ref fI) = some (.type "function")) (F1 : FnOk X.prog X.w X.K X.mg X.base CX k fI fd [sn, pnm] (spX X.K c f)) (hr : Room (k + 1) X.A) (hb : Binds X.K fd [sn, pnm] []) (hx : Passes CX X (fun _ _ _ => False))
    (hg : Gl X c) (hm : X.mg c = some (.ref (He.ga X.K c))) (he : EV X G W ρ e m) (wx : Wk ρ ρx := by first | exact Wk.nil | exact Wk.refl | (repeat (first | exact Wk.nil | apply Wk.keep | apply Wk.drop))) (hdb : (c == ("__debug__" : Str)) = false := by decide) (hs : starEach [e] X.env = (false, eval e X.env) :: starEach [] X.env := by rfl) :
    BK X G W ρx ρ (.Raise (some (.Call (.Name c p) [e] [] pos)) none pos2 :: rest) pn pl (m.bind fun d => (.ex c [(f, d)] : Rs (Fl α β))) := by
  obtain ⟨te, pe, q⟩ := he
  intro F0 σ F H E hh hp
  refine any_cons (L2N.ps_raise calm tk (pmk_oexN T iC tI F1 hr hb .nil hx hg hm (pa_cons pe pa_nil hs) hdb hs)) (q F0 σ F H _ hh (post_seq hh wx hp fun d v F' H' e1 r1 hp1 => ?_))
  refine ⟨by show 1 ≤ 1000; decide, fun a na => ⟨a, v, rfl, upd_same, fun dx n1 n2 => ⟨rfl, dx, [(f, v)], upd_same, by rw [upd_ne n2, upd_same], by rwa [upd_ne n2] at n1, ?_⟩⟩⟩
  have nd : H' dx = none := by rwa [upd_ne n2] at n1
  have eH : upd (del (upd (upd (upd H' a (exo a (He.ga X.K c) none)) dx (exd dx [(f, v)])) a (exo a (He.ga X.K c) (some dx))) a) dx (.xd [(f, v)]) = upd H' dx (.xd [(f, v)]) := by
    funext b
    by_cases h1 : b = dx
    · subst h1; rw [upd_same, upd_same]
    · rw [upd_ne h1, upd_ne h1]
      by_cases h2 : b = a
      · subst h2; rw [del_same, na]
      · rw [del_ne h2, upd_ne h2, upd_ne h1, upd_ne h2]
  rw [eH]
  have e2 := Ext.fresh e1.sub (.xd [(f, v)]) nd
  exact hp1 dx σ _ _ ((hh.more (e1.trans e2)).weak wx) ⟨[(f, v)], upd_same, rfl, .cons (r1.mono e2.ext) .nil⟩
end VL
set_option Elab.async false
set_option linter.all false
set_option maxRecDepth 100000
set_option autoImplicit false
namespace VL
open PySem PySem.Spec L2 HotX
open PyProof.Rows hiding St
def HotH (a : Addr) (F : Hp) : Prop := ∃ (cls : Value) (d : Option Addr), F a = some (xO cls d a)
theorem HotH.at {X : Cx} {pins : List (Addr × Obj)} {σ : L2.St} {H : Hp} {s : Shared} {a : Addr} (h : HotH a H) (hA : X.A.handled = some (.ref a)) (I : Inv X pins σ H s) : HotAt X.A a s.heap := by
  obtain ⟨cls, d, e⟩ := h
  obtain ⟨oe, vs, he, hz, hd⟩ := xO_at I.hok e
  exact ⟨hA, oe, vs, he, hd, hz.2.2 vs hd⟩
section
variable {X : Cx} {G : Gd} {W : WX} {ρx ρ : Rho} {rest sts : List Stmt} {α β R : Type} {pn : α → Rho} {pl : β → Rho} {ι : R → Fl α β}
def BKh (X : Cx) (a : Addr) (G : Gd) (W : WX) (ρx ρ : Rho) (sts : List Stmt) (pn : α → Rho) (pl : β → Rho) (m : Rs (Fl α β)) : Prop :=
  ∀ F0 σ F H E, HotH a F → Holds X.K (G.at F0) ρ σ F H → PostS X.K (G.at F0) W ρx pn pl E m → tAny X sts E σ H
theorem BK.h {a : Addr} {m : Rs (Fl α β)} (h : BK X G W ρx ρ sts pn pl m) : BKh X a G W ρx ρ sts pn pl m := fun F0 σ F H E _ hh hp => h F0 σ F H E hh hp
def BIh (X : Cx) (a : Addr) (G : Gd) (W : WX) (ρx ρ : Rho) (sts : List Stmt) (pn : α → Rho) (pl : β → Rho) (ι : R → Fl α β) (m : Rs R) : Prop := BKh X a G W ρx ρ sts pn pl (m.bind fun r => .ok (ι r))
theorem BI.h {a : Addr} {m : Rs R} (h : BI X G W ρx ρ sts pn pl ι m) : BIh X a G W ρx ρ sts pn pl ι m := BK.h h
end
end VL
set_option Elab.async false
set_option linter.all false
set_option maxRecDepth 100000
set_option autoImplicit false
namespace VL
open PySem PySem.Spec L2
open PyProof.Rows hiding St
def catchM {γ : Type} : List ((Str → Option Bool) × (Str → List (Str × D) → Rs γ)) → Str → List (Str × D) → Rs γ
  | [], c, fs => .ex c fs
  | (mt, ms) :: r, c, fs => match mt c with
    | some true => ms c fs
    | some false => catchM r c fs
    | none => .no
def Rs.tryM {γ : Type} (m : Rs γ) (l : List ((Str → Option Bool) × (Str → List (Str × D) → Rs γ))) : Rs γ := match m with
  | .ok z => .ok z
  | .no => .no
  | .ex c fs => catchM l c fs
theorem gone_set {K : PySem.W.Frag} {G : Gd} {ρ : Rho} {σ : L2.St} {F H : Hp} {i : Nat} (h : Holds K G ρ σ F H) (hi : ∀ c, ρ[i]? ≠ some (some c)) : Holds K G ρ (σ.set i none) F H := by
  have e : ∀ j c, ρ[j]? = some (some c) → (σ.set i none)[j]? = σ[j]? := fun j c q => by
    rw [List.getElem?_set_ne]
    intro z
    subst z
    exact hi c q
  exact ⟨h.toGnd, fun j d q => by rw [e j _ q]; exact h.val j d q, fun j l d q => by rw [e j _ q]; exact h.own j l d q, fun j k l m d f a n q q2 s1 s2 => h.sep j k l m d f a n q q2 (by rw [← e j _ q]; exact s1) (by rw [← e k _ q2]; exact s2), by rw [List.length_set]; exact h.len⟩
section
variable {X : Cx} {G : Gd} {W : WX} {ρx ρb ρ : Rho} {α β γ : Type} {pn : α → Rho} {pl : β → Rho} {p1 : γ → Rho}
inductive Cls (X : Cx) (G : Gd) (W : WX) (ρx ρb : Rho) (p1 : γ → Rho) (pl : β → Rho) : List ExceptHandler → List ((Str → Option Bool) × (Str → List (Str × D) → Rs (Fl γ β))) → Prop
  | nil : Cls X G W ρx ρb p1 pl [] []
  | cons {x n : Str} {c : Value} {i : Nat} {b₀ : Stmt} {su : List Stmt} {np hp : Pos} {hds : List ExceptHandler} {mt : Str → Option Bool} {ms : Str → List (Str × D) → Rs (Fl γ β)} {l : List ((Str → Option Bool) × (Str → List (Str × D) → Rs (Fl γ β)))}
      (hc : Names X x c) (hi : X.N[i]? = some n) (hln : X.env.kindOf n = some .local) (hib : i < ρb.length) (hp1 : ∀ z cc, (p1 z)[i]? ≠ some (some cc)) (hpl : ∀ z cc, (pl z)[i]? ≠ some (some cc)) (hmt : ∀ cc b, mt cc = some b → PySem.W.exmOne X.K (.ref (He.ga X.K cc)) c = some b)
      (hs : ∀ (a : Addr) (qn : List (Addr × Obj)) (cc : Str) (fs : List (Str × D)), BKh (X.suite a qn) a G W ρx (ρb.set i (some (.val (.exn cc fs)))) (b₀ :: su) p1 pl (ms cc fs)) (r : Cls X G W ρx ρb p1 pl hds l) :
      Cls X G W ρx ρb p1 pl (.ExceptHandler (some (.Name x np)) (some n) (b₀ :: su) hp :: hds) ((mt, ms) :: l)
theorem Cls.reads {hds : List ExceptHandler} {l : List ((Str → Option Bool) × (Str → List (Str × D) → Rs (Fl γ β)))} (h : Cls X G W ρx ρb p1 pl hds l) : ∃ l2 : List (Value × Nat × (Addr → TS)), HdX X hds l2 ∧
    ∀ (F0 : Hp) (D0 : Ends) (c : Str) (fs : List (Str × D)) (dd : Addr) (σ : L2.St) (F H : Hp), Holds X.K (G.at F0) ρb σ F H → XRep X.K F dd fs → PostS X.K (G.at F0) W ρx p1 pl D0 (catchM l c fs) →
      (∀ σ' F' H', Holds X.K (G.at F0) ρb σ' F' H' → Holds X.K (G.at F0) ρx σ' F' H') → wX X.K W D0 l2 (.ref (He.ga X.K c)) (some dd) σ H := by
  induction h with
  | nil => exact ⟨[], .nil, fun F0 D0 c fs dd σ F H hh hx hp wk => hp dd σ F H (wk _ _ _ hh) hx⟩
  | @cons x n c i b₀ su np hp hds mt ms l hc hi hln hib hp1 hpl hmt hs r ih =>
    obtain ⟨l2, h2, k2⟩ := ih
    refine ⟨(c, i, fun a E σ H => ∀ (qn : List (Addr × Obj)), tAny (X.suite a qn) (b₀ :: su) E σ H) :: l2, .cons hc hi hln (fun a qn => ⟨fun pins s σ H E I h => (h qn).elim fun _ z => z.1.run pins s σ H E I z.2⟩) h2, ?_⟩
    intro F0 D0 cc fs dd σ F H hh hx hpo wk
    unfold catchM at hpo
    cases hm : mt cc with
    | none => rw [hm] at hpo; exact hpo.elim
    | some b =>
      rw [hm] at hpo
      refine ⟨b, hmt cc b hm, fun hb => ?_, fun hb => ?_⟩
      · subst hb
        intro a na qn
        have e2 := Ext.fresh hh.sub (xO (.ref (He.ga X.K cc)) (some dd) a) na
        obtain ⟨vs, x1, x2, x3⟩ := hx
        have hr : Rep X.K (upd F a (xO (.ref (He.ga X.K cc)) (some dd) a)) (.ref a) (.exn cc fs) := .exn upd_same (e2.ext _ _ x1) x2 (x3.mono e2.ext)
        refine hs a qn cc fs F0 _ _ _ _ (show HotH a (upd F a (xO (.ref (He.ga X.K cc)) (some dd) a)) from ⟨_, _, upd_same⟩) ((hh.more e2).setV hr hib) ?_
        cases hq : ms cc fs with
        | no => rw [hq] at hpo; exact hpo
        | ex c2 f2 => rw [hq] at hpo; exact hpo
        | ok fl =>
          rw [hq] at hpo
          cases fl with
          | nx z => exact fun σ' F' H' h' => hpo _ F' H' (gone_set h' (hp1 z))
          | bk y => exact fun σ' F' H' h' => hpo _ F' H' (gone_set h' (hpl y))
          | ct y => exact fun σ' F' H' h' => hpo _ F' H' (gone_set h' (hpl y))
          | rt d s => exact hpo
      · subst hb
        exact k2 F0 D0 cc fs dd σ F H hh hx hpo wk
theorem bk_try {body rest : List Stmt} {h₀ : ExceptHandler} {hds : List ExceptHandler} {pos : Pos} {l : List ((Str → Option Bool) × (Str → List (Str × D) → Rs (Fl γ β)))} {mb : Rs (Fl γ β)} {f : γ → Rs (Fl α β)}
    (hst : X.stack = X.env :: X.outer) (hf : X.env.frame = some X.env.locals) (hN : X.N.Nodup) (hx : X.ex = []) (tk : L2N.Takes X W)
    (hb : ∀ (W' : WX) (qn : List (Addr × Obj)) (xe : Value → Shared → Prop), L2N.Takes (X.tr qn xe) W' → PassesOwn (model X.prog X.w) X.A X.env xe → BK (X.tr qn xe) G W' ρb ρ body p1 pl mb)
    (hc : Cls X G W ρx ρb p1 pl (h₀ :: hds) l) (wb : Wk ρb ρx) (hr : ∀ z, BK X G W ρx (p1 z) rest pn pl (f z)) :
    BK X G W ρx ρ (.Try body (h₀ :: hds) [] [] pos :: rest) pn pl ((mb.tryM l).bind (Fl.andThen f)) := by
  obtain ⟨l2, hh2, k2⟩ := hc.reads
  intro F0 σ F H E hh hp
  refine any_cons (ps_tryX (tb := fun W' D σ H => ∀ (qn : List (Addr × Obj)) (xe : Value → Shared → Prop), L2N.Takes (X.tr qn xe) W' → PassesOwn (model X.prog X.w) X.A X.env xe → tAny (X.tr qn xe) body D σ H) hst hf hN hx tk
    (fun W' qn xe t1 t2 => ⟨fun pins s σ H D I h => (h qn xe t1 t2).elim fun _ z => z.1.run pins s σ H D I z.2⟩) hh2) ?_
  intro qn xe t1 t2
  refine hb _ qn xe t1 t2 F0 σ F H _ hh ?_
  have seq : ∀ fl : Rs (Fl γ β), PostS X.K (G.at F0) W ρx pn pl E (fl.bind (Fl.andThen f)) → PostS X.K (G.at F0) W ρx p1 pl { nx := fun σ H => tAny X rest E σ H, rt := E.rt, bk := E.bk, ct := E.ct } fl := fun fl q => by
    cases fl with
    | no => exact q
    | ex c fs => exact q
    | ok fl =>
      cases fl with
      | nx z => exact fun σ' F' H' h' => hr z F0 σ' F' H' E h' q
      | bk y => exact q
      | ct y => exact q
      | rt d s => exact q
  cases mb with
  | no => exact hp
  | ok fl =>
    have := seq (.ok fl) hp
    cases fl <;> exact this
  | ex c fs =>
    intro dd σ' F' H' h' hx'
    exact k2 F0 _ c fs dd σ' F' H' h' hx' (seq _ hp) fun _ _ _ z => z.weak wb
end
end VL
set_option Elab.async false
set_option linter.all false
set_option maxRecDepth 100000
set_option autoImplicit false
namespace VL
open PySem PySem.Spec L2
open PyProof.Rows hiding St
structure ExI (K : PySem.W.Frag) (C : Addr) : Prop where
  cl : (PySem.W.clsIn K C).isSome = true
  ga : PySem.W.findIn K (.ref C) "__getattribute__" = some (some (.builtin "BaseException.__getattribute__"))
  gg : PySem.W.findIn K (.ref C) "__getattr__" = some none
  sb : PySem.W.subIn K (.ref C) (.type "BaseException") = some true
  ca : PySem.W.findIn K (.ref C) "__class__" = some (some (.builtin "object.__class__"))
  sp : PySem.W.specialIn K (.builtin "object.__class__") "__get__" = some (some (.builtin "getset_descriptor.__get__"))
  tk : PySem.W.takesIn K (.builtin "object.__class__") = some true
  mr : PySem.W.mroIn K C (.type "object") = some true
def exiB (C : PySem.W.Frag → Addr) : PySem.W.Frag → Bool := fun K => (PySem.W.clsIn K (C K)).isSome && (decide (PySem.W.findIn K (.ref (C K)) "__getattribute__" = some (some (.builtin "BaseException.__getattribute__"))) && (decide (PySem.W.findIn K (.ref (C K)) "__getattr__" = some none) && (decide (PySem.W.subIn K (.ref (C K)) (.type "BaseException") = some true) &&
  (decide (PySem.W.findIn K (.ref (C K)) "__class__" = some (some (.builtin "object.__class__"))) && (decide (PySem.W.specialIn K (.builtin "object.__class__") "__get__" = some (some (.builtin "getset_descriptor.__get__"))) && (decide (PySem.W.takesIn K (.builtin "object.__class__") = some true) && decide (PySem.W.mroIn K (C K) (.type "object") = some true)))))))
theorem exiB_ok {C : PySem.W.Frag → Addr} {K : PySem.W.Frag} (h : exiB C K = true) : ExI K (C K) := by
  obtain ⟨h1, h⟩ := He.ba h
  obtain ⟨h2, h⟩ := He.ba h
  obtain ⟨h3, h⟩ := He.ba h
  obtain ⟨h4, h⟩ := He.ba h
  obtain ⟨h5, h⟩ := He.ba h
  obtain ⟨h6, h⟩ := He.ba h
  obtain ⟨h7, h8⟩ := He.ba h
  exact ⟨h1, of_decide_eq_true h2, of_decide_eq_true h3, of_decide_eq_true h4, of_decide_eq_true h5, of_decide_eq_true h6, of_decide_eq_true h7, of_decide_eq_true h8⟩
def rIsiX (K : PySem.W.Frag) : List V → Hp → VK → Prop := fun xs H Q => ∃ (a C dd : Addr) (fs : List (Str × V)) (c : V) (u : Value) (b : Bool), xs = [.ref a, c] ∧ ClsV c u ∧ H a = some (xO (.ref C) (some dd) a) ∧ H dd = some (.xd fs) ∧ ExI K C ∧ PySem.W.kitOne K (.ref C) u = some b ∧ Q (.bl b) H
theorem call_isiX {X : Cx} : CallR X (.builtin "isinstance") (rIsiX X.K) := by
  intro pins s σ H xs us Q I r h
  obtain ⟨a, C, dd, fs, c, u, b, rfl, k, ea, ed, T, e, q⟩ := h
  obtain ⟨u1, u2, rfl, r1, r2⟩ := vals2 r
  have e2 := k.eq r2
  subst e2
  cases (show u1 = Value.ref a from r1)
  obtain ⟨oe, vs, ha, hz, hd⟩ := xO_at I.hok ea
  obtain ⟨mA, hns, hr⟩ := show ObjOk X.prog X.w H s.heap dd (.xd fs) from I.hok dd _ ed
  obtain ⟨od, ho, hl⟩ := lookIn_ns hns
  have J : PySem.W.InstAt s.heap a oe C (some od) := ⟨ha, hz.1, by unfold PySem.W.notCls; rw [hd] <;> rfl, by rw [hz.2.1]; exact ho⟩
  exact PySem.W.kia_one (PySem.W.kitx_exc T.cl T.ga T.gg T.sb T.ca T.sp T.tk T.mr) I.kIn J e (fun z => nomatch z) fun tk => ⟨.bl b, H, I.tok tk, rfl, q⟩
def isxD (tab : List (Str × Bool)) (nb : Option Bool) : D → Option D
  | .exn c _ => (tab.lookup c).map .bl
  | .non => nb.map .bl
  | _ => none
section
variable {X : Cx} {G : Gd} {W : WX} {ρ : Rho} {a : Expr} {ma : Rs D} {p p2 pos : Pos}
theorem CallR.or2 {X : Cx} {f : Value} {r1 r2 : List V → Hp → VK → Prop} (h1 : CallR X f r1) (h2 : CallR X f r2) : CallR X f (fun xs H Q => r1 xs H Q ∨ r2 xs H Q) := by
  intro pins s σ H xs us Q I r h
  rcases h with h | h
  · exact h1 _ _ _ _ _ _ _ I r h
  · exact h2 _ _ _ _ _ _ _ I r h
theorem ev_isx {tn : Str} {tab : List (Str × Bool)} {nb : Option Bool} {c : V} {u : Value} (hk : ClsV c u) (hc : PE X (.Name tn p2) (tC c)) (hm : X.mg "isinstance" = none) (ht : ∀ x ∈ tab, ExI X.K (He.ga X.K x.1) ∧ PySem.W.kitOne X.K (.ref (He.ga X.K x.1)) u = some x.2) (hn : ∀ b, nb = some b → PySem.W.kitOne X.K (.type "NoneType") u = some b) (ha : EV X G W ρ a ma) (hg : Gl X "isinstance" := by rfl)
    (hs : starEach [a, .Name tn p2] X.env = (false, eval a X.env) :: starEach [.Name tn p2] X.env := by rfl) (hs2 : starEach [.Name tn p2] X.env = (false, eval (.Name tn p2) X.env) :: starEach [] X.env := by rfl) (hpl : (backTo pos (starEach [.Name tn p2] X.env)).any (·.1) = false := by rfl) :
    EV X G W ρ (.Call (.Name "isinstance" p) [a, .Name tn p2] [] pos) (ma.bind fun x => Rs.of (isxD tab nb x)) := by
  obtain ⟨ta, pa, qa⟩ := ha
  refine ⟨_, pe_callB (CallR.or2 call_isiX call_isi) hg hm boot_isinstance (pa_cons pa (pa_cons hc pa_nil hs2) hs) (by decide) (by decide) hs hpl, fun F0 σ F H Q hh hp => ?_⟩
  refine qa F0 σ F H _ hh (hp.bind fun dx x F1 H1 e1 r1 hp1 => ?_)
  obtain ⟨d, hd, k⟩ := hp1.of
  cases r1 with
  | @exn a dd c' vs fs g1 g2 g3 g4 =>
    cases hl : tab.lookup c' with
    | none => rw [show isxD tab nb (.exn c' fs) = (tab.lookup c').map D.bl from rfl, hl] at hd; cases hd
    | some b =>
      rw [show isxD tab nb (.exn c' fs) = (tab.lookup c').map D.bl from rfl, hl] at hd
      cases hd
      have hmem : (c', b) ∈ tab := by
        clear ht hp hp1 k
        induction tab with
        | nil => cases hl
        | cons y t ih =>
          obtain ⟨y1, y2⟩ := y
          rw [List.lookup_cons] at hl
          cases hb : c' == y1 with
          | true =>
            rw [hb] at hl
            cases hl
            have := eq_of_beq hb
            subst this
            exact List.mem_cons_self
          | false =>
            rw [hb] at hl
            exact List.mem_cons_of_mem _ (ih hl)
      obtain ⟨T, hq⟩ := ht _ hmem
      exact .inl ⟨a, _, dd, vs, c, u, b, rfl, hk, e1.sub _ _ g1, e1.sub _ _ g2, T, hq, k _ F1 H1 (Ext.refl e1.sub) (.bl b)⟩
  | non =>
    cases hb : nb with
    | none => rw [show isxD tab nb .non = nb.map D.bl from rfl, hb] at hd; cases hd
    | some b =>
      rw [show isxD tab nb .non = nb.map D.bl from rfl, hb] at hd
      cases hd
      exact .inr ⟨.non, c, .type "NoneType", u, b, rfl, hk, .base .non, hn b hb, k _ F1 H1 (Ext.refl e1.sub) (.bl b)⟩
  | _ => cases hd
end
theorem all_nil {α : Type} {p : α → Prop} : ∀ x ∈ ([] : List α), p x := fun _ h => nomatch h
theorem all_cons {α : Type} {p : α → Prop} {a : α} {l : List α} (h : p a) (t : ∀ x ∈ l, p x) : ∀ x ∈ a :: l, p x := List.forall_mem_cons.mpr ⟨h, t⟩
theorem lookup_mem {α : Type} : ∀ {tab : List (Str × α)} {c : Str} {b : α}, tab.lookup c = some b → (c, b) ∈ tab
  | [], _, _, h => nomatch h
  | (y, z) :: t, c, b, h => by
    rw [List.lookup_cons] at h
    cases hb : c == y with
    | true =>
      rw [hb] at h
      cases h
      have := eq_of_beq hb
      subst this
      exact List.mem_cons_self
    | false =>
      rw [hb] at h
      exact List.mem_cons_of_mem _ (lookup_mem h)
theorem mt_of {K : PySem.W.Frag} {c : Value} {tab : List (Str × Bool)} (h : ∀ x ∈ tab, PySem.W.exmOne K (.ref (He.ga K x.1)) c = some x.2) : ∀ cc b, List.lookup cc tab = some b → PySem.W.exmOne K (.ref (He.ga K cc)) c = some b := fun cc b e => h _ (lookup_mem e)
theorem passes_no {P : Program} {w : World} {X : Cx} : Passes (L2N.CX P w) X (fun _ _ _ => False) := fun pins σ H s e s' I h => by
  obtain ⟨_, _, _, _, _, _, _, _, _, _, _, _, z⟩ := h
  exact z.elim
section
variable {X : Cx} {G : Gd} {W : WX} {ρx ρ : Rho} {rest sts : List Stmt} {α β R : Type} {pn : α → Rho} {pl : β → Rho} {ι : R → Fl α β}
theorem bi_raiseX {P : Program} {w : World} {c f sn pnm : Str} {e : Expr} {m : Rs D} {p pos pos2 : Pos} {fI : Addr} {fd : FuncData} {k : Nat} (calm : X.calm = true) (tk : L2N.Takes X W) (T : OexC X.K (He.ga X.K c))
    (iC : PySem.W.findIn X.K (.ref (He.ga X.K c)) "__init__" = some (some (.ref fI))) (tI : PySem.W.typeIn X.K (.ref fI) = some (.type "function")) (F1 : FnOk X.prog X.w X.K X.mg X.base (L2N.CX P w) k fI fd [sn, pnm] (spX X.K c f)) (hr : Room (k + 1) X.A) (hb : Binds X.K fd [sn, pnm] [])
    (hg : Gl X c) (hm : X.mg c = some (.ref (He.ga X.K c))) (he : EV X G W ρ e m) (wx : Wk ρ ρx := by first | exact Wk.nil | exact Wk.refl | (repeat (first | exact Wk.nil | apply Wk.keep | apply Wk.drop))) (hdb : (c == ("__debug__" : Str)) = false := by decide) (hs : starEach [e] X.env = (false, eval e X.env) :: starEach [] X.env := by rfl) :
    BI X G W ρx ρ (.Raise (some (.Call (.Name c p) [e] [] pos)) none pos2 :: rest) pn pl ι (m.bind fun d => (.ex c [(f, d)] : Rs R)) := by
  unfold BI
  have z := bk_raiseX (pn := pn) (pl := pl) (rest := rest) (p := p) (pos := pos) (pos2 := pos2) (ρx := ρx) calm tk T iC tI F1 hr hb passes_no hg hm he wx hdb hs
  have e2 : ((m.bind fun d => (.ex c [(f, d)] : Rs R)).bind fun r => (.ok (ι r) : Rs (Fl α β))) = m.bind fun d => (.ex c [(f, d)] : Rs (Fl α β)) := by cases m <;> rfl
  rw [e2]
  exact z
theorem tryM_bind {γ : Type} {m : Rs γ} {l : List ((Str → Option Bool) × (Str → List (Str × D) → Rs γ))} {f : γ → Rs R} : ((m.bind fun r => (.ok (.nx r) : Rs (Fl γ β))).tryM (l.map fun x => (x.1, fun c fs => (x.2 c fs).bind fun r => .ok (.nx r)))).bind (Fl.andThen fun z => (f z).bind fun r => (.ok (ι r) : Rs (Fl α β))) = ((m.tryM l).bind f).bind fun r => .ok (ι r) := by
  cases m with
  | ok z => rfl
  | no => rfl
  | ex c fs =>
    show (catchM (l.map _) c fs).bind _ = ((catchM l c fs).bind f).bind _
    induction l with
    | nil => rfl
    | cons x t ih =>
      obtain ⟨mt, ms⟩ := x
      simp only [List.map_cons, catchM]
      cases mt c with
      | none => rfl
      | some b =>
        cases b with
        | true =>
          show ((ms c fs).bind _).bind _ = ((ms c fs).bind f).bind _
          cases ms c fs <;> rfl
        | false => exact ih
inductive ClsI (X : Cx) (G : Gd) (W : WX) (ρx ρb : Rho) {γ : Type} (p1 : γ → Rho) (pl : β → Rho) : List ExceptHandler → List ((Str → Option Bool) × (Str → List (Str × D) → Rs γ)) → Prop
  | nil : ClsI X G W ρx ρb p1 pl [] []
  | cons {x n : Str} {c : Value} {i : Nat} {b₀ : Stmt} {su : List Stmt} {np hp : Pos} {hds : List ExceptHandler} {mt : Str → Option Bool} {ms : Str → List (Str × D) → Rs γ} {l : List ((Str → Option Bool) × (Str → List (Str × D) → Rs γ))}
      (hc : Names X x c) (hi : X.N[i]? = some n) (hln : X.env.kindOf n = some .local) (hib : i < ρb.length) (hp1 : ∀ z cc, (p1 z)[i]? ≠ some (some cc)) (hpl : ∀ z cc, (pl z)[i]? ≠ some (some cc)) (hmt : ∀ cc b, mt cc = some b → PySem.W.exmOne X.K (.ref (He.ga X.K cc)) c = some b)
      (hs : ∀ (a : Addr) (qn : List (Addr × Obj)) (cc : Str) (fs : List (Str × D)), BIh (X.suite a qn) a G W ρx (ρb.set i (some (.val (.exn cc fs)))) (b₀ :: su) p1 pl Fl.nx (ms cc fs)) (r : ClsI X G W ρx ρb p1 pl hds l) :
      ClsI X G W ρx ρb p1 pl (.ExceptHandler (some (.Name x np)) (some n) (b₀ :: su) hp :: hds) ((mt, ms) :: l)
theorem ClsI.cls {ρb : Rho} {γ : Type} {p1 : γ → Rho} {hds : List ExceptHandler} {l : List ((Str → Option Bool) × (Str → List (Str × D) → Rs γ))} (h : ClsI X G W ρx ρb p1 pl hds l) : Cls X G W ρx ρb p1 pl hds (l.map fun x => (x.1, fun c fs => (x.2 c fs).bind fun r => .ok (.nx r))) := by
  induction h with
  | nil => exact .nil
  | cons hc hi hln hib hp1 hpl hmt hs r ih => exact .cons hc hi hln hib hp1 hpl hmt hs ih
theorem bi_try {ρb : Rho} {γ : Type} {p1 : γ → Rho} {body : List Stmt} {h₀ : ExceptHandler} {hds : List ExceptHandler} {pos : Pos} {l : List ((Str → Option Bool) × (Str → List (Str × D) → Rs γ))} {mb : Rs γ} {f : γ → Rs R}
    (hst : X.stack = X.env :: X.outer) (hf : X.env.frame = some X.env.locals) (hN : X.N.Nodup) (hx : X.ex = []) (tk : L2N.Takes X W)
    (hb : ∀ (W' : WX) (qn : List (Addr × Obj)) (xe : Value → Shared → Prop), L2N.Takes (X.tr qn xe) W' → PassesOwn (model X.prog X.w) X.A X.env xe → BI (X.tr qn xe) G W' ρb ρ body p1 pl Fl.nx mb)
    (hc : ClsI X G W ρx ρb p1 pl (h₀ :: hds) l) (wb : Wk ρb ρx) (hr : ∀ z, BI X G W ρx (p1 z) rest pn pl ι (f z)) :
    BI X G W ρx ρ (.Try body (h₀ :: hds) [] [] pos :: rest) pn pl ι ((mb.tryM l).bind f) := by
  unfold BI
  rw [← tryM_bind]
  exact bk_try hst hf hN hx tk hb hc.cls wb hr
end
end VL
set_option Elab.async false
set_option linter.all false
set_option maxRecDepth 100000
set_option autoImplicit false
namespace VL
open PySem PySem.Spec L2
open PyProof.Rows hiding St
def oexIn (K : PySem.W.Frag) (C : Addr) : Bool := match K.lookup C with
  | some ⟨.type "type", _, .cls cd, sl⟩ => (match cd.mro, sl.toList with
    | .ref C' :: bm, [_, _, _, _, some (.builtin n), _] => C' == C && (n == "ValueError.__new__" && (!cd.hasDel && (cd.hasDict && PySem.HandSPX.refsVE bm)))
    | _, _ => false)
  | _ => false
theorem oexIn_ok {K : PySem.W.Frag} {C : Addr} (q : oexIn K C = true) : ∃ nm q N bs bm sn sub ab col dd k0 k1 k2 k3 k5, K.lookup C = some (excClassObj nm q C N bs bm true sn sub ab col dd k0 k1 k2 k3 k5 "ValueError.__new__") ∧ PySem.HandSPX.refsVE bm = true := by
  unfold oexIn at q
  split at q
  · rename_i dd cd sl ho
    split at q
    · rename_i C' bm k0 k1 k2 k3 n k5 hm hs
      simp only [Bool.and_eq_true, beq_iff_eq, Bool.not_eq_true'] at q
      obtain ⟨rfl, rfl, hdel, hhd, hbm⟩ := q
      obtain ⟨nm, bs, mro, ns, qn, hd, sn, sub, ab, col, del⟩ := cd
      dsimp only at hm hdel hhd
      subst hm hdel hhd
      have hsl : sl = #[k0, k1, k2, k3, some (.builtin "ValueError.__new__"), k5] := by
        obtain ⟨l⟩ := sl
        simp only at hs
        rw [hs]
      subst hsl
      exact ⟨nm, qn, ns, bs, bm, sn, sub, ab, col, dd, k0, k1, k2, k3, k5, ho, hbm⟩
    · cases q
  · cases q
def oexB (x : Str) : FrB := fun K => oexIn K (He.ga K x) && (He.eqO (PySem.W.findIn K (.ref (He.ga K x)) "__setattr__") (some (some (.builtin "object.__setattr__"))) && (decide (PySem.W.subIn K (.ref (He.ga K x)) (.type "BaseException") = some true) && (decide (PySem.W.typeIn K (.ref (He.ga K x)) = some (.type "type")) && PySem.W.keepIn K (.ref (He.ga K x)))))
theorem oexB_ok {x : Str} {K : PySem.W.Frag} (h : oexB x K = true) : OexC K (He.ga K x) := by
  obtain ⟨h1, h⟩ := He.ba h
  obtain ⟨h2, h⟩ := He.ba h
  obtain ⟨h3, h⟩ := He.ba h
  obtain ⟨h4, h5⟩ := He.ba h
  exact ⟨oexIn_ok h1, He.eqO_ok h2, of_decide_eq_true h3, of_decide_eq_true h4, h5⟩
def xicB (x : Str) : FrB := fun K => He.eqO (PySem.W.findIn K (.ref (He.ga K x)) "__init__") (some (some (.ref (He.ma K (He.ga K x) "__init__")))) && decide (PySem.W.typeIn K (.ref (He.ma K (He.ga K x) "__init__")) = some (.type "function"))
theorem xicB_ok {x : Str} {K : PySem.W.Frag} (h : xicB x K = true) : PySem.W.findIn K (.ref (He.ga K x)) "__init__" = some (some (.ref (He.ma K (He.ga K x) "__init__"))) ∧ PySem.W.typeIn K (.ref (He.ma K (He.ga K x) "__init__")) = some (.type "function") := by
  obtain ⟨h1, h2⟩ := He.ba h
  exact ⟨He.eqO_ok h1, of_decide_eq_true h2⟩
def noatB (x f : Str) : FrB := fun K => (He.Fa.noat x f).ok K
def xfcB (x : Str) : FrB := fun K => xfB K (He.ga K x)
def exmB (x y : Str) (b : Bool) : FrB := fun K => (He.Fa.exm x y b).ok K
def kitTB1 (x : Str) (y : String) (b : Bool) : FrB := fun K => decide (PySem.W.kitOne K (.ref (He.ga K x)) (.type y) = some b)
def kitNTB1 (y : String) (b : Bool) : FrB := fun K => decide (PySem.W.kitOne K (.type "NoneType") (.type y) = some b)
def exiBn (x : Str) : FrB := exiB fun K => He.ga K x
end VL
set_option Elab.async false
set_option linter.all false
set_option maxRecDepth 100000
set_option autoImplicit false
namespace VL
open PySem PySem.Spec L2
open PyProof.Rows hiding St
noncomputable abbrev endE (r : PySem.W.OpenRow) (M : Nat) (w : World) (os : OsState) : Option PySem.W.SharedT := HandSHeadRun.endF (HandSHeadRun.stepQ (HandSHeadRun.denQ HandSHeadRun.tabQ) r.prog w) M r.prog w os
theorem run_of {r : PySem.W.OpenRow} {q : Program} {n : Nat} {fs : List FrB} {fn : List DefA} {M : Nat} {loose : List PySem.Str} {w : World}
    (hA : ∀ os, (endE r M w os).map (fun s => (HandSHeadRun.looksF r.prog (PySem.W.boot_heap w.params) s.abs, HandSHeadRun.seenQ q loose (importedModules r.prog.main.body) (fun s => PySem.W.xlAt q [] s && PySem.W.recOk r.toRowW.records s) s.abs)) = some (true, PySem.W.openGood q loose))
    (hB : ∀ os, (endE r M w os).map (fun s => obsVG n fs fn (HandSHeadRun.getT s)) = some (valV fn)) : HandSHeadRun.RunEq r q (hookV n fs fn) (fun s => obsVG n fs fn (HandSHeadRun.getT s)) M loose w := fun os => by
  have a := hA os
  have b := hB os
  unfold endE at a b
  revert a b
  generalize HandSHeadRun.endF (HandSHeadRun.stepQ (HandSHeadRun.denQ HandSHeadRun.tabQ) r.prog w) M r.prog w os = E
  intro a b
  cases E with
  | none => cases a
  | some s =>
    have e1 := Option.some.inj a
    have e2 := Option.some.inj b
    have e3 := congrArg Prod.fst e1
    have e4 := congrArg Prod.snd e1
    simp only at e3 e4
    rw [Option.map_some]
    congr 1
    rw [e3, e4]
    exact congrArg _ (congrArg _ e2)
end VL
set_option Elab.async false
set_option linter.all false
set_option maxRecDepth 100000
set_option autoImplicit false
namespace VL
open PySem PySem.Spec L2
open PyProof.Rows hiding St
structure OwnEq (K : PySem.W.Frag) (C g : Addr) : Prop where
  at_ : PySem.W.findIn K (.ref C) "__eq__" = some (some (.ref g))
  fn : PySem.W.isFn K (.ref g) = true
  nf : PySem.W.notFirst K C (.ref C) = true
structure OwnM (K : PySem.W.Frag) (C g : Addr) (nm : Str) : Prop where
  at_ : PySem.W.findIn K (.ref C) nm = some (some (.ref g))
  fn : PySem.W.isFn K (.ref g) = true
def owmB (x nm : Str) : FrB := fun K => He.eqO (PySem.W.findIn K (.ref (He.ga K x)) nm) (some (some (.ref (He.ma K (He.ga K x) nm)))) && PySem.W.isFn K (.ref (He.ma K (He.ga K x) nm))
theorem owmB_ok {x nm : Str} {K : PySem.W.Frag} (h : owmB x nm K = true) : OwnM K (He.ga K x) (He.ma K (He.ga K x) nm) nm := by
  obtain ⟨h1, h2⟩ := He.ba h
  exact ⟨He.eqO_ok h1, h2⟩
structure OwnNe (K : PySem.W.Frag) (C : Addr) : Prop where
  at_ : PySem.W.findIn K (.ref C) "__ne__" = some (some (.builtin "object.__ne__"))
  mo : PySem.W.mroIn K C (.type "object") = some true
def owneB (x : Str) : FrB := fun K => He.eqO (PySem.W.findIn K (.ref (He.ga K x)) "__ne__") (some (some (.builtin "object.__ne__"))) && decide (PySem.W.mroIn K (He.ga K x) (.type "object") = some true)
theorem owneB_ok {x : Str} {K : PySem.W.Frag} (h : owneB x K = true) : OwnNe K (He.ga K x) := by
  obtain ⟨h1, h2⟩ := He.ba h
  exact ⟨He.eqO_ok h1, of_decide_eq_true h2⟩
def oweqB (x : Str) : FrB := fun K => He.eqO (PySem.W.findIn K (.ref (He.ga K x)) "__eq__") (some (some (.ref (He.ma K (He.ga K x) "__eq__")))) && (PySem.W.isFn K (.ref (He.ma K (He.ga K x) "__eq__")) && PySem.W.notFirst K (He.ga K x) (.ref (He.ga K x)))
theorem oweqB_ok {x : Str} {K : PySem.W.Frag} (h : oweqB x K = true) : OwnEq K (He.ga K x) (He.ma K (He.ga K x) "__eq__") := by
  obtain ⟨h1, h⟩ := He.ba h
  obtain ⟨h2, h3⟩ := He.ba h
  exact ⟨He.eqO_ok h1, h2, h3⟩
structure OwnIs (K : PySem.W.Frag) (C : Addr) : Prop where
  si : SlX.SIsi K C
  kt : PySem.W.kitOne K (.ref C) (.ref C) = some true
def kindsT : List String := ["int", "tuple", "NoneType", "bool", "str", "list"]
def OwnIsT (K : PySem.W.Frag) (C : Addr) : Prop := ∀ t ∈ kindsT, PySem.W.kitOne K (.type t) (.ref C) = some false
def owitB (x : Str) : FrB := fun K => kindsT.all fun t => decide (PySem.W.kitOne K (.type t) (.ref (He.ga K x)) = some false)
theorem owitB_ok {x : Str} {K : PySem.W.Frag} (h : owitB x K = true) : OwnIsT K (He.ga K x) := fun t ht => of_decide_eq_true (List.all_eq_true.mp h t ht)
def owisB (x : Str) : FrB := fun K => He.eqO (PySem.W.findIn K (.ref (He.ga K x)) "__class__") (some (some (.builtin "object.__class__"))) && (He.eqO (PySem.W.specialIn K (.builtin "object.__class__") "__get__") (some (some (.builtin "getset_descriptor.__get__"))) &&
  (decide (PySem.W.takesIn K (.builtin "object.__class__") = some true) && (decide (PySem.W.mroIn K (He.ga K x) (.type "object") = some true) && decide (PySem.W.kitOne K (.ref (He.ga K x)) (.ref (He.ga K x)) = some true))))
theorem owisB_ok {x : Str} {K : PySem.W.Frag} (h : owisB x K = true) : OwnIs K (He.ga K x) := by
  obtain ⟨h1, h⟩ := He.ba h
  obtain ⟨h2, h⟩ := He.ba h
  obtain ⟨h3, h⟩ := He.ba h
  obtain ⟨h4, h5⟩ := He.ba h
  exact ⟨⟨He.eqO_ok h1, He.eqO_ok h2, of_decide_eq_true h3, of_decide_eq_true h4⟩, of_decide_eq_true h5⟩
end VL
set_option Elab.async false
set_option linter.all false
set_option maxRecDepth 100000
set_option autoImplicit false
namespace VL
open PySem PySem.Spec L2
open PyProof.Rows hiding St
def metB (x nm : Str) : FrB := fun K => He.eqO (PySem.W.findIn K (.ref (He.ga K x)) nm) (some (some (.ref (He.ma K (He.ga K x) nm)))) && (PySem.W.isFn K (.ref (He.ma K (He.ga K x) nm)) && PySem.W.keepIn K (.ref (He.ma K (He.ga K x) nm)))
theorem metB_ok {x nm : Str} {K : PySem.W.Frag} (h : metB x nm K = true) : Meth K (He.ga K x) nm (He.ma K (He.ga K x) nm) := by
  obtain ⟨h1, h⟩ := He.ba h
  obtain ⟨h2, h3⟩ := He.ba h
  exact ⟨He.eqO_ok h1, h2, h3⟩
end VL
set_option Elab.async false
set_option linter.all false
set_option maxRecDepth 100000
set_option maxHeartbeats 0
set_option autoImplicit false
namespace LW
open PySem PySem.Spec L2 VL
open PyProof.Rows hiding St
def top (i : Nat) : Stmt := PySem.Challenge.pw_allgather_k38_surveys_that_are_told.main.body.getD i (.Pass ⟨0, 0, 0, 0⟩)
def sub (st : Stmt) (j : Nat) : Stmt := (C8.clsBody st).getD j (.Pass ⟨0, 0, 0, 0⟩)
def fac0 : List FrB := [freeB "ValueError", freeB "abs", freeB "all", freeB "bool", freeB "enumerate", freeB "int", freeB "isinstance", freeB "len", freeB "list", freeB "min", freeB "range", freeB "sorted", freeB "str", freeB "sum", freeB "tuple", freeB "zip", gloB "NONE", gtupB "NONE" [0, 1], gloB "Survey", sclsB (fun K => He.ga K "Survey"), slotB (fun K => He.ga K "Survey") "own_houses" 0, slotB (fun K => He.ga K "Survey") "own_told" 1, mkrB "Survey", oweqB "Survey", owmB "Survey" "__len__", metB "Survey" "back", metB "Survey" "floor_of", metB "Survey" "holds", metB "Survey" "known", metB "Survey" "tell", metB "Survey" "twin", owneB "Survey", owitB "Survey", owisB "Survey", gloB "BadAnswer", gloB "NothingDone", oexB "BadAnswer", xicB "BadAnswer", noatB "BadAnswer" "answer", xfcB "BadAnswer", exiBn "BadAnswer", oexB "NothingDone", xicB "NothingDone", noatB "NothingDone" "given", xfcB "NothingDone", exiBn "NothingDone", exmB "BadAnswer" "BadAnswer" true, exmB "BadAnswer" "NothingDone" false, exmB "NothingDone" "BadAnswer" false, exmB "NothingDone" "NothingDone" true, kitTB1 "BadAnswer" "ValueError" true, kitTB1 "NothingDone" "ValueError" true, kitNTB1 "ValueError" false, gloB "tupled", gloB "common_part", gloB "fraction", gloB "over", gloB "is_less", gloB "greater", gloB "size_on", propB (fun K => He.ga K "Survey") "houses", propB (fun K => He.ga K "Survey") "told", gloB "_law_box", gloB "_law_take", gloB "_law_cells", gloB "_law_same", gloB "_law_pick", gloB "_law_part", gloB "_law_ratio", gloB "_law_less", gloB "_law_most", gloB "_law_houses", gloB "_law_all_cuts", gloB "_law_on", gloB "_law_floor", gloB "_law_known", gloB "_law_speeds", gloB "_law_answer", gloB "_law_told", gloB "_law_back", gloB "_law_fits", gloB "_law_state", gloB "_law_due", gloB "_law_tries", gloB "_law_by_hand_right", gloB "_law_right", gloB "law"]
def fac : List FrB := fac0
def df_tupled : DefA := ⟨fun K => (He.ga K "tupled"), "tupled", "tupled", defArgs (top 6), defBody (top 6), defScope (top 6), []⟩
def df_common_part : DefA := ⟨fun K => (He.ga K "common_part"), "common_part", "common_part", defArgs (top 9), defBody (top 9), defScope (top 9), []⟩
def df_fraction : DefA := ⟨fun K => (He.ga K "fraction"), "fraction", "fraction", defArgs (top 10), defBody (top 10), defScope (top 10), []⟩
def df_over : DefA := ⟨fun K => (He.ga K "over"), "over", "over", defArgs (top 11), defBody (top 11), defScope (top 11), []⟩
def df_is_less : DefA := ⟨fun K => (He.ga K "is_less"), "is_less", "is_less", defArgs (top 12), defBody (top 12), defScope (top 12), []⟩
def df_greater : DefA := ⟨fun K => (He.ga K "greater"), "greater", "greater", defArgs (top 13), defBody (top 13), defScope (top 13), []⟩
def df_size_on : DefA := ⟨fun K => (He.ga K "size_on"), "size_on", "size_on", defArgs (top 15), defBody (top 15), defScope (top 15), []⟩
def df_Survey_init : DefA := ⟨fun K => (He.ma K (He.ga K "Survey") "__init__"), "__init__", "Survey.__init__", defArgs (sub (top 16) 1), defBody (sub (top 16) 1), defScope (sub (top 16) 1), []⟩
def df_Survey_houses : DefA := ⟨fun K => (recA K (He.ga K "Survey") "property" "houses"), "houses", "Survey.houses", defArgs (sub (top 16) 2), defBody (sub (top 16) 2), defScope (sub (top 16) 2), []⟩
def df_Survey_told : DefA := ⟨fun K => (recA K (He.ga K "Survey") "property" "told"), "told", "Survey.told", defArgs (sub (top 16) 3), defBody (sub (top 16) 3), defScope (sub (top 16) 3), []⟩
def df_Survey_len : DefA := ⟨fun K => (He.ma K (He.ga K "Survey") "__len__"), "__len__", "Survey.__len__", defArgs (sub (top 16) 4), defBody (sub (top 16) 4), defScope (sub (top 16) 4), []⟩
def df_Survey_eq : DefA := ⟨fun K => (He.ma K (He.ga K "Survey") "__eq__"), "__eq__", "Survey.__eq__", defArgs (sub (top 16) 6), defBody (sub (top 16) 6), defScope (sub (top 16) 6), []⟩
def df_Survey_known : DefA := ⟨fun K => (He.ma K (He.ga K "Survey") "known"), "known", "Survey.known", defArgs (sub (top 16) 7), defBody (sub (top 16) 7), defScope (sub (top 16) 7), []⟩
def df_Survey_floor_of : DefA := ⟨fun K => (He.ma K (He.ga K "Survey") "floor_of"), "floor_of", "Survey.floor_of", defArgs (sub (top 16) 8), defBody (sub (top 16) 8), defScope (sub (top 16) 8), []⟩
def df_BadAnswer_init : DefA := ⟨fun K => (He.ma K (He.ga K "BadAnswer") "__init__"), "__init__", "BadAnswer.__init__", defArgs (sub (top 3) 0), defBody (sub (top 3) 0), defScope (sub (top 3) 0), []⟩
def df_Survey_holds : DefA := ⟨fun K => (He.ma K (He.ga K "Survey") "holds"), "holds", "Survey.holds", defArgs (sub (top 16) 10), defBody (sub (top 16) 10), defScope (sub (top 16) 10), []⟩
def df_Survey_tell : DefA := ⟨fun K => (He.ma K (He.ga K "Survey") "tell"), "tell", "Survey.tell", defArgs (sub (top 16) 9), defBody (sub (top 16) 9), defScope (sub (top 16) 9), []⟩
def df_NothingDone_init : DefA := ⟨fun K => (He.ma K (He.ga K "NothingDone") "__init__"), "__init__", "NothingDone.__init__", defArgs (sub (top 4) 0), defBody (sub (top 4) 0), defScope (sub (top 4) 0), []⟩
def df_Survey_back : DefA := ⟨fun K => (He.ma K (He.ga K "Survey") "back"), "back", "Survey.back", defArgs (sub (top 16) 11), defBody (sub (top 16) 11), defScope (sub (top 16) 11), []⟩
def df_Survey_twin : DefA := ⟨fun K => (He.ma K (He.ga K "Survey") "twin"), "twin", "Survey.twin", defArgs (sub (top 16) 12), defBody (sub (top 16) 12), defScope (sub (top 16) 12), []⟩
def df_law_box : DefA := ⟨fun K => (He.ga K "_law_box"), "_law_box", "_law_box", defArgs (top 18), defBody (top 18), defScope (top 18), []⟩
def df_law_take : DefA := ⟨fun K => (He.ga K "_law_take"), "_law_take", "_law_take", defArgs (top 19), defBody (top 19), defScope (top 19), []⟩
def df_law_cells : DefA := ⟨fun K => (He.ga K "_law_cells"), "_law_cells", "_law_cells", defArgs (top 20), defBody (top 20), defScope (top 20), []⟩
def df_law_same : DefA := ⟨fun K => (He.ga K "_law_same"), "_law_same", "_law_same", defArgs (top 21), defBody (top 21), defScope (top 21), []⟩
def df_law_pick : DefA := ⟨fun K => (He.ga K "_law_pick"), "_law_pick", "_law_pick", defArgs (top 22), defBody (top 22), defScope (top 22), []⟩
def df_law_part : DefA := ⟨fun K => (He.ga K "_law_part"), "_law_part", "_law_part", defArgs (top 24), defBody (top 24), defScope (top 24), []⟩
def df_law_ratio : DefA := ⟨fun K => (He.ga K "_law_ratio"), "_law_ratio", "_law_ratio", defArgs (top 23), defBody (top 23), defScope (top 23), []⟩
def df_law_less : DefA := ⟨fun K => (He.ga K "_law_less"), "_law_less", "_law_less", defArgs (top 25), defBody (top 25), defScope (top 25), []⟩
def df_law_most : DefA := ⟨fun K => (He.ga K "_law_most"), "_law_most", "_law_most", defArgs (top 26), defBody (top 26), defScope (top 26), []⟩
def df_law_houses : DefA := ⟨fun K => (He.ga K "_law_houses"), "_law_houses", "_law_houses", defArgs (top 27), defBody (top 27), defScope (top 27), []⟩
def df_law_all_cuts : DefA := ⟨fun K => (He.ga K "_law_all_cuts"), "_law_all_cuts", "_law_all_cuts", defArgs (top 28), defBody (top 28), defScope (top 28), []⟩
def df_law_on : DefA := ⟨fun K => (He.ga K "_law_on"), "_law_on", "_law_on", defArgs (top 29), defBody (top 29), defScope (top 29), []⟩
def df_law_floor : DefA := ⟨fun K => (He.ga K "_law_floor"), "_law_floor", "_law_floor", defArgs (top 30), defBody (top 30), defScope (top 30), []⟩
def df_law_known : DefA := ⟨fun K => (He.ga K "_law_known"), "_law_known", "_law_known", defArgs (top 31), defBody (top 31), defScope (top 31), []⟩
def df_law_speeds : DefA := ⟨fun K => (He.ga K "_law_speeds"), "_law_speeds", "_law_speeds", defArgs (top 32), defBody (top 32), defScope (top 32), []⟩
def df_law_answer : DefA := ⟨fun K => (He.ga K "_law_answer"), "_law_answer", "_law_answer", defArgs (top 33), defBody (top 33), defScope (top 33), []⟩
def df_law_told : DefA := ⟨fun K => (He.ga K "_law_told"), "_law_told", "_law_told", defArgs (top 34), defBody (top 34), defScope (top 34), []⟩
def df_law_back : DefA := ⟨fun K => (He.ga K "_law_back"), "_law_back", "_law_back", defArgs (top 35), defBody (top 35), defScope (top 35), []⟩
def df_law_fits : DefA := ⟨fun K => (He.ga K "_law_fits"), "_law_fits", "_law_fits", defArgs (top 36), defBody (top 36), defScope (top 36), []⟩
def df_law_state : DefA := ⟨fun K => (He.ga K "_law_state"), "_law_state", "_law_state", defArgs (top 37), defBody (top 37), defScope (top 37), []⟩
def df_law_due : DefA := ⟨fun K => (He.ga K "_law_due"), "_law_due", "_law_due", defArgs (top 38), defBody (top 38), defScope (top 38), []⟩
def df_law_tries : DefA := ⟨fun K => (He.ga K "_law_tries"), "_law_tries", "_law_tries", defArgs (top 39), defBody (top 39), defScope (top 39), []⟩
def df_law_by_hand_right : DefA := ⟨fun K => (He.ga K "_law_by_hand_right"), "_law_by_hand_right", "_law_by_hand_right", defArgs (top 40), defBody (top 40), defScope (top 40), []⟩
def df_law_right : DefA := ⟨fun K => (He.ga K "_law_right"), "_law_right", "_law_right", defArgs (top 41), defBody (top 41), defScope (top 41), []⟩
def df_law : DefA := ⟨fun K => (He.ga K "law"), "law", "law", defArgs (top 42), defBody (top 42), defScope (top 42), []⟩
def fns0 : List DefA := [df_tupled, df_common_part, df_fraction, df_over, df_is_less, df_greater, df_size_on, df_Survey_init, df_Survey_houses, df_Survey_told, df_Survey_len, df_Survey_eq, df_Survey_known, df_Survey_floor_of, df_BadAnswer_init, df_Survey_holds, df_Survey_tell, df_NothingDone_init, df_Survey_back, df_Survey_twin, df_law_box, df_law_take, df_law_cells, df_law_same, df_law_pick, df_law_part, df_law_ratio, df_law_less, df_law_most, df_law_houses, df_law_all_cuts, df_law_on, df_law_floor, df_law_known, df_law_speeds, df_law_answer, df_law_told, df_law_back, df_law_fits, df_law_state, df_law_due, df_law_tries, df_law_by_hand_right, df_law_right, df_law]
def fns : List DefA := fns0
abbrev R : PySem.W.OpenRow := PySem.W.OpenLaw.row PySem.Challenge.rw_allgather_k38_surveys_that_are_told
abbrev hk : PySem.W.Hook := hookV 5 fac fns
def ob (s : PySem.W.SharedT) : AlV := obsVG 5 fac fns (HandSHeadRun.getT s)
theorem ob_eq (s : PySem.W.SharedT) : ob s = hk.obs s.abs := obsVG_eq (HandSHeadRun.getT_eq s)
theorem bare_ : R.prog.bare := ⟨rfl, rfl, rfl, rfl, rfl, by decide +kernel⟩
open PySem PySem.W PySem.Calls PyProof.Rows in
theorem law_of (k : R.wellSaid = true → R.Holds) : PySem.Challenge.rw_allgather_k38_surveys_that_are_told.Holds := by
  w_on; o_law
  exact k (by assumption)
theorem good_ : (PySem.W.chainsOk (PySem.W.view R.prog [42]) && PySem.W.opensWell R.prog && (PySem.W.frees R.toRowW && R.within.isEmpty)) = true := by decide +kernel
def lo0 : List PySem.Str := ["_wall", "GatherError", "BadAnswer", "NothingDone", "tupled", "NONE", "common_part", "fraction", "over", "is_less", "greater", "size_on", "Survey", "_law_box", "_law_take", "_law_cells", "_law_same", "_law_pick", "_law_ratio", "_law_part", "_law_less", "_law_most", "_law_houses", "_law_all_cuts", "_law_on", "_law_floor", "_law_known", "_law_speeds", "_law_answer", "_law_told"]
def lo1 : List PySem.Str := ["_law_back", "_law_fits", "_law_state", "_law_due", "_law_tries", "_law_by_hand_right", "_law_right"]
def lo : List PySem.Str := lo0 ++ lo1
theorem runB0 (w : World) (os : OsState) : (endE R 20000 w os).map (fun s => obsVG 5 fac0 fns0 (HandSHeadRun.getT s)) = some (valV fns0) := by kernel_rfl
theorem runA (w : World) (os : OsState) : (endE R 20000 w os).map (fun s => (HandSHeadRun.looksF R.prog (PySem.W.boot_heap w.params) s.abs, HandSHeadRun.seenQ (PySem.W.view R.prog [42]) lo (importedModules R.prog.main.body) (fun s => PySem.W.xlAt (PySem.W.view R.prog [42]) [] s && PySem.W.recOk R.toRowW.records s) s.abs)) = some (true, PySem.W.openGood (PySem.W.view R.prog [42]) lo) := by kernel_rfl
theorem run (w : World) : HandSHeadRun.RunEq R (PySem.W.view R.prog [42]) hk ob 20000 lo w := run_of (fs := fac) (fn := fns) (fun os => runA w os) fun os => (runB0 w os)
end LW
set_option Elab.async false
set_option linter.all false
set_option maxRecDepth 100000
set_option autoImplicit false
namespace VL
open PySem PySem.Spec L2
open PyProof.Rows hiding St
inductive Cells (K : PySem.W.Frag) (F H : Hp) : Hp → List (Bool × D) → List V → Prop
  | nil {Hk : Hp} : Cells K F H Hk [] []
  | cons {Hk Hn : Hp} {o : Bool} {v : V} {d : D} {ps : List (Bool × D)} {vs : List V} : CellOk K Hk F H o v d → (∀ a, Hn a = none → Hk a = none) → (o = true → ∀ a, v = .ref a → Hn a ≠ none) → Cells K F H Hn ps vs → Cells K F H Hk ((o, d) :: ps) (v :: vs)
theorem Cells.more {K : PySem.W.Frag} {F H F' H' Hk : Hp} {ps : List (Bool × D)} {vs : List V} (e : Ext F H F' H') (h : Cells K F H Hk ps vs) : Cells K F' H' Hk ps vs := by
  induction h with
  | nil => exact .nil
  | cons c n1 n2 _ ih => exact .cons (c.more e) n1 n2 ih
def setR : Rho → List Nat → List (Bool × D) → Rho
  | ρ, i :: is, p :: ps => setR (ρ.set i (some (clOf p.1 p.2))) is ps
  | ρ, _, _ => ρ
def setS : L2.St → List Nat → List V → L2.St
  | σ, i :: is, v :: vs => setS (σ.set i (some v)) is vs
  | σ, _, _ => σ
theorem Holds.setCs {K : PySem.W.Frag} {G : Gd} {F H : Hp} : ∀ {ps : List (Bool × D)} {vs : List V} {Hk : Hp} {ρ : Rho} {σ : L2.St} {is : List Nat}, Cells K F H Hk ps vs → Holds K G ρ σ F H →
    (∀ a, Hk a = none → OwnAt G a true ∧ ∀ (j : Nat) (m : Bool) (e : D), ρ[j]? = some (some (.own m e)) → σ[j]? ≠ some (some (.ref a))) → (∀ i ∈ is, i < ρ.length) → Holds K G (setR ρ is ps) (setS σ is vs) F H
  | _, _, _, _, _, is, .nil, hh, _, _ => by cases is <;> exact hh
  | _, _, _, _, _, [], .cons _ _ _ _, hh, _, _ => hh
  | (o, d) :: ps, v :: vs, Hk, ρ, σ, i :: is, .cons c n1 n2 r, hh, hf, hi => by
    have hil : i < ρ.length := hi i List.mem_cons_self
    refine Holds.setCs (ρ := ρ.set i (some (clOf o d))) (σ := σ.set i (some v)) (is := is) r (hh.setC c (fun a _ ha => hf a ha) hil) (fun a ha => ?_) (fun j hj => by rw [List.length_set]; exact hi j (List.mem_cons_of_mem _ hj))
    obtain ⟨g1, g2⟩ := hf a (n1 a ha)
    refine ⟨g1, fun k m e q => ?_⟩
    rcases set_at q with ⟨rfl, z⟩ | ⟨n, z⟩
    · rw [List.getElem?_set_self (by have := hh.len; omega)]
      intro q2
      cases q2
      cases o with
      | false => cases z
      | true => exact n2 rfl a rfl ha
    · rw [List.getElem?_set_ne n]
      exact g2 k m e z
theorem cell_there {K : PySem.W.Frag} {Hs F H : Hp} {o : Bool} {v : V} {d : D} (c : CellOk K Hs F H o v d) (ho : o = true) : ∀ a, v = .ref a → H a ≠ none := fun a ea hn => by
  subst ho
  obtain ⟨a', ea', _, _, h4⟩ := c
  rw [ea] at ea'
  cases ea'
  obtain ⟨o', ho', nt_⟩ := h4.there
  rw [hn] at ho'
  cases ho'
theorem free_of {K : PySem.W.Frag} {G : Gd} {ρ : Rho} {σ : L2.St} {F H : Hp} (hh : Holds K G ρ σ F H) : ∀ a, H a = none → OwnAt G a true ∧ ∀ (j : Nat) (m : Bool) (e : D), ρ[j]? = some (some (.own m e)) → σ[j]? ≠ some (some (.ref a)) :=
  fun a ha => ⟨hh.toGnd.free0 ha, fun k m e q => hh.notOwn ha k m e q⟩
section
variable {X : Cx} {G : Gd} {W : WX} {ρx ρ : Rho} {rest sts : List Stmt} {α β R : Type} {pn : α → Rho} {pl : β → Rho} {ι : R → Fl α β} {i : Nat} {l : Bool} {s : List D}
theorem bi_dsp4 {γ1 : Type} {o1 : Bool} {w1 : γ1 → D} {i1 : Nat} {e1 : Expr} {ma1 : Rs γ1} {γ2 : Type} {o2 : Bool} {w2 : γ2 → D} {i2 : Nat} {e2 : Expr} {ma2 : Rs γ2} {γ3 : Type} {o3 : Bool} {w3 : γ3 → D} {i3 : Nat} {e3 : Expr} {ma3 : Rs γ3} {γ4 : Type} {o4 : Bool} {w4 : γ4 → D} {i4 : Nat} {e4 : Expr} {ma4 : Rs γ4} {a1 a2 a3 a4 : Expr} {kt k2 : Nat} {pt pt2 pos : Pos} {f : γ1 → γ2 → γ3 → γ4 → Rs R} (calm : X.calm = true)
    (hg1 : PG X a1 (gName i1)) (hg2 : PG X a2 (gName i2)) (hg3 : PG X a3 (gName i3)) (hg4 : PG X a4 (gName i4))
    (h1 : EC X G W ρ o1 e1 w1 ma1) (h2 : EC X G W ρ o2 e2 w2 ma2) (h3 : EC X G W ρ o3 e3 w3 ma3) (h4 : EC X G W ρ o4 e4 w4 ma4)
    (hr : ∀ d1 d2 d3 d4, BI X G W ρx ((((ρ.set i1 (some (clOf o1 (w1 d1)))).set i2 (some (clOf o2 (w2 d2)))).set i3 (some (clOf o3 (w3 d3)))).set i4 (some (clOf o4 (w4 d4)))) rest pn pl ι (f d1 d2 d3 d4))
    (hw : swappedStores [.Tuple [a1, a2, a3, a4] kt pt] (.Tuple [e1, e2, e3, e4] k2 pt2) X.env = pure none := by rfl) (hs : swapsWithSole [.Tuple [a1, a2, a3, a4] kt pt] (.Tuple [e1, e2, e3, e4] k2 pt2) pos.line X.env = pure false := by rfl)
    (hs1 : starEach [e1, e2, e3, e4] X.env = (false, eval e1 X.env) :: starEach [e2, e3, e4] X.env := by rfl)
    (hs2 : starEach [e2, e3, e4] X.env = (false, eval e2 X.env) :: starEach [e3, e4] X.env := by rfl)
    (hs3 : starEach [e3, e4] X.env = (false, eval e3 X.env) :: starEach [e4] X.env := by rfl)
    (hs4 : starEach [e4] X.env = (false, eval e4 X.env) :: starEach [] X.env := by rfl)
    (ht : (assignEach [.Tuple [a1, a2, a3, a4] kt pt] X.env).map (·.2) = [assign (.Tuple [a1, a2, a3, a4] kt pt) X.env] := by rfl) (hn : (assignEach [a1, a2, a3, a4] X.env).length = 4 := by rfl) (hst : (assignEach [a1, a2, a3, a4] X.env).findIdx? (·.1) = none := by rfl)
    (hq1 : (assignEach [a1, a2, a3, a4] X.env).map (·.2) = assign a1 X.env :: (assignEach [a2, a3, a4] X.env).map (·.2) := by rfl)
    (hq2 : (assignEach [a2, a3, a4] X.env).map (·.2) = assign a2 X.env :: (assignEach [a3, a4] X.env).map (·.2) := by rfl)
    (hq3 : (assignEach [a3, a4] X.env).map (·.2) = assign a3 X.env :: (assignEach [a4] X.env).map (·.2) := by rfl)
    (hq4 : (assignEach [a4] X.env).map (·.2) = assign a4 X.env :: (assignEach [] X.env).map (·.2) := by rfl)
    (hl1 : i1 < ρ.length := by exact Nat.le_of_ble_eq_true rfl) (hl2 : i2 < ρ.length := by exact Nat.le_of_ble_eq_true rfl) (hl3 : i3 < ρ.length := by exact Nat.le_of_ble_eq_true rfl) (hl4 : i4 < ρ.length := by exact Nat.le_of_ble_eq_true rfl) (wx : Wk ρ ρx := by first | exact Wk.nil | exact Wk.refl | (repeat (first | exact Wk.nil | apply Wk.keep | apply Wk.drop))) :
    BI X G W ρx ρ (.Assign [.Tuple [a1, a2, a3, a4] kt pt] (.Tuple [e1, e2, e3, e4] k2 pt2) pos :: rest) pn pl ι (ma1.bind fun d1 => ma2.bind fun d2 => ma3.bind fun d3 => ma4.bind fun d4 => f d1 d2 d3 d4) := by
  obtain ⟨t1, p1, q1⟩ := h1
  obtain ⟨t2, p2, q2⟩ := h2
  obtain ⟨t3, p3, q3⟩ := h3
  obtain ⟨t4, p4, q4⟩ := h4
  intro F0 σ F H E hh hp
  have e2 : ((ma1.bind fun d1 => ma2.bind fun d2 => ma3.bind fun d3 => ma4.bind fun d4 => f d1 d2 d3 d4).bind fun r => (.ok (ι r) : Rs (Fl α β))) = ma1.bind fun d1 => ma2.bind fun d2 => ma3.bind fun d3 => ma4.bind fun d4 => (f d1 d2 d3 d4).bind fun r => .ok (ι r) := by
    simp only [Rs.assoc]
  rw [e2] at hp
  refine any_cons (ps_asg (pe_tup (pa_cons p1 (pa_cons p2 (pa_cons p3 (pa_cons p4 pa_nil hs4) hs3) hs2) hs1)) (pg_tup calm (pgs_cons hg1 (pgs_cons hg2 (pgs_cons hg3 (pgs_cons hg4 pgs_nil hq4) hq3) hq2) hq1) hn hst) hs hw ht) ?_
  refine q1 F0 σ F H _ hh (post_seq hh wx hp fun d1 v1 F1 H1 x1_ r1 hp1 => ?_)
  refine q2 F0 σ F1 H1 _ (hh.more x1_) (post_seq (hh.more x1_) wx hp1 fun d2 v2 F2 H2 x2_ r2 hp2 => ?_)
  refine q3 F0 σ F2 H2 _ ((hh.more x1_).more x2_) (post_seq ((hh.more x1_).more x2_) wx hp2 fun d3 v3 F3 H3 x3_ r3 hp3 => ?_)
  refine q4 F0 σ F3 H3 _ (((hh.more x1_).more x2_).more x3_) (post_seq (((hh.more x1_).more x2_).more x3_) wx hp3 fun d4 v4 F4 H4 x4_ r4 hp4 => ?_)
  refine ⟨by show 4 ≤ sizeLine; decide, fun p hn0 => ?_⟩
  have e3 : Ext F4 H4 F4 (upd H4 p (.tup [v1, v2, v3, v4])) := Ext.loose x4_.sub _ hn0
  refine ⟨p, [v1, v2, v3, v4], rfl, .inl (.inl upd_same), rfl, ?_⟩
  refine ⟨_, _, rfl, _, _, rfl, _, _, rfl, _, _, rfl, rfl, ?_⟩
  exact hr d1 d2 d3 d4 F0 _ F4 _ E (Holds.setCs (is := [i1, i2, i3, i4]) (Cells.more e3 (Cells.cons (Hn := H1) (CellOk.more x4_ (CellOk.more x3_ (CellOk.more x2_ r1))) (fun a ha => x1_.same.free ha) (fun ho => cell_there r1 ho) (Cells.cons (Hn := H2) (CellOk.more x4_ (CellOk.more x3_ r2)) (fun a ha => x2_.same.free ha) (fun ho => cell_there r2 ho) (Cells.cons (Hn := H3) (CellOk.more x4_ r3) (fun a ha => x3_.same.free ha) (fun ho => cell_there r3 ho) (Cells.cons (Hn := H4) r4 (fun a ha => x4_.same.free ha) (fun ho => cell_there r4 ho) (Cells.nil (Hk := H4))))))) (((((hh.more x1_).more x2_).more x3_).more x4_).more e3) (free_of hh) (fun j hj => by simp only [List.mem_cons, List.not_mem_nil, or_false] at hj; rcases hj with rfl | rfl | rfl | rfl <;> assumption)) hp4
end
end VL
set_option Elab.async false
set_option linter.all false
set_option maxRecDepth 100000
set_option autoImplicit false
namespace VL
open PySem PySem.Spec L2
open PyProof.Rows hiding St
def keyOf : D → Option Key
  | .int i => some (.inl i)
  | .str x => some (.inr x)
  | _ => none
def keysOf : List D → Option (List Key)
  | [] => some []
  | d :: ds => (keyOf d).bind fun k => (keysOf ds).map fun ks => k :: ks
def keyD : Key → D
  | .inl i => .int i
  | .inr x => .str x
def isStr : D → Bool
  | .str _ => true
  | _ => false
theorem keyOf_rep {K : PySem.W.Frag} {F : Hp} {v : V} {d : D} {k : Key} (h : keyOf d = some k) (r : Rep K F v d) : v = kV k := by
  cases r with
  | int i => cases h; rfl
  | str x => cases h; rfl
  | _ => cases h
theorem keysOf_rep {K : PySem.W.Frag} {F : Hp} : ∀ {xs : List V} {ds : List D} {ks : List Key}, keysOf ds = some ks → Reps K F xs ds → xs = ks.map kV
  | _, _, _, h, .nil => by cases h; rfl
  | _, d :: ds, ks, h, .cons r rs => by
    simp only [keysOf] at h
    cases e : keyOf d with
    | none => rw [e] at h; cases h
    | some k =>
      rw [e] at h
      cases e2 : keysOf ds with
      | none => rw [e2] at h; cases h
      | some ks2 =>
        rw [e2] at h
        cases h
        rw [keyOf_rep e r, keysOf_rep e2 rs]
        rfl
theorem kV_rep {K : PySem.W.Frag} {F : Hp} (k : Key) : Rep K F (kV k) (keyD k) := by cases k with | inl i => exact .int i | inr x => exact .str x
theorem kV_reps {K : PySem.W.Frag} {F : Hp} : ∀ ks : List Key, Reps K F (ks.map kV) (ks.map keyD)
  | [] => .nil
  | k :: ks => .cons (kV_rep k) (kV_reps ks)
theorem tup_key {K : PySem.W.Frag} {F H : Hp} {y : V} {ds : List D} {ks : List Key} (s : Same F H) (hy : RepH K F H y (.tup ds)) (hk : keysOf ds = some ks) (hs : ds.any isStr = true) : ∃ b, y = .ref b ∧ F b = some (.tup (ks.map kV)) ∧ H b = some (.tup (ks.map kV)) := by
  rcases hy with hy | ⟨a, _, ho⟩
  · cases hy with
    | tup h l r =>
      have e := keysOf_rep hk r
      subst e
      rcases h with h | ⟨_, h⟩
      · exact ⟨_, rfl, h, s _ _ h⟩
      · exfalso
        have key : ∀ {xs : List V} {ds : List D}, Reps K F xs ds → ds.any isStr = true → ∃ x ∈ xs, ∃ z, x = V.str z := by
          intro xs ds r
          induction ds generalizing xs with
          | nil => intro h; cases h
          | cons d ds ih =>
            intro h
            cases r with
            | cons r1 r2 =>
              rw [List.any_cons, Bool.or_eq_true] at h
              rcases h with h | h
              · cases r1 with
                | str z => exact ⟨_, List.mem_cons_self, z, rfl⟩
                | _ => cases h
              · obtain ⟨x, hx, z⟩ := ih r2 h
                exact ⟨x, List.mem_cons_of_mem _ hx, z⟩
        obtain ⟨x, hx, z, rfl⟩ := key r hs
        obtain ⟨i, hi⟩ := h _ hx
        cases hi
  · cases ho
def look {κ : Type} [DecidableEq κ] (es : List (κ × D)) (k : κ) : Option D := (es.find? fun p => decide (p.1 = k)).map (·.2)
theorem look_val {κ : Type} [DecidableEq κ] {K : PySem.W.Frag} {F : Hp} (k : κ) : ∀ {kvs : List (κ × V)} {es : List (κ × D)}, kvs.map (·.1) = es.map (·.1) → Reps K F (kvs.map (·.2)) (es.map (·.2)) → (look es k = none ∧ L2.valV kvs k = none) ∨ ∃ d v, look es k = some d ∧ L2.valV kvs k = some v ∧ Rep K F v d
  | [], [], _, _ => .inl ⟨rfl, rfl⟩
  | [], _ :: _, h, _ => by simp at h
  | _ :: _, [], h, _ => by simp at h
  | (a, v) :: kvs, (b, d) :: es, h, r => by
    simp only [List.map_cons, List.cons.injEq] at h r
    obtain ⟨rfl, h2⟩ := h
    cases r with
    | cons r1 r2 =>
      unfold look L2.valV
      rw [List.find?_cons, List.find?_cons]
      by_cases e : a = k
      · simp only [e, decide_true]
        exact .inr ⟨d, v, rfl, rfl, r1⟩
      · simp only [e, decide_false]
        exact look_val k h2 r2
def dlook : D → D → Option (Option D)
  | .dT es, .tup ks => if ks.any isStr then (keysOf ks).map fun k => look es k else none
  | .dK es, k => (keyOf k).map fun k => look es k
  | _, _ => none
def OptR (K : PySem.W.Frag) (F : Hp) : Option D → Option V → Prop
  | none, none => True
  | some d, some v => Rep K F v d
  | _, _ => False
theorem dlook_get {K : PySem.W.Frag} {F H : Hp} {x y : V} {dx dy : D} {r : Option D} (s : Same F H) (hx : RepH K F H x dx) (hy : RepH K F H y dy) (h : dlook dx dy = some r) : ∃ a rv, x = .ref a ∧ DGet H a y rv ∧ OptR K F r rv := by
  unfold dlook at h
  split at h
  · split at h
    · rename_i es ks hstr
      cases hk : keysOf ks with
      | none => rw [hk] at h; cases h
      | some k =>
        rw [hk] at h
        cases h
        obtain ⟨b, rfl, _, hb⟩ := tup_key s hy hk hstr
        have fin : ∀ {a : Addr} {kvs : List (List Key × V)}, Rd H a (.dT kvs) → kvs.map (·.1) = es.map (·.1) → Reps K F (kvs.map (·.2)) (es.map (·.2)) → ∃ a' rv, V.ref a = .ref a' ∧ DGet H a' (.ref b) rv ∧ OptR K F (look es k) rv := fun {a kvs} rd h1 h2 => by
          refine ⟨a, L2.valV kvs k, rfl, .inr ⟨kvs, k, b, rd, rfl, hb, rfl⟩, ?_⟩
          rcases look_val k h1 h2 with ⟨q1, q2⟩ | ⟨d, v, q1, q2, q3⟩
          · rw [q1, q2]; trivial
          · rw [q1, q2]; exact q3
        rcases hx with hx | ⟨a, rfl, ho⟩
        · cases hx with
          | dT h1 h2 h3 => exact fin (.inr ⟨_, s _ _ h1⟩) h2 h3
        · cases ho with
          | dT h1 h2 h3 => exact fin (.inl h1) h2 h3
    · cases h
  · rename_i es
    cases hk : keyOf dy with
    | none => rw [hk] at h; cases h
    | some k =>
      rw [hk] at h
      cases h
      have ey : y = kV k := by
        rcases hy with hy | ⟨a, _, ho⟩
        · exact keyOf_rep hk hy
        · cases ho <;> cases hk
      subst ey
      have fin : ∀ {a : Addr} {kvs : List (Key × V)}, Rd H a (.dK kvs) → kvs.map (·.1) = es.map (·.1) → Reps K F (kvs.map (·.2)) (es.map (·.2)) → ∃ a' rv, V.ref a = .ref a' ∧ DGet H a' (kV k) rv ∧ OptR K F (look es k) rv := fun {a kvs} rd h1 h2 => by
        refine ⟨a, L2.valV kvs k, rfl, .inl ⟨kvs, k, rd, rfl, rfl⟩, ?_⟩
        rcases look_val k h1 h2 with ⟨q1, q2⟩ | ⟨d, v, q1, q2, q3⟩
        · rw [q1, q2]; trivial
        · rw [q1, q2]; exact q3
      rcases hx with hx | ⟨a, rfl, ho⟩
      · cases hx with
        | dK h1 h2 h3 => exact fin (.inr ⟨_, s _ _ h1⟩) h2 h3
      · cases ho with
        | dK h1 h2 h3 => exact fin (.inl h1) h2 h3
  · cases h
def dgetD (x y : D) : Option D := (dlook x y).bind id
def rDix : R2 := fun x y H Q => ∃ a v, x = .ref a ∧ DGet H a y (some v) ∧ Q v H
theorem ix_dict {X : Cx} (hu : X.A.units + 64 < cLine) : IxR X rDix := by
  intro value slice pins s σ H x y v u Q I rx ry h hs
  obtain ⟨a, w, rfl, g, q⟩ := h
  obtain rfl : v = Value.ref a := rx
  exact tail_any (dict_typeIs I g) PySem.F.slot_dict_getitem.lookup (d_getItem (by omega) I g ry fun w' s3 I3 rw' => ⟨w, H, I3, rw', q⟩) hs
theorem dgetD_ok {K : PySem.W.Frag} : R2ok K rDix dgetD := by
  intro x y dx dy F H Q d s hx hy hd k
  unfold dgetD at hd
  cases e : dlook dx dy with
  | none => rw [e] at hd; cases hd
  | some r =>
    rw [e] at hd
    have e2 : r = some d := hd
    subst e2
    obtain ⟨a, rv, rfl, g, o⟩ := dlook_get s hx hy e
    cases rv with
    | none => exact o.elim
    | some v => exact ⟨a, v, rfl, g, k v F H (Ext.refl s) o⟩
theorem OptR.isSome {K : PySem.W.Frag} {F : Hp} {r : Option D} {o : Option V} (h : OptR K F r o) : o.isSome = r.isSome := by
  cases r <;> cases o <;> first | rfl | exact h.elim
end VL
set_option Elab.async false
set_option linter.all false
set_option maxRecDepth 100000
set_option autoImplicit false
namespace VL
open PySem PySem.Spec L2
open PyProof.Rows hiding St
theorem frz_raw {X : Cx} {pins : List (Addr × Obj)} {σ : L2.St} {H : Hp} {s : Shared} {d : Addr} {o : Obj} {kvs : List (List Key × V)} (I : Inv X pins σ H s) (h : H d = some (.frz o (.dT kvs))) :
    (d == sysModules) = false ∧ ∃ (es : Array DictEntry) (ep : Nat), o.data = .dict es ep ∧ DT.Raw s.heap d es ep ∧ es.size = kvs.length ∧
      ∀ (i : Nat) (k : List Key) (v : V), kvs[i]? = some (k, v) → ∃ (en : DictEntry) (q : Addr), es[i]? = some en ∧ en.key = .ref q ∧ H q = some (.tup (k.map kV)) ∧ RelV v en.val := by
  obtain ⟨hd, z, hs, xs, pr, o', es, ep, ho, hx, hdt, he, _⟩ := I.hok d _ h
  rw [hd] at ho
  cases ho
  refine ⟨hs, es, ep, hdt, ⟨o, hd, hx, hdt⟩, ?_, fun i k v e => ?_⟩
  · have l1 : es.size = xs.length := size_of_entries he
    have l2 : kvs.length = xs.length := Paired.length pr
    omega
  · obtain ⟨b, hb, e1, e2, e3⟩ := paired_get pr e
    have q := entry_at he i
    rw [hb] at q
    exact ⟨_, b.2.1, q, rfl, e2, e3⟩
end VL
set_option Elab.async false
set_option linter.all false
set_option maxRecDepth 100000
set_option autoImplicit false
namespace VL
open PySem PySem.Spec L2
open PyProof.Rows hiding St
theorem fz {F H : Hp} {q : Addr} {ks : List Key} (s : Same F H) (h : H q = some (.tup (ks.map kV))) : ∃ F', Ext F H F' H ∧ F' q = some (.tup (ks.map kV)) := by
  cases e : F q with
  | some o =>
    have z := s _ _ e
    rw [h] at z
    cases z
    exact ⟨F, Ext.refl s, e⟩
  | none =>
    refine ⟨upd F q (.tup (ks.map kV)), ⟨Same.refl H, fun b x y => ?_, same_upd e, fun b x y => ?_⟩, upd_same⟩
    · by_cases n : b = q
      · subst n
        rw [upd_same] at y
        cases y
        exact h
      · rw [upd_ne n] at y
        exact s _ _ y
    · by_cases n : b = q
      · subst n
        rw [upd_same] at y
        cases y
        exact .inr (.inr ⟨⟨ks, rfl⟩, h⟩)
      · rw [upd_ne n] at y
        exact .inl y
def tkey (ks : List Key) : D := .tup (ks.map keyD)
theorem fz_rep {K : PySem.W.Frag} {F : Hp} {q : Addr} {ks : List Key} (h : F q = some (.tup (ks.map kV))) (hl : ks.length ≤ sizeLine) : Rep K F (.ref q) (tkey ks) := .tup (.inl h) (by rw [List.length_map]; exact hl) (kV_reps ks)
theorem len_at {κ : Type} {kvs : List (κ × V)} {es : List (κ × D)} (h : kvs.map (·.1) = es.map (·.1)) : kvs.length = es.length := by
  have z := congrArg List.length h
  simpa using z
def smallT (es : List (List Key × D)) : Bool := decide (es.length ≤ sizeLine) && es.all fun p => decide (p.1.length ≤ sizeLine)
theorem smallT_ok {es : List (List Key × D)} (h : smallT es = true) : es.length ≤ sizeLine ∧ ∀ p ∈ es, p.1.length ≤ sizeLine := by
  obtain ⟨h1, h2⟩ := Bool.and_eq_true_iff.mp h
  exact ⟨of_decide_eq_true h1, fun p hp => of_decide_eq_true (List.all_eq_true.mp h2 p hp)⟩
end VL
set_option Elab.async false
set_option linter.all false
set_option maxRecDepth 100000
set_option autoImplicit false
set_option Elab.async false
set_option linter.all false
set_option maxRecDepth 100000
set_option autoImplicit false
namespace VL
open PySem PySem.Spec L2
open PyProof.Rows hiding St
def putE {κ : Type} [DecidableEq κ] (es : List (κ × D)) (k : κ) (d : D) : List (κ × D) :=
  if (es.any fun p => decide (p.1 = k)) then es.map (fun p => if p.1 = k then (p.1, d) else p) else es ++ [(k, d)]
theorem put_repl {κ : Type} [DecidableEq κ] {K : PySem.W.Frag} {F : Hp} {k : κ} {v : V} {d : D} (rv : Rep K F v d) : ∀ {kvs : List (κ × V)} {es : List (κ × D)}, kvs.map (·.1) = es.map (·.1) → Reps K F (kvs.map (·.2)) (es.map (·.2)) →
    (kvs.map (fun p => if p.1 = k then (p.1, v) else p)).map (·.1) = (es.map (fun p => if p.1 = k then (p.1, d) else p)).map (·.1) ∧ Reps K F ((kvs.map (fun p => if p.1 = k then (p.1, v) else p)).map (·.2)) ((es.map (fun p => if p.1 = k then (p.1, d) else p)).map (·.2)) ∧ (kvs.any fun p => decide (p.1 = k)) = es.any fun p => decide (p.1 = k)
  | [], [], _, _ => ⟨rfl, .nil, rfl⟩
  | [], _ :: _, h, _ => by simp at h
  | _ :: _, [], h, _ => by simp at h
  | (a, u) :: kvs, (b, e) :: es, h, r => by
    simp only [List.map_cons, List.cons.injEq] at h r
    obtain ⟨rfl, h2⟩ := h
    cases r with
    | cons r1 r2 =>
      obtain ⟨i1, i2, i3⟩ := put_repl rv h2 r2
      by_cases z : a = k
      · simp only [List.map_cons, z, if_true, List.any_cons, decide_true, Bool.true_or]
        exact ⟨by rw [i1], .cons rv i2, trivial⟩
      · simp only [List.map_cons, z, if_false, List.any_cons, decide_false, Bool.false_or]
        exact ⟨by rw [i1], .cons r1 i2, i3⟩
theorem put_ok {κ : Type} [DecidableEq κ] {K : PySem.W.Frag} {F : Hp} {k : κ} {v : V} {d : D} {kvs : List (κ × V)} {es : List (κ × D)} (rv : Rep K F v d) (h : kvs.map (·.1) = es.map (·.1)) (r : Reps K F (kvs.map (·.2)) (es.map (·.2))) :
    (putK kvs k v).map (·.1) = (putE es k d).map (·.1) ∧ Reps K F ((putK kvs k v).map (·.2)) ((putE es k d).map (·.2)) := by
  obtain ⟨i1, i2, i3⟩ := put_repl (k := k) rv h r
  unfold putK putE
  rw [i3]
  split
  · exact ⟨i1, i2⟩
  · simp only [List.map_append, List.map_cons, List.map_nil, h]
    exact ⟨trivial, r.append (.one rv)⟩
def dputD : D → D → D → Option D
  | .dT es, .tup ks, v => if ks.any isStr then (keysOf ks).bind fun k => if es.length < sizeLine then some (.dT (putE es k v)) else none else none
  | .dK es, k, v => (keyOf k).bind fun k => if es.length < sizeLine then some (.dK (putE es k v)) else none
  | _, _, _ => none
theorem Own.dput {K : PySem.W.Frag} {F H : Hp} {a : Addr} {y v : V} {d dk dv d' : D} (s : Same F H) (ho : Own K F H a d) (ry : Rep K F y dk) (rv : Rep K F v dv) (h : dputD d dk dv = some d') : ∃ o, DPut H a y v (upd H a o) ∧ Own K F (upd H a o) a d' := by
  unfold dputD at h
  split at h
  · split at h
    · rename_i es ks hstr
      cases hk : keysOf ks with
      | none => rw [hk] at h; cases h
      | some k =>
        rw [hk] at h
        simp only [Option.bind_some] at h
        split at h
        · rename_i hl
          cases h
          obtain ⟨b, rfl, _, hb⟩ := tup_key s (.inl ry) hk hstr
          cases ho with
          | dT h1 h2 h3 =>
            obtain ⟨p1, p2⟩ := put_ok (k := k) rv h2 h3
            exact ⟨_, .inr ⟨_, k, b, h1, rfl, hb, by rw [len_at h2]; exact hl, rfl⟩, .dT upd_same p1 p2⟩
        · cases h
    · cases h
  · rename_i es
    cases hk : keyOf dk with
    | none => rw [hk] at h; cases h
    | some k =>
      rw [hk] at h
      simp only [Option.bind_some] at h
      split at h
      · rename_i hl
        cases h
        have ey := keyOf_rep hk ry
        subst ey
        cases ho with
        | dK h1 h2 h3 =>
          obtain ⟨p1, p2⟩ := put_ok (k := k) rv h2 h3
          exact ⟨_, .inl ⟨_, k, h1, rfl, by rw [len_at h2]; exact hl, rfl⟩, .dK upd_same p1 p2⟩
      · cases h
  · cases h
section
variable {X : Cx} {G : Gd} {W : WX} {ρ : Rho}
def tLk (t : TE) : TE := fun σ H Q => t σ H fun v H1 => Q v H1 ∨ ∃ a u, v = .ref a ∧ H1 a = some u ∧ Mut (some u) ∧ ∀ od, Q v (upd H1 a (.frz od u))
theorem pe_lk {e : Expr} {t : TE} (h : PE X e t) : PE X e (tLk t) := by
  refine ⟨fun pins s σ H Q I hw => thn (h.run pins s σ H _ I hw) fun uv s1 ⟨x, H1, I1, rx, q⟩ => ?_⟩
  rcases q with q | ⟨a, u, ex, h1, mu, q⟩
  · exact ⟨x, H1, I1, rx, q⟩
  · obtain ⟨od, I2⟩ := I1.lock h1 mu
    exact ⟨x, _, I2, rx, q od⟩
theorem EC.ev {e : Expr} {m : Rs D} (h : EC X G W ρ true e (fun d => d) m) : EV X G W ρ e m := by
  obtain ⟨t, p, q⟩ := h
  refine ⟨_, pe_lk p, fun F0 σ F H Q hh hp => q F0 σ F H _ hh ?_⟩
  cases m with
  | ex c fs => exact hp
  | no => exact hp
  | ok d =>
    intro v F' H' e1 r1
    obtain ⟨a, rfl, hn, hf, ho⟩ := r1
    have nw : ∀ (o : HO) (b : Addr) (x : HO), upd F' a o b = some x → F b = some x ∨ Nw H b x := fun o b x y => by
      by_cases z : b = a
      · subst z
        exact .inr (.inl hn)
      · rw [upd_ne z] at y
        exact e1.new _ _ y
    cases hd : d.frzd with
    | true =>
      obtain ⟨o, ha, hr⟩ := ho.rep hd e1.sub hf
      refine .inl (hp _ (upd F' a o) H' ⟨e1.same, fun b x y => ?_, e1.ext.trans (same_upd hf), nw o⟩ hr)
      by_cases z : b = a
      · subst z
        rw [upd_same] at y
        cases y
        exact ha
      · rw [upd_ne z] at y
        exact e1.sub _ _ y
    | false =>
      have key : ∃ u, H' a = some u ∧ Mut (some u) ∧ ∀ od, Rep X.K (upd F' a (.frz od u)) (.ref a) d := by
        cases ho with
        | lst _ _ _ => cases hd
        | obj _ _ _ => cases hd
        | dT h l r => exact ⟨_, h, True.intro, fun od => .dT upd_same l (r.mono (same_upd hf))⟩
        | dK h l r => exact ⟨_, h, True.intro, fun od => .dK upd_same l (r.mono (same_upd hf))⟩
        | dN h l k r => exact ⟨_, h, True.intro, fun od => .dN upd_same l (k.mono (same_upd hf)) (r.mono (same_upd hf))⟩
      obtain ⟨u, hu, mu, hr⟩ := key
      refine .inr ⟨a, u, rfl, hu, mu, fun od => hp _ (upd F' a (.frz od u)) (upd H' a (.frz od u)) ⟨fun b x y => ?_, sub_upd e1.sub a _, e1.ext.trans (same_upd hf), nw _⟩ (hr od)⟩
      rw [upd_ne (ne_of_none y hn)]
      exact e1.same _ _ y
theorem ec_newT {pos : Pos} : EC X G W ρ true (.Dict [] [] pos) (fun d => d) (.ok (.dT [])) :=
  ⟨_, pe_dnewT, fun F0 σ F H Q hh hp p hn => hp _ F _ (Ext.loose hh.sub _ hn) ⟨p, rfl, hn, sub_none hh.sub hn, .dT upd_same rfl .nil⟩⟩
end
section
variable {X : Cx} {G : Gd} {W : WX} {ρx ρ : Rho} {rest sts : List Stmt} {α β R : Type} {pn : α → Rho} {pl : β → Rho} {ι : R → Fl α β}
theorem bi_newd {i : Nat} {x : Str} {e : Expr} {pos pos' : Pos} {m : Rs D} {f : D → Rs R} (nd : X.N.Nodup) (h : EC X G W ρ true e (fun d => d) m) (hr : ∀ d, BI X G W ρx (ρ.set i (some (.own true d))) rest pn pl ι (f d)) (hi : X.N[i]? = some x := by rfl) (hx : Loc X.env.scope x := by first | exact Or.inl rfl | exact Or.inr rfl) (hs : swapsWith e (some (.Name x pos')) pos.line X.env = pure false := by rfl)
    (hf : X.fn x = true ∨ X.env.scope.names.lookup x = some .local := by first | exact .inl rfl | exact .inr rfl) (hl : i < ρ.length := by exact Nat.le_of_ble_eq_true rfl) (wx : Wk ρ ρx := by first | exact Wk.nil | exact Wk.refl | (repeat (first | exact Wk.nil | apply Wk.keep | apply Wk.drop))) :
    BI X G W ρx ρ (.Assign [.Name x pos'] e pos :: rest) pn pl ι (m.bind f) := by
  obtain ⟨t, p, q⟩ := h
  intro F0 σ F H E hh hp
  rw [Rs.assoc] at hp
  refine any_cons (ps_set nd hi hx p hs hf) (q F0 σ F H _ hh (post_seq hh wx hp fun d v F' H' e1 r1 hp1 => ?_))
  exact hr d F0 _ F' H' E ((hh.more e1).setC r1 (fun a _ ha => free_of hh a ha) hl) hp1
theorem bi_dput {i : Nat} {x : Str} {e k : Expr} {xpos spos pos : Pos} {l : Bool} {c : D} {m mk : Rs D} {f : D → Rs R} (hu : X.A.units + 64 < cLine) (hv : PE X (.Name x xpos) (tVar i)) (he : EV X G W ρ e m) (hk : EV X G W ρ k mk) (hr : ∀ d, BI X G W ρx (ρ.set i (some (.own l d))) rest pn pl ι (f d))
    (hi : ρ[i]? = some (some (.own l c)) := by rfl) (hs : swapsWith e (some (.Subscript (.Name x xpos) k spos)) pos.line X.env = pure false := by rfl) (wx : Wk ρ ρx := by first | exact Wk.nil | exact Wk.refl | (repeat (first | exact Wk.nil | apply Wk.keep | apply Wk.drop))) :
    BI X G W ρx ρ (.Assign [.Subscript (.Name x xpos) k spos] e pos :: rest) pn pl ι (m.bind fun v => mk.bind fun k => (Rs.of (dputD c k v)).bind f) := by
  obtain ⟨te, pe, qe⟩ := he
  obtain ⟨tk, pk, qk⟩ := hk
  intro F0 σ F H E hh hp
  have e2 : ((m.bind fun v => mk.bind fun k => (Rs.of (dputD c k v)).bind f).bind fun r => (.ok (ι r) : Rs (Fl α β))) = m.bind fun v => mk.bind fun k => (Rs.of (dputD c k v)).bind fun d => (f d).bind fun r => .ok (ι r) := by simp only [Rs.assoc]
  rw [e2] at hp
  refine any_cons (ps_dput (by omega) hv pk pe hs) ?_
  refine qe F0 σ F H _ hh (post_seq hh wx hp fun dv v F1 H1 e1 r1 hp1 => ?_)
  have hh1 := hh.more e1
  obtain ⟨a, ha, hf, h0, ow⟩ := hh1.own i l c hi
  refine ⟨_, ha, ?_⟩
  refine qk F0 σ F1 H1 _ hh1 (post_seq hh1 wx hp1 fun dk y F2 H2 x2 r2 hp2 => ?_)
  cases hd : dputD c dk dv with
  | none => rw [hd] at hp2; exact hp2.elim
  | some d =>
    rw [hd] at hp2
    obtain ⟨o, put, o7⟩ := (ow.ext x2).dput x2.sub r2 (r1.mono x2.ext) hd
    refine ⟨a, _, rfl, put, ?_⟩
    exact hr d F0 σ F2 _ E ((hh1.more x2).write hi ha o7) hp2
end
end VL
namespace VL
open PySem PySem.Spec L2
open PyProof.Rows hiding St
theorem PE.or {X : Cx} {e : Expr} {t1 t2 : TE} (h1 : PE X e t1) (h2 : PE X e t2) : PE X e (fun σ H Q => t1 σ H Q ∨ t2 σ H Q) := ⟨fun pins s σ H Q I h => by
  rcases h with h | h
  · exact h1.run pins s σ H Q I h
  · exact h2.run pins s σ H Q I h⟩
end VL
set_option Elab.async false
set_option linter.all false
set_option maxRecDepth 100000
set_option autoImplicit false
namespace VL
open PySem PySem.Spec L2
open PyProof.Rows hiding St
section
variable {X : Cx} {G : Gd} {W : WX} {ρx ρ : Rho} {rest sts : List Stmt} {α β R : Type} {pn : α → Rho} {pl : β → Rho} {ι : R → Fl α β}
theorem Reps.dropLast {K : PySem.W.Frag} {F : Hp} : ∀ {xs : List V} {ds : List D}, Reps K F xs ds → Reps K F xs.dropLast ds.dropLast
  | _, _, .nil => .nil
  | _, _, .cons a .nil => .nil
  | _, _, .cons a (.cons c d) => .cons a (Reps.dropLast (.cons c d))
theorem PS.or {st : Stmt} {t1 t2 : TS} (h1 : PS X st t1) (h2 : PS X st t2) : PS X st (fun D σ H => t1 D σ H ∨ t2 D σ H) := ⟨fun pins s σ H Q I h => by
  rcases h with h | h
  · exact h1.run pins s σ H Q I h
  · exact h2.run pins s σ H Q I h⟩
end
end VL
set_option Elab.async false
set_option linter.all false
set_option maxRecDepth 100000
set_option autoImplicit false
set_option Elab.async false
set_option linter.all false
set_option maxRecDepth 100000
set_option autoImplicit false
namespace VL
open PySem PySem.Spec L2
open PyProof.Rows hiding St
section
variable {X : Cx} {G : Gd} {W : WX} {ρ : Rho}
theorem EV.to {e : Expr} {m : Rs D} (m' : Rs D) (h : EV X G W ρ e m) (q : m = m') : EV X G W ρ e m' := q ▸ h
end
end VL
set_option Elab.async false
set_option linter.all false
set_option maxRecDepth 100000
set_option autoImplicit false
set_option maxHeartbeats 2000001
namespace PySem
namespace VX
open Builtin Builtin.ObjectAttr PySem.W PySem.Calls PyProof.Rows PySem.HandSPX
section
variable {P : Program} {w : World} {A : Around} {E : Value → Shared → Prop} {R : Result → Shared → Prop} {hp : Heap} {gs : Array GenState} {dr : Drawn} {tk : Nat} {o5 : OsState} {nm q : Str} {C N : Addr} {bs mr mrB : List Value} {hd : Bool} {sn : List Str} {su : List Value} {ab : Bool} {co : Option Bool} {dd : Option Addr} {c0 c1 c2 c3 c5 : Option Value} {B nid iid : String}
variable {us : List Value} {kw : List (Str × Value)}
theorem chk_new {M : Model} {Q : Unit → Shared → Prop} (F : ExcBaseFacts B nid iid mrB) (hT : ∀ Y : String, mr.contains (.type Y) = mrB.contains (.type Y))
    (hC : hp.get? C = some (excClassObj nm q C N bs mr hd sn su ab co dd c0 c1 c2 c3 c5 nid)) (hq : Q () ⟨hp, gs, dr, tk, o5⟩) : wpAny M A (checkBuiltinCall nid ⟨.ref C :: us, kw⟩) Q E ⟨hp, gs, dr, tk, o5⟩ := by
  have hin : (Value.ref C :: mr).contains (.type B) = true := by
    rw [List.contains_cons, hT, F.hasB]
    exact Bool.or_true _
  have hsh := F.noStar
  simp only [checkBuiltinCall, F.newRow, F.newSplit, F.newKind]
  repeat (first | refine wpAny_staticBase_exc hC ?_ | refine wpAny_loadPart_at hC ?_ | (refine wpAny_isSubtype_exc hC ?_; rw [hin]) | refine wpAny_madeBy_exc hC ?_ | simp only [if_false, bne_self_eq_false, Bool.false_eq_true] | wp_step)
  exact hq
theorem new_kw (F : ExcBaseFacts B nid iid mrB) (hT : ∀ Y : String, mr.contains (.type Y) = mrB.contains (.type Y)) (hC : hp.get? C = some (excClassObj nm q C N bs mr hd sn su ab co dd c0 c1 c2 c3 c5 nid))
    (hq : R (.ok (.ret (.ref (hp.objs.size + 1)))) ⟨(hp.push (kdv_tup us)).push (excO C hp.objs.size), gs, dr, tk, o5⟩) (hu : us.length ≤ sizeLine) :
    codeAny (model P w) A (.builtin nid ⟨.ref C :: us, kw⟩) R ⟨hp, gs, dr, tk, o5⟩ := by
  have e0 := F.ends
  have iB : (Value.ref C :: mr).contains (.type B) = true := by
    rw [List.contains_cons, hT, F.hasB]
    exact Bool.or_true _
  have iA : (Value.ref C :: mr).contains (.type "AttributeError") = false := by
    rw [List.contains_cons, hT, F.noAttr]
    rfl
  have iN : (Value.ref C :: mr).contains (.type "NameError") = false := by
    rw [List.contains_cons, hT, F.noName]
    rfl
  refine codeAny_builtinAt F.entry ?_; unfold «BaseException.__new__»
  refine wpAt_bind ?_; show wpAt _ _ _ (stack >>= _) _ _ _
  refine wpAt_bind (wpAt_stack fun p q' => wpAt_of_wpAny ?_)
  wp_walk
  refine wpAt_of_wpAny ?_
  rw [F.owner]
  repeat (first | with_reducible refine wpAny_loadPart_at hC ?_ | with_reducible refine wpAny_madeHere_exc F.canon hC ?_ | (with_reducible refine wpAny_isSubtype_exc hC ?_; first | rw [iB] | rw [iN] | rw [iA]) | wp_step)
  show R _ _
  rw [Heap.size_push]
  exact hq
theorem type_kw {fI : Addr} {Q : Fin → Shared → Prop} (F : ExcBaseFacts B nid iid mrB) (hT : ∀ Y : String, mr.contains (.type Y) = mrB.contains (.type Y)) (hC : hp.get? C = some (excClassObj nm q C N bs mr hd sn su ab co dd c0 c1 c2 c3 c5 nid))
    (hi : Looks (model P w) hp (typeLookup (.ref C) "__init__") (some (.ref fI))) (hb : ∀ x, Looks (model P w) hp (bindSpecial (.ref fI) x) (.ref fI, [x])) (hu : us.length ≤ sizeLine)
    (hq : codeAny (model P w) A (.call (.ref fI) ⟨.ref (hp.objs.size + 1) :: us, kw⟩) (fun r s' => match r with
      | .error e => E e s'
      | .ok (.ret v) => v = .none ∧ Q (.done (.ret (.ref (hp.objs.size + 1)))) s'
      | .ok _ => False) ⟨(hp.push (kdv_tup us)).push (excO C hp.objs.size), gs, dr, tk, o5⟩) :
    wpAny (model P w) A (Builtin.«type.__call__» ⟨.ref C :: us, kw⟩) Q E ⟨hp, gs, dr, tk, o5⟩ := by
  repeat (first | with_reducible refine wpAny_madeBy_exc hC ?_ | with_reducible refine wpAny_loadPart_at hC ?_ | wp_step)
  refine codeAny_call_builtin_code (Code.quiet_builtin _ F.quiet) (chk_new F hT hC ?_)
  refine new_kw F hT hC ?_ hu
  show wpAny _ _ _ _ _ _
  have kp : ∀ b o, hp.get? b = some o → ((hp.push (kdv_tup us)).push (excO C hp.objs.size)).get? b = some o := fun b o e => Heap.get?_push_of_some _ (Heap.get?_push_of_some _ e)
  have hC2 := kp _ _ hC
  have hnew : ((hp.push (kdv_tup us)).push (excO C hp.objs.size)).get? (hp.objs.size + 1) = some (excO C hp.objs.size) := by heap_get
  have iC : (Value.ref C :: mr).contains (.ref C) = true := by simp
  have i2 := hi.keeps kp
  have b2 := (hb (.ref (hp.objs.size + 1))).keeps kp
  unfold isInstance
  repeat (first | with_reducible refine wpAny_loadPart_at hnew ?_ | (with_reducible refine wpAny_isSubtype_exc hC2 ?_; rw [iC]) | wp_step)
  show wpAny _ _ (typeLookup (.ref C) _) _ _ _; refine i2.at ?_
  refine wpAny_holding (wpAny_bind (b2.at ?_))
  refine wpAny_bind (wpAny_call (codeAny_mono hq fun rr s2 zz => ?_))
  rcases rr with er | (vr | _ | _ | _) <;> first | exact zz | exact zz.elim | skip
  obtain ⟨rfl, zz⟩ := zz
  first
    | exact wpAny_pure (wpAny_pure zz)
    | (wp_walk; exact zz)
theorem call_kw {fI : Addr} (F : ExcBaseFacts B nid iid mrB) (hT : ∀ Y : String, mr.contains (.type Y) = mrB.contains (.type Y)) (hC : hp.get? C = some (excClassObj nm q C N bs mr hd sn su ab co dd c0 c1 c2 c3 c5 nid))
    (hi : Looks (model P w) hp (typeLookup (.ref C) "__init__") (some (.ref fI))) (hb : ∀ x, Looks (model P w) hp (bindSpecial (.ref fI) x) (.ref fI, [x])) (hu : us.length ≤ sizeLine)
    (hq : codeAny (model P w) (A.under (.builtin "type.__call__" ⟨.ref C :: us, kw⟩)) (.call (.ref fI) ⟨.ref (hp.objs.size + 1) :: us, kw⟩) (InitBack (hp.objs.size + 1) R) ⟨(hp.push (kdv_tup us)).push (excO C hp.objs.size), gs, dr, tk, o5⟩) :
    codeAny (model P w) A (.call (.ref C) ⟨us, kw⟩) R ⟨hp, gs, dr, tk, o5⟩ := by
  have f1 := tc_lookup
  have f2 := tc_bind (.ref C)
  have hTy : (⟨hp, gs, dr, tk, o5⟩ : Shared).TypeIs (.ref C) "type" := ⟨_, hC, rfl⟩
  refine codeAny_of_tree ?_; show wpAny _ _ (callAny (.ref C) _) _ _ _
  repeat (any_goals (first | with_reducible refine wpAny_loadPart_at hC ?_ | assumption | wp_step))
  refine ⟨rfl, ?_⟩
  refine codeAny_call_builtin_at (Code.quiet_builtin _ (by decide +kernel)) entry_typeCall (wpAny_check_type_call_sub hC (type_kw F hT hC hi hb hu ?_))
  refine codeAny_mono hq fun rr s2 zz => ?_
  rcases rr with er | (vr | _ | _ | _) <;> exact zz
end
end VX
end PySem
namespace VL
open PySem PySem.Spec L2
open PyProof.Rows hiding St
def tMkK (C : Addr) (n m : Nat) (sp : Sp) (gV : List V → List V → List V) (t tk : TA) : L2.St → Hp → XK → Prop := fun σ H Q => t σ H fun vs H1 => tk σ H1 fun zs H2 => vs.length = n ∧ zs.length = m ∧ ∀ a, H2 a = none → sp (gV (.ref a :: vs) zs) (upd H2 a (exo a C none))
  (fun v H3 => v = .non ∧ ∃ (d : Addr) (fs : List (Str × V)), H3 a = some (exo a C (some d)) ∧ H3 d = some (exd d fs) ∧ H2 d = none ∧ Q (.ref C) (some d) (upd (del H3 a) d (.xd fs))) (fun _ _ _ => False)
section
variable {X : Cx} {CX : CXT} {k n : Nat} {fI C : Addr} {fd : FuncData} {ps ks : List Str} {sp : Sp} {x : Str} {p pos : Pos} {e : Expr} {es : List Expr} {kws : List Keyword} {t tk : TA} {g : List Value → List Value → List Value} {gV : List V → List V → List V}
theorem run_exc {pins : List (Addr × Obj)} {σ : L2.St} {H : Hp} {s : Shared} {Q : XK} {us ws : List Value} {vs zs : List V} (T : OexC X.K C) (iC : PySem.W.findIn X.K (.ref C) "__init__" = some (some (.ref fI))) (tI : PySem.W.typeIn X.K (.ref fI) = some (.type "function"))
    (F1 : FnOk X.prog X.w X.K X.mg X.base CX k fI fd ps sp) (hr : Room (k + 1) X.A) (hb : KBn X.K fd ps (n + 1) ks g gV) (hx : Passes CX X (fun _ _ _ => False)) (I1 : Inv X pins σ H s) (r : Vals vs us) (rz : Vals zs ws) (l1 : vs.length = n) (l2 : zs.length = ks.length) (hn : n ≤ 1000)
    (h : ∀ a, H a = none → sp (gV (.ref a :: vs) zs) (upd H a (exo a C none)) (fun v H3 => v = .non ∧ ∃ (d : Addr) (fs : List (Str × V)), H3 a = some (exo a C (some d)) ∧ H3 d = some (exd d fs) ∧ H d = none ∧ Q (.ref C) (some d) (upd (del H3 a) d (.xd fs))) (fun _ _ _ => False)) :
    wpAny (model X.prog X.w) X.A (call (.ref C) us (ks.zip ws)) (L2N.MkP X pins σ Q) X.xe s := by
  obtain ⟨n0, q0, N0, b0, bm, s0, u0, a0, c0, d0, k0, k1, k2, k3, k5, hC, hbm⟩ := T.cls
  obtain ⟨hp, gg, dr, tt, os⟩ := s
  have hsz := Nat.le_succ hp.objs.size
  have hq := h (hp.objs.size + 1) (I1.hok.fresh hsz)
  have kk : ∀ b o, hp.get? b = some o → ((hp.push (PySem.W.kdv_tup us)).push (PySem.HandSPX.excO C hp.objs.size)).get? b = some o := fun b o z => Heap.get?_push_of_some _ (Heap.get?_push_of_some _ z)
  have hg : ((hp.push (PySem.W.kdv_tup us)).push (PySem.HandSPX.excO C hp.objs.size)).get? (hp.objs.size + 1) = some (PySem.HandSPX.excO C hp.objs.size) := by heap_get
  have I2 : Inv X pins σ (upd H (hp.objs.size + 1) (exo (hp.objs.size + 1) C none)) ⟨(hp.push (PySem.W.kdv_tup us)).push (PySem.HandSPX.excO C hp.objs.size), gg, dr, tt, os⟩ :=
    I1.laid (o := exo (hp.objs.size + 1) C none) (a := hp.objs.size + 1) (t' := tt) (h' := (hp.push (PySem.W.kdv_tup us)).push (PySem.HandSPX.excO C hp.objs.size)) kk hsz (exo_ok hg)
  have r1 : Vals (V.ref (hp.objs.size + 1) :: vs) (Value.ref (hp.objs.size + 1) :: us) := .cons rfl r
  have r2 := hb.rel r1 rz
  have n1 : (Value.ref (hp.objs.size + 1) :: us).length = n + 1 := by
    rw [List.length_cons, ← l1, r.length]
  have hul : us.length ≤ sizeLine := by
    rw [← r.length, l1, sizeLine_eq]
    omega
  refine wpAny_call (PySem.VX.call_kw F.excBase_ValueError (fun Y => PySem.HandSPX.refsVE_contains Y bm hbm) (I1.kIn _ _ hC) (PySem.W.looks_findIn I1.kIn iC) (fun y => PySem.W.bind_fn I1.kIn y tI) hul
    (codeAny_mono (F1.run _ X.stack _ _ ⟨Value.ref (hp.objs.size + 1) :: us, ks.zip ws⟩ (g (Value.ref (hp.objs.size + 1) :: us) ws) _ _ (fun _ _ _ => False) (hr.make C us (ks.zip ws)) (I2.env0.make C us (ks.zip ws)) (hb.to _ (Value.ref (hp.objs.size + 1) :: us) ws I2.kIn n1 (rz.length.symm.trans l2)) r2 hq) fun rr s3 hq3 => ?_))
  cases rr with
  | error er => exact hx pins σ _ _ er s3 I2 hq3
  | ok fl =>
    cases fl with
    | ret u =>
      obtain ⟨v, H3, os2, bare2, un2, hok2, rv, ev, d, fs, ea, ed, hd1, q2⟩ := hq3
      subst ev
      obtain ⟨h3, g3, d3, t3, o3⟩ := s3
      exact ⟨rv, mk_endN (T := raises_own T.exC T.tyC) I1 hsz kk un2 hok2 os2 bare2 ea ed hd1 q2⟩
    | next => exact hq3.elim
    | brk => exact hq3.elim
    | cont => exact hq3.elim
theorem pmk_kw0 (T : OexC X.K C) (iC : PySem.W.findIn X.K (.ref C) "__init__" = some (some (.ref fI))) (tI : PySem.W.typeIn X.K (.ref fI) = some (.type "function")) (F1 : FnOk X.prog X.w X.K X.mg X.base CX k fI fd ps sp) (hr : Room (k + 1) X.A) (hb : KBn X.K fd ps 1 ks g gV) (hx : Passes CX X (fun _ _ _ => False))
    (hg : Gl X x) (hm : X.mg x = some (.ref C)) (hkw : PK X kws tk) (hall : (backToKw pos (keywordEach kws X.env)).all (·.1.isSome) = true := by rfl) (hks : (backToKw pos (keywordEach kws X.env)).filterMap (·.1) = ks := by rfl) (hdb : (x == ("__debug__" : Str)) = false := by decide)
    (hpl : ((backTo pos (starEach [] X.env)).any (·.1) || (backToKw pos (keywordEach kws X.env)).any (·.1.isNone)) = false := by rfl) : L2N.PMk X (.Call (.Name x p) [] kws pos) (tMkK C 0 ks.length sp gV tNil tk) := by
  intro pins s σ H Q I h
  refine wpAny_Call_Name_kw (ld_glob I hg hm ?_ hdb)
  refine PySem.W.callWith_KW0 (h₀ := X.base) I.ok.mod.kin T.kC hall (thn (hkw.run pos pins s σ H _ I h) fun ws s2 ⟨zs, H2, I2, rz, l1, l2, q2⟩ => ⟨I2.kIn, ?_⟩) hpl
  rw [hks]
  exact run_exc (us := []) (vs := []) T iC tI F1 hr hb hx I2 .nil rz rfl l2 (by decide) q2
end
end VL
set_option Elab.async false
set_option linter.all false
set_option maxRecDepth 100000
set_option autoImplicit false
set_option maxHeartbeats 1000000
namespace VL
open PySem PySem.Spec L2
open PyProof.Rows hiding St
def spX0 (K : PySem.W.Frag) (c f : Str) : Sp := fun vs H Q E => ∃ a : Addr, vs = [.ref a] ∧ H a = some (exo a (He.ga K c) none) ∧ ∀ p dx, H p = none → upd H p (.tup []) dx = none → dx ≠ a → Q .non (upd (upd (upd H p (.tup [])) dx (exd dx [(f, .ref p)])) a (exo a (He.ga K c) (some dx)))
theorem keeps_xinit0 {P : Program} {w : World} {K : PySem.W.Frag} {mg : Str → Option Value} {base : Heap} {x qual : Str} {params : Arguments} {body : List Stmt} {scope : Scope} {dvs : List V} {kws : List (Str × V)} {fa : Addr} {fd : FuncData} {k : Nat} {c sn f : Str} {spos apos tpos pos : Pos} {cx}
    (Fd : FunD K x qual params body scope dvs kws fa fd) (S : FnScope [sn] [sn] scope) (hbody : body = [.Assign [.Attribute (.Name sn spos) f apos] (.Tuple [] cx tpos) pos]) (hs1 : Vis scope sn) (hd1 : (sn == ("__debug__" : Str)) = false) (hd3 : (sn == ("__classdict__" : Str)) = false) (T : OexC K (He.ga K c)) (hno : PySem.W.findIn K (.ref (He.ga K c)) f = some none) :
    FnOk P w K mg base (L2N.CX P w) (k + 1) fa fd [sn] (spX0 K c f) := by
  subst hbody
  refine Fd.ok S (fun vs H Q E h => ?_) (fun cdv A outer s H vs Q E hr h => ?_)
  · obtain ⟨a, rfl, _⟩ := h
    rfl
  · obtain ⟨a, rfl, he, q⟩ := h
    refine ⟨_, pss_one (ps_ost (pe_var (i := 0) rfl hs1 hd1 hd3) (pe_tup pa_nil)), ?_⟩
    refine ⟨Nat.zero_le _, fun p hp => ⟨.ref a, rfl, a, He.ga K c, rfl, T, hno, .inl ⟨?_, fun dx n1 n2 => q p dx hp n1 n2⟩⟩⟩
    rw [upd_ne (ne_of_none he hp)]
    exact he
end VL
set_option Elab.async false
set_option linter.all false
set_option maxRecDepth 100000
set_option autoImplicit false
set_option maxHeartbeats 1000000
set_option Elab.async false
set_option linter.all false
set_option maxRecDepth 100000
set_option autoImplicit false
set_option Elab.async false
set_option linter.all false
set_option maxRecDepth 100000
set_option autoImplicit false
set_option maxHeartbeats 2000001
set_option Elab.async false
set_option linter.all false
set_option maxRecDepth 100000
set_option autoImplicit false
set_option maxHeartbeats 2000001
set_option Elab.async false
set_option linter.all false
set_option maxRecDepth 100000
set_option autoImplicit false
set_option maxHeartbeats 2000001
set_option Elab.async false
set_option linter.all false
set_option maxRecDepth 100000
set_option autoImplicit false
set_option maxHeartbeats 1000000
set_option Elab.async false
set_option linter.all false
set_option maxRecDepth 100000
set_option autoImplicit false
set_option maxHeartbeats 2000001
set_option Elab.async false
set_option linter.all false
set_option maxRecDepth 100000
set_option autoImplicit false
set_option maxHeartbeats 2000001
set_option Elab.async false
set_option linter.all false
set_option maxRecDepth 100000
set_option autoImplicit false
set_option maxHeartbeats 2000001
set_option Elab.async false
set_option linter.all false
set_option maxRecDepth 100000
set_option autoImplicit false
set_option maxHeartbeats 2000001
namespace VL
open PySem PySem.Spec L2
open PyProof.Rows hiding St
abbrev Ys := List (NestedKey × Addr × V)
end VL
set_option Elab.async false
set_option linter.all false
set_option maxRecDepth 100000
set_option autoImplicit false
set_option maxHeartbeats 2000001
set_option Elab.async false
set_option linter.all false
set_option maxRecDepth 100000
set_option autoImplicit false
set_option maxHeartbeats 2000001
namespace VL
open PySem PySem.Spec L2
open PyProof.Rows hiding St
open PySem.W (alike alikeAll dataLt AllAlike Sortable SortsAt dataKind EachIs sortLe sortVals keyToks keyToksAll) in
section
abbrev KR (H : Hp) : List (List Key) → List V → Prop := Paired fun k x => ∃ q : Addr, x = .ref q ∧ H q = some (.tup (k.map kV))
def rSrtT (K : PySem.W.Frag) : List V → Hp → VK → Prop := fun vs H Q => ∃ (a : Addr) (o : Obj) (kvs : List (List Key × V)), vs = [V.ref a] ∧ H a = some (.frz o (.dT kvs)) ∧ kvs.length ≤ sizeLine ∧
  ∀ xs : List V, KR H (kvs.map (·.1)) xs → ∃ ps : List PyData, DpAll K H xs ps ∧ sortOk ps = true ∧ ∀ p, H p = none → Q (.ref p) (upd H p (.lst (((xs.zip ps).mergeSort leV).map (·.1))))
theorem kr_of {H : Hp} : ∀ {ks : List (List Key)} {us : List Value}, ks.length = us.length → (∀ (i : Nat) (k : List Key) (u : Value), ks[i]? = some k → us[i]? = some u → ∃ q : Addr, u = .ref q ∧ H q = some (.tup (k.map kV))) → ∃ xs, KR H ks xs ∧ Vals xs us
  | [], [], _, _ => ⟨[], .nil, .nil⟩
  | [], _ :: _, h, _ => by simp at h
  | _ :: _, [], h, _ => by simp at h
  | k :: ks, u :: us, h, g => by
    obtain ⟨q, rfl, hq⟩ := g 0 k u rfl rfl
    obtain ⟨xs, a, b⟩ := kr_of (ks := ks) (us := us) (by simpa using h) fun i k u e1 e2 => g (i + 1) k u (by simpa using e1) (by simpa using e2)
    exact ⟨.ref q :: xs, .cons ⟨q, rfl, hq⟩ a, .cons rfl b⟩
theorem call_sortT {X : Cx} (calm : X.calm = true) (hu : X.A.units + 64 < cLine) : CallR X (.builtin "sorted") (rSrtT X.K) := by
  intro pins s σ H vs us Q I r h
  obtain ⟨a, o, kvs, rfl, ha, hz, q⟩ := h
  rw [Vals.ref1 r]
  obtain ⟨hs, es, ep, hdt, hr, hsz, ent⟩ := frz_raw I ha
  refine Calls.call_function_entry kind_sorted plain_sorted entry_sorted (args_sorted1 _) ?_
  unfold Builtin.«sorted»
  refine wpAny_bind (m := checkCount "sorted" 1 1 _) (wpAny_pure (wpAny_bind (PySem.W.kdu_collect (A := X.A.in1) (KdlSrc.rawDict (d := a) (es := es) (ep := ep) hs) (I.ok.hd calm) hr (by omega) fun h' tk acc hk hacc => ?_)))
  obtain ⟨its, hits⟩ : ∃ its, its = acc.toList := ⟨_, rfl⟩
  have hil : its.length = kvs.length := by
    rw [hits, Array.length_toList, hacc.1, hsz]
  obtain ⟨xs, kr, rv⟩ := kr_of (H := H) (ks := kvs.map (·.1)) (us := its) (by rw [List.length_map]; exact hil.symm) fun i k u e1 e2 => by
    rw [List.getElem?_map] at e1
    obtain ⟨⟨k', v⟩, e3, rfl⟩ := Option.map_eq_some_iff.mp e1
    rw [hits, Array.getElem?_toList] at e2
    obtain ⟨hi, e4⟩ := hacc.2 i u e2
    obtain ⟨en, q0, g1, g2, g3, _⟩ := ent i k' v e3
    rw [Array.getElem?_eq_getElem hi] at g1
    cases g1
    exact ⟨q0, by rw [e4, g2], g3⟩
  obtain ⟨ps, hd, ok, qq⟩ := q xs kr
  rw [← hits]
  have hlen : its.length ≤ sizeLine := by omega
  have e0 := each_reads I hd rv
  refine wpAny_bind (wpAny_newList ?_ hlen)
  have hnew : (h'.push (seqObj "list" its.toArray 0)).get? h'.objs.size = some (seqObj "list" its.toArray 0) := Heap.get?_push_size _ rfl
  have keep2 : ∀ b o, s.heap.get? b = some o → b ≠ h'.objs.size ∧ (h'.push (seqObj "list" its.toArray 0)).get? b = some o := fun b o e => ⟨Nat.ne_of_lt (Heap.lt_size (hk b o e)), Heap.get?_push_of_some _ (hk b o e)⟩
  have gone : s.heap.get? h'.objs.size = none := by
    cases e : s.heap.get? h'.objs.size with
    | none => rfl
    | some o => exact absurd (Heap.lt_size (hk _ _ e)) (Nat.lt_irrefl _)
  have hn : H h'.objs.size = none := I.hok.gone gone
  have e1 : EachIs (fun v d => ∃ as, Reads (PySem.W.sortingHeap (h'.push (seqObj "list" its.toArray 0)) h'.objs.size its) v d as) its ps := e0.mono fun v d ⟨as, hr⟩ =>
    ⟨as, Reads.keeps (fun b o e => PySem.W.sortingHeap_old (keep2 b o e).1 (keep2 b o e).2) hr⟩
  have S : SortsAt X.prog X.w X.A.in1.in1 { s with heap := PySem.W.sortingHeap (h'.push (seqObj "list" its.toArray 0)) h'.objs.size its, toks := tk } (dataKind (PySem.W.sortingHeap (h'.push (seqObj "list" its.toArray 0)) h'.objs.size its) ps) its :=
    SortsAt.data e1 (sortOk_alike ok) (sortOk_able ok) fun d hd => by
      have h1 := sortOk_depth ok d hd
      simp only [units_in1]
      omega
  show wpAny (model X.prog X.w) X.A.in1 _ _ _ { s with heap := h'.push (seqObj "list" its.toArray 0), toks := tk }
  refine wpAny_bind (wpAny_holding (wpAny_call_entry slot_list_sort ⟨_, hnew, rfl⟩ entry_list_sort (PySem.W.list_sort_vals (s := { s with heap := h'.push (seqObj "list" its.toArray 0), toks := tk }) hnew S hlen ?_) (args_list_sort _)))
  refine ⟨_, rfl, wpAny_pure ⟨_, rfl, ?_⟩⟩
  have key : EachIs (fun v d => (dataKind (PySem.W.sortingHeap (h'.push (seqObj "list" its.toArray 0)) h'.objs.size its) ps).keyOf v = some (keyToks d)) its ps := by
    have e2 := PySem.W.each_mem e1
    exact e2.mono fun v d ⟨⟨as, hr⟩, hm⟩ => PySem.W.dataKind_some (sortOk_alike ok) hm hr
  have lz : xs.length = ps.length := rv.length.trans e0.length
  have ezip : (xs.zip ps).map (·.2) = ps := List.map_snd_zip (by omega)
  have e3 : EachIs (fun v (p : V × PyData) => RelV p.1 v) its (xs.zip ps) := (each_pair (R := fun u x => RelV x u) rv e0).mono fun _ _ h => h.1
  have k3 := each_snd (qs := xs.zip ps) (by rw [ezip]; exact key)
  have out := PySem.W.sortVals_each (κ := dataKind (PySem.W.sortingHeap (h'.push (seqObj "list" its.toArray 0)) h'.objs.size its) ps) (rev := false) (k := fun p : V × PyData => (show (dataKind (PySem.W.sortingHeap (h'.push (seqObj "list" its.toArray 0)) h'.objs.size its) ps).α from keyToks p.2)) e3 k3
  have hv : Vals (((xs.zip ps).mergeSort leV).map (·.1)) (sortVals (dataKind (PySem.W.sortingHeap (h'.push (seqObj "list" its.toArray 0)) h'.objs.size its) ps) false its its) := each_vals (fun _ _ h => h) out
  obtain ⟨ep2, he⟩ := sortedHeap_at (out := (sortVals (dataKind (PySem.W.sortingHeap (h'.push (seqObj "list" its.toArray 0)) h'.objs.size its) ps) false its its).toArray) hnew
  have hl2 : (((xs.zip ps).mergeSort leV).map (·.1)).length ≤ sizeLine := by
    rw [List.length_map, (List.mergeSort_perm _ _).length_eq, List.length_zip]
    have := rv.length
    omega
  refine ⟨.ref _, upd H h'.objs.size (.lst (((xs.zip ps).mergeSort leV).map (·.1))), I.laidN (t' := tk) (fun b o e => ?_) gone hn ⟨hl2, _, ep2, hv, he⟩, rfl, qq _ hn⟩
  rw [sortedHeap_old (keep2 b o e).1 (Heap.lt_size (keep2 b o e).2)]
  exact (keep2 b o e).2
end
theorem fz_all {K : PySem.W.Frag} {H : Hp} : ∀ {ks : List (List Key)} {xs : List V} {F : Hp}, Same F H → KR H ks xs → (∀ k ∈ ks, k.length ≤ sizeLine) → ∃ F', Ext F H F' H ∧ Reps K F' xs (ks.map tkey)
  | _, _, F, s, .nil, _ => ⟨F, Ext.refl s, .nil⟩
  | _, _, F, s, .cons h r, hk => by
    obtain ⟨q, rfl, hq⟩ := h
    obtain ⟨F1, e1, g1⟩ := fz s hq
    obtain ⟨F2, e2, r2⟩ := fz_all e1.sub r fun k hm => hk k (List.mem_cons_of_mem _ hm)
    exact ⟨F2, e1.trans e2, .cons ((fz_rep g1 (hk _ List.mem_cons_self)).mono e2.ext) r2⟩
def sortK : D → Option D
  | .dT es => if smallT es then (sortL (es.map fun p => tkey p.1)).map .lst else none
  | _ => none
section
variable {X : Cx} {G : Gd} {W : WX} {ρ : Rho} {e : Expr} {m : Rs D} {p pos : Pos}
theorem ev_sortK (hu : X.A.units + 64 < cLine) (hc : X.calm = true) (hm : X.mg "sorted" = none) (he : EV X G W ρ e m) (hg : Gl X "sorted" := by rfl) (hst : starEach [e] X.env = (false, eval e X.env) :: starEach [] X.env := by rfl) (hpl : (backTo pos (starEach [] X.env)).any (·.1) = false := by rfl) :
    EV X G W ρ (.Call (.Name "sorted" p) [e] [] pos) (m.bind fun x => Rs.of (sortK x)) := by
  obtain ⟨t, pe, q⟩ := he
  refine ⟨_, pe_callB (call_sortT hc hu) hg hm rfl (pa_cons pe pa_nil hst) (by decide) (by decide) hst hpl, fun F0 σ F H Q hh hp => ?_⟩
  refine q F0 σ F H _ hh (hp.bind fun dx x F1 H1 e1 r1 hp1 => ?_)
  obtain ⟨d, hd, kk⟩ := Post.of hp1
  unfold sortK at hd
  split at hd
  · rename_i es
    split at hd
    · rename_i sm
      obtain ⟨zs, hs, rfl⟩ := Option.map_eq_some_iff.mp hd
      obtain ⟨s1, s2⟩ := smallT_ok sm
      cases r1 with
      | dT h1 h2 h3 =>
        refine ⟨_, _, _, rfl, e1.sub _ _ h1, by rw [len_at h2]; exact s1, fun xs kr => ?_⟩
        rw [h2] at kr
        obtain ⟨F2, e2, r2⟩ := fz_all (K := X.K) e1.sub kr fun k hm => by
          obtain ⟨p, hp, rfl⟩ := List.mem_map.mp hm
          exact s2 p hp
        have em : (es.map (·.1)).map tkey = es.map fun p => tkey p.1 := by rw [List.map_map]; rfl
        rw [em] at r2
        have hs' := hs
        unfold sortL at hs'
        split at hs'
        · rename_i ok
          have ok0 := (Bool.and_eq_true_iff.mp ok).1
          have ok1 := (Bool.and_eq_true_iff.mp (Bool.and_eq_true_iff.mp ok).2).1
          refine ⟨_, Reps.dp e2.sub r2 ok0, ok1, fun p hn => ?_⟩
          have rr := sort_reps r2 hs
          have hl : (((xs.zip (pys (es.map fun p => tkey p.1))).mergeSort leV).map (·.1)).length ≤ sizeLine := by
            rw [Reps.length rr, sortL_len hs, List.length_map]
            exact s1
          exact kk _ _ _ (e2.trans (Ext.fresh e2.sub _ hn)) (new_lst e2.sub hn hl rr)
        · cases hs'
    · cases hd
  · cases hd
end
end VL
set_option Elab.async false
set_option linter.all false
set_option maxRecDepth 100000
set_option autoImplicit false
set_option maxHeartbeats 2000001
set_option Elab.async false
set_option linter.all false
set_option maxRecDepth 100000
set_option autoImplicit false
set_option Elab.async false
set_option linter.all false
set_option maxRecDepth 100000
set_option autoImplicit false
set_option Elab.async false
set_option linter.all false
set_option maxRecDepth 100000
set_option autoImplicit false
set_option Elab.async false
set_option linter.all false
set_option maxRecDepth 100000
set_option autoImplicit false
namespace VL
open PySem PySem.Spec L2
open PyProof.Rows hiding St
section
variable {X : Cx} {G : Gd} {W : WX} {ρx ρ : Rho} {rest sts : List Stmt} {α β R : Type} {pn : α → Rho} {pl : β → Rho} {ι : R → Fl α β}
theorem BI.to {m m' : Rs R} (q : m = m') (h : BI X G W ρx ρ sts pn pl ι m) : BI X G W ρx ρ sts pn pl ι m' := q ▸ h
end
end VL
set_option Elab.async false
set_option linter.all false
set_option maxRecDepth 100000
set_option autoImplicit false
namespace VL
open PySem PySem.Spec L2
open PyProof.Rows hiding St
def iaddD : D → D → Option D
  | .int i, .int j => some (.int (i + j))
  | _, _ => none
@[simp] theorem iaddD_int (i j : Int) : iaddD (.int i) (.int j) = some (.int (i + j)) := rfl
end VL
set_option Elab.async false
set_option linter.all false
set_option maxRecDepth 100000
set_option autoImplicit false
set_option Elab.async false
set_option linter.all false
set_option maxRecDepth 100000
set_option autoImplicit false
set_option Elab.async false
set_option linter.all false
set_option maxRecDepth 100000
set_option autoImplicit false
set_option Elab.async false
set_option linter.all false
set_option maxRecDepth 100000
set_option autoImplicit false
set_option maxHeartbeats 2000000
set_option Elab.async false
set_option linter.all false
set_option maxRecDepth 100000
set_option autoImplicit false
set_option maxHeartbeats 2000000
set_option Elab.async false
set_option linter.all false
set_option maxRecDepth 100000
set_option autoImplicit false
set_option maxHeartbeats 3200000
set_option Elab.async false
set_option linter.all false
set_option maxRecDepth 100000
set_option autoImplicit false
set_option maxHeartbeats 3200000
set_option Elab.async false
set_option linter.all false
set_option maxRecDepth 100000
set_option autoImplicit false
set_option Elab.async false
set_option linter.all false
set_option maxRecDepth 100000
set_option autoImplicit false
set_option Elab.async false
set_option linter.all false
set_option maxRecDepth 100000
set_option autoImplicit false
namespace VL
open PySem PySem.Spec L2
open PyProof.Rows hiding St
section
variable {X : Cx} {G : Gd} {W : WX} {ρx ρ : Rho} {rest : List Stmt} {α β R : Type} {pn : α → Rho} {pl : β → Rho} {ι : R → Fl α β}
theorem bk_raiseE {c f sn : Str} {p pos pos2 : Pos} {fI : Addr} {fd : FuncData} {k : Nat} (calm : X.calm = true) (tk : L2N.Takes X W) (T : OexC X.K (He.ga X.K c))
    (iC : PySem.W.findIn X.K (.ref (He.ga X.K c)) "__init__" = some (some (.ref fI))) (tI : PySem.W.typeIn X.K (.ref fI) = some (.type "function")) (F1 : FnOk X.prog X.w X.K X.mg X.base (L2N.CX X.prog X.w) k fI fd [sn] (spX0 X.K c f)) (hr : Room (k + 1) X.A) (hb : KBn X.K fd [sn] 1 [] (gOf []) (gOf []))
    (hg : Gl X c) (hm : X.mg c = some (.ref (He.ga X.K c))) (wx : Wk ρ ρx := by first | exact Wk.nil | exact Wk.refl | (repeat (first | exact Wk.nil | apply Wk.keep | apply Wk.drop))) (hdb : (c == ("__debug__" : Str)) = false := by decide)
    (hall : (backToKw pos (keywordEach [] X.env)).all (·.1.isSome) = true := by rfl) (hks : (backToKw pos (keywordEach [] X.env)).filterMap (·.1) = [] := by rfl)
    (hpl : ((backTo pos (starEach [] X.env)).any (·.1) || (backToKw pos (keywordEach [] X.env)).any (·.1.isNone)) = false := by rfl) :
    BK X G W ρx ρ (.Raise (some (.Call (.Name c p) [] [] pos)) none pos2 :: rest) pn pl (.ex c [(f, .tup [])] : Rs (Fl α β)) := by
  intro F0 σ F H E hh hp
  refine any_cons (L2N.ps_raise calm tk (pmk_kw0 T iC tI F1 hr hb (passes_no (P := X.prog) (w := X.w)) hg hm pk_nil hall hks hdb hpl)) ?_
  refine ⟨rfl, rfl, fun a na => ⟨a, rfl, upd_same, fun q dx n0 n1 n2 => ⟨rfl, dx, [(f, .ref q)], upd_same, by rw [upd_ne n2, upd_same], ?_, ?_⟩⟩⟩
  · have n3 : dx ≠ q := fun z => by rw [z, upd_same] at n1; cases n1
    rwa [upd_ne n3, upd_ne n2] at n1
  have n3 : dx ≠ q := fun z => by rw [z, upd_same] at n1; cases n1
  have n4 : q ≠ a := fun z => by rw [z, upd_same] at n0; cases n0
  have nq : H q = none := by rwa [upd_ne n4] at n0
  have nd : upd H q (.tup []) dx = none := by
    rw [upd_ne n3, upd_ne n2] at n1
    rw [upd_ne n3]
    exact n1
  have eH : upd (del (upd (upd (upd (upd H a (exo a (He.ga X.K c) none)) q (.tup [])) dx (exd dx [(f, .ref q)])) a (exo a (He.ga X.K c) (some dx))) a) dx (.xd [(f, .ref q)]) = upd (upd H q (.tup [])) dx (.xd [(f, .ref q)]) := by
    funext b
    by_cases h1 : b = dx
    · subst h1; rw [upd_same, upd_same]
    · rw [upd_ne h1, upd_ne h1]
      by_cases h2 : b = a
      · subst h2; rw [del_same, upd_ne (Ne.symm n4), na]
      · rw [del_ne h2, upd_ne h2, upd_ne h1]
        by_cases h3 : b = q
        · subst h3; rw [upd_same, upd_same]
        · rw [upd_ne h3, upd_ne h3, upd_ne h2]
  rw [eH]
  have e1 := Ext.fresh hh.sub (.tup []) nq
  have e2 := Ext.fresh e1.sub (.xd [(f, .ref q)]) nd
  have r0 : Rep X.K (upd F q (.tup [])) (.ref q) (.tup []) := .tup (.inl upd_same) (Nat.zero_le _) .nil
  exact hp dx σ _ _ ((hh.more (e1.trans e2)).weak wx) ⟨[(f, .ref q)], upd_same, rfl, .cons (r0.mono e2.ext) .nil⟩
theorem bi_raiseE {c f sn : Str} {p pos pos2 : Pos} {fI : Addr} {fd : FuncData} {k : Nat} (calm : X.calm = true) (tk : L2N.Takes X W) (T : OexC X.K (He.ga X.K c))
    (iC : PySem.W.findIn X.K (.ref (He.ga X.K c)) "__init__" = some (some (.ref fI))) (tI : PySem.W.typeIn X.K (.ref fI) = some (.type "function")) (F1 : FnOk X.prog X.w X.K X.mg X.base (L2N.CX X.prog X.w) k fI fd [sn] (spX0 X.K c f)) (hr : Room (k + 1) X.A) (hb : KBn X.K fd [sn] 1 [] (gOf []) (gOf []))
    (hg : Gl X c) (hm : X.mg c = some (.ref (He.ga X.K c))) (wx : Wk ρ ρx := by first | exact Wk.nil | exact Wk.refl | (repeat (first | exact Wk.nil | apply Wk.keep | apply Wk.drop))) (hdb : (c == ("__debug__" : Str)) = false := by decide)
    (hall : (backToKw pos (keywordEach [] X.env)).all (·.1.isSome) = true := by rfl) (hks : (backToKw pos (keywordEach [] X.env)).filterMap (·.1) = [] := by rfl)
    (hpl : ((backTo pos (starEach [] X.env)).any (·.1) || (backToKw pos (keywordEach [] X.env)).any (·.1.isNone)) = false := by rfl) :
    BI X G W ρx ρ (.Raise (some (.Call (.Name c p) [] [] pos)) none pos2 :: rest) pn pl ι (.ex c [(f, .tup [])] : Rs R) :=
  bk_raiseE calm tk T iC tI F1 hr hb hg hm wx hdb hall hks hpl
end
end VL
set_option Elab.async false
set_option linter.all false
set_option maxRecDepth 100000
set_option autoImplicit false
namespace VL
open PySem PySem.Spec L2
open PyProof.Rows hiding St
section
variable {X : Cx} {G : Gd} {W : WX} {ρ : Rho} {e o : Expr} {es : List Expr} {m mo : Rs D} {κ : Kt} {d : D} {apos pos p : Pos} {kws : List Keyword}
def EVT (X : Cx) (G : Gd) (W : WX) (ρ : Rho) (e : Expr) (m : Rs D) : Prop := ∃ t, PET X e t ∧ ∀ F0 σ F H Q, Holds X.K (G.at F0) ρ σ F H → Post X.K (RF X.K) (fun c d H => W c d σ H) F H Q m → t σ H Q
theorem EV.tk (h : EV X G W ρ e m) : EVT X G W ρ e m := by
  obtain ⟨t, pt, qt⟩ := h
  exact ⟨t, fun pins s σ H Q _ I q => pt.run pins s σ H Q I q, qt⟩
end
end VL
set_option Elab.async false
set_option linter.all false
set_option maxRecDepth 100000
set_option autoImplicit false
set_option Elab.async false
set_option linter.all false
set_option maxRecDepth 100000
set_option autoImplicit false
set_option maxHeartbeats 3200000
set_option Elab.async false
set_option linter.all false
set_option maxRecDepth 100000
set_option autoImplicit false
set_option Elab.async false
set_option linter.all false
set_option maxRecDepth 100000
set_option autoImplicit false
set_option Elab.async false
set_option linter.all false
set_option maxRecDepth 100000
set_option autoImplicit false
namespace VL
open PySem PySem.Spec L2
open PyProof.Rows hiding St
open SlX (Slt)
section
variable {prog : Program} {w : World} {A : Around} {E : Value → Shared → Prop} {s : Shared} {K : PySem.W.Frag} {x C L f : Addr} {h₀ : Heap} {m : Str → Option Value} {ox : Obj} {od : Option Obj} {b tb : Value}
theorem ifBoundB {M : Model} {name : Str} {id : String} {args : List Value} {Q : Option Value → Shared → Prop} (X : K.In s.heap) (I : PySem.W.InstAt s.heap x ox C od) (hs : PySem.W.findIn K (.ref C) name = some (some (.builtin id))) (hbd : ∀ self, bindSpecial (.builtin id) self = pure (.builtin id, [self]))
    (h : wpAny M A (call (.builtin id) (.ref x :: args)) (fun v => Q (some v)) E s) : wpAny M A (callSpecialIfBound? (.ref x) name args) Q E s := by
  have fin : wpAny M A (call (.builtin id) ([.ref x] ++ args) >>= fun v => pure (some v)) Q E s := wpAny_bind (wpAny_mono h (fun v s' h' => wpAny_pure h') fun _ _ h' => h')
  unfold callSpecialIfBound? bindSpecialIfBound?
  refine wpAny_holding (wpAny_bind (wpAny_bind (wpAny_bind (I.type.here ((PySem.W.looks_findIn X hs).here ?_)))))
  simp only [hbd]
  refine wpAny_bind (wpAny_askSetting (wpAny_ite ?_))
  split
  · exact wpAny_bind (wpAny_pure (wpAny_pure (by exact fin)))
  · exact wpAny_tryCatch (wpAny_bind (wpAny_pure (wpAny_pure (by exact fin))))
theorem neCall {Q : Value → Shared → Prop} (hu : A.in1.units < cLine) (X : K.In s.heap) (I : PySem.W.InstAt s.heap x ox C od) (hm : PySem.W.mroIn K C (.type "object") = some true) (hs : PySem.W.findIn K (.ref C) "__eq__" = some (some (.ref f))) (hf : PySem.W.isFn K (.ref f) = true)
    (h : wpAny (model prog w) A.in1 (call (.ref f) [.ref x, b]) (fun v s' => ∃ r, v = .bool r ∧ Q (.bool (!r)) s') E s) : wpAny (model prog w) A (call (.builtin "object.__ne__") [.ref x, b]) Q E s := by
  have sub : PySem.W.Looks (model prog w) s.heap (isInstance (.ref x) (.type "object")) true := I.type.andThen (PySem.W.looks_mroIn X hm)
  refine wpAny_call (codeAny_call_builtin PySem.F.cmp_object.ne.plain PySem.F.cmpEntry_ne (@PySem.W.check_slot (model prog w) _ _ s "object.__ne__" "object" "__ne__" (.ref x) [b] [] _ PySem.F.cmpKind_ne PySem.F.cmpSplit_ne sub (PySem.F.cmpArgs_ne _ _) ?_))
  unfold Builtin.«object.__ne__»
  repeat (first
    | with_reducible refine wpAny_cRoomFor hu ?_
    | (refine wpAny_bind (m := callSpecialIfBound? (.ref x) (Str.ofString "__eq__") [b]) (PySem.W.ifBound_K X I hs hf (wpAny_mono h (fun r s' hr => by
        obtain ⟨k, rfl, hq⟩ := hr
        repeat (first | exact hq | exact wpAny_pure hq | exact wpAny_truthy_bool hq | (refine wpAny_bind (m := truthy (.bool _)) (wpAny_truthy_bool ?_)) | wp_step)) fun _ _ e => e)))
    | wp_step)
theorem ne_K {Q : Value → Shared → Prop} (hu : A.units < cLine) (hu1 : A.in1.units < cLine) (F : Fr h₀ L s.heap m) (X₀ : K.In h₀) (I : PySem.W.InstAt s.heap x ox C od) (hb : PySem.W.Looks (model prog w) s.heap (typeOf b) tb) (hn : PySem.W.notFirst K C tb = true) (hm : PySem.W.mroIn K C (.type "object") = some true)
    (hne : PySem.W.findIn K (.ref C) "__ne__" = some (some (.builtin "object.__ne__"))) (hs : PySem.W.findIn K (.ref C) "__eq__" = some (some (.ref f))) (hf : PySem.W.isFn K (.ref f) = true)
    (h : wpAny (model prog w) A.in1 (call (.ref f) [.ref x, b]) (fun v s' => ∃ r, v = .bool r ∧ Q (.bool (!r)) s') E s) : wpAny (model prog w) A (richCompare .NotEq (.ref x) b) Q E s := by
  have X := X₀.keeps F.keep
  have one : wpAny (model prog w) A (tryCompare (.ref x) (cmpInfo .NotEq).2.1 b) (fun r s' => ∃ v, r = some v ∧ Q v s') E s := by
    unfold tryCompare
    refine wpAny_bind (ifBoundB X I hne PySem.F.cmp_object.ne.bind (neCall hu1 X I hm hs hf (wpAny_mono h (fun v s' hv => ?_) fun _ _ e => e)))
    obtain ⟨r, rfl, hq⟩ := hv
    exact ⟨r, rfl, wpAny_pure ⟨_, rfl, hq⟩⟩
  unfold richCompare
  simp only [oneThing_ref]
  refine wpAny_holding (wpAny_bind (wpAny_cRoomFor hu ?_))
  refine wpAny_bind (I.type.here (wpAny_bind (hb.here ?_)))
  split
  · rename_i q
    have e : PySem.W.subIn K tb (.ref C) = some false := by
      rcases Bool.or_eq_true_iff.mp hn with e | e
      · rw [beq_iff_eq.mp e] at q; simp at q
      · exact beq_iff_eq.mp e
    refine wpAny_bind ((PySem.W.looks_subIn X e).here ?_)
    simp only [Bool.false_eq_true, if_false]
    refine wpAny_bind (wpAny_mono one (fun r2 s2 z2 => ?_) fun _ _ e => e)
    obtain ⟨v, rfl, hq⟩ := z2
    exact wpAny_pure hq
  · refine wpAny_bind (wpAny_pure ?_)
    simp only [Bool.false_eq_true, if_false]
    refine wpAny_bind (wpAny_mono one (fun r2 s2 z2 => ?_) fun _ _ e => e)
    obtain ⟨v, rfl, hq⟩ := z2
    exact wpAny_pure hq
end
section
variable {X : Cx} {CX : CXT} {C g : Addr} {n : Nat} {sp : Sp} {E : XK}
theorem OpR.or2 {f : Value → Value → Sem Value} {r1 r2 : R2} (h1 : OpR X f r1) (h2 : OpR X f r2) : OpR X f (fun x y H Q => r1 x y H Q ∨ r2 x y H Q) := by
  intro pins s σ H x y v u Q I rx ry h
  rcases h with h | h
  · exact h1 _ _ _ _ _ _ _ _ _ I rx ry h
  · exact h2 _ _ _ _ _ _ _ _ _ I rx ry h
def rLenO (C : Addr) (sp : Sp) (E : XK) : List V → Hp → VK → Prop := fun xs H Q => ∃ a dx vs, xs = [V.ref a] ∧ Slt H a C dx vs ∧ sp [.ref a] H (fun z H' => ∃ i, z = .int i ∧ (0 ≤ i ∧ i < 2 ^ 63) ∧ Q z H') E
theorem call_lenO (hs : PySem.W.findIn X.K (.ref C) "__len__" = some (some (.ref g))) (hf : PySem.W.isFn X.K (.ref g) = true) (F : FnR X.prog X.w X.K X.mg X.base CX n g sp) (hr : Room (n + 1) X.A) (hx : Passes CX X E) : CallR X (.builtin "len") (rLenO C sp E) := by
  intro pins s σ H xs us Q I r h
  obtain ⟨a, dx, vs, rfl, hsl, q⟩ := h
  obtain ⟨u, rfl, ru⟩ := r.one
  cases (show u = Value.ref a from ru)
  obtain ⟨sl, od, _, J, _⟩ := SlX.slt_inst I hsl
  obtain ⟨m, hF⟩ := I.fr
  have hr2 : Room n X.A.in1 := Room.in1 hr
  refine PySem.W.len_K hF I.ok.mod.kin J hs hf (wpAny_mono (wpAny_call (SlX.run_at (us := [.ref a]) (ws := [.ref a]) F hr2 I.env0.in1 hx I (.cons rfl .nil) q)) (fun w s' z => ?_) fun _ _ x => x)
  obtain ⟨z', H', I', rz, i, ei, li, qz⟩ := z
  subst ei
  obtain ⟨t, e⟩ := (show ∃ t, w = Value.int i t from rz)
  cases e
  exact ⟨li, .int i, H', I'.tok _, ⟨_, rfl⟩, qz⟩
def rNeO (C : Addr) (sp : Sp) (E : XK) : R2 := fun x y H Q => ∃ a dx vs b dy ws, x = .ref a ∧ y = .ref b ∧ Slt H a C dx vs ∧ Slt H b C dy ws ∧ sp [x, y] H (fun z H' => ∃ k, z = .bl k ∧ Q (.bl (!k)) H') E
theorem op_neO (hn : PySem.W.notFirst X.K C (.ref C) = true) (hm : PySem.W.mroIn X.K C (.type "object") = some true) (hne : PySem.W.findIn X.K (.ref C) "__ne__" = some (some (.builtin "object.__ne__"))) (hs : PySem.W.findIn X.K (.ref C) "__eq__" = some (some (.ref g))) (hf : PySem.W.isFn X.K (.ref g) = true)
    (F : FnR X.prog X.w X.K X.mg X.base CX n g sp) (hr : Room (n + 1) X.A) (hx : Passes CX X E) : OpR X (compareOp .NotEq) (rNeO C sp E) := by
  intro pins s σ H x y v u Q I rx ry h
  obtain ⟨a, dx, vs, b, dy, ws, rfl, rfl, ha, hb, q⟩ := h
  cases (show v = Value.ref a from rx)
  cases (show u = Value.ref b from ry)
  obtain ⟨sl, od, _, J, _⟩ := SlX.slt_inst I ha
  obtain ⟨sl', od', _, J', _⟩ := SlX.slt_inst I hb
  obtain ⟨m, hF⟩ := I.fr
  have hr2 : Room n X.A.in1 := Room.in1 hr
  show wpAny (model X.prog X.w) X.A (richCompare .NotEq (.ref a) (.ref b)) (EP X pins σ Q) X.xe s
  refine ne_K hr.units0 hr2.units0 hF I.ok.mod.kin J J'.type hn hm hne hs hf (wpAny_mono (wpAny_call (SlX.run_at (us := [.ref a, .ref b]) (ws := [.ref a, .ref b]) F hr2 I.env0.in1 hx I (.cons rfl (.cons rfl .nil)) q)) (fun w s' z => ?_) fun _ _ x => x)
  obtain ⟨z', H', I', rz, k, ek, qz⟩ := z
  subst ek
  cases (show w = Value.bool k from rz)
  exact ⟨k, rfl, .bl (!k), H', I', rfl, qz⟩
def rEqT (K : PySem.W.Frag) (C : Addr) (sp : Sp) (E : XK) : R2 := fun x y H Q => ∃ a dx vs t, x = .ref a ∧ Slt H a C dx vs ∧ TyX K H y t ∧ PySem.W.notFirst K C t = true ∧ sp [x, y] H Q E
theorem op_eqT (hs : PySem.W.findIn X.K (.ref C) "__eq__" = some (some (.ref g))) (hf : PySem.W.isFn X.K (.ref g) = true) (F : FnR X.prog X.w X.K X.mg X.base CX n g sp) (hr : Room n X.A) (hx : Passes CX X E) : OpR X (compareOp .Eq) (rEqT X.K C sp E) := by
  intro pins s σ H x y v u Q I rx ry h
  obtain ⟨a, dx, vs, t, rfl, ha, ty, hn, q⟩ := h
  cases (show v = Value.ref a from rx)
  obtain ⟨sl, od, _, J, _⟩ := SlX.slt_inst I ha
  obtain ⟨P, Z, p, _⟩ := kit_of I ry ty
  obtain ⟨m, hF⟩ := I.fr
  show wpAny (model X.prog X.w) X.A (richCompare .Eq (.ref a) u) (EP X pins σ Q) X.xe s
  refine PySem.W.cmp_K (op := .Eq) (tb := t) hr.units0 hF I.ok.mod.kin J (Z.ty _ _ I.kIn p) hn hs hf ?_
  refine wpAny_mono (wpAny_call (run_fnR (us := [.ref a, u]) (vs := [.ref a, y]) F hr hx I (.cons rfl (.cons ry .nil)) q)) (fun w s' z => ?_) fun _ _ x => x
  obtain ⟨z', H', I', rz, qz⟩ := z
  exact SlX.cmpback rz ⟨z', H', I', rz, qz⟩
end
end VL
set_option Elab.async false
set_option linter.all false
set_option maxRecDepth 100000
set_option autoImplicit false
namespace VL
open PySem PySem.Spec L2
open PyProof.Rows hiding St
def isoT (c : Str) : D → Option D
  | .obj c' _ => if c' = c then some (.bl true) else none
  | .int _ => some (.bl false)
  | .tup _ => some (.bl false)
  | .tupL _ => some (.bl false)
  | .non => some (.bl false)
  | .bl _ => some (.bl false)
  | .str _ => some (.bl false)
  | .lst _ => some (.bl false)
  | _ => none
def isSm : D → Bool
  | .int _ => true
  | .tup _ => true
  | .tupL _ => true
  | _ => false
def len0 : D → Option D
  | .int i => if 0 ≤ i ∧ i < 2 ^ 63 then some (.int i) else none
  | _ => none
def bln : D → Option D
  | .bl k => some (.bl (!k))
  | _ => none
theorem nf_int {K : PySem.W.Frag} {C : Addr} : PySem.W.notFirst K C (.type "int") = true := by kernel_rfl
theorem nf_tuple {K : PySem.W.Frag} {C : Addr} : PySem.W.notFirst K C (.type "tuple") = true := by kernel_rfl
theorem isSm_ty {K : PySem.W.Frag} {C : Addr} {F H : Hp} (s : Same F H) {v : V} {d : D} (r : RepH K F H v d) (h : isSm d = true) : ∃ t, TyX K H v t ∧ PySem.W.notFirst K C t = true := by
  cases d with
  | int i => exact ⟨_, r.ty s rfl, nf_int⟩
  | tup xs => exact ⟨_, r.ty s rfl, nf_tuple⟩
  | tupL xs => exact ⟨_, r.ty s rfl, nf_tuple⟩
  | _ => cases h
theorem bcongr {α β : Type} {m m' : Rs α} {f f' : α → Rs β} (h : m = m') (g : ∀ x, f x = f' x) : m.bind f = m'.bind f' := by
  subst h
  congr 1
  exact funext g
theorem icongr {α : Type} {k : Bool} {a a' b b' : Rs α} (h : a = a') (g : b = b') : (if k = true then a else b) = (if k = true then a' else b') := by rw [h, g]
theorem EF.to {X : Cx} {G : Gd} {W : WX} {ρ : Rho} {e : Expr} {m : Rs (List D)} (m' : Rs (List D)) (h : EF X G W ρ e m) (q : m = m') : EF X G W ρ e m' := q ▸ h
section
variable {X : Cx} {G : Gd} {W : WX} {ρ : Rho} {a b : Expr} {ma mb : Rs D} {p p2 pos : Pos}
theorem ev_eqM {k : Nat} {g : Addr} {fd : FuncData} {ps : List Str} {mf : List D → Rs D} {c : Str} (oe : OwnEq X.K (He.ga X.K c) g) (Fk : Keeps X.prog X.w X.K X.mg X.base k g fd ps mf) (hbd : Binds X.K fd ps []) (hr : Room k X.A) (ha : EV X G W ρ a ma) (hb : EV X G W ρ b mb) (hm : behindInMarks .Eq b = false) (hln : ps.length = 2 := by rfl) :
    EV X G W ρ (.Compare a [.Eq] [b] pos) (ma.bind fun x => mb.bind fun y => if isObj c x && (isObj c y || isSm y) then (mf [x, y]).noX else .no) := by
  obtain ⟨ta, pa, qa⟩ := ha
  obtain ⟨tb, pb, qb⟩ := hb
  refine ⟨_, pe_cmpR (OpR.or2 (SlX.op_own (E := E0) (fun _ _ => rfl) oe.at_ oe.fn (Fk.raw hbd .nil) hr passLN) (op_eqT (E := E0) oe.at_ oe.fn (Fk.raw hbd .nil) hr passLN)) pa pb hm, fun F0 σ F H Q hh hp => ?_⟩
  refine qa F0 σ F H _ hh (hp.bind fun dx x F1 H1 e1 r1 hp1 => ?_)
  refine qb F0 σ F1 H1 _ (hh.more e1) (hp1.bind fun dy y F2 H2 e2 r2 hp2 => ?_)
  cases hx : isObj c dx with
  | false => simp only [hx, Bool.false_and, Bool.false_eq_true, if_false] at hp2; exact hp2.elim
  | true =>
    cases dx with
    | obj c1 xs =>
      have q1 : c1 = c := of_decide_eq_true hx
      subst q1
      have r1' := Rep.mono e2.ext r1
      obtain ⟨a1, dx1, vs, rfl, g1, g2⟩ := RepH.slt e2.sub (.inl r1')
      have sp0 : (mf [.obj c1 xs, dy]).noX = (mf [.obj c1 xs, dy]).noX → Post X.K (RF X.K) (fun c d H => W c d σ H) F2 H2 Q (mf [.obj c1 xs, dy]).noX → spM X.K ps.length mf ([V.ref a1, y] ++ []) H2 Q E0 := fun _ hp3 => by
        rw [List.append_nil]
        refine ⟨hln.symm, F2, [.obj c1 xs, dy], e2.sub, .cons r1' (.one r2), ?_⟩
        cases hmf : mf [.obj c1 xs, dy] with
        | ok d => rw [hmf] at hp3; exact hp3
        | ex cc fs => rw [hmf] at hp3; exact hp3.elim
        | no => rw [hmf] at hp3; exact hp3.elim
      cases hy : isObj c1 dy with
      | true =>
        simp only [hx, hy, Bool.true_or, Bool.and_self, if_true] at hp2
        cases dy with
        | obj c2 ys =>
          have q2 : c2 = c1 := of_decide_eq_true hy
          subst q2
          obtain ⟨a2, dx2, ws, rfl, g3, g4⟩ := RepH.slt e2.sub (.inl r2)
          exact .inl ⟨a1, dx1, _, a2, _, dx2, _, rfl, rfl, g1, g3, oe.nf, sp0 rfl hp2⟩
        | _ => cases hy
      | false =>
        cases hz : isSm dy with
        | false => simp only [hx, hy, hz, Bool.or_self, Bool.and_false, Bool.false_eq_true, if_false] at hp2; exact hp2.elim
        | true =>
          simp only [hx, hy, hz, Bool.false_or, Bool.and_self, if_true] at hp2
          obtain ⟨t, ty, nf⟩ := isSm_ty (C := He.ga X.K c1) e2.sub (.inl r2) hz
          exact .inr ⟨a1, dx1, _, t, rfl, g1, ty, nf, sp0 rfl hp2⟩
    | _ => cases hx
theorem ev_neO {k : Nat} {g : Addr} {fd : FuncData} {ps : List Str} {mf : List D → Rs D} {c : Str} (oe : OwnEq X.K (He.ga X.K c) g) (on : OwnNe X.K (He.ga X.K c)) (Fk : Keeps X.prog X.w X.K X.mg X.base k g fd ps mf) (hbd : Binds X.K fd ps []) (hr : Room (k + 1) X.A) (ha : EV X G W ρ a ma) (hb : EV X G W ρ b mb) (hm : behindInMarks .NotEq b = false) (hln : ps.length = 2 := by rfl) :
    EV X G W ρ (.Compare a [.NotEq] [b] pos) (ma.bind fun x => mb.bind fun y => if isObj c x && isObj c y then (mf [x, y]).noX.bind fun d => Rs.of (bln d) else .no) := by
  obtain ⟨ta, pa, qa⟩ := ha
  obtain ⟨tb, pb, qb⟩ := hb
  refine ⟨_, pe_cmpR (op_neO (E := E0) oe.nf on.mo on.at_ oe.at_ oe.fn (Fk.raw hbd .nil) hr passLN) pa pb hm, fun F0 σ F H Q hh hp => ?_⟩
  refine qa F0 σ F H _ hh (hp.bind fun dx x F1 H1 e1 r1 hp1 => ?_)
  refine qb F0 σ F1 H1 _ (hh.more e1) (hp1.bind fun dy y F2 H2 e2 r2 hp2 => ?_)
  cases hx : isObj c dx with
  | false => simp only [hx, Bool.false_and, Bool.false_eq_true, if_false] at hp2; exact hp2.elim
  | true =>
    cases hy : isObj c dy with
    | false => simp only [hx, hy, Bool.and_false, Bool.false_eq_true, if_false] at hp2; exact hp2.elim
    | true =>
      simp only [hx, hy, Bool.and_self, if_true] at hp2
      cases dx with
      | obj c1 xs =>
        cases dy with
        | obj c2 ys =>
          have q1 : c1 = c := of_decide_eq_true hx
          have q2 : c2 = c := of_decide_eq_true hy
          subst q1
          subst q2
          have r1' := Rep.mono e2.ext r1
          obtain ⟨a1, dx1, vs, rfl, g1, g2⟩ := RepH.slt e2.sub (.inl r1')
          obtain ⟨a2, dx2, ws, rfl, g3, g4⟩ := RepH.slt e2.sub (.inl r2)
          refine ⟨a1, dx1, _, a2, dx2, _, rfl, rfl, g1, g3, ?_⟩
          show spM X.K ps.length mf ([V.ref a1, V.ref a2] ++ []) H2 _ E0
          rw [List.append_nil]
          refine ⟨hln.symm, F2, [.obj c2 xs, .obj c2 ys], e2.sub, .cons r1' (.one r2), ?_⟩
          cases hmf : mf [.obj c2 xs, .obj c2 ys] with
          | ok d =>
            rw [hmf] at hp2
            intro z F' H' e3 r3
            cases d with
            | bl k =>
              refine ⟨k, RepH.bl (H := H') (.inl r3), ?_⟩
              exact hp2 _ F' H' e3 (.bl (!k))
            | _ => exact hp2.elim
          | ex cc fs => rw [hmf] at hp2; exact hp2.elim
          | no => rw [hmf] at hp2; exact hp2.elim
        | _ => cases hy
      | _ => cases hx
theorem ev_lenO {k : Nat} {g : Addr} {fd : FuncData} {ps : List Str} {mf : List D → Rs D} {c : Str} (hm : X.mg "len" = none) (om : OwnM X.K (He.ga X.K c) g "__len__") (Fk : Keeps X.prog X.w X.K X.mg X.base k g fd ps mf) (hbd : Binds X.K fd ps []) (hr : Room (k + 1) X.A) (ha : EV X G W ρ a ma) (hln : ps.length = 1 := by rfl) (hg : Gl X "len" := by rfl)
    (hs : starEach [a] X.env = (false, eval a X.env) :: starEach [] X.env := by rfl) (hpl : (backTo pos (starEach [] X.env)).any (·.1) = false := by rfl) :
    EV X G W ρ (.Call (.Name "len" p) [a] [] pos) (ma.bind fun x => if isObj c x then (mf [x]).noX.bind fun d => Rs.of (len0 d) else .no) := by
  obtain ⟨ta, pa, qa⟩ := ha
  refine ⟨_, pe_callB (call_lenO (E := E0) om.at_ om.fn (Fk.raw hbd .nil) hr passLN) hg hm boot_len (pa_cons pa pa_nil hs) (by decide) (by decide) hs hpl, fun F0 σ F H Q hh hp => ?_⟩
  refine qa F0 σ F H _ hh (hp.bind fun dy y F2 H2 e2 r2 hp2 => ?_)
  cases hy : isObj c dy with
  | false => simp only [hy, Bool.false_eq_true, if_false] at hp2; exact hp2.elim
  | true =>
    simp only [hy, if_true] at hp2
    cases dy with
    | obj c2 ys =>
      have q2 : c2 = c := of_decide_eq_true hy
      subst q2
      obtain ⟨a2, dx2, ws, rfl, g3, g4⟩ := RepH.slt e2.sub (.inl r2)
      refine ⟨a2, dx2, _, rfl, g3, ?_⟩
      show spM X.K ps.length mf ([V.ref a2] ++ []) H2 _ E0
      rw [List.append_nil]
      refine ⟨hln.symm, F2, [.obj c2 ys], e2.sub, .one r2, ?_⟩
      cases hmf : mf [.obj c2 ys] with
      | ok d =>
        rw [hmf] at hp2
        intro z F' H' e3 r3
        cases d with
        | int i =>
          have hp3 : Post X.K (RF X.K) (fun c d H => W c d σ H) F2 H2 Q (Rs.of (len0 (.int i))) := hp2
          by_cases hi : 0 ≤ i ∧ i < 2 ^ 63
          · rw [show len0 (.int i) = some (.int i) from if_pos hi] at hp3
            exact ⟨i, RepH.int (H := H') (.inl r3), hi, hp3 _ F' H' e3 r3⟩
          · rw [show len0 (.int i) = none from if_neg hi] at hp3
            exact hp3.elim
        | _ => exact hp2.elim
      | ex cc fs => rw [hmf] at hp2; exact hp2.elim
      | no => rw [hmf] at hp2; exact hp2.elim
    | _ => cases hy
theorem ev_isT {c : Str} (hm : X.mg "isinstance" = none) (hc : PE X (.Name c p2) (tC (.ref (He.ga X.K c)))) (sc : SlX.SCls X.K (He.ga X.K c)) (oi : OwnIs X.K (He.ga X.K c)) (ot : OwnIsT X.K (He.ga X.K c)) (ha : EV X G W ρ a ma) (hg : Gl X "isinstance" := by rfl)
    (hs : starEach [a, .Name c p2] X.env = (false, eval a X.env) :: starEach [.Name c p2] X.env := by rfl) (hs2 : starEach [.Name c p2] X.env = (false, eval (.Name c p2) X.env) :: starEach [] X.env := by rfl) (hpl : (backTo pos (starEach [.Name c p2] X.env)).any (·.1) = false := by rfl) :
    EV X G W ρ (.Call (.Name "isinstance" p) [a, .Name c p2] [] pos) (ma.bind fun x => Rs.of (isoT c x)) := by
  obtain ⟨ta, pa, qa⟩ := ha
  refine ⟨_, pe_callB (CallR.or2 (SlX.call_isiSl (.ref (He.ga X.K c))) call_isi) hg hm boot_isinstance (pa_cons pa (pa_cons hc pa_nil hs2) hs) (by decide) (by decide) hs hpl, fun F0 σ F H Q hh hp => ?_⟩
  refine qa F0 σ F H _ hh (hp.bind fun dx x F1 H1 e1 r1 hp1 => ?_)
  obtain ⟨d, hd, k⟩ := hp1.of
  cases dx with
  | obj c' xs =>
    by_cases ec : c' = c
    · subst ec
      have e : isoT c' (.obj c' xs) = some (.bl true) := if_pos rfl
      rw [e] at hd
      cases hd
      obtain ⟨a1, dx1, vs, rfl, g1, g2⟩ := RepH.slt e1.sub (.inl r1)
      exact .inl ⟨a1, _, dx1, _, _, true, rfl, rfl, fun w h => h, g1, sc, oi.si, oi.kt, k _ F1 H1 (Ext.refl e1.sub) (.bl true)⟩
    · have e : isoT c (.obj c' xs) = none := if_neg ec
      rw [e] at hd
      cases hd
  | int i => cases hd; exact .inr ⟨x, _, .type "int", _, false, rfl, .own _, RepH.ty e1.sub (.inl r1) rfl, ot _ (by simp [kindsT]), k _ F1 H1 (Ext.refl e1.sub) (.bl false)⟩
  | tup ds => cases hd; exact .inr ⟨x, _, .type "tuple", _, false, rfl, .own _, RepH.ty e1.sub (.inl r1) rfl, ot _ (by simp [kindsT]), k _ F1 H1 (Ext.refl e1.sub) (.bl false)⟩
  | tupL ds => cases hd; exact .inr ⟨x, _, .type "tuple", _, false, rfl, .own _, RepH.ty e1.sub (.inl r1) rfl, ot _ (by simp [kindsT]), k _ F1 H1 (Ext.refl e1.sub) (.bl false)⟩
  | non => cases hd; exact .inr ⟨x, _, .type "NoneType", _, false, rfl, .own _, RepH.ty e1.sub (.inl r1) rfl, ot _ (by simp [kindsT]), k _ F1 H1 (Ext.refl e1.sub) (.bl false)⟩
  | bl b => cases hd; exact .inr ⟨x, _, .type "bool", _, false, rfl, .own _, RepH.ty e1.sub (.inl r1) rfl, ot _ (by simp [kindsT]), k _ F1 H1 (Ext.refl e1.sub) (.bl false)⟩
  | str z => cases hd; exact .inr ⟨x, _, .type "str", _, false, rfl, .own _, RepH.ty e1.sub (.inl r1) rfl, ot _ (by simp [kindsT]), k _ F1 H1 (Ext.refl e1.sub) (.bl false)⟩
  | lst ds => cases hd; exact .inr ⟨x, _, .type "list", _, false, rfl, .own _, RepH.ty e1.sub (.inl r1) rfl, ot _ (by simp [kindsT]), k _ F1 H1 (Ext.refl e1.sub) (.bl false)⟩
  | _ => cases hd
end
end VL
set_option Elab.async false
set_option linter.all false
set_option maxRecDepth 100000
set_option autoImplicit false
set_option Elab.async false
set_option linter.all false
set_option maxRecDepth 100000
set_option autoImplicit false
set_option Elab.async false
set_option linter.all false
set_option maxRecDepth 100000
set_option autoImplicit false
set_option Elab.async false
set_option linter.all false
set_option maxRecDepth 100000
set_option autoImplicit false
set_option maxHeartbeats 1000000
set_option Elab.async false
set_option linter.all false
set_option maxRecDepth 100000
set_option autoImplicit false
namespace VL
open PySem PySem.Spec L2
open PyProof.Rows hiding St
def era (F : Hp) (a : Addr) : Hp := fun x => if x = a then none else F x
theorem era_ne {F : Hp} {a b : Addr} (h : b ≠ a) : era F a b = F b := if_neg h
theorem era_same {F : Hp} {a : Addr} : era F a a = none := if_pos rfl
mutual
def noO : D → Bool
  | .non => true
  | .bl _ => true
  | .int _ => true
  | .str _ => true
  | .tup xs => noOs xs
  | .lst xs => noOs xs
  | .tupL xs => noOs xs
  | _ => false
def noOs : List D → Bool
  | [] => true
  | d :: ds => noO d && noOs ds
end
structure Odd (F : Hp) (a : Addr) : Prop where
  l : ∀ xs, F a ≠ some (.lst xs)
  t : ∀ xs, F a ≠ some (.tup xs)
  z : ∀ o u, F a ≠ some (.frz o u)
  x : ∀ vs, F a ≠ some (.xd vs)
mutual
theorem Rep.shed {K : PySem.W.Frag} {F : Hp} {a : Addr} (O : Odd F a) : ∀ {v : V} {d : D}, Rep K F v d → noO d = true → Rep K (era F a) v d
  | _, _, .non, _ => .non
  | _, _, .bl b, _ => .bl b
  | _, _, .int i, _ => .int i
  | _, _, .str x, _ => .str x
  | _, _, .lst (a := b) h l r, n => .lst ((era_ne fun e => O.l _ (e ▸ h)).trans h) l (Reps.shed O r (by simpa only [noO] using n))
  | _, _, .tup (a := b) h l r, n => .tup (by
      rcases h with h | h
      · exact .inl ((era_ne fun e => O.t _ (e ▸ h)).trans h)
      · exact .inr h) l (Reps.shed O r (by simpa only [noO] using n))
  | _, _, .tupL (a := b) h h2 l r, n => .tupL ((era_ne fun e => O.z _ _ (e ▸ h)).trans h) h2 l (Reps.shed O r (by simpa only [noO] using n))
  | _, _, .scr _ _ _, n => by simp [noO] at n
  | _, _, .obj _ _ _, n => by simp [noO] at n
  | _, _, .dT _ _ _, n => by simp [noO] at n
  | _, _, .dK _ _ _, n => by simp [noO] at n
  | _, _, .dN _ _ _ _, n => by simp [noO] at n
  | _, _, .exn _ _ _ _, n => by simp [noO] at n
theorem Reps.shed {K : PySem.W.Frag} {F : Hp} {a : Addr} (O : Odd F a) : ∀ {v : List V} {d : List D}, Reps K F v d → noOs d = true → Reps K (era F a) v d
  | _, _, .nil, _ => .nil
  | _, _, .cons h r, n => .cons (Rep.shed O h (by simp only [noOs, Bool.and_eq_true] at n; exact n.1)) (Reps.shed O r (by simp only [noOs, Bool.and_eq_true] at n; exact n.2))
end
def shedR (m : Rs D) : Rs D := match m with
  | .ok d => if noO d then .ok d else .no
  | .ex c fs => if noOs (fs.map (·.2)) then .ex c fs else .no
  | .no => .no
def shedB {α : Type} (m : Rs α) : Rs α := match m with
  | .ok d => .ok d
  | .ex c fs => if noOs (fs.map (·.2)) then .ex c fs else .no
  | .no => .no
theorem odd_sl {F : Hp} {a b C dx : Addr} {vs : List (Option V)} (h : F a = some (SlX.SlO b C dx vs)) : Odd F a :=
  ⟨fun xs z => (by rw [h] at z; unfold SlX.SlO at z; cases z), fun xs z => (by rw [h] at z; unfold SlX.SlO at z; cases z), fun o u z => (by rw [h] at z; unfold SlX.SlO at z; cases z), fun vs z => (by rw [h] at z; unfold SlX.SlO at z; cases z)⟩
section
variable {X : Cx} {G : Gd} {W : WX} {ρ : Rho} {i : Nat} {l : Bool} {c : Str} {ds : List D} {e : Expr}
theorem Holds.lend {K : PySem.W.Frag} {F0 : Hp} {σ : St} {F H : Hp} (h : Holds K (G.at F0) ρ σ F H) (hi : ρ[i]? = some (some (.own l (.obj c ds)))) :
    ∃ a o, Odd (upd F a o) a ∧ F a = none ∧ H a = some o ∧ Holds K (G.at (upd F a o)) (ρ.set i (some (.val (.obj c ds)))) σ (upd F a o) H := by
  obtain ⟨a, h1, h2, h3, h4⟩ := h.own i l _ hi
  cases h4 with
  | @obj dx _ xs _ g1 g2 g3 =>
    have sm : Same F (upd F a (SlX.SlO a (He.ga K c) dx (xs.map some))) := same_upd h2
    refine ⟨a, _, odd_sl upd_same, h2, g1, ⟨⟨fun b u q => ?_, h.base, h.bsT, Same.refl _, fun b u q => .inl q⟩, fun j d q => ?_, fun j m d q => ?_, fun j k m n d d' b ne q1 q2 s1 s2 => ?_, by simpa using h.len⟩⟩
    · by_cases z : b = a
      · subst z
        rw [upd_same] at q
        cases q
        exact g1
      · rw [upd_ne z] at q
        exact h.sub b u q
    · rcases set_at q with ⟨rfl, z⟩ | ⟨ne, z⟩
      · cases z
        exact ⟨_, h1, .obj upd_same (sm _ _ g2) (g3.mono sm)⟩
      · obtain ⟨v, w1, w2⟩ := h.val j d z
        exact ⟨v, w1, w2.mono sm⟩
    · rcases set_at q with ⟨rfl, z⟩ | ⟨ne, z⟩
      · cases z
      · obtain ⟨b, w1, w2, w3, w4⟩ := h.own j m d z
        have nb : b ≠ a := fun z' => by
          subst z'
          exact h.sep i j _ _ _ _ b (ne) hi z h1 w1
        exact ⟨b, w1, (upd_ne nb).trans w2, w3, w4.move sm rfl⟩
    · rcases set_at q1 with ⟨rfl, z⟩ | ⟨n1, z1⟩
      · cases z
      · rcases set_at q2 with ⟨rfl, z⟩ | ⟨n2, z2⟩
        · cases z
        · exact h.sep j k _ _ _ _ b ne z1 z2 s1 s2
theorem Ext.shed {F H F' H' : Hp} {a : Addr} {o : HO} (hf : F a = none) (ho : H a = some o) (e : Ext (upd F a o) H F' H') : Ext F H (era F' a) H' where
  same := e.same
  sub := fun b u q => by
    by_cases z : b = a
    · subst z
      rw [era_same] at q
      cases q
    · rw [era_ne z] at q
      exact e.sub b u q
  ext := fun b u q => by
    have z : b ≠ a := fun z => by
      subst z
      rw [hf] at q
      cases q
    rw [era_ne z]
    exact e.ext b u (by rw [upd_ne z]; exact q)
  new := fun b u q => by
    by_cases z : b = a
    · subst z
      rw [era_same] at q
      cases q
    · rw [era_ne z] at q
      rcases e.new b u q with w | w
      · rw [upd_ne z] at w
        exact .inl w
      · exact .inr w
theorem Odd.ext {F H F' H' : Hp} {a : Addr} {o : HO} (O : Odd (upd F a o) a) (e : Ext (upd F a o) H F' H') : Odd F' a := by
  have z := e.ext a o upd_same
  have g : upd F a o a = F' a := upd_same.trans z.symm
  exact ⟨fun xs q => O.l xs (g.trans q), fun xs q => O.t xs (g.trans q), fun p u q => O.z p u (g.trans q), fun vs q => O.x vs (g.trans q)⟩
theorem post_lend {σ : St} {F H : Hp} {a : Addr} {o : HO} {Q : VK} {m : Rs D} (O : Odd (upd F a o) a) (hf : F a = none) (ho : H a = some o) (hp : Post X.K (RF X.K) (fun c d H => W c d σ H) F H Q (shedR m)) :
    Post X.K (RF X.K) (fun c d H => W c d σ H) (upd F a o) H Q m := by
  cases m with
  | no => exact hp
  | ok d =>
    simp only [shedR] at hp
    by_cases n : noO d = true
    · rw [if_pos n] at hp
      exact fun v F' H' e r => hp v _ H' (e.shed hf ho) (Rep.shed (O.ext e) r n)
    · rw [if_neg n] at hp
      exact hp.elim
  | ex cc fs =>
    simp only [shedR] at hp
    by_cases n : noOs (fs.map (·.2)) = true
    · rw [if_pos n] at hp
      intro dd F' H' e r
      obtain ⟨vs, r1, r2, r3⟩ := r
      exact hp dd _ H' (e.shed hf ho) ⟨vs, (era_ne (a := a) (b := dd) fun z => (O.ext e).x vs (by rw [← z]; exact r1)).trans r1, r2, Reps.shed (O.ext e) r3 n⟩
    · rw [if_neg n] at hp
      exact hp.elim
theorem post_lendB {σ : St} {F H : Hp} {a : Addr} {o : HO} {Q : Bool → Hp → Prop} {m : Rs Bool} (O : Odd (upd F a o) a) (hf : F a = none) (ho : H a = some o) (hp : Post X.K RB (fun c d H => W c d σ H) F H Q (shedB m)) :
    Post X.K RB (fun c d H => W c d σ H) (upd F a o) H Q m := by
  cases m with
  | no => exact hp
  | ok d => exact fun v F' H' e r => hp v _ H' (e.shed hf ho) r
  | ex cc fs =>
    simp only [shedB] at hp
    by_cases n : noOs (fs.map (·.2)) = true
    · rw [if_pos n] at hp
      intro dd F' H' e r
      obtain ⟨vs, r1, r2, r3⟩ := r
      exact hp dd _ H' (e.shed hf ho) ⟨vs, (era_ne (a := a) (b := dd) fun z => (O.ext e).x vs (by rw [← z]; exact r1)).trans r1, r2, Reps.shed (O.ext e) r3 n⟩
    · rw [if_neg n] at hp
      exact hp.elim
theorem ev_lend {m : Rs D} (hi : ρ[i]? = some (some (.own l (.obj c ds)))) (he : EV X G W (ρ.set i (some (.val (.obj c ds)))) e m) : EV X G W ρ e (shedR m) := by
  obtain ⟨t, p, q⟩ := he
  refine ⟨t, p, fun F0 σ F H Q hh hp => ?_⟩
  obtain ⟨a, o, O, h1, h2, h3⟩ := hh.lend hi
  exact q _ σ _ H Q h3 (post_lend O h1 h2 hp)
theorem tv_lend {m : Rs Bool} (hi : ρ[i]? = some (some (.own l (.obj c ds)))) (he : TV X G W (ρ.set i (some (.val (.obj c ds)))) e m) : TV X G W ρ e (shedB m) := by
  obtain ⟨t, p, q⟩ := he
  refine ⟨t, p, fun F0 σ F H Q hh hp => ?_⟩
  obtain ⟨a, o, O, h1, h2, h3⟩ := hh.lend hi
  exact q _ σ _ H Q h3 (post_lendB O h1 h2 hp)
end
end VL
set_option Elab.async false
set_option linter.all false
set_option maxRecDepth 100000
set_option autoImplicit false
namespace VL
open PySem PySem.Spec L2
open PyProof.Rows hiding St
theorem put_in {i : Nat} {v : V} {xs : List V} (h : i < xs.length) : SlX.putS i v (xs.map some) = (xs.set i v).map some := by
  unfold SlX.putS
  rw [List.length_map, show i + 1 - xs.length = 0 by omega, List.replicate_zero, List.append_nil, List.map_set]
theorem own_of_rep {K : PySem.W.Frag} {F H : Hp} {y : Addr} {c : Str} {fs : List D} (s : Same F H) (h : Rep K F (.ref y) (.obj c fs)) (n : noOs fs = true) : Own K (era F y) H y (.obj c fs) := by
  cases h with
  | @obj _ dx _ xs _ h1 h2 h3 =>
    have O := odd_sl h1
    have ne : dx ≠ y := fun e => by
      subst e
      exact O.x _ h2
    exact .obj (s _ _ h1) ((era_ne ne).trans h2) (h3.shed O n)
theorem Ext.era {F H F' H' : Hp} {y : Addr} (e : Ext F H F' H') (hy : H y = none) (s : Same F H) : Ext F H (era F' y) H' where
  same := e.same
  sub := fun b u q => by
    by_cases z : b = y
    · subst z
      rw [era_same] at q
      cases q
    · rw [era_ne z] at q
      exact e.sub b u q
  ext := fun b u q => by
    have z : b ≠ y := fun z => by
      subst z
      rw [s _ _ q] at hy
      cases hy
    rw [era_ne z]
    exact e.ext b u q
  new := fun b u q => by
    by_cases z : b = y
    · subst z
      rw [era_same] at q
      cases q
    · rw [era_ne z] at q
      exact e.new b u q
abbrev RNo (K : PySem.W.Frag) (H : Hp) (c : Str) : Hp → Hp → V → List D → Prop := fun F' H' v ds => ∃ a, v = .ref a ∧ H a = none ∧ F' a = none ∧ Own K F' H' a (.obj c ds)
def ENo (X : Cx) (G : Gd) (W : WX) (ρ : Rho) (c : Str) (e : Expr) (m : Rs (List D)) : Prop :=
  ∃ t, PE X e t ∧ ∀ F0 σ F H Q, Holds X.K (G.at F0) ρ σ F H → Post X.K (RNo X.K H c) (fun c d H => W c d σ H) F H Q m → t σ H Q
def madeR (c : Str) (m : Rs D) : Rs (List D) := match m with
  | .ok (.obj c' fs) => if c' = c ∧ noOs fs = true then .ok fs else .no
  | _ => .no
section
variable {X : Cx} {G : Gd} {W : WX} {ρ : Rho} {e : Expr} {es : List Expr} {κ : Kt} {pos p : Pos}
theorem eno_make {k : Nat} {f : Addr} {fd : FuncData} {ps : List Str} {mf : List D → Rs D} {c x : Str} {ds : List Value} {dvs : List V} {dd : List D} (M : Mk X.K (He.ga X.K c) f) (Fk : KeepsI X.prog X.w X.K X.mg X.base k c f fd ps mf) (hr : Room (k + 1) X.A) (hm : X.mg x = some (.ref (He.ga X.K c)))
    (hb : Binds X.K fd ps ds) (hd : Vals dvs ds) (hdd : ∀ F, Reps X.K F dvs dd) (ha : AC X G W ρ (e :: es) κ) (hln : (e :: es).length + dd.length + 1 = ps.length := by rfl) (hg : Gl X x := by rfl) (hdb : (x == ("__debug__" : Str)) = false := by decide) (he : starEach (e :: es) X.env = (false, eval e X.env) :: starEach es X.env := by rfl)
    (hpl : (backTo pos (starEach es X.env)).any (·.1) = false := by rfl) : ENo X G W ρ c (.Call (.Name x p) (e :: es) [] pos) (κ (List D) fun us => madeR c (mf (us ++ dd))) := by
  obtain ⟨ms, ⟨ln, t, pa, qa⟩, h2⟩ := ha
  rw [h2]
  refine ⟨_, pe_make (E := E0) M Fk hr hg hm hb hd passLN pa hdb he hpl, fun F0 σ F H Q hh hp => ?_⟩
  refine qa F0 σ F H _ hh ?_
  cases ms with
  | ex c fs => exact hp
  | no => exact hp
  | ok us =>
    intro vs F' H' e1 r1
    intro y dx hy hdx ne
    have hp' : Post X.K (RNo X.K H c) (fun c d H => W c d σ H) F H Q (madeR c (mf (us ++ dd))) := hp
    have r2 : Reps X.K F' (vs ++ dvs) (us ++ dd) := Reps.append r1 (hdd F')
    refine ⟨?_, y, dx, vs ++ dvs, H', F', us ++ dd, rfl, rfl, hy, hdx, ne, e1.sub, r2, ?_⟩
    · rw [List.length_cons, Reps.length r2, List.length_append, ln us rfl]
      exact hln
    · have hy0 : H y = none := by
        cases q : H y with
        | none => rfl
        | some o => rw [e1.same _ _ q] at hy; cases hy
      cases hmf : mf (us ++ dd) with
      | ok d =>
        rw [hmf] at hp'
        cases d with
        | obj c' fs =>
          simp only [madeR] at hp'
          by_cases n : c' = c ∧ noOs fs = true
          · rw [if_pos n] at hp'
            obtain ⟨rfl, n⟩ := n
            exact fun F2 H2 e2 r => ⟨rfl, hp' _ _ H2 ((e1.trans e2).era hy0 hh.sub) ⟨y, rfl, hy0, era_same, own_of_rep e2.sub r n⟩⟩
          · rw [if_neg n] at hp'
            exact hp'.elim
        | _ => exact hp'.elim
      | ex c fs => rw [hmf] at hp'; exact hp'.elim
      | no => rw [hmf] at hp'; exact hp'.elim
end
section
variable {X : Cx} {G : Gd} {W : WX} {ρx ρ : Rho} {rest : List Stmt} {α β R : Type} {pn : α → Rho} {pl : β → Rho} {ι : R → Fl α β}
theorem bk_newO {i : Nat} {x c : Str} {e : Expr} {pos pos' : Pos} {m : Rs (List D)} {f : List D → Rs (Fl α β)} (nd : X.N.Nodup) (h : ENo X G W ρ c e m) (hr : ∀ d, BK X G W ρx (ρ.set i (some (.own true (.obj c d)))) rest pn pl (f d)) (hn : X.N[i]? = some x := by rfl)
    (hx : Loc X.env.scope x := by first | exact Or.inl rfl | exact Or.inr rfl) (hs : swapsWith e (some (.Name x pos')) pos.line X.env = pure false := by rfl) (hf : X.fn x = true ∨ X.env.scope.names.lookup x = some .local := by first | exact .inl rfl | exact .inr rfl)
    (hi : i < ρ.length := by exact Nat.le_of_ble_eq_true rfl) (wx : Wk ρ ρx := by first | exact Wk.nil | exact Wk.refl | (repeat (first | exact Wk.nil | apply Wk.keep | apply Wk.drop))) :
    BK X G W ρx ρ (.Assign [.Name x pos'] e pos :: rest) pn pl (m.bind f) := by
  obtain ⟨t, p, q⟩ := h
  intro F0 σ F H E hh hp
  refine any_cons (ps_set nd hn hx p hs hf) (q F0 σ F H _ hh (post_seq hh wx hp fun d v F' H' e1 r1 hp1 => ?_))
  obtain ⟨a, rfl, hn, hf, ho⟩ := r1
  refine hr d F0 _ F' H' E ((hh.more e1).setO ho hf ?_ ?_ hi) hp1
  · refine ⟨?_, fun hb => ?_⟩
    · cases q0 : G.H0 a with
      | none => exact q0
      | some o =>
        by_cases hb : a ∈ G.bs
        · obtain ⟨o2, q2, _⟩ := hh.bsT a hb
          rw [hn] at q2
          cases q2
        · rw [hh.base a o q0 hb] at hn
          cases hn
    · obtain ⟨o2, q2, _⟩ := hh.bsT a hb
      rw [hn] at q2
      cases q2
  · intro j l e qj sj
    obtain ⟨b, h1, h2, h3, h4⟩ := hh.own j l e qj
    rw [h1] at sj
    cases sj
    obtain ⟨o, ho, nt_⟩ := h4.there
    rw [hn] at ho
    cases ho
theorem bi_newO {i : Nat} {x c : Str} {e : Expr} {pos pos' : Pos} {m : Rs (List D)} {f : List D → Rs R} (nd : X.N.Nodup) (h : ENo X G W ρ c e m) (hr : ∀ d, BI X G W ρx (ρ.set i (some (.own true (.obj c d)))) rest pn pl ι (f d)) (hn : X.N[i]? = some x := by rfl)
    (hx : Loc X.env.scope x := by first | exact Or.inl rfl | exact Or.inr rfl) (hs : swapsWith e (some (.Name x pos')) pos.line X.env = pure false := by rfl) (hf : X.fn x = true ∨ X.env.scope.names.lookup x = some .local := by first | exact .inl rfl | exact .inr rfl)
    (hi : i < ρ.length := by exact Nat.le_of_ble_eq_true rfl) (wx : Wk ρ ρx := by first | exact Wk.nil | exact Wk.refl | (repeat (first | exact Wk.nil | apply Wk.keep | apply Wk.drop))) :
    BI X G W ρx ρ (.Assign [.Name x pos'] e pos :: rest) pn pl ι (m.bind f) := by
  unfold BI
  rw [Rs.assoc]
  exact bk_newO nd h hr hn hx hs hf hi wx
end
end VL
set_option Elab.async false
set_option linter.all false
set_option maxRecDepth 100000
set_option autoImplicit false
namespace VL
open PySem PySem.Spec L2
open PyProof.Rows hiding St
def PostM {α β : Type} (K : PySem.W.Frag) (Rl : Hp → α → β → Prop) (bc : Str) (b : Addr) (F H : Hp) (Q : α → Hp → Prop) : Rs (β × List D) → Prop
  | .ok r => ∀ v F' H', ExtB b F H F' H' → Rl F' v r.1 → Own K F' H' b (.obj bc r.2) → Q v H'
  | _ => False
theorem PostM.more {bc : Str} {α β : Type} {K : PySem.W.Frag} {Rl : Hp → α → β → Prop} {b : Addr} {F H F' H' : Hp} {Q : α → Hp → Prop} {m : Rs (β × List D)} (h : PostM K Rl bc b F H Q m) (e : ExtB b F H F' H') : PostM K Rl bc b F' H' Q m := by
  cases m with
  | ok d => exact fun v F2 H2 e2 r => h v F2 H2 (e.trans e2) r
  | ex c fs => exact h
  | no => exact h
theorem PostM.bind {bc : Str} {α β γ δ : Type} {K : PySem.W.Frag} {R1 : Hp → α → β → Prop} {R2 : Hp → γ → δ → Prop} {b : Addr} {F H : Hp} {Q1 : α → Hp → Prop} {Q : γ → Hp → Prop} {m : Rs (β × List D)} {f : β × List D → Rs (δ × List D)}
    (h : PostM K R2 bc b F H Q (m.bind f)) (k : ∀ r v F' H', ExtB b F H F' H' → R1 F' v r.1 → Own K F' H' b (.obj bc r.2) → PostM K R2 bc b F' H' Q (f r) → Q1 v H') : PostM K R1 bc b F H Q1 m := by
  cases m with
  | ok d => exact fun v F2 H2 e2 r o => k d v F2 H2 e2 r o (PostM.more h e2)
  | ex c fs => exact h
  | no => exact h
abbrev AtO (bc : Str) (ρ : Rho) (i : Nat) (l : Bool) (s : List D) : Prop := ρ[i]? = some (some (.own l (.obj bc s)))
def EM (X : Cx) (G : Gd) (ρ : Rho) (i : Nat) (bc : Str) (e : Expr) (m : Rs (D × List D)) : Prop :=
  ∀ F0 σ F H Q b, Holds X.K (G.at F0) ρ σ F H → σ[i]? = some (some (.ref b)) → PostM X.K (RFb X.K) bc b F H Q m → ∃ t, PE X e t ∧ t σ H Q
def AM (X : Cx) (G : Gd) (ρ : Rho) (i : Nat) (bc : Str) (es : List Expr) (m : Rs (List D × List D)) : Prop :=
  (∀ r, m = .ok r → r.1.length = es.length) ∧ ∀ F0 σ F H Q b, Holds X.K (G.at F0) ρ σ F H → σ[i]? = some (some (.ref b)) → PostM X.K (RLb X.K) bc b F H Q m → ∃ t, PA X es t ∧ t σ H Q
def TM (X : Cx) (G : Gd) (ρ : Rho) (i : Nat) (bc : Str) (e : Expr) (m : Rs (Bool × List D)) : Prop :=
  ∀ F0 σ F H Q b, Holds X.K (G.at F0) ρ σ F H → σ[i]? = some (some (.ref b)) → PostM X.K RBb bc b F H Q m → ∃ t, PT X e t ∧ t σ H Q
section
variable {bc : Str} {X : Cx} {G : Gd} {ρ : Rho} {i : Nat} {l : Bool} {s : List D} {e a b c : Expr} {es : List Expr} {pos p : Pos}
theorem post_toM {α β : Type} {K : PySem.W.Frag} {Rl : Hp → Hp → α → β → Prop} {Rb : Hp → α → β → Prop} {σ : St} {F0 F H : Hp} {bx : Addr} {Q : α → Hp → Prop} {m : Rs β} (hR : ∀ F H v d, Rl F H v d → Rb F v d) (hi : AtO bc ρ i l s) (hh : Holds K (G.at F0) ρ σ F H) (hb : σ[i]? = some (some (.ref bx)))
    (h : PostM K Rb bc bx F H Q (m.bind fun d => .ok (d, s))) : Post K Rl (fun c d H => W0 c d σ H) F H Q m := by
  cases m with
  | ok d =>
    intro v F' H' e1 r1
    obtain ⟨b', h1, hf, h0, hw⟩ := hh.own i l _ hi
    rw [hb] at h1
    cases h1
    obtain ⟨o, ho, nt_⟩ := hw.there
    exact h v F' H' (e1.toB ho nt_) (hR _ _ _ _ r1) (hw.ext e1)
  | ex c fs => exact h.elim
  | no => exact h.elim
theorem em_pure {m : Rs D} (he : EV X G W0 ρ e m) (hi : AtO bc ρ i l s := by rfl) : EM X G ρ i bc e (m.bind fun d => .ok (d, s)) := by
  obtain ⟨t, p, q⟩ := he
  intro F0 σ F H Q b hh hb hp
  exact ⟨t, p, q F0 σ F H Q hh (post_toM (fun _ _ _ _ r => r) hi hh hb hp)⟩
theorem bin_M {r : R2} {f : D → D → Option D} {ma : Rs (D × List D)} {mb : List D → Rs (D × List D)} (hf : R2ok X.K r f) (ha : EM X G ρ i bc a ma) (hb : ∀ s', EM X G (ρ.set i (some (.own l (.obj bc s')))) i bc b (mb s')) (hi : AtO bc ρ i l s)
    {F0 : Hp} {σ : St} {F H : Hp} {Q : VK} {bx : Addr} (hh : Holds X.K (G.at F0) ρ σ F H) (hbx : σ[i]? = some (some (.ref bx))) (hp : PostM X.K (RFb X.K) bc bx F H Q (ma.bind fun u => (mb u.2).bind fun v => (Rs.of (f u.1 v.1)).bind fun d => .ok (d, v.2))) :
    tAnyE X a σ H fun x H1 => tAnyE X b σ H1 fun y H2 => r x y H2 Q := by
  refine ha F0 σ F H _ bx hh hbx (hp.bind fun u x F1 H1 e1 r1 o1 hp1 => ?_)
  refine hb u.2 F0 σ F1 H1 _ bx (hh.moreB hi hbx e1 o1) hbx (hp1.bind fun v y F2 H2 e2 r2 o2 hp2 => ?_)
  cases hd : f u.1 v.1 with
  | none => rw [hd] at hp2; exact hp2.elim
  | some d =>
    rw [hd] at hp2
    obtain ⟨ob, hob, nt_⟩ := o2.there
    exact hf e2.sub (.inl (r1.mono e2.ext)) (.inl r2) hd fun w F3 H3 e3 r3 => hp2 w F3 H3 (e3.toB hob nt_) r3 (o2.ext e3)
theorem em_bin {op : Operator} {r : R2} {f : D → D → Option D} {ma : Rs (D × List D)} {mb : List D → Rs (D × List D)} (ho : OpR X (binaryOp op) r) (hf : R2ok X.K r f) (ha : EM X G ρ i bc a ma) (hb : ∀ s', EM X G (ρ.set i (some (.own l (.obj bc s')))) i bc b (mb s')) (hi : AtO bc ρ i l s := by rfl) :
    EM X G ρ i bc (.BinOp a op b pos) (ma.bind fun u => (mb u.2).bind fun v => (Rs.of (f u.1 v.1)).bind fun d => .ok (d, v.2)) := fun F0 σ F H Q bx hh hbx hp => ⟨_, pe_op ho pe_any pe_any, bin_M hf ha hb hi hh hbx hp⟩
theorem tm_val {m : Rs (D × List D)} (ha : EM X G ρ i bc a m) (he : ∀ whole, isTrue a X.env whole = (do let v ← whole; standAt a.pos; holding [v] (truthy v)) := by intro _; rfl) : TM X G ρ i bc a (m.bind fun u => (Rs.of (asB u.1)).bind fun k => .ok (k, u.2)) := by
  intro F0 σ F H Q bx hh hbx hp
  refine ⟨_, pt_val pe_any he, ha F0 σ F H _ bx hh hbx (hp.bind fun u x F1 H1 e1 r1 o1 hp1 => ?_)⟩
  obtain ⟨ob, hob, nt_⟩ := o1.there
  obtain ⟨d, s'⟩ := u
  have r1' : Rep X.K F1 x d := r1
  cases r1' with
  | bl k => exact ⟨k, rfl, hp1 _ F1 H1 ((Ext.refl e1.sub).toB hob nt_) rfl o1⟩
  | _ => exact hp1.elim
theorem tm_not {m : Rs (Bool × List D)} (ha : TM X G ρ i bc a m) : TM X G ρ i bc (.UnaryOp .Not a pos) (m.bind fun u => .ok (!u.1, u.2)) := by
  intro F0 σ F H Q bx hh hbx hp
  refine ⟨_, pt_not pt_any, ha F0 σ F H _ bx hh hbx (hp.bind fun u x F1 H1 e1 r1 o1 hp1 => ?_)⟩
  obtain ⟨ob, hob, nt_⟩ := o1.there
  have r1' : x = u.1 := r1
  subst r1'
  exact hp1 _ F1 H1 ((Ext.refl e1.sub).toB hob nt_) rfl o1
theorem am_nil (hi : AtO bc ρ i l s := by rfl) : AM X G ρ i bc [] (.ok ([], s)) := ⟨fun r h => by cases h; rfl, fun F0 σ F H Q b hh hb hp => by
  obtain ⟨b', h1, hf, h0, hw⟩ := hh.own i l _ hi
  rw [hb] at h1
  cases h1
  obtain ⟨o, ho, nt_⟩ := hw.there
  exact ⟨_, pa_nil, hp [] F H ((Ext.refl hh.sub).toB ho nt_) .nil hw⟩⟩
theorem am_cons {m : Rs (D × List D)} {ms : List D → Rs (List D × List D)} (ha : EM X G ρ i bc e m) (hr : ∀ s', AM X G (ρ.set i (some (.own l (.obj bc s')))) i bc es (ms s')) (hs : starEach (e :: es) X.env = (false, eval e X.env) :: starEach es X.env := by rfl) (hi : AtO bc ρ i l s := by rfl) :
    AM X G ρ i bc (e :: es) (m.bind fun u => (ms u.2).bind fun v => .ok (u.1 :: v.1, v.2)) := by
  refine ⟨fun r h => ?_, fun F0 σ F H Q bx hh hbx hp => ⟨_, pa_cons pe_any pa_any hs, ?_⟩⟩
  · cases m with
    | ok u =>
      simp only [Rs.bind_ok] at h
      cases hm : ms u.2 with
      | ok v =>
        rw [hm] at h
        cases h
        exact congrArg (· + 1) ((hr u.2).1 v hm)
      | ex c fs => rw [hm] at h; cases h
      | no => rw [hm] at h; cases h
    | ex c fs => cases h
    | no => cases h
  · refine ha F0 σ F H _ bx hh hbx (hp.bind fun u x F1 H1 e1 r1 o1 hp1 => ?_)
    refine (hr u.2).2 F0 σ F1 H1 _ bx (hh.moreB hi hbx e1 o1) hbx (hp1.bind fun v y F2 H2 e2 r2 o2 hp2 => ?_)
    obtain ⟨ob, hob, nt_⟩ := o2.there
    exact hp2 _ F2 H2 ((Ext.refl e2.sub).toB hob nt_) (.cons (r1.mono e2.ext) r2) o2
theorem em_lst {ms : Rs (List D × List D)} (h : AM X G ρ i bc es ms) (hl : Nat.ble es.length sizeLine = true := by rfl) : EM X G ρ i bc (.List es pos) (ms.bind fun v => .ok (.lst v.1, v.2)) := by
  intro F0 σ F H Q bx hh hbx hp
  refine ⟨_, pe_lst pa_any, h.2 F0 σ F H _ bx hh hbx ?_⟩
  cases ms with
  | ex c fs => exact hp
  | no => exact hp
  | ok v =>
    intro xs F1 H1 e1 r1 o1
    obtain ⟨ob, hob, nt_⟩ := o1.there
    have l2 : xs.length ≤ sizeLine := by
      rw [Reps.length r1, h.1 v rfl]
      exact Nat.le_of_ble_eq_true hl
    exact ⟨l2, fun q hn => hp _ _ _ (e1.trans ((Ext.fresh e1.sub _ hn).toB hob nt_)) (new_lst e1.sub hn l2 r1) (o1.ext (Ext.fresh e1.sub _ hn))⟩
theorem em_own {k : Nat} {f : Addr} {fd : FuncData} {ps : List Str} {m : List D → Rs D} {x : Str} {ms : Rs (List D × List D)} (Fk : Keeps X.prog X.w X.K X.mg X.base k f fd ps m) (hr : Room k X.A) (hm : X.mg x = some (.ref f)) (hk : PySem.W.keepIn X.K (.ref f) = true)
    (hb : Binds X.K fd ps []) (ha : AM X G ρ i bc (e :: es) ms) (hln : (e :: es).length = ps.length := by rfl) (hg : Gl X x := by rfl) (hdb : (x == ("__debug__" : Str)) = false := by decide) (he : starEach (e :: es) X.env = (false, eval e X.env) :: starEach es X.env := by rfl)
    (hpl : (backTo pos (starEach es X.env)).any (·.1) = false := by rfl) : EM X G ρ i bc (.Call (.Name x p) (e :: es) [] pos) (ms.bind fun v => (m v.1).bind fun d => .ok (d, v.2)) := by
  intro F0 σ F H Q bx hh hbx hp
  refine ⟨_, pe_callSD (E := WE W0) Fk hr hg hm hk hb .nil (fun σ => L2N.passAt takes0N σ) pa_any hdb he hpl, ha.2 F0 σ F H _ bx hh hbx ?_⟩
  cases ms with
  | ex c fs => exact hp
  | no => exact hp
  | ok v =>
    intro vs F' H' e1 r1 o1
    show spM X.K ps.length m (vs ++ []) H' Q _
    rw [List.append_nil]
    refine ⟨(Reps.length r1).trans ((ha.1 v rfl).trans hln), F', v.1, e1.sub, r1, ?_⟩
    simp only [Rs.bind_ok] at hp
    obtain ⟨ob, hob, nt_⟩ := o1.there
    cases hm : m v.1 with
    | ex c fs => rw [hm] at hp; exact hp.elim
    | no => rw [hm] at hp; exact hp.elim
    | ok d =>
      rw [hm] at hp
      exact fun w F2 H2 e2 r2 => hp w F2 H2 (e1.trans (e2.toB hob nt_)) r2 (o1.ext e2)
end
end VL
set_option Elab.async false
set_option linter.all false
set_option maxRecDepth 100000
set_option autoImplicit false
namespace VL
open PySem PySem.Spec L2
open PyProof.Rows hiding St
def PostE {β : Type} {α : Type} (K : PySem.W.Frag) (Rl : Hp → α → β → Prop) (bc : Str) (b : Addr) (s : List D) (F H : Hp) (Q : α → Hp → Prop) (E : XK) : Rs (β × List D) → Prop
  | .ok r => ∀ v F' H', ExtB b F H F' H' → Rl F' v r.1 → Own K F' H' b (.obj bc r.2) → Q v H'
  | .ex c fs => ∀ dd F' H', ExtB b F H F' H' → XRep K F' dd fs → Own K F' H' b (.obj bc s) → E (.ref (He.ga K c)) (some dd) H'
  | .no => False
def spMO (K : PySem.W.Frag) (bc : Str) (n : Nat) (m : List D → List D → Rs (D × List D)) : Sp := fun vs H Q E => vs.length = n ∧ ∃ b ws F ds s, vs = .ref b :: ws ∧ Same F H ∧ F b = none ∧ Own K F H b (.obj bc s) ∧ Reps K F ws ds ∧ PostE K (RFb K) bc b s F H Q E (m s ds)
abbrev KeepsMO (P : Program) (w : World) (K : PySem.W.Frag) (mg : Str → Option Value) (base : Heap) (k : Nat) (bc : Str) (f : Addr) (fd : FuncData) (ps : List Str) (m : List D → List D → Rs (D × List D)) : Prop := FnOk P w K mg base (L2N.CX P w) k f fd ps (spMO K bc ps.length m)
abbrev ioO {α β : Type} (bc : Str) : D × List D → Fl α β := fun p => .rt p.1 [.obj bc p.2]
theorem keeps_mo {P : Program} {w : World} {K : PySem.W.Frag} {mg : Str → Option Value} {base : Heap} {x qual : Str} {params : Arguments} {body : List Stmt} {scope : Scope} {dvs : List V} {kws : List (Str × V)} {f : Addr} {fd : FuncData} {N ps : List Str} {k : Nat} {m : List D → List D → Rs (D × List D)} {bc : Str}
    (Fd : FunD K x qual params body scope dvs kws f fd) (S : FnScope N ps scope)
    (hb : ∀ (cdv : Value) (A : Around) (outer : List Env) (s : Shared) (H : Hp) (E : XK) (F : Hp) (b : Addr) (s0 ds : List D), ds.length + 1 = ps.length → Room k (A.deeper (envOfC qual scope s.heap.objs.size f cdv)) →
      BI (cxOf (L2N.CX P w) P w K mg base N qual scope f cdv A outer s H E) ⟨F, H, [b]⟩ (fun c d _ H => E c d H) [some (Cl.own false (.obj bc s0))] (some (Cl.own false (.obj bc s0)) :: ds.map (fun d => some (Cl.val d)) ++ List.replicate (N.length - (ds.length + 1)) none) body (fun _ : Unit => []) (fun _ : Unit => []) (ioO bc) (m s0 ds)) :
    KeepsMO P w K mg base (k + 1) bc f fd ps m := by
  refine Fd.ok S (fun vs H Q E h => h.1) (fun cdv A outer s H vs Q E hr h => ?_)
  obtain ⟨hl, b, ws, F, ds, s0, rfl, hs, hFb, hob, hr1, hp⟩ := h
  have hlen : ds.length + 1 = ps.length := by rw [← hr1.length]; exact hl
  have hbk := hb cdv A outer s H E F b s0 ds hlen hr
  obtain ⟨ob, hobh, nt_⟩ := hob.there
  have at0 : ∀ (i : Nat) (c : Cl), (some (Cl.own false (.obj bc s0)) :: ds.map (fun d => some (Cl.val d)) ++ List.replicate (N.length - (ds.length + 1)) none)[i]? = some (some c) → (i = 0 ∧ c = .own false (.obj bc s0)) ∨ ∃ j d, i = j + 1 ∧ ds[j]? = some d ∧ c = .val d := fun i c q => by
    cases i with
    | zero => exact .inl ⟨rfl, by simpa using q.symm⟩
    | succ j =>
      obtain ⟨d, h1, h2⟩ := rho_start (ds := ds) (n := N.length - (ds.length + 1)) (i := j) (c := c) (by simpa using q)
      exact .inr ⟨j, d, rfl, h1, h2⟩
  refine hbk F (L2.start N (.ref b :: ws)) F H _ ⟨⟨hs, fun a o q _ => q, fun a q => ?_, Same.refl F, fun a o q => .inl q⟩, fun i d q => ?_, fun i l d q => ?_, fun i j l m' d e a n q q2 => ?_, ?_⟩ ?_
  · have : a = b := by simpa [Gd.at] using q
    subst this
    exact ⟨_, hobh, nt_⟩
  · rcases at0 i _ q with ⟨_, z⟩ | ⟨j, d', rfl, h1, h2⟩
    · cases z
    · cases h2
      obtain ⟨v, g1, g2⟩ := hr1.get h1
      refine ⟨v, ?_, g2⟩
      unfold L2.start
      rw [List.getElem?_append_left (by
        rw [List.length_map, List.length_cons]
        rcases Nat.lt_or_ge j ws.length with z | z
        · omega
        · rw [List.getElem?_eq_none z] at g1; cases g1), List.getElem?_map, List.getElem?_cons_succ, g1]
      rfl
  · rcases at0 i _ q with ⟨rfl, z⟩ | ⟨j, d', rfl, h1, h2⟩
    · cases z
      exact ⟨b, rfl, hFb, by simp [OwnAt, Gd.at], hob⟩
    · cases h2
  · rcases at0 i _ q with ⟨rfl, z⟩ | ⟨_, d', rfl, h1, h2⟩
    · rcases at0 j _ q2 with ⟨rfl, z2⟩ | ⟨_, d', rfl, h1, h2⟩
      · exact absurd rfl n
      · cases h2
    · cases h2
  · unfold L2.start
    simp only [List.length_append, List.length_map, List.length_cons, List.length_replicate]
    rw [hr1.length]
    exact Nat.le_refl _
  · cases hm : m s0 ds with
    | ex c fs =>
      rw [hm] at hp
      intro dd σ F' H' hh' xr
      obtain ⟨a, k1, k2, k3, k4⟩ := hh'.own 0 false _ rfl
      have k3' : a ∈ [b] := k3
      cases List.mem_singleton.mp k3'
      obtain ⟨o', ho', nt_⟩ := k4.there
      refine hp dd F' H' ⟨fun a o n q => hh'.base a o q (by simpa [Gd.at] using n), ⟨o', ho', nt_⟩, hh'.sub, hh'.ext, fun a o q => ?_⟩ xr k4
      rcases hh'.new a o q with z | z
      · exact .inl z
      · rcases z with z | z
        · exact .inr (.inl z.1)
        · exact .inr (.inr ⟨z.1, z.2.1⟩)
    | no => rw [hm] at hp; exact hp.elim
    | ok r =>
      rw [hm] at hp
      refine fun v F' H' g rv ow => ?_
      obtain ⟨_, ow⟩ := ow
      obtain ⟨f1, d, hd, ho⟩ := ow 0 b rfl
      cases hd
      obtain ⟨o', ho', nt_⟩ := ho.there
      refine hp v F' H' ⟨fun a o n q => g.base a o q (by simpa [Gd.at] using n), ⟨o', ho', nt_⟩, g.sub, g.ext, fun a o q => ?_⟩ rv ho
      rcases g.new a o q with z | z
      · exact .inl z
      · rcases z with z | z
        · exact .inr (.inl z.1)
        · exact .inr (.inr ⟨z.1, z.2.1⟩)
end VL
set_option Elab.async false
set_option linter.all false
set_option maxRecDepth 100000
set_option autoImplicit false
namespace VL
open PySem PySem.Spec L2
open PyProof.Rows hiding St
def tMethO (C : Addr) (sp : Sp) (E : St → XK) (ta : TE) (t : TA) : TE := fun σ H Q => ta σ H fun x H1 => ∃ (a dx : Addr) (vs : List (Option V)), x = .ref a ∧ SlX.Slt H1 a C dx vs ∧ t σ H1 fun ws H2 => sp (x :: ws) H2 Q (E σ)
section
variable {X : Cx} {o e : Expr} {es : List Expr} {m : Str} {pos apos : Pos} {ta : TE} {t : TA}
theorem pe_methO {CT : CXT} {k : Nat} {C g : Addr} {fd : FuncData} {ps : List Str} {sp : Sp} {E : St → XK} {pl : Sem Bool} (he : PE X o ta) (sc : SlX.SCls X.K C) (hm : Meth X.K C m g) (Fk : FnOk X.prog X.w X.K X.mg X.base CT k g fd ps sp) (hr : Room k X.A) (hb : Binds X.K fd ps []) (hx : ∀ σ, PassesAt CT X σ (E σ)) (ha : PA X (e :: es) t)
    (hs : starEach (e :: es) X.env = (false, eval e X.env) :: starEach es X.env := by rfl) (hp : (backTo pos (starEach es X.env)).any (·.1) = false := by rfl)
    (hv : eval (.Call (.Attribute o m apos) (e :: es) [] pos) X.env = (do { let u ← eval o X.env; standAt apos.atName; let (f, first) ← holding [u] (getMethod u m pl); callWith pos f first (backTo pos (starEach (e :: es) X.env)) (backToKw pos (keywordEach [] X.env)) }) := by rfl) :
    PE X (.Call (.Attribute o m apos) (e :: es) [] pos) (tMethO C sp E ta t) := by
  refine ⟨fun pins s σ H Q I w => PySem.W.methodCall_KW (pl := pl) (thn (he.run pins s σ H _ I w) fun u s1 ⟨x, H1, I1, rx, a, dx, vs, ex, sl, q⟩ => ?_) hv⟩
  subst ex
  obtain rfl : u = Value.ref a := rx
  refine SlX.getmethsl_ok I1 sl sc hm (PySem.W.callWith_K (first := [.ref a]) (h₀ := X.base) I.ok.mod.kin hm.kp (thn (ha.run pos pins s1 σ H1 _ I1 q) fun us s2 ⟨ws, H2, I2, r, q2⟩ => ⟨I2.kIn, ?_⟩) hs hp)
  exact run_fnS (us := .ref a :: us) (vs := .ref a :: ws) Fk hr hb (hx σ) I2 (.cons rfl r) q2
theorem pe_methO0 {CT : CXT} {k : Nat} {C g : Addr} {fd : FuncData} {ps : List Str} {sp : Sp} {E : St → XK} {pl : Sem Bool} (he : PE X o ta) (sc : SlX.SCls X.K C) (hm : Meth X.K C m g) (Fk : FnOk X.prog X.w X.K X.mg X.base CT k g fd ps sp) (hr : Room k X.A) (hb : Binds X.K fd ps []) (hx : ∀ σ, PassesAt CT X σ (E σ))
    (hv : eval (.Call (.Attribute o m apos) [] [] pos) X.env = (do { let u ← eval o X.env; standAt apos.atName; let (f, first) ← holding [u] (getMethod u m pl); callWith pos f first (backTo pos (starEach [] X.env)) (backToKw pos (keywordEach [] X.env)) }) := by rfl) :
    PE X (.Call (.Attribute o m apos) [] [] pos) (tMethO C sp E ta tNil) := by
  refine ⟨fun pins s σ H Q I w => PySem.W.methodCall_KW (pl := pl) (thn (he.run pins s σ H _ I w) fun u s1 ⟨x, H1, I1, rx, a, dx, vs, ex, sl, q⟩ => ?_) hv⟩
  subst ex
  obtain rfl : u = Value.ref a := rx
  exact SlX.getmethsl_ok I1 sl sc hm (PySem.W.callWith_K0 (first := [.ref a]) I1.kIn hm.kp (run_fnS (us := [.ref a]) (vs := [.ref a]) Fk hr hb (hx σ) I1 (.cons rfl .nil) q))
end
def EE (X : Cx) (G : Gd) (W : WX) (ρ : Rho) (i : Nat) (bc : Str) (s : List D) (e : Expr) (m : Rs (D × List D)) : Prop :=
  ∀ F0 σ F H Q b, Holds X.K (G.at F0) ρ σ F H → σ[i]? = some (some (.ref b)) → PostE X.K (RFb X.K) bc b s F H Q (fun c d H => W c d σ H) m → ∃ t, PE X e t ∧ t σ H Q
theorem PostE.more {α β : Type} {K : PySem.W.Frag} {Rl : Hp → α → β → Prop} {bc : Str} {b : Addr} {s : List D} {F H F' H' : Hp} {Q : α → Hp → Prop} {E : XK} {m : Rs (β × List D)} (h : PostE K Rl bc b s F H Q E m) (e : ExtB b F H F' H') : PostE K Rl bc b s F' H' Q E m := by
  cases m with
  | ok r => exact fun v F2 H2 e2 r o => h v F2 H2 (e.trans e2) r o
  | ex c fs => exact fun dd F2 H2 e2 x o => h dd F2 H2 (e.trans e2) x o
  | no => exact h
section
variable {X : Cx} {G : Gd} {W : WX} {ρ : Rho} {i : Nat} {l : Bool} {bc : Str} {s : List D} {e : Expr} {es : List Expr} {pos p p2 apos : Pos}
theorem ee_args {n : Nat} {σ : St} {F0 F H : Hp} {b : Addr} {Q : VK} {ms : Rs (List D)} {m : List D → List D → Rs (D × List D)} (hi : AtO bc ρ i l s) (hh : Holds X.K (G.at F0) ρ σ F H) (hb : σ[i]? = some (some (.ref b))) (hln : ∀ ds, ms = .ok ds → ds.length + 1 = n)
    (hp : PostE X.K (RFb X.K) bc b s F H Q (fun c d H => W c d σ H) (ms.bind fun v => m s v)) : Post X.K (RL X.K) (fun c d H => W c d σ H) F H (fun ws H2 => spMO X.K bc n m (.ref b :: ws) H2 Q (fun c d H => W c d σ H)) ms := by
  obtain ⟨b', h1, hf, h0, hw⟩ := hh.own i l _ hi
  rw [hb] at h1
  cases h1
  obtain ⟨o, ho, nt_⟩ := hw.there
  cases ms with
  | no => exact hp
  | ex c fs => exact fun dd F' H' e1 x => hp dd F' H' (e1.toB ho nt_) x (hw.ext e1)
  | ok v => exact fun ws F' H' e1 r1 => ⟨by rw [List.length_cons, Reps.length r1]; exact hln v rfl, b, ws, F', v, s, rfl, e1.sub, (e1.toB ho nt_).stays hf ho nt_, hw.ext e1, r1, PostE.more (m := m s v) hp (e1.toB ho nt_)⟩
theorem ee_call {k : Nat} {f : Addr} {fd : FuncData} {ps : List Str} {m : List D → List D → Rs (D × List D)} {x bn : Str} {ms : Rs (List D)} (tk : L2N.Takes X W) (Fk : KeepsMO X.prog X.w X.K X.mg X.base k bc f fd ps m) (hr : Room k X.A) (hm : X.mg x = some (.ref f)) (hk : PySem.W.keepIn X.K (.ref f) = true)
    (hb : Binds X.K fd ps []) (hv : PE X (.Name bn p2) (tVar i)) (ha : AV X G W ρ es ms) (hi : AtO bc ρ i l s := by rfl) (hln : es.length + 1 = ps.length := by rfl) (hg : Gl X x := by rfl) (hdb : (x == ("__debug__" : Str)) = false := by decide) (he : starEach (.Name bn p2 :: es) X.env = (false, eval (.Name bn p2) X.env) :: starEach es X.env := by rfl)
    (hpl : (backTo pos (starEach es X.env)).any (·.1) = false := by rfl) : EE X G W ρ i bc s (.Call (.Name x p) (.Name bn p2 :: es) [] pos) (ms.bind fun v => m s v) := by
  obtain ⟨ln, t, pa, qa⟩ := ha
  intro F0 σ F H Q b hh hbx hp
  refine ⟨_, pe_callSD (E := WE W) Fk hr hg hm hk hb .nil (fun σ => L2N.passAt tk σ) (pa_cons hv pa he) hdb he hpl, _, hbx, qa F0 σ F H _ hh ?_⟩
  refine (ee_args (n := ps.length) hi hh hbx (fun ds z => by rw [ln ds z]; exact hln) hp).imp fun d v F' H' e1 r1 kk => ?_
  show spMO X.K bc ps.length m (.ref b :: v ++ []) H' Q _
  rw [List.append_nil]
  exact kk v F' H' (Ext.refl e1.sub) r1
theorem ee_meth {k : Nat} {f : Addr} {fd : FuncData} {ps : List Str} {m : List D → List D → Rs (D × List D)} {mn bn : Str} {ms : Rs (List D)} (tk : L2N.Takes X W) (sc : SlX.SCls X.K (He.ga X.K bc)) (hm : Meth X.K (He.ga X.K bc) mn f) (Fk : KeepsMO X.prog X.w X.K X.mg X.base k bc f fd ps m) (hr : Room k X.A)
    (hb : Binds X.K fd ps []) {pl : Sem Bool} (hv : PE X (.Name bn p2) (tVar i)) (ha : AV X G W ρ (e :: es) ms) (hi : AtO bc ρ i l s := by rfl) (hln : (e :: es).length + 1 = ps.length := by rfl)
    (hs : starEach (e :: es) X.env = (false, eval e X.env) :: starEach es X.env := by rfl) (hpl : (backTo pos (starEach es X.env)).any (·.1) = false := by rfl)
    (hev : eval (.Call (.Attribute (.Name bn p2) mn apos) (e :: es) [] pos) X.env = (do { let u ← eval (.Name bn p2) X.env; standAt apos.atName; let (f, first) ← holding [u] (getMethod u mn pl); callWith pos f first (backTo pos (starEach (e :: es) X.env)) (backToKw pos (keywordEach [] X.env)) }) := by rfl) :
    EE X G W ρ i bc s (.Call (.Attribute (.Name bn p2) mn apos) (e :: es) [] pos) (ms.bind fun v => m s v) := by
  obtain ⟨ln, t, pa, qa⟩ := ha
  intro F0 σ F H Q b hh hbx hp
  obtain ⟨b', h1, hf, h0, hw⟩ := hh.own i l _ hi
  rw [hbx] at h1
  cases h1
  have hw' := hw
  cases hw with
  | @obj dx _ xs _ g1 g2 g3 =>
    refine ⟨_, pe_methO (E := WE W) hv sc hm Fk hr hb (fun σ => L2N.passAt tk σ) pa hs hpl hev, _, hbx, b, dx, _, rfl, .inr ⟨g1, hh.sub _ _ g2⟩, qa F0 σ F H _ hh ?_⟩
    exact ee_args (n := ps.length) hi hh hbx (fun ds z => by rw [ln ds z]; exact hln) hp
theorem ee_meth0 {k : Nat} {f : Addr} {fd : FuncData} {ps : List Str} {m : List D → List D → Rs (D × List D)} {mn bn : Str} (tk : L2N.Takes X W) (sc : SlX.SCls X.K (He.ga X.K bc)) (hm : Meth X.K (He.ga X.K bc) mn f) (Fk : KeepsMO X.prog X.w X.K X.mg X.base k bc f fd ps m) (hr : Room k X.A)
    (hb : Binds X.K fd ps []) {pl : Sem Bool} (hv : PE X (.Name bn p2) (tVar i)) (hi : AtO bc ρ i l s := by rfl) (hln : 1 = ps.length := by rfl)
    (hev : eval (.Call (.Attribute (.Name bn p2) mn apos) [] [] pos) X.env = (do { let u ← eval (.Name bn p2) X.env; standAt apos.atName; let (f, first) ← holding [u] (getMethod u mn pl); callWith pos f first (backTo pos (starEach [] X.env)) (backToKw pos (keywordEach [] X.env)) }) := by rfl) :
    EE X G W ρ i bc s (.Call (.Attribute (.Name bn p2) mn apos) [] [] pos) (m s []) := by
  intro F0 σ F H Q b hh hbx hp
  obtain ⟨b', h1, hf, h0, hw⟩ := hh.own i l _ hi
  rw [hbx] at h1
  cases h1
  have hw' := hw
  cases hw with
  | @obj dx _ xs _ g1 g2 g3 =>
    refine ⟨_, pe_methO0 (E := WE W) hv sc hm Fk hr hb (fun σ => L2N.passAt tk σ) hev, _, hbx, b, dx, _, rfl, .inr ⟨g1, hh.sub _ _ g2⟩, ?_⟩
    exact ⟨hln, b, [], F, [], s, rfl, hh.sub, hf, hw', .nil, hp⟩
theorem em_ee {m : Rs (D × List D)} (h : EE X G W0 ρ i bc s e m) : EM X G ρ i bc e m.noX := by
  intro F0 σ F H Q b hh hb hp
  refine h F0 σ F H Q b hh hb ?_
  cases m with
  | ok r => exact hp
  | ex c fs => exact hp.elim
  | no => exact hp.elim
end
section
variable {X : Cx} {G : Gd} {W : WX} {ρx ρ : Rho} {rest sts : List Stmt} {α β R : Type} {pn : α → Rho} {pl : β → Rho} {ι : R → Fl α β} {i : Nat} {l : Bool} {bc : Str} {s : List D}
theorem set_self {ρ : Rho} {i : Nat} {c : Option Cl} (h : ρ[i]? = some c) : ρ.set i c = ρ := by
  refine List.ext_getElem? fun j => ?_
  by_cases e : i = j
  · subst e
    rw [List.getElem?_set_self (by
      rcases Nat.lt_or_ge i ρ.length with z | z
      · exact z
      · rw [List.getElem?_eq_none z] at h; cases h), h]
  · rw [List.getElem?_set_ne e]
theorem obj_at {F0 : Hp} {σ : St} {F H : Hp} (hh : Holds X.K (G.at F0) ρ σ F H) (hi : AtO bc ρ i l s) : ∃ b, σ[i]? = some (some (.ref b)) := by
  obtain ⟨b, h1, _⟩ := hh.own i l _ hi
  exact ⟨b, h1⟩
theorem bk_setE {j : Nat} {x : Str} {e : Expr} {pos pos' : Pos} {m : Rs (D × List D)} {f : D → List D → Rs (Fl α β)} (nd : X.N.Nodup) (he : EE X G W ρ i bc s e m) (hr : ∀ d s', BK X G W ρx ((ρ.set i (some (.own l (.obj bc s')))).set j (some (.val d))) rest pn pl (f d s')) (hi : AtO bc ρ i l s := by rfl) (hj : X.N[j]? = some x := by rfl)
    (hx : Loc X.env.scope x := by first | exact Or.inl rfl | exact Or.inr rfl) (hs : swapsWith e (some (.Name x pos')) pos.line X.env = pure false := by rfl) (hf : X.fn x = true ∨ X.env.scope.names.lookup x = some .local := by first | exact .inl rfl | exact .inr rfl) (hl : j < ρ.length := by exact Nat.le_of_ble_eq_true rfl)
    (wx : Wk ρ ρx := by first | exact Wk.nil | exact Wk.refl | (repeat (first | exact Wk.nil | apply Wk.keep | apply Wk.drop))) :
    BK X G W ρx ρ (.Assign [.Name x pos'] e pos :: rest) pn pl (m.bind fun u => f u.1 u.2) := by
  intro F0 σ F H E hh hp
  obtain ⟨b, hb⟩ := obj_at hh hi
  refine any_cons (ps_set nd hj hx pe_any hs hf) (he F0 σ F H _ b hh hb ?_)
  cases m with
  | no => exact hp
  | ex c fs =>
    intro dd F' H' e1 x1 o1
    have z := hh.moreB hi hb e1 o1
    rw [set_self hi] at z
    exact hp dd σ F' H' (z.weak wx) x1
  | ok r => exact fun v F' H' e1 r1 o1 => hr r.1 r.2 F0 _ F' H' E ((hh.moreB hi hb e1 o1).setV r1 (by rw [List.length_set]; exact hl)) hp
theorem bi_setE {j : Nat} {x : Str} {e : Expr} {pos pos' : Pos} {m : Rs (D × List D)} {f : D → List D → Rs R} (nd : X.N.Nodup) (he : EE X G W ρ i bc s e m) (hr : ∀ d s', BI X G W ρx ((ρ.set i (some (.own l (.obj bc s')))).set j (some (.val d))) rest pn pl ι (f d s')) (hi : AtO bc ρ i l s := by rfl) (hj : X.N[j]? = some x := by rfl)
    (hx : Loc X.env.scope x := by first | exact Or.inl rfl | exact Or.inr rfl) (hs : swapsWith e (some (.Name x pos')) pos.line X.env = pure false := by rfl) (hf : X.fn x = true ∨ X.env.scope.names.lookup x = some .local := by first | exact .inl rfl | exact .inr rfl) (hl : j < ρ.length := by exact Nat.le_of_ble_eq_true rfl)
    (wx : Wk ρ ρx := by first | exact Wk.nil | exact Wk.refl | (repeat (first | exact Wk.nil | apply Wk.keep | apply Wk.drop))) :
    BI X G W ρx ρ (.Assign [.Name x pos'] e pos :: rest) pn pl ι (m.bind fun u => f u.1 u.2) := by
  unfold BI
  rw [Rs.assoc]
  exact bk_setE nd he hr hi hj hx hs hf hl wx
end
end VL
set_option Elab.async false
set_option linter.all false
set_option maxRecDepth 100000
set_option autoImplicit false
namespace VL
open PySem PySem.Spec L2
open PyProof.Rows hiding St
theorem keeps_mo0 {P : Program} {w : World} {K : PySem.W.Frag} {mg : Str → Option Value} {base : Heap} {x qual : Str} {params : Arguments} {body : List Stmt} {scope : Scope} {dvs : List V} {kws : List (Str × V)} {f : Addr} {fd : FuncData} {N ps : List Str} {k : Nat} {m : List D → List D → Rs (List D)} {bc : Str}
    (Fd : FunD K x qual params body scope dvs kws f fd) (S : FnScope N ps scope)
    (hb : ∀ (cdv : Value) (A : Around) (outer : List Env) (s : Shared) (H : Hp) (E : XK) (F : Hp) (b : Addr) (s0 ds : List D), ds.length + 1 = ps.length → Room k (A.deeper (envOfC qual scope s.heap.objs.size f cdv)) →
      BI (cxOf (L2N.CX P w) P w K mg base N qual scope f cdv A outer s H E) ⟨F, H, [b]⟩ (fun c d _ H => E c d H) [some (Cl.own false (.obj bc s0))] (some (Cl.own false (.obj bc s0)) :: ds.map (fun d => some (Cl.val d)) ++ List.replicate (N.length - (ds.length + 1)) none) body
        (fun s' : List D => [some (Cl.own false (.obj bc s'))]) (fun _ : Unit => []) Fl.nx (m s0 ds)) :
    KeepsMO P w K mg base (k + 1) bc f fd ps (fun s ds => (m s ds).bind fun s' => .ok (.non, s')) := by
  refine Fd.ok S (fun vs H Q E h => h.1) (fun cdv A outer s H vs Q E hr h => ?_)
  obtain ⟨hl, b, ws, F, ds, s0, rfl, hs, hFb, hob, hr1, hp⟩ := h
  have hlen : ds.length + 1 = ps.length := by rw [← hr1.length]; exact hl
  have hbk := hb cdv A outer s H E F b s0 ds hlen hr
  obtain ⟨ob, hobh, nt_⟩ := hob.there
  have at0 : ∀ (i : Nat) (c : Cl), (some (Cl.own false (.obj bc s0)) :: ds.map (fun d => some (Cl.val d)) ++ List.replicate (N.length - (ds.length + 1)) none)[i]? = some (some c) → (i = 0 ∧ c = .own false (.obj bc s0)) ∨ ∃ j d, i = j + 1 ∧ ds[j]? = some d ∧ c = .val d := fun i c q => by
    cases i with
    | zero => exact .inl ⟨rfl, by simpa using q.symm⟩
    | succ j =>
      obtain ⟨d, h1, h2⟩ := rho_start (ds := ds) (n := N.length - (ds.length + 1)) (i := j) (c := c) (by simpa using q)
      exact .inr ⟨j, d, rfl, h1, h2⟩
  have out : ∀ {σ : St} {F' H' : Hp} {s' : List D}, Holds K (Gd.at ⟨F, H, [b]⟩ F) [some (Cl.own false (.obj bc s'))] σ F' H' → ExtB b F H F' H' ∧ Own K F' H' b (.obj bc s') := fun {σ F' H' s'} hh' => by
    obtain ⟨a, k1, k2, k3, k4⟩ := hh'.own 0 false _ rfl
    have k3' : a ∈ [b] := k3
    cases List.mem_singleton.mp k3'
    obtain ⟨o', ho', nt_⟩ := k4.there
    refine ⟨⟨fun a o n q => hh'.base a o q (by simpa [Gd.at] using n), ⟨o', ho', nt_⟩, hh'.sub, hh'.ext, fun a o q => ?_⟩, k4⟩
    rcases hh'.new a o q with z | z
    · exact .inl z
    · rcases z with z | z
      · exact .inr (.inl z.1)
      · exact .inr (.inr ⟨z.1, z.2.1⟩)
  refine hbk F (L2.start N (.ref b :: ws)) F H _ ⟨⟨hs, fun a o q _ => q, fun a q => ?_, Same.refl F, fun a o q => .inl q⟩, fun i d q => ?_, fun i l d q => ?_, fun i j l m' d e a n q q2 => ?_, ?_⟩ ?_
  · have : a = b := by simpa [Gd.at] using q
    subst this
    exact ⟨_, hobh, nt_⟩
  · rcases at0 i _ q with ⟨_, z⟩ | ⟨j, d', rfl, h1, h2⟩
    · cases z
    · cases h2
      obtain ⟨v, g1, g2⟩ := hr1.get h1
      refine ⟨v, ?_, g2⟩
      unfold L2.start
      rw [List.getElem?_append_left (by
        rw [List.length_map, List.length_cons]
        rcases Nat.lt_or_ge j ws.length with z | z
        · omega
        · rw [List.getElem?_eq_none z] at g1; cases g1), List.getElem?_map, List.getElem?_cons_succ, g1]
      rfl
  · rcases at0 i _ q with ⟨rfl, z⟩ | ⟨j, d', rfl, h1, h2⟩
    · cases z
      exact ⟨b, rfl, hFb, by simp [OwnAt, Gd.at], hob⟩
    · cases h2
  · rcases at0 i _ q with ⟨rfl, z⟩ | ⟨_, d', rfl, h1, h2⟩
    · rcases at0 j _ q2 with ⟨rfl, z2⟩ | ⟨_, d', rfl, h1, h2⟩
      · exact absurd rfl n
      · cases h2
    · cases h2
  · unfold L2.start
    simp only [List.length_append, List.length_map, List.length_cons, List.length_replicate]
    rw [hr1.length]
    exact Nat.le_refl _
  · have hp : PostE K (RFb K) bc b s0 F H Q E ((m s0 ds).bind fun s' => Rs.ok (D.non, s')) := hp
    cases hm : m s0 ds with
    | ex c fs =>
      rw [hm] at hp
      intro dd σ F' H' hh' xr
      obtain ⟨e1, o1⟩ := out hh'
      exact hp dd F' H' e1 xr o1
    | no => rw [hm] at hp; exact hp.elim
    | ok s' =>
      rw [hm] at hp
      intro σ F' H' hh'
      obtain ⟨e1, o1⟩ := out hh'
      exact hp .non F' H' e1 .non o1
section
variable {X : Cx} {G : Gd} {W : WX} {ρ : Rho} {o e : Expr} {es : List Expr} {κ : Kt} {pos apos : Pos} {mo : Rs D}
theorem ev_methC {k : Nat} {f : Addr} {fd : FuncData} {ps : List Str} {mf : List D → Rs D} {c mn : Str} (tk : L2N.Takes X W) (sc : SlX.SCls X.K (He.ga X.K c)) (hm : Meth X.K (He.ga X.K c) mn f) (Fk : Keeps X.prog X.w X.K X.mg X.base k f fd ps mf) (hr : Room k X.A)
    (hb : Binds X.K fd ps []) {pl : Sem Bool} (ho : EV X G W ρ o mo) (ha : AC X G W ρ (e :: es) κ) (hln : (e :: es).length + 1 = ps.length := by rfl)
    (hs : starEach (e :: es) X.env = (false, eval e X.env) :: starEach es X.env := by rfl) (hpl : (backTo pos (starEach es X.env)).any (·.1) = false := by rfl)
    (hev : eval (.Call (.Attribute o mn apos) (e :: es) [] pos) X.env = (do { let u ← eval o X.env; standAt apos.atName; let (f, first) ← holding [u] (getMethod u mn pl); callWith pos f first (backTo pos (starEach (e :: es) X.env)) (backToKw pos (keywordEach [] X.env)) }) := by rfl) :
    EV X G W ρ (.Call (.Attribute o mn apos) (e :: es) [] pos) (mo.bind fun x => if isObj c x then κ D fun us => mf (x :: us) else .no) := by
  obtain ⟨ms, ⟨ln, t, pa, qa⟩, h2⟩ := ha
  obtain ⟨to, po, qo⟩ := ho
  refine ⟨_, pe_methO (E := WE W) po sc hm Fk hr hb (fun σ => L2N.passAt tk σ) pa hs hpl hev, fun F0 σ F H Q hh hp => qo F0 σ F H _ hh (hp.bind fun d v F1 H1 e1 r1 hp1 => ?_)⟩
  cases d with
  | obj c' xs =>
    by_cases ec : c' = c
    · simp only [isObj, ec, decide_true, if_true] at hp1
      subst ec
      obtain ⟨a, dx, vs, rfl, g1, g2⟩ := RepH.slt e1.sub (.inl r1)
      refine ⟨a, dx, vs.map some, rfl, g1, qa F0 σ F1 H1 _ (hh.more e1) ?_⟩
      rw [h2] at hp1
      cases ms with
      | ex c fs => exact hp1
      | no => exact hp1
      | ok us => exact fun ws F' H' e2 r2 => ⟨by rw [List.length_cons, Reps.length r2, ln us rfl]; exact hln, F', .obj c' xs :: us, e2.sub, .cons (r1.mono e2.ext) r2, Post.more (m := mf (.obj c' xs :: us)) hp1 e2⟩
    · simp only [isObj, decide_eq_false ec, Bool.false_eq_true, if_false] at hp1
      exact hp1.elim
  | _ => exact hp1.elim
theorem ev_meth0 {k : Nat} {f : Addr} {fd : FuncData} {ps : List Str} {mf : List D → Rs D} {c mn : Str} (tk : L2N.Takes X W) (sc : SlX.SCls X.K (He.ga X.K c)) (hm : Meth X.K (He.ga X.K c) mn f) (Fk : Keeps X.prog X.w X.K X.mg X.base k f fd ps mf) (hr : Room k X.A)
    (hb : Binds X.K fd ps []) {pl : Sem Bool} (ho : EV X G W ρ o mo) (hln : 1 = ps.length := by rfl)
    (hev : eval (.Call (.Attribute o mn apos) [] [] pos) X.env = (do { let u ← eval o X.env; standAt apos.atName; let (f, first) ← holding [u] (getMethod u mn pl); callWith pos f first (backTo pos (starEach [] X.env)) (backToKw pos (keywordEach [] X.env)) }) := by rfl) :
    EV X G W ρ (.Call (.Attribute o mn apos) [] [] pos) (mo.bind fun x => if isObj c x then mf [x] else .no) := by
  obtain ⟨to, po, qo⟩ := ho
  refine ⟨_, pe_methO0 (E := WE W) po sc hm Fk hr hb (fun σ => L2N.passAt tk σ) hev, fun F0 σ F H Q hh hp => qo F0 σ F H _ hh (hp.bind fun d v F1 H1 e1 r1 hp1 => ?_)⟩
  cases d with
  | obj c' xs =>
    by_cases ec : c' = c
    · simp only [isObj, ec, decide_true, if_true] at hp1
      subst ec
      obtain ⟨a, dx, vs, rfl, g1, g2⟩ := RepH.slt e1.sub (.inl r1)
      exact ⟨a, dx, vs.map some, rfl, g1, hln, F1, [.obj c' xs], e1.sub, .one r1, hp1⟩
    · simp only [isObj, decide_eq_false ec, Bool.false_eq_true, if_false] at hp1
      exact hp1.elim
  | _ => exact hp1.elim
end
def spNO (K : PySem.W.Frag) (c : Str) (n : Nat) (m : List D → Rs (List D)) : Sp := fun vs H Q E => vs.length = n ∧ ∃ F ds, Same F H ∧ Reps K F vs ds ∧ Post K (RNo K H c) E F H Q (m ds).noX
abbrev KeepsNO (P : Program) (w : World) (K : PySem.W.Frag) (mg : Str → Option Value) (base : Heap) (k : Nat) (c : Str) (f : Addr) (fd : FuncData) (ps : List Str) (m : List D → Rs (List D)) : Prop := FnOk P w K mg base (L2N.CX P w) k f fd ps (spNO K c ps.length m)
def PostRo (K : PySem.W.Frag) (G : Gd) (c : Str) (E : Ends) : Rs (List D) → Prop
  | .ok r => ∀ a F H, Gnd K G F H → G.H0 a = none → F a = none → Own K F H a (.obj c r) → E.rt (.ref a) H
  | _ => False
def BNo (X : Cx) (G : Gd) (c : Str) (ρ : Rho) (sts : List Stmt) (m : Rs (List D)) : Prop :=
  ∀ F0 σ F H E, Holds X.K (G.at F0) ρ σ F H → PostRo X.K (G.at F0) c E m → tAny X sts E σ H
section
variable {X : Cx} {G : Gd} {ρ : Rho} {rest : List Stmt} {e : Expr} {c : Str}
theorem bno_new {i : Nat} {x c2 : Str} {pos pos' : Pos} {m : Rs (List D)} {f : List D → Rs (List D)} (nd : X.N.Nodup) (h : ENo X G W0 ρ c2 e m) (hr : ∀ d, BNo X G c (ρ.set i (some (.own true (.obj c2 d)))) rest (f d)) (hn : X.N[i]? = some x := by rfl)
    (hx : Loc X.env.scope x := by first | exact Or.inl rfl | exact Or.inr rfl) (hs : swapsWith e (some (.Name x pos')) pos.line X.env = pure false := by rfl) (hf : X.fn x = true ∨ X.env.scope.names.lookup x = some .local := by first | exact .inl rfl | exact .inr rfl)
    (hi : i < ρ.length := by exact Nat.le_of_ble_eq_true rfl) : BNo X G c ρ (.Assign [.Name x pos'] e pos :: rest) (m.noX.bind f) := by
  obtain ⟨t, p, q⟩ := h
  intro F0 σ F H E hh hp
  refine any_cons (ps_set nd hn hx p hs hf) (q F0 σ F H _ hh ?_)
  cases m with
  | ex c fs => exact hp.elim
  | no => exact hp.elim
  | ok d =>
    intro v F' H' e1 r1
    obtain ⟨a, rfl, hn, hf, ho⟩ := r1
    refine hr d F0 _ F' H' E ((hh.more e1).setO ho hf (hh.toGnd.free0 hn) ?_ hi) hp
    intro j l e qj sj
    obtain ⟨b, h1, h2, h3, h4⟩ := hh.own j l e qj
    rw [h1] at sj
    cases sj
    obtain ⟨o, ho, nt_⟩ := h4.there
    rw [hn] at ho
    cases ho
theorem bno_ret {i : Nat} {x : Str} {d : List D} {xpos pos : Pos} (hv : PE X (.Name x xpos) (tVar i)) (hi : ρ[i]? = some (some (.own true (.obj c d))) := by rfl) : BNo X G c ρ (.Return (some (.Name x xpos)) pos :: rest) (.ok d) := by
  intro F0 σ F H E hh hp
  obtain ⟨a, h1, h2, h3, h4⟩ := hh.own i true _ hi
  exact any_cons (ps_ret hv) ⟨_, h1, hp a F H hh.toGnd h3.1 h2 h4⟩
end
theorem keeps_newO {P : Program} {w : World} {K : PySem.W.Frag} {mg : Str → Option Value} {base : Heap} {x qual : Str} {params : Arguments} {body : List Stmt} {scope : Scope} {dvs : List V} {kws : List (Str × V)} {f : Addr} {fd : FuncData} {N ps : List Str} {k : Nat} {m : List D → Rs (List D)} {c : Str}
    (Fd : FunD K x qual params body scope dvs kws f fd) (S : FnScope N ps scope)
    (hb : ∀ (cdv : Value) (A : Around) (outer : List Env) (s : Shared) (H : Hp) (E : XK) (F : Hp) (ds : List D), ds.length = ps.length → Room k (A.deeper (envOfC qual scope s.heap.objs.size f cdv)) →
      BNo (cxOf (L2N.CX P w) P w K mg base N qual scope f cdv A outer s H E) ⟨F, H, []⟩ c (ds.map (fun d => some (Cl.val d)) ++ List.replicate (N.length - ds.length) none) body (m ds)) :
    KeepsNO P w K mg base (k + 1) c f fd ps m := by
  refine Fd.ok S (fun vs H Q E h => h.1) (fun cdv A outer s H vs Q E hr h => ?_)
  obtain ⟨hl, F, ds, hs, hr1, hp⟩ := h
  refine hb cdv A outer s H E F ds (hr1.length.symm.trans hl) hr F (start N vs) F H _ (holds_start hs hr1) ?_
  cases hm : m ds with
  | ok r =>
    rw [hm] at hp
    exact fun a F' H' g h0 hf ho => hp _ F' H' (gnd_ext g) ⟨a, rfl, h0, hf, ho⟩
  | ex c fs => rw [hm] at hp; exact hp.elim
  | no => rw [hm] at hp; exact hp.elim
section
variable {X : Cx} {G : Gd} {W : WX} {ρ : Rho} {o : Expr} {pos apos : Pos} {mo : Rs D}
theorem eno_meth0 {k : Nat} {f : Addr} {fd : FuncData} {ps : List Str} {mf : List D → Rs (List D)} {c c2 mn : Str} (sc : SlX.SCls X.K (He.ga X.K c)) (hm : Meth X.K (He.ga X.K c) mn f) (Fk : KeepsNO X.prog X.w X.K X.mg X.base k c2 f fd ps mf) (hr : Room k X.A)
    (hb : Binds X.K fd ps []) {pl : Sem Bool} (ho : EV X G W ρ o mo) (hln : 1 = ps.length := by rfl)
    (hev : eval (.Call (.Attribute o mn apos) [] [] pos) X.env = (do { let u ← eval o X.env; standAt apos.atName; let (f, first) ← holding [u] (getMethod u mn pl); callWith pos f first (backTo pos (starEach [] X.env)) (backToKw pos (keywordEach [] X.env)) }) := by rfl) :
    ENo X G W ρ c2 (.Call (.Attribute o mn apos) [] [] pos) (mo.bind fun x => if isObj c x then (mf [x]).noX else .no) := by
  obtain ⟨to, po, qo⟩ := ho
  refine ⟨_, pe_methO0 (E := WE W0) po sc hm Fk hr hb (fun σ => L2N.passAt takes0N σ) hev, fun F0 σ F H Q hh hp => qo F0 σ F H _ hh (hp.bind fun d v F1 H1 e1 r1 hp1 => ?_)⟩
  cases d with
  | obj c' xs =>
    by_cases ec : c' = c
    · simp only [isObj, ec, decide_true, if_true] at hp1
      subst ec
      obtain ⟨a, dx, vs, rfl, g1, g2⟩ := RepH.slt e1.sub (.inl r1)
      refine ⟨a, dx, vs.map some, rfl, g1, hln, F1, [.obj c' xs], e1.sub, .one r1, ?_⟩
      cases hmd : mf [.obj c' xs] with
      | ok r =>
        rw [hmd] at hp1
        refine fun v F2 H2 e2 r2 => hp1 v F2 H2 e2 ?_
        obtain ⟨b, h1, h2, h3, h4⟩ := r2
        exact ⟨b, h1, e1.same.free h2, h3, h4⟩
      | ex c fs => rw [hmd] at hp1; exact hp1.elim
      | no => rw [hmd] at hp1; exact hp1.elim
    · simp only [isObj, decide_eq_false ec, Bool.false_eq_true, if_false] at hp1
      exact hp1.elim
  | _ => exact hp1.elim
def shedN (m : Rs (List D)) : Rs (List D) := match m with
  | .ok ds => if noOs ds then .ok ds else .no
  | _ => .no
theorem eno_lend {i : Nat} {l : Bool} {c c2 : Str} {ds : List D} {e : Expr} {m : Rs (List D)} (hi : ρ[i]? = some (some (.own l (.obj c ds)))) (he : ENo X G W (ρ.set i (some (.val (.obj c ds)))) c2 e m) : ENo X G W ρ c2 e (shedN m) := by
  obtain ⟨t, p, q⟩ := he
  refine ⟨t, p, fun F0 σ F H Q hh hp => ?_⟩
  obtain ⟨a, o, O, h1, h2, h3⟩ := hh.lend hi
  refine q _ σ _ H Q h3 ?_
  cases m with
  | no => exact hp.elim
  | ex cc fs => exact hp.elim
  | ok r =>
    simp only [shedN] at hp
    by_cases n : noOs r = true
    · rw [if_pos n] at hp
      intro v F' H' e1 r1
      obtain ⟨b, rfl, k1, k2, k3⟩ := r1
      refine hp _ _ H' (e1.shed h1 h2) ⟨b, rfl, k1, ?_, ?_⟩
      · by_cases z : b = a
        · subst z; exact era_same
        · exact (era_ne z).trans k2
      · cases k3 with
        | @obj dx _ xs _ g1 g2 g3 =>
          have ne : dx ≠ a := fun z => by
            subst z
            exact (O.ext e1).x _ g2
          exact .obj g1 ((era_ne ne).trans g2) (g3.shed (O.ext e1) n)
    · rw [if_neg n] at hp
      exact hp.elim
end
end VL
set_option Elab.async false
set_option linter.all false
set_option maxRecDepth 100000
set_option autoImplicit false
namespace VL
open PySem PySem.Spec L2
open PyProof.Rows hiding St
def PostNM (K : PySem.W.Frag) (bc : Str) (b : Addr) (F H : Hp) (Q : VK) : Rs (List D × List D) → Prop
  | .ok r => ∀ a F' H', ExtB b F H F' H' → H a = none → F' a = none → Own K F' H' a (.lst r.1) → Own K F' H' b (.obj bc r.2) → Q (.ref a) H'
  | _ => False
def IM (X : Cx) (G : Gd) (ρ : Rho) (i : Nat) (bc : Str) (tg iter : Expr) (m : Rs (List D × List D)) : Prop :=
  ∀ F0 σ F H R b, Holds X.K (G.at F0) ρ σ F H → σ[i]? = some (some (.ref b)) → PostM X.K (fun F' J ds => Walks X.K J F' ds) bc b F H R m → tAnyI X tg iter σ H R
def TMs (X : Cx) (G : Gd) (ρ : Rho) (i : Nat) (bc : Str) (ifs : List Expr) (m : Rs (Bool × List D)) : Prop :=
  ∀ F0 σ F H Q b, Holds X.K (G.at F0) ρ σ F H → σ[i]? = some (some (.ref b)) → PostM X.K RBb bc b F H Q m → ∃ t, PTs X ifs t ∧ t σ H Q
section
variable {bc : Str} {X : Cx} {G : Gd} {ρ : Rho} {i : Nat} {l : Bool} {s : List D} {tg e a b c : Expr} {es : List Expr} {pos p p2 : Pos}
theorem tms_nil (hi : AtO bc ρ i l s := by rfl) : TMs X G ρ i bc [] (.ok (true, s)) := fun F0 σ F H Q b hh hb hp => by
  obtain ⟨b', h1, hf, h0, hw⟩ := hh.own i l _ hi
  rw [hb] at h1
  cases h1
  obtain ⟨o, ho, nt_⟩ := hw.there
  exact ⟨_, pts_nil, hp true F H ((Ext.refl hh.sub).toB ho nt_) rfl hw⟩
theorem im_pure {m : Rs (List D)} (h : IT X G W0 ρ tg e m) (hi : AtO bc ρ i l s := by rfl) : IM X G ρ i bc tg e (m.bind fun ds => .ok (ds, s)) := by
  obtain ⟨w, p, q⟩ := h
  intro F0 σ F H R b hh hb hp
  exact ⟨w, p, q F0 σ F H R hh (post_toM (fun _ _ _ _ r => r) hi hh hb hp)⟩
theorem PostM.noX {bc : Str} {α β γ δ : Type} {K : PySem.W.Frag} {R1 : Hp → α → β → Prop} {b : Addr} {F H : Hp} {Q1 : α → Hp → Prop} {m : Rs (β × List D)} (h : ∀ r, m = .ok r → ∀ v F' H', ExtB b F H F' H' → R1 F' v r.1 → Own K F' H' b (.obj bc r.2) → Q1 v H') (hn : m.noX ≠ .no) : PostM K R1 bc b F H Q1 m := by
  cases m with
  | ok d => exact h d rfl
  | ex c fs => exact absurd rfl hn
  | no => exact absurd rfl hn
theorem holds_obj {K : PySem.W.Frag} {σ : St} {F0 F H : Hp} {bx : Addr} (hh : Holds K (G.at F0) ρ σ F H) (hi : AtO bc ρ i l s) (hb : σ[i]? = some (some (.ref bx))) : F bx = none ∧ Own K F H bx (.obj bc s) := by
  obtain ⟨b', h1, hf, h0, hw⟩ := hh.own i l _ hi
  rw [hb] at h1
  cases h1
  exact ⟨hf, hw⟩
theorem at_setM {ρ : Rho} {i : Nat} {l : Bool} {s s' : List D} (h : AtO bc ρ i l s) : AtO bc (ρ.set i (some (.own l (.obj bc s')))) i l s' := by
  show (ρ.set i _)[i]? = _
  rw [List.getElem?_set_self]
  rcases Nat.lt_or_ge i ρ.length with z | z
  · exact z
  · have h' : ρ[i]? = _ := h
    rw [List.getElem?_eq_none z] at h'
    cases h'
theorem lc_readM {γ : Type} {u : D → Option γ} {p : γ → List D → Rho} {is vs : List Nat} {iter elt : Expr} {ifs : List Expr} {scope : Scope} {mi : Rs (List D × List D)} {fc : γ → List D → Rs (Bool × List D)} {fe : γ → List D → Rs (D × List D)}
    (hi : AtO bc ρ i l s) (hiv : i ∉ vs) (qI : IM X G ρ i bc tg iter mi) (his : ∀ j ∈ is, j ∈ vs)
    (ht : ∀ s H C cl fp s', TT1 (XB X scope s H C cl fp) G tg (rWipe (ρ.set i (some (.own l (.obj bc s')))) vs) is u (fun y => p y s')) (hc : ∀ s H C cl fp y s', TMs (XB X scope s H C cl fp) G (p y s') i bc ifs (fc y s')) (he : ∀ s H C cl fp y s', EM (XB X scope s H C cl fp) G (p y s') i bc elt (fe y s'))
    (hpi : ∀ y s', AtO bc (p y s') i l s') (hps : ∀ y s' s'', (p y s').set i (some (.own l (.obj bc s''))) = p y s'')
    {F0 : Hp} {σ : St} {F H : Hp} {Q : VK} {bx : Addr} (hh : Holds X.K (G.at F0) ρ σ F H) (hbx : σ[i]? = some (some (.ref bx))) (hp : PostNM X.K bc bx F H Q (mi.bind fun it => compBM u fc fe it.1 it.2)) :
    tLc (tAnyI X tg iter) (gAll X scope tg) (ttAll X scope ifs) (teAll X scope elt) vs σ H Q := by
  refine qI F0 σ F H _ bx hh hbx ?_
  cases mi with
  | ex c fs => exact hp
  | no => exact hp
  | ok it =>
  obtain ⟨items, s1⟩ := it
  have hp : PostNM X.K bc bx F H Q (compBM u fc fe items s1) := hp
  intro J F1 H1 e1 hw ob1 D0 hD
  have hh1 := hh.moreB hi hbx e1 ob1
  have nD : D0 ≠ bx := fun z => by
    subst z
    obtain ⟨o, q, nt_⟩ := e1.there
    rw [hD] at q
    cases q
  have hDH : H D0 = none := by
    cases q : H D0 with
    | none => rfl
    | some o => rw [e1.same _ _ nD q] at hD; cases hD
  have h0 := hh1.toGnd.free0 hD
  have hno1 := fun j l e q => hh1.notOwn hD j l e q
  have hno : ∀ (s2 : List D) (j : Nat) (l' : Bool) (e : D), (ρ.set i (some (.own l (.obj bc s2))))[j]? = some (some (.own l' e)) → σ[j]? ≠ some (some (.ref D0)) := fun s2 j l' e q => by
    rcases set_at q with ⟨rfl, z⟩ | ⟨n, z⟩
    · rw [hbx]
      intro h
      cases h
      exact nD rfl
    · refine hno1 j l' e ?_
      show (ρ.set i _)[j]? = _
      rw [List.getElem?_set_ne n]
      exact z
  have hFD : F1 D0 = none := sub_none e1.sub hD
  refine ⟨fun k m H2 => m = items.length - k ∧ k ≤ items.length ∧ ∃ F2 acc s2, Holds X.K (G.at F0) (ρ.set i (some (.own l (.obj bc s2)))) σ F2 H2 ∧ ExtB bx F1 H1 F2 H2 ∧ F2 D0 = none ∧ Own X.K F2 H2 D0 (.lst acc) ∧ acc.length ≤ k ∧
      PostNM X.K bc bx F H Q ((compBM u fc fe (items.drop k) s2).bind fun es => .ok (acc ++ es.1, es.2)), ⟨items.length, by simp, Nat.zero_le _, F1, [], s1, hh1.free hFD h0 (hno s1), ?_, hFD, .lst upd_same (Nat.zero_le _) .nil, Nat.zero_le _, ?_⟩, ?_⟩
  · obtain ⟨o, q, nt_⟩ := e1.there
    exact ExtB.beside ((Ext.refl e1.sub).toB q nt_) hD hFD nD
  · have e : ((compBM u fc fe (items.drop 0) s1).bind fun es => (.ok ([] ++ es.1, es.2) : Rs (List D × List D))) = compBM u fc fe items s1 := by
      rw [List.drop_zero]
      cases compBM u fc fe items s1 <;> rfl
    rw [e]
    exact hp
  · rintro k m H2 ⟨rfl, hil, F2, acc, s2, hh2, x2, f2, o2, la, hp2⟩
    obtain ⟨wgo, wstop⟩ := hw.2 F2 H2 x2.ext hh2.sub
    by_cases hlt : k < items.length
    · have hg : items[k]? = some items[k] := List.getElem?_eq_getElem hlt
      obtain ⟨g1, g2⟩ := wgo k _ hg
      rw [List.drop_eq_getElem_cons hlt] at hp2
      refine .inr ⟨g1, fun H' => ∃ F' acc' s', Holds X.K (G.at F0) (ρ.set i (some (.own l (.obj bc s')))) σ F' H' ∧ ExtB bx F1 H1 F' H' ∧ F' D0 = none ∧ Own X.K F' H' D0 (.lst acc') ∧ acc'.length ≤ k + 1 ∧ PostNM X.K bc bx F H Q ((compBM u fc fe (items.drop (k + 1)) s').bind fun es => .ok (acc' ++ es.1, es.2)),
        fun H' ⟨F', acc', s', q1, q2, q3, q4, q5, q6⟩ => ⟨items.length - (k + 1), by omega, rfl, hlt, F', acc', s', q1, q2, q3, q4, q5, q6⟩, fun x H' y => ?_⟩
      obtain ⟨F3, e3, r3⟩ := g2 x H' y
      have hh3 := hh2.more e3
      have o3 := o2.ext e3
      obtain ⟨xs2, q2', _, _⟩ := o2.asL
      have f3 := e3.stays f2 q2' (fun _ z => nomatch z)
      have x3 : ExtB bx F1 H1 F3 H' := by
        obtain ⟨o, q, nt_⟩ := x2.there
        exact x2.trans (e3.toB q nt_)
      simp only [compBM] at hp2
      cases hu : u items[k] with
      | none =>
        rw [hu] at hp2
        exact hp2.elim
      | some y =>
        rw [hu] at hp2
        simp only [Rs.of_some, Rs.bind_ok] at hp2
        intro s' H0' C' cl' fp'
        refine ht s' H0' C' cl' fp' s2 F0 _ F3 H' x _ y _ (hh3.wipe vs) r3 hu fun σ4 w4 hh4 => ⟨?_, ?_⟩
        · rw [w4 vs his]
          exact wipe_wipe fun i hi => hi
        have hb4 : σ4[i]? = some (some (.ref bx)) := by
          have z1 := wipe_get (σ := σ4) hiv
          rw [w4 vs his, wipe_wipe fun i hi => hi, wipe_get hiv] at z1
          rw [← z1]
          exact hbx
        intro s5 H05 C5 cl5 fp5
        refine hc s5 H05 C5 cl5 fp5 y s2 F0 σ4 F3 H' _ bx hh4 hb4 (PostM.noX (γ := Unit) (δ := Unit) (fun rb hb v F4 H4 e4 rv ob4 => ?_) fun hn => ?_)
        · obtain ⟨bb, s4⟩ := rb
          have rv' : v = bb := rv
          subst rv'
          rw [hb] at hp2
          simp only [Rs.noX_ok, Rs.bind_ok] at hp2
          have hh4' : Holds X.K (G.at F0) (ρ.set i (some (.own l (.obj bc s4)))) σ F4 H4 := by
            have z := hh3.moreB (at_setM hi) hbx e4 ob4
            rw [List.set_set] at z
            exact z
          have o4 := o3.moreB e4 nD
          obtain ⟨xs3, q3', _, _⟩ := o3.asL
          have f4 := e4.stays f3 q3' (fun _ z => nomatch z)
          cases v with
          | true =>
            refine iteT ?_
            intro s6 H06 C6 cl6 fp6
            have hh44 : Holds X.K (G.at F0) (p y s4) σ4 F4 H4 := by
              have z := hh4.moreB (hpi y s2) hb4 e4 ob4
              have z2 := hps y s2 s4
              rw [z2] at z
              exact z
            refine he s6 H06 C6 cl6 fp6 y s4 F0 σ4 F4 H4 _ bx hh44 hb4 (PostM.noX (γ := Unit) (δ := Unit) (fun rd hd v F5 H5 e5 r5 ob5 => ?_) fun hn => ?_)
            · obtain ⟨d, s5'⟩ := rd
              simp only [if_true] at hp2
              rw [hd] at hp2
              simp only [Rs.noX_ok, Rs.bind_ok] at hp2
              have hh5 : Holds X.K (G.at F0) (ρ.set i (some (.own l (.obj bc s5')))) σ F5 H5 := by
                have z := hh4'.moreB (at_setM hi) hbx e5 ob5
                rw [List.set_set] at z
                exact z
              have o5 := o4.moreB e5 nD
              obtain ⟨xs4, q4', _, _⟩ := o4.asL
              have f5 := e5.stays f4 q4' (fun _ z => nomatch z)
              obtain ⟨xs5, q5', l5, r5'⟩ := o5.asL
              have lx : xs5.length < sizeLine := by
                rw [r5'.length]
                have hw1 : items.length ≤ sizeLine := hw.1
                omega
              refine ⟨xs5, q5', lx, F5, acc ++ [d], s5', hh5.free f5 h0 (hno s5'), ExtB.beside (x3.trans (e4.trans e5)) hD f5 nD, f5, .lst upd_same ?_ (r5'.append (.one r5)), ?_, ?_⟩
              · rw [List.length_append, List.length_singleton]
                exact lx
              · rw [List.length_append, List.length_singleton]
                omega
              · have e : ((compBM u fc fe (items.drop (k + 1)) s5').bind fun es => (.ok (acc ++ [d] ++ es.1, es.2) : Rs (List D × List D))) = (((compBM u fc fe (items.drop (k + 1)) s5').bind fun es => (.ok (d :: es.1, es.2) : Rs (List D × List D))).bind fun es => .ok (acc ++ es.1, es.2)) := by
                  cases compBM u fc fe (items.drop (k + 1)) s5' with
                  | ok es => simp
                  | ex _ _ => rfl
                  | no => rfl
                rw [e]
                exact hp2
            · simp only [if_true] at hp2
              rw [hn] at hp2
              exact hp2.elim
          | false =>
            refine iteF ⟨F4, acc, s4, hh4', x3.trans e4, f4, o4, by omega, ?_⟩
            simpa using hp2
        · rw [hn] at hp2
          exact hp2.elim
    · have ei : k = items.length := by omega
      subst ei
      rw [List.drop_length] at hp2
      simp only [compBM, Rs.bind_ok, List.append_nil] at hp2
      exact .inl ⟨wstop, hp2 D0 F2 H2 (e1.trans x2) hDH f2 o2 (holds_obj hh2 (at_setM hi) hbx).2⟩
def EFM (X : Cx) (G : Gd) (ρ : Rho) (i : Nat) (bc : Str) (e : Expr) (m : Rs (List D × List D)) : Prop :=
  ∀ F0 σ F H Q b, Holds X.K (G.at F0) ρ σ F H → σ[i]? = some (some (.ref b)) → PostNM X.K bc b F H Q m → ∃ t, PE X e t ∧ t σ H Q
theorem EFM.em {m : Rs (List D × List D)} (h : EFM X G ρ i bc e m) : EM X G ρ i bc e (m.bind fun v => .ok (.lst v.1, v.2)) := by
  intro F0 σ F H Q b hh hb hp
  refine h F0 σ F H Q b hh hb ?_
  cases m with
  | ex c fs => exact hp
  | no => exact hp
  | ok r =>
    intro a F' H' e1 hn hf ho hob
    obtain ⟨o, ha, hr⟩ := ho.rep rfl e1.sub hf
    refine hp _ (upd F' a o) H' ⟨e1.same, e1.there, fun c x q => ?_, e1.ext.trans (same_upd hf), fun c x q => ?_⟩ hr (hob.move (same_upd hf) rfl)
    · by_cases e : c = a
      · subst e
        rw [upd_same] at q
        cases q
        exact ha
      · rw [upd_ne e] at q
        exact e1.sub _ _ q
    · by_cases e : c = a
      · subst e
        exact .inr (.inl hn)
      · rw [upd_ne e] at q
        exact e1.new _ _ q
theorem efm_comp {γ : Type} {u : D → Option γ} {p : γ → List D → Rho} {is : List Nat} {own : List (Str × Nat)} {iter elt : Expr} {ifs : List Expr} {scope : Scope} {mi : Rs (List D × List D)} {fc : γ → List D → Rs (Bool × List D)} {fe : γ → List D → Rs (D × List D)}
    (calm : X.calm = true) (nd : X.N.Nodup) (qI : IM X G ρ i bc tg iter mi) (ok : BlkOk X.N X.env.scope scope own) (his : ∀ j ∈ is, j ∈ own.map (·.2)) (hiv : i ∉ own.map (·.2))
    (ht : ∀ s H C cl fp s', TT1 (XB X scope s H C cl fp) G tg (rWipe (ρ.set i (some (.own l (.obj bc s')))) (own.map (·.2))) is u (fun y => p y s')) (hc : ∀ s H C cl fp y s', TMs (XB X scope s H C cl fp) G (p y s') i bc ifs (fc y s')) (he : ∀ s H C cl fp y s', EM (XB X scope s H C cl fp) G (p y s') i bc elt (fe y s'))
    (hi : AtO bc ρ i l s := by rfl) (hpi : ∀ y s', AtO bc (p y s') i l s' := by intro _ _; rfl) (hps : ∀ y s' s'', (p y s').set i (some (.own l (.obj bc s''))) = p y s'' := by intro _ _ _; rfl)
    (hs : ∀ x, foldedSetIterable iter X.env x = pure x := by intro _; rfl) : EFM X G ρ i bc (.ListComp elt [⟨tg, iter, ifs, 0⟩] scope pos) (mi.bind fun it => compBM u fc fe it.1 it.2) :=
  fun F0 σ F H Q b hh hb hp => ⟨_, pe_lc calm nd pi_any ok hgAll htAll heAll hs, lc_readM hi hiv qI his ht hc he hpi hps hh hb hp⟩
end
end VL
set_option Elab.async false
set_option linter.all false
set_option maxRecDepth 100000
set_option autoImplicit false
namespace VL
open PySem PySem.Spec L2
open PyProof.Rows hiding St
def MC (X : Cx) (G : Gd) (ρ : Rho) (i : Nat) (bc : Str) (es : List Expr) (κ : KtB) : Prop := ∃ ms, AM X G ρ i bc es ms ∧ ∀ (β : Type) (k : List D → List D → Rs β), κ β k = ms.bind fun v => k v.1 v.2
section
variable {bc : Str} {X : Cx} {G : Gd} {ρ : Rho} {i : Nat} {l : Bool} {s : List D} {e : Expr} {es : List Expr} {pos p p2 : Pos} {m : Rs (D × List D)} {κ : KtB} {κ' : List D → KtB}
theorem mc_nil (hi : AtO bc ρ i l s := by rfl) : MC X G ρ i bc [] (fun β k => k [] s) := ⟨_, am_nil hi, fun _ _ => rfl⟩
theorem mc_cons (ha : EM X G ρ i bc e m) (hr : ∀ s', MC X G (ρ.set i (some (.own l (.obj bc s')))) i bc es (κ' s')) (hs : starEach (e :: es) X.env = (false, eval e X.env) :: starEach es X.env := by rfl) (hi : AtO bc ρ i l s := by rfl) :
    MC X G ρ i bc (e :: es) (fun β k => m.bind fun u => κ' u.2 β fun xs s' => k (u.1 :: xs) s') := by
  have ch := fun s' => (hr s').choose_spec
  refine ⟨_, am_cons (ms := fun s' => (hr s').choose) ha (fun s' => (ch s').1) hs hi, fun β k => ?_⟩
  rw [Rs.assoc]
  cases m with
  | ok u =>
    show κ' u.2 β (fun xs s' => k (u.1 :: xs) s') = _
    rw [(ch u.2).2, Rs.bind_ok, Rs.assoc]
    rfl
  | ex c fs => rfl
  | no => rfl
theorem em_lstC (h : MC X G ρ i bc es κ) (hl : Nat.ble es.length sizeLine = true := by rfl) : EM X G ρ i bc (.List es pos) (κ _ fun xs s' => .ok (.lst xs, s')) := by
  obtain ⟨ms, h1, h2⟩ := h
  rw [h2]
  exact em_lst h1 hl
theorem em_ownC {k : Nat} {f : Addr} {fd : FuncData} {ps : List Str} {mf : List D → Rs D} {x : Str} (Fk : Keeps X.prog X.w X.K X.mg X.base k f fd ps mf) (hr : Room k X.A) (hm : X.mg x = some (.ref f)) (hk : PySem.W.keepIn X.K (.ref f) = true)
    (hb : Binds X.K fd ps []) (ha : MC X G ρ i bc (e :: es) κ) (hln : (e :: es).length = ps.length := by rfl) (hg : Gl X x := by rfl) (hdb : (x == ("__debug__" : Str)) = false := by decide) (he : starEach (e :: es) X.env = (false, eval e X.env) :: starEach es X.env := by rfl)
    (hpl : (backTo pos (starEach es X.env)).any (·.1) = false := by rfl) : EM X G ρ i bc (.Call (.Name x p) (e :: es) [] pos) (κ _ fun xs s' => (mf xs).bind fun d => .ok (d, s')) := by
  obtain ⟨ms, h1, h2⟩ := ha
  rw [h2]
  exact em_own Fk hr hm hk hb h1 hln hg hdb he hpl
end
section
variable {bc : Str} {X : Cx} {G : Gd} {W : WX} {ρx ρ : Rho} {rest sts : List Stmt} {α β R : Type} {pn : α → Rho} {pl : β → Rho} {ι : R → Fl α β} {i : Nat} {l : Bool} {s : List D}
theorem bk_setM {j : Nat} {x : Str} {e : Expr} {pos pos' : Pos} {m : Rs (D × List D)} {f : D → List D → Rs (Fl α β)} (nd : X.N.Nodup) (he : EM X G ρ i bc e m) (hr : ∀ d s', BK X G W ρx ((ρ.set i (some (.own l (.obj bc s')))).set j (some (.val d))) rest pn pl (f d s')) (hi : AtO bc ρ i l s := by rfl) (hj : X.N[j]? = some x := by rfl)
    (hx : Loc X.env.scope x := by first | exact Or.inl rfl | exact Or.inr rfl) (hs : swapsWith e (some (.Name x pos')) pos.line X.env = pure false := by rfl) (hf : X.fn x = true ∨ X.env.scope.names.lookup x = some .local := by first | exact .inl rfl | exact .inr rfl) (hl : j < ρ.length := by exact Nat.le_of_ble_eq_true rfl) :
    BK X G W ρx ρ (.Assign [.Name x pos'] e pos :: rest) pn pl (m.noX.bind fun u => f u.1 u.2) := by
  intro F0 σ F H E hh hp
  obtain ⟨r, rfl, hp⟩ := postS_noX hp
  obtain ⟨b, hb⟩ := obj_at hh hi
  refine any_cons (ps_set nd hj hx pe_any hs hf) (he F0 σ F H _ b hh hb fun v F' H' e1 r1 o1 => ?_)
  exact hr r.1 r.2 F0 _ F' H' E ((hh.moreB hi hb e1 o1).setV r1 (by rw [List.length_set]; exact hl)) hp
theorem bi_setM {j : Nat} {x : Str} {e : Expr} {pos pos' : Pos} {m : Rs (D × List D)} {f : D → List D → Rs R} (nd : X.N.Nodup) (he : EM X G ρ i bc e m) (hr : ∀ d s', BI X G W ρx ((ρ.set i (some (.own l (.obj bc s')))).set j (some (.val d))) rest pn pl ι (f d s')) (hi : AtO bc ρ i l s := by rfl) (hj : X.N[j]? = some x := by rfl)
    (hx : Loc X.env.scope x := by first | exact Or.inl rfl | exact Or.inr rfl) (hs : swapsWith e (some (.Name x pos')) pos.line X.env = pure false := by rfl) (hf : X.fn x = true ∨ X.env.scope.names.lookup x = some .local := by first | exact .inl rfl | exact .inr rfl) (hl : j < ρ.length := by exact Nat.le_of_ble_eq_true rfl) :
    BI X G W ρx ρ (.Assign [.Name x pos'] e pos :: rest) pn pl ι (m.noX.bind fun u => f u.1 u.2) := by
  unfold BI
  rw [Rs.assoc]
  exact bk_setM nd he hr hi hj hx hs hf hl
end
section
variable {bc : Str} {X : Cx} {G : Gd} {W : WX} {ρx ρ : Rho} {rest sts : List Stmt} {α β R : Type} {pn : α → Rho} {pl : β → Rho} {ι : R → Fl α β} {i : Nat} {l : Bool} {s : List D}
theorem bk_ifrM {c : Expr} {a : List Stmt} {pos : Pos} {tc : Rs (Bool × List D)} {ma : List D → Rs (Fl Empty β)} {mr : List D → Rs (Fl α β)} (hc : TM X G ρ i bc c tc) (ha : ∀ s', BK X G W ρx (ρ.set i (some (.own l (.obj bc s')))) a pEmp pl (ma s')) (hr : ∀ s', BK X G W ρx (ρ.set i (some (.own l (.obj bc s')))) rest pn pl (mr s')) (hi : AtO bc ρ i l s := by rfl) :
    BK X G W ρx ρ (.If c a [] pos :: rest) pn pl (tc.noX.bind fun u => if u.1 then liftF (ma u.2) else mr u.2) := by
  intro F0 σ F H E hh hp
  obtain ⟨r, hm, hp1⟩ := postS_noX hp
  clear hp
  subst hm
  obtain ⟨bx, hbx⟩ := obj_at hh hi
  refine any_cons (ps_if pt_any pss_any pss_nil) (hc F0 σ F H _ bx hh hbx fun v F' H' e1 r1 o1 => ?_)
  obtain ⟨k, s'⟩ := r
  have r1' : v = k := r1
  subst r1'
  cases v with
  | true => exact iteT (ha s' F0 σ F' H' _ (hh.moreB hi hbx e1 o1) (postS_lift hp1))
  | false => exact iteF (hr s' F0 σ F' H' E (hh.moreB hi hbx e1 o1) hp1)
end
end VL
set_option Elab.async false
set_option linter.all false
set_option maxRecDepth 100000
set_option autoImplicit false
namespace VL
open PySem PySem.Spec L2
open PyProof.Rows hiding St
structure Ini2 (X : Cx) (sn f g : Str) (e1 e2 : Expr) (spos apos spos2 apos2 tpos tpos2 pos : Pos) (kt k2 : Nat) : Prop where
  calm : X.calm = true
  vs : PE X (.Name sn spos) (tVar 0)
  vs2 : PE X (.Name sn spos2) (tVar 0)
  sole : swapsWithSole [.Tuple [.Attribute (.Name sn spos) f apos, .Attribute (.Name sn spos2) g apos2] kt tpos] (.Tuple [e1, e2] k2 tpos2) pos.line X.env = pure false
  stores : swappedStores [.Tuple [.Attribute (.Name sn spos) f apos, .Attribute (.Name sn spos2) g apos2] kt tpos] (.Tuple [e1, e2] k2 tpos2) X.env = pure none
  s1 : starEach [e1, e2] X.env = (false, eval e1 X.env) :: starEach [e2] X.env
  s2 : starEach [e2] X.env = (false, eval e2 X.env) :: starEach [] X.env
  a0 : (assignEach [.Tuple [.Attribute (.Name sn spos) f apos, .Attribute (.Name sn spos2) g apos2] kt tpos] X.env).map (·.2) = [assign (.Tuple [.Attribute (.Name sn spos) f apos, .Attribute (.Name sn spos2) g apos2] kt tpos) X.env]
  a1 : (assignEach [.Attribute (.Name sn spos) f apos, .Attribute (.Name sn spos2) g apos2] X.env).map (·.2) = assign (.Attribute (.Name sn spos) f apos) X.env :: (assignEach [.Attribute (.Name sn spos2) g apos2] X.env).map (·.2)
  a2 : (assignEach [.Attribute (.Name sn spos2) g apos2] X.env).map (·.2) = assign (.Attribute (.Name sn spos2) g apos2) X.env :: (assignEach [] X.env).map (·.2)
  an : (assignEach [.Attribute (.Name sn spos) f apos, .Attribute (.Name sn spos2) g apos2] X.env).length = 2
  ast : (assignEach [.Attribute (.Name sn spos) f apos, .Attribute (.Name sn spos2) g apos2] X.env).findIdx? (·.1) = none
theorem keeps_init2 {P : Program} {w : World} {K : PySem.W.Frag} {mg : Str → Option Value} {base : Heap} {x qual : Str} {params : Arguments} {body : List Stmt} {scope : Scope} {dvs : List V} {kws : List (Str × V)} {fa : Addr} {fd : FuncData} {N ps : List Str} {k : Nat} {m : List D → Rs D} {c sn f g : Str} {e1 e2 : Expr}
    {spos apos spos2 apos2 tpos tpos2 pos : Pos} {kt k2 : Nat} {m1 m2 : List D → Rs D}
    (Fd : FunD K x qual params body scope dvs kws fa fd) (S : FnScope N ps scope)
    (hbody : body = [.Assign [.Tuple [.Attribute (.Name sn spos) f apos, .Attribute (.Name sn spos2) g apos2] kt tpos] (.Tuple [e1, e2] k2 tpos2) pos])
    (sc : SlX.SCls K (He.ga K c)) (st1 : ∃ p, SlX.Slot1 K (He.ga K c) f p 0) (st2 : ∃ p, SlX.Slot1 K (He.ga K c) g p 1)
    (hm : ∀ ds, m ds = (m1 ds).bind fun d1 => (m2 ds).bind fun d2 => .ok (.obj c [d1, d2]))
    (hb : ∀ (cdv : Value) (A : Around) (outer : List Env) (s : Shared) (H : Hp) (E : XK) (ds : List D), ds.length + 1 = ps.length → Room k (A.deeper (envOfC qual scope s.heap.objs.size fa cdv)) →
      (∀ F, EV (cxOf (L2N.CX P w) P w K mg base N qual scope fa cdv A outer s H E) ⟨F, H, []⟩ (fun c d _ H => E c d H) (none :: ds.map (fun d => some (Cl.val d)) ++ List.replicate (N.length - (ds.length + 1)) none) e1 (m1 ds)) ∧
      (∀ F, EV (cxOf (L2N.CX P w) P w K mg base N qual scope fa cdv A outer s H E) ⟨F, H, []⟩ (fun c d _ H => E c d H) (none :: ds.map (fun d => some (Cl.val d)) ++ List.replicate (N.length - (ds.length + 1)) none) e2 (m2 ds)) ∧
      Ini2 (cxOf (L2N.CX P w) P w K mg base N qual scope fa cdv A outer s H E) sn f g e1 e2 spos apos spos2 apos2 tpos tpos2 pos kt k2) :
    KeepsI P w K mg base (k + 1) c fa fd ps m := by
  subst hbody
  refine Fd.ok S (fun vs H Q E h => h.1) (fun cdv A outer s H vs Q E hr h => ?_)
  obtain ⟨hl, x, dx, ws, H0, F, ds, rfl, hH, hx0, hdx0, hne, hs, hr1, hp⟩ := h
  have hlen : ds.length + 1 = ps.length := by rw [← hr1.length]; exact hl
  obtain ⟨b1, b2, J⟩ := hb cdv A outer s H E ds hlen hr
  obtain ⟨t1, p1, q1⟩ := b1 F
  obtain ⟨t2, p2, q2⟩ := b2 F
  obtain ⟨pd1, st1⟩ := st1
  obtain ⟨pd2, st2⟩ := st2
  have h0H : Same H0 H := fun a o q => by
    rw [hH, upd_ne (ne_of_none q hx0), upd_ne (ne_of_none q hdx0)]
    exact q
  have hh : Holds K (Gd.at ⟨F, H, []⟩ F) (none :: ds.map (fun d => some (Cl.val d)) ++ List.replicate (N.length - (ds.length + 1)) none) (start N (.ref x :: ws)) F H := by
    have at0 : ∀ (k : Nat) (cl : Cl), (none :: ds.map (fun d => some (Cl.val d)) ++ List.replicate (N.length - (ds.length + 1)) none)[k]? = some (some cl) → ∃ n d, k = n + 1 ∧ ds[n]? = some d ∧ cl = .val d := fun k cl q => by
      cases k with
      | zero => simp at q
      | succ k =>
        obtain ⟨d, g1, g2⟩ := rho_start (ds := ds) (n := N.length - (ds.length + 1)) (i := k) (c := cl) (by simpa using q)
        exact ⟨k, d, rfl, g1, g2⟩
    refine ⟨⟨hs.trans h0H, fun a o q _ => q, fun a q => by simp [Gd.at] at q, Same.refl F, fun a o q => .inl q⟩, fun k d q => ?_, fun k l d q => ?_, fun k k' l l' d d' a n q => ?_, ?_⟩
    · obtain ⟨n, d', rfl, g1, g2⟩ := at0 k _ q
      cases g2
      obtain ⟨v, w1, w2⟩ := hr1.get g1
      refine ⟨v, ?_, w2⟩
      unfold L2.start
      rw [List.getElem?_append_left (by
        rw [List.length_map, List.length_cons]
        rcases Nat.lt_or_ge n ws.length with z | z
        · omega
        · rw [List.getElem?_eq_none z] at w1; cases w1), List.getElem?_map, List.getElem?_cons_succ, w1]
      rfl
    · obtain ⟨n, d', rfl, g1, g2⟩ := at0 k _ q
      cases g2
    · obtain ⟨n, d', rfl, g1, g2⟩ := at0 k _ q
      cases g2
    · unfold L2.start
      simp only [List.length_append, List.length_map, List.length_cons, List.length_replicate]
      rw [hr1.length]
      exact Nat.le_refl _
  rw [hm] at hp
  refine any_cons (ps_asg (pe_tup (pa_cons p1 (pa_cons p2 pa_nil J.s2) J.s1)) (pg_tup J.calm (pgs_cons (pg_sl J.vs) (pgs_cons (pg_sl J.vs2) pgs_nil J.a2) J.a1) J.an J.ast) J.sole J.stores J.a0) ?_
  have up : ∀ {F2 H2 : Hp}, Ext F H F2 H2 → Ext F H0 F2 H2 := fun {F2 H2} e => ⟨fun a o q => e.same _ _ (h0H _ _ q), e.sub, e.ext, fun a o q => by
    rcases e.new a o q with z | z
    · exact .inl z
    · exact .inr (z.back fun o' q => h0H _ _ q)⟩
  refine q1 F _ F H _ hh ?_
  cases hm1 : m1 ds with
  | no => rw [hm1] at hp; exact hp
  | ex cc fs =>
    rw [hm1] at hp
    exact fun dd F2 H2 e r => hp dd F2 H2 (up e) r
  | ok d1 =>
    rw [hm1] at hp
    intro v1 F1 H1 e1 r1
    refine q2 F _ F1 H1 _ (hh.more e1) ?_
    simp only [Rs.bind_ok] at hp
    cases hm2 : m2 ds with
    | no => rw [hm2] at hp; exact hp
    | ex cc fs =>
      rw [hm2] at hp
      exact fun dd F2 H2 e r => hp dd F2 H2 (up (e1.trans e)) r
    | ok d2 =>
      rw [hm2] at hp
      simp only [Rs.bind_ok] at hp
      intro v2 F2 H2 e2 r2
      have e := e1.trans e2
      have Hx : H x = some (.ins (He.ga K c) dx []) := by rw [hH, upd_same]
      have Hd : H dx = some (.own x) := by rw [hH, upd_ne hne, upd_same]
      have H2x := e.same _ _ Hx
      have H2d := e.same _ _ Hd
      refine ⟨Nat.le_of_ble_eq_true rfl, fun ta hta => ?_⟩
      have nx : x ≠ ta := ne_of_none H2x hta
      have ndx : dx ≠ ta := ne_of_none H2d hta
      have s1 : SlX.Slt (upd H2 ta (.tup [v1, v2])) x (He.ga K c) dx [] := .inl ⟨by rw [upd_ne nx]; exact H2x, rfl⟩
      have s2 : SlX.Slt (SlX.slH (upd H2 ta (.tup [v1, v2])) x (He.ga K c) dx (SlX.putS 0 v1 [])) x (He.ga K c) dx [some v1] := SlX.slH_slt hne
      refine ⟨ta, [v1, v2], rfl, .inl (.inl upd_same), rfl, v1, _, rfl, .ref x, ?_, x, He.ga K c, dx, pd1, [], 0, rfl, s1, sc, st1, v2, _, rfl, .ref x, ?_, x, He.ga K c, dx, pd2, [some v1], 1, rfl, s2, sc, st2, rfl, ?_⟩
      · unfold L2.start
        rfl
      · unfold L2.start
        rfl
      have fx : F2 x = none := by
        cases q : F2 x with
        | none => rfl
        | some u =>
          rcases e.new x u q with z | z
          · rw [hs _ _ z] at hx0; cases hx0
          · exact (z.not Hx (fun _ y => nomatch y)).elim
      have fdx : F2 dx = none := by
        cases q : F2 dx with
        | none => rfl
        | some u =>
          rcases e.new dx u q with z | z
          · rw [hs _ _ z] at hdx0; cases hdx0
          · exact (z.not Hd (fun _ y => nomatch y)).elim
      have sm : Same F2 (upd (upd F2 dx (.xd [])) x (SlX.SlO x (He.ga K c) dx ([v1, v2].map some))) := (same_upd fdx).trans (same_upd (by rw [upd_ne (Ne.symm hne)]; exact fx))
      refine ⟨_, pss_nil, hp (upd (upd F2 dx (.xd [])) x (SlX.SlO x (He.ga K c) dx ([v1, v2].map some))) _ ⟨fun b u q => ?_, fun b u q => ?_, e.ext.trans sm, fun b u q => ?_⟩ (.obj upd_same (by rw [upd_ne hne, upd_same]) (.cons (r1.mono (e2.ext.trans sm)) (.one (r2.mono sm))))⟩
      · have nb : b ≠ x := ne_of_none q hx0
        have nd : b ≠ dx := ne_of_none q hdx0
        have q2 := e.same _ _ (h0H _ _ q)
        rw [SlX.slH_ne nb nd, SlX.slH_ne nb nd, upd_ne (ne_of_none q2 hta)]
        exact q2
      · by_cases z : b = x
        · subst z
          rw [upd_same] at q
          cases q
          exact upd_same
        · rw [upd_ne z] at q
          by_cases z2 : b = dx
          · subst z2
            rw [upd_same] at q
            cases q
            unfold SlX.slH
            rw [upd_ne z, upd_same]
          · rw [upd_ne z2] at q
            have q2 := e.sub _ _ q
            rw [SlX.slH_ne z z2, SlX.slH_ne z z2, upd_ne (ne_of_none q2 hta)]
            exact q2
      · by_cases z : b = x
        · subst z
          exact .inr (.inl hx0)
        · rw [upd_ne z] at q
          by_cases z2 : b = dx
          · subst z2
            exact .inr (.inl hdx0)
          · rw [upd_ne z2] at q
            exact (up e).new b u q
end VL
set_option Elab.async false
set_option linter.all false
set_option maxRecDepth 100000
set_option autoImplicit false
set_option maxHeartbeats 2000001
namespace VL
open PySem PySem.Spec L2
open PyProof.Rows hiding St
section
variable {X : Cx} {e : Expr} {td : TE} {apos cpos : Pos}
def tItemsF (td : TE) : TE := fun σ H Q => td σ H fun x H1 => ∃ (d : Addr) (o : Obj) (kvs : List (List Key × V)), x = .ref d ∧ H1 d = some (.frz o (.dT kvs)) ∧ ∀ p, H1 p = none → Q (.ref p) (upd H1 p (L2.DX.itemsO p d))
theorem pe_itemsF (he : PE X e td) (hbase : attributeBase e "items" X.env (eval e X.env) = eval e X.env := by rfl) (hline : (apos.endLine == cpos.line) = true := by rfl) :
    PE X (.Call (.Attribute e "items" apos) [] [] cpos) (tItemsF td) := by
  refine ⟨fun pins s σ H Q I h => ?_⟩
  refine wpAny_Call_method (T := "dict") (id := "dict.items") hbase rfl hline F.plainAttrs_dict F.slot_dict_items F.type_dict_items (thn (he.run pins s σ H _ I h) fun u s1 ⟨x, H1, I1, rx, d, o, kvs, ex, hd, q⟩ => ?_)
  subst ex
  obtain rfl : u = Value.ref d := rx
  obtain ⟨hs, es, ep, hdt, hr, hsz, ent⟩ := frz_raw I1 hd
  obtain ⟨od, hod, hxd, hdd⟩ := id hr
  refine ⟨hr.typeIs, fun a ea => by cases ea; exact ⟨od, hod, hxd.2.1⟩, ?_⟩
  show wpAny _ _ (callWith cpos (.builtin "dict.items") [.ref d] [] []) _ X.xe s1
  refine method_meetsIn F.slot_dict_items F.entry_dict_items rfl (PySem.evalArgs_none ⟨rfl, hr.typeIs, F.args_dict_items_1 _, _, DT.meetsItems (es := es) (ep := ep) hs, hr, ?_⟩)
  have hf : H1 s1.heap.objs.size = none := I1.hok.fresh (Nat.le_refl _)
  exact ⟨.ref s1.heap.objs.size, upd H1 s1.heap.objs.size (L2.DX.itemsO s1.heap.objs.size d), I1.laid (t' := s1.toks) (fun b u e => Heap.get?_push_of_some _ e) (Nat.le_refl _) (L2.DX.itemsO_ok (Heap.get?_push_size _ rfl)), rfl, q _ hf⟩
end
theorem paired_of {α β : Type} {R : α → β → Prop} : ∀ {as : List α} {bs : List β}, as.length = bs.length → (∀ (i : Nat) (a : α) (b : β), as[i]? = some a → bs[i]? = some b → R a b) → Paired R as bs
  | [], [], _, _ => .nil
  | [], _ :: _, h, _ => by simp at h
  | _ :: _, [], h, _ => by simp at h
  | a :: as, b :: bs, h, g => .cons (g 0 a b rfl rfl) (paired_of (by simpa using h) fun i x y e1 e2 => g (i + 1) x y (by simpa using e1) (by simpa using e2))
theorem paired_imp {α β : Type} {R S : α → β → Prop} : ∀ {as : List α} {bs : List β}, Paired R as bs → (∀ a b, R a b → S a b) → Paired S as bs
  | _, _, .nil, _ => .nil
  | _, _, .cons h t, g => .cons (g _ _ h) (paired_imp t g)
theorem adrs_vals : ∀ (as : List Addr), Vals (as.map V.ref) (as.map Value.ref)
  | [] => .nil
  | a :: as => .cons rfl (adrs_vals as)
open PySem.W (alike alikeAll dataLt AllAlike Sortable SortsAt dataKind EachIs sortLe sortVals keyToks keyToksAll) in
section
def PairT (H H1 : Hp) : (List Key × V) → V → Prop := fun kv x => ∃ T q : Addr, x = .ref T ∧ H T = none ∧ H1 T = some (.tup [.ref q, kv.2]) ∧ H q = some (.tup (kv.1.map kV))
def rSrtI (K : PySem.W.Frag) : List V → Hp → VK → Prop := fun vs H Q => ∃ (p a : Addr) (o : Obj) (kvs : List (List Key × V)), vs = [V.ref p] ∧ H p = some (L2.DX.itemsO p a) ∧ H a = some (.frz o (.dT kvs)) ∧ kvs.length ≤ sizeLine ∧
  ∀ (H1 : Hp) (xs : List V), Same H H1 → Paired (PairT H H1) kvs xs → ∃ ps : List PyData, DpAll K H1 xs ps ∧ sortOk ps = true ∧ ∀ p, H1 p = none → Q (.ref p) (upd H1 p (.lst (((xs.zip ps).mergeSort leV).map (·.1))))
theorem call_sortI {X : Cx} (calm : X.calm = true) (hu : X.A.units + 64 < cLine) : CallR X (.builtin "sorted") (rSrtI X.K) := by
  intro pins s σ H vs us Q I r h
  obtain ⟨p, a, o, kvs, rfl, hp, ha, hz, q⟩ := h
  rw [Vals.ref1 r]
  have view : s.heap.IsItemsView p a := (show ObjOk X.prog X.w H s.heap p (L2.DX.itemsO p a) from I.hok p _ hp).1
  obtain ⟨hs, es, ep, hdt, hr, hsz, ent⟩ := frz_raw I ha
  refine DT.sortedI (es := es) (ep := ep) (I.ok.hd calm) view hr (by omega) fun h' tk as hk hlt hl hG => ?_
  have lak : as.length = kvs.length := by omega
  have nd : as.Nodup := List.Pairwise.imp (fun h => Nat.ne_of_lt h) hG.rise
  have I1 : Inv X pins σ H { s with heap := h', toks := tk } := I.kept (t' := tk) hk
  obtain ⟨H2, I2, g, qt⟩ := L2.DX.takeT (P := fun b vs => ∃ (j : Nat) (kv : List Key × V) (kq : Addr), as[j]? = some b ∧ kvs[j]? = some kv ∧ vs = [.ref kq, kv.2] ∧ H kq = some (.tup (kv.1.map kV))) I as _ I1 nd fun b hb => by
    obtain ⟨j, hj⟩ := List.mem_iff_getElem?.mp hb
    obtain ⟨e, he, hg⟩ := hG.pairs j b hj
    have jl : j < kvs.length := by rw [← lak]; exact (List.getElem?_eq_some_iff.mp hj).1
    obtain ⟨⟨k, v⟩, hkv⟩ : ∃ p, kvs[j]? = some p := ⟨kvs[j], List.getElem?_eq_getElem jl⟩
    obtain ⟨en, q0, g1, g2, g3, g4⟩ := ent j k v hkv
    rw [he] at g1
    cases g1
    have hbl : s.heap.objs.size ≤ b := Nat.le_of_lt (hG.above b hb)
    refine ⟨hbl, I.hok.fresh hbl, [.ref q0, v], ⟨j, (k, v), q0, hj, hkv, rfl, g3⟩, fun H3 => ⟨(by rw [sizeLine_eq]; show 2 ≤ 16777216; omega), [Value.ref q0, e.val], .cons rfl (.cons g4 .nil), ⟨_, hg, rfl, 0, by rw [g2]⟩⟩⟩
  have pr : Paired (PairT H H2) kvs (as.map V.ref) := by
    refine paired_of (by rw [List.length_map]; exact lak.symm) fun i kv x e1 e2 => ?_
    rw [List.getElem?_map] at e2
    obtain ⟨T, hT, rfl⟩ := Option.map_eq_some_iff.mp e2
    obtain ⟨vs, ⟨j, kv', kq, j1, j2, ev, hkq⟩, hH⟩ := qt T (List.mem_of_getElem? hT)
    have eij : i = j := (List.getElem?_inj (List.getElem?_eq_some_iff.mp hT).1 nd).mp (hT.trans j1.symm)
    subst eij
    rw [e1] at j2
    cases j2
    rw [ev] at hH
    exact ⟨T, kq, rfl, I.hok.fresh (Nat.le_of_lt (hG.above T (List.mem_of_getElem? hT))), hH, hkq⟩
  obtain ⟨ps, hd, ok, qq⟩ := q H2 _ g pr
  have rv := adrs_vals as
  have hlen : (as.map Value.ref).length ≤ sizeLine := by rw [List.length_map]; omega
  have e0 := each_reads I2 hd rv
  have hnew : (h'.push (seqObj "list" (as.map Value.ref).toArray 0)).get? h'.objs.size = some (seqObj "list" (as.map Value.ref).toArray 0) := Heap.get?_push_size _ rfl
  have keep2 : ∀ b o, h'.get? b = some o → b ≠ h'.objs.size ∧ (h'.push (seqObj "list" (as.map Value.ref).toArray 0)).get? b = some o := fun b o e => ⟨Nat.ne_of_lt (Heap.lt_size e), Heap.get?_push_of_some _ e⟩
  have gone : h'.get? h'.objs.size = none := by
    cases e : h'.get? h'.objs.size with
    | none => rfl
    | some o => exact absurd (Heap.lt_size e) (Nat.lt_irrefl _)
  have hn : H2 h'.objs.size = none := I2.hok.gone gone
  have e1 : EachIs (fun v d => ∃ as', Reads (PySem.W.sortingHeap (h'.push (seqObj "list" (as.map Value.ref).toArray 0)) h'.objs.size (as.map Value.ref)) v d as') (as.map Value.ref) ps := e0.mono fun v d ⟨as', hr⟩ =>
    ⟨as', Reads.keeps (fun b o e => PySem.W.sortingHeap_old (keep2 b o e).1 (keep2 b o e).2) hr⟩
  have S : SortsAt X.prog X.w X.A.in1.in1 { s with heap := PySem.W.sortingHeap (h'.push (seqObj "list" (as.map Value.ref).toArray 0)) h'.objs.size (as.map Value.ref), toks := tk } (dataKind (PySem.W.sortingHeap (h'.push (seqObj "list" (as.map Value.ref).toArray 0)) h'.objs.size (as.map Value.ref)) ps) (as.map Value.ref) :=
    SortsAt.data e1 (sortOk_alike ok) (sortOk_able ok) fun d hd => by
      have h1 := sortOk_depth ok d hd
      simp only [units_in1]
      omega
  refine wpAny_call_entry slot_list_sort ⟨_, hnew, rfl⟩ entry_list_sort (PySem.W.list_sort_vals (s := { s with heap := h'.push (seqObj "list" (as.map Value.ref).toArray 0), toks := tk }) hnew S hlen ?_) (args_list_sort _)
  refine ⟨_, rfl, ?_⟩
  have key : EachIs (fun v d => (dataKind (PySem.W.sortingHeap (h'.push (seqObj "list" (as.map Value.ref).toArray 0)) h'.objs.size (as.map Value.ref)) ps).keyOf v = some (keyToks d)) (as.map Value.ref) ps := by
    have e2 := PySem.W.each_mem e1
    exact e2.mono fun v d ⟨⟨as', hr⟩, hm⟩ => PySem.W.dataKind_some (sortOk_alike ok) hm hr
  have lz : (as.map V.ref).length = ps.length := rv.length.trans e0.length
  have ezip : ((as.map V.ref).zip ps).map (·.2) = ps := List.map_snd_zip (by omega)
  have e3 : EachIs (fun v (p : V × PyData) => RelV p.1 v) (as.map Value.ref) ((as.map V.ref).zip ps) := (each_pair (R := fun u x => RelV x u) rv e0).mono fun _ _ h => h.1
  have k3 := each_snd (qs := (as.map V.ref).zip ps) (by rw [ezip]; exact key)
  have out := PySem.W.sortVals_each (κ := dataKind (PySem.W.sortingHeap (h'.push (seqObj "list" (as.map Value.ref).toArray 0)) h'.objs.size (as.map Value.ref)) ps) (rev := false) (k := fun p : V × PyData => (show (dataKind (PySem.W.sortingHeap (h'.push (seqObj "list" (as.map Value.ref).toArray 0)) h'.objs.size (as.map Value.ref)) ps).α from keyToks p.2)) e3 k3
  have hv : Vals ((((as.map V.ref).zip ps).mergeSort leV).map (·.1)) (sortVals (dataKind (PySem.W.sortingHeap (h'.push (seqObj "list" (as.map Value.ref).toArray 0)) h'.objs.size (as.map Value.ref)) ps) false (as.map Value.ref) (as.map Value.ref)) := each_vals (fun _ _ h => h) out
  obtain ⟨ep2, he⟩ := sortedHeap_at (out := (sortVals (dataKind (PySem.W.sortingHeap (h'.push (seqObj "list" (as.map Value.ref).toArray 0)) h'.objs.size (as.map Value.ref)) ps) false (as.map Value.ref) (as.map Value.ref)).toArray) hnew
  have hl2 : ((((as.map V.ref).zip ps).mergeSort leV).map (·.1)).length ≤ sizeLine := by
    rw [List.length_map, (List.mergeSort_perm _ _).length_eq, List.length_zip]
    have := rv.length
    omega
  refine ⟨.ref _, upd H2 h'.objs.size (.lst ((((as.map V.ref).zip ps).mergeSort leV).map (·.1))), I2.laidN (t' := tk) (fun b o e => ?_) gone hn ⟨hl2, _, ep2, hv, he⟩, rfl, qq _ hn⟩
  rw [sortedHeap_old (keep2 b o e).1 (Heap.lt_size (keep2 b o e).2)]
  exact (keep2 b o e).2
end
theorem fz_pair {F H F' H1 : Hp} {T : Addr} {xs : List V} (e : Ext F H F' H1) (hT : H T = none) (h : H1 T = some (.tup xs)) : ∃ F2, Ext F H F2 H1 ∧ Same F' F2 ∧ F2 T = some (.tup xs) := by
  cases q : F' T with
  | some o =>
    have z := e.sub _ _ q
    rw [h] at z
    cases z
    exact ⟨F', e, Same.refl _, q⟩
  | none =>
    refine ⟨upd F' T (.tup xs), ⟨e.same, fun b u y => ?_, e.ext.trans (same_upd q), fun b u y => ?_⟩, same_upd q, upd_same⟩
    · by_cases n : b = T
      · subst n
        rw [upd_same] at y
        cases y
        exact h
      · rw [upd_ne n] at y
        exact e.sub _ _ y
    · by_cases n : b = T
      · subst n
        exact .inr (.inl hT)
      · rw [upd_ne n] at y
        exact e.new _ _ y
theorem fz_pairs {K : PySem.W.Frag} {F H H1 : Hp} : ∀ {kvs : List (List Key × V)} {es : List (List Key × D)} {xs : List V} {F' : Hp}, Ext F H F' H1 → Paired (PairT H H1) kvs xs → kvs.map (·.1) = es.map (·.1) → Reps K F (kvs.map (·.2)) (es.map (·.2)) → (∀ p ∈ es, p.1.length ≤ sizeLine) →
    ∃ F2, Ext F H F2 H1 ∧ Same F' F2 ∧ Reps K F2 xs (es.map fun p => D.tup [tkey p.1, p.2])
  | [], [], _, F', e, .nil, _, _, _ => ⟨F', e, Same.refl _, .nil⟩
  | [], _ :: _, _, _, _, _, h, _, _ => by simp at h
  | _ :: _, [], _, _, _, _, h, _, _ => by simp at h
  | (k, v) :: kvs, (k', d) :: es, _, F', e, .cons h t, hk, r, hz => by
    simp only [List.map_cons, List.cons.injEq] at hk r
    obtain ⟨rfl, hk⟩ := hk
    cases r with
    | cons r1 r2 =>
      obtain ⟨T, q, rfl, hT, hT1, hq⟩ := h
      have hq1 : H1 q = some (.tup (k.map kV)) := e.same _ _ hq
      obtain ⟨Fa, ea, ga⟩ := fz (F := F') (H := H1) e.sub hq1
      have ea' : Ext F H Fa H1 := by
        refine ⟨e.same, ea.sub, e.ext.trans ea.ext, fun b u y => ?_⟩
        rcases ea.new b u y with z | z
        · exact e.new b u z
        · exact .inr (z.back fun o' q => e.same _ _ q)
      obtain ⟨Fb, eb, sb, gb⟩ := fz_pair ea' hT hT1
      obtain ⟨Fc, ec, sc, rc⟩ := fz_pairs eb t hk r2 fun p hp => hz p (List.mem_cons_of_mem _ hp)
      have kl : k.length ≤ sizeLine := hz (k, d) List.mem_cons_self
      refine ⟨Fc, ec, (ea.ext.trans sb).trans sc, .cons (.tup (.inl (sc _ _ gb)) (by rw [sizeLine_eq]; show 2 ≤ 16777216; omega) (.cons ((fz_rep ga kl).mono (sb.trans sc)) (.one (r1.mono ec.ext)))) rc⟩
def sortIt : D → Option D
  | .dT es => if smallT es then (sortL (es.map fun p => D.tup [tkey p.1, p.2])).map .lst else none
  | _ => none
section
variable {X : Cx} {G : Gd} {W : WX} {ρ : Rho} {e : Expr} {m : Rs D} {p pos apos cpos : Pos}
theorem ev_sortIt (hu : X.A.units + 64 < cLine) (hc : X.calm = true) (hm : X.mg "sorted" = none) (he : EV X G W ρ e m) (hbase : attributeBase e "items" X.env (eval e X.env) = eval e X.env := by rfl) (hline : (apos.endLine == cpos.line) = true := by rfl) (hg : Gl X "sorted" := by rfl)
    (hst : starEach [.Call (.Attribute e "items" apos) [] [] cpos] X.env = (false, eval (.Call (.Attribute e "items" apos) [] [] cpos) X.env) :: starEach [] X.env := by rfl) (hpl : (backTo pos (starEach [] X.env)).any (·.1) = false := by rfl) :
    EV X G W ρ (.Call (.Name "sorted" p) [.Call (.Attribute e "items" apos) [] [] cpos] [] pos) (m.bind fun x => Rs.of (sortIt x)) := by
  obtain ⟨t, pe, q⟩ := he
  refine ⟨_, pe_callB (call_sortI hc hu) hg hm rfl (pa_cons (pe_itemsF pe hbase hline) pa_nil hst) (by decide) (by decide) hst hpl, fun F0 σ F H Q hh hp => ?_⟩
  refine q F0 σ F H _ hh (hp.bind fun dx x F1 H1 e1 r1 hp1 => ?_)
  obtain ⟨d, hd, kk⟩ := Post.of hp1
  unfold sortIt at hd
  split at hd
  · rename_i es
    split at hd
    · rename_i sm
      obtain ⟨zs, hs, rfl⟩ := Option.map_eq_some_iff.mp hd
      obtain ⟨s1, s2⟩ := smallT_ok sm
      cases r1 with
      | dT h1 h2 h3 =>
        have h1' := e1.sub _ _ h1
        refine ⟨_, _, _, rfl, h1', fun pv hpv => ⟨pv, _, _, _, rfl, upd_same, (upd_ne (ne_of_none h1' hpv)).trans h1', by rw [len_at h2]; exact s1, fun Hz xs hz pr => ?_⟩⟩
        · have sv : Same H1 Hz := (same_upd hpv).trans hz
          have pr' := paired_imp (S := PairT H1 Hz) pr fun kv x h => by
            obtain ⟨T, q0, rfl, g1, g2, g3⟩ := h
            have nT : T ≠ pv := fun z => by rw [z, upd_same] at g1; cases g1
            have nq : q0 ≠ pv := fun z => by
              rw [z, upd_same] at g3
              unfold L2.DX.itemsO at g3
              cases g3
            exact ⟨T, q0, rfl, by rw [upd_ne nT] at g1; exact g1, g2, by rw [upd_ne nq] at g3; exact g3⟩
          obtain ⟨F2, e2, _, r2⟩ := fz_pairs (K := X.K) (F := F1) (H := H1) (H1 := Hz) (F' := F1) ⟨sv, fun b u y => sv _ _ (e1.sub _ _ y), Same.refl _, fun b u y => .inl y⟩ pr' h2 h3 s2
          have hs' := hs
          unfold sortL at hs'
          split at hs'
          · rename_i ok
            have ok0 := (Bool.and_eq_true_iff.mp ok).1
            have ok1 := (Bool.and_eq_true_iff.mp (Bool.and_eq_true_iff.mp ok).2).1
            refine ⟨_, Reps.dp e2.sub r2 ok0, ok1, fun p hn => ?_⟩
            have rr := sort_reps r2 hs
            have hl : (((xs.zip (pys (es.map fun p => D.tup [tkey p.1, p.2]))).mergeSort leV).map (·.1)).length ≤ sizeLine := by
              rw [Reps.length rr, sortL_len hs, List.length_map]
              exact s1
            exact kk _ _ _ (e2.trans (Ext.fresh e2.sub _ hn)) (new_lst e2.sub hn hl rr)
          · cases hs'
    · cases hd
  · cases hd
end
end VL
set_option Elab.async false
set_option linter.all false
set_option maxRecDepth 100000
set_option autoImplicit false
namespace VL
open PySem PySem.Spec L2
open PyProof.Rows hiding St
section
variable {X : Cx} {G : Gd} {W : WX} {ρ : Rho} {i : Nat} {l : Bool} {bc : Str} {s : List D} {o e : Expr} {es : List Expr} {pos p p2 apos : Pos} {kws : List Keyword} {κ : Kt}
theorem ENo.ec {c : Str} {m : Rs (List D)} (h : ENo X G W ρ c e m) : EC X G W ρ true e (fun ds => D.obj c ds) m := h
theorem ee_callC {k : Nat} {f : Addr} {fd : FuncData} {ps : List Str} {m : List D → List D → Rs (D × List D)} {x bn : Str} (tk : L2N.Takes X W) (Fk : KeepsMO X.prog X.w X.K X.mg X.base k bc f fd ps m) (hr : Room k X.A) (hm : X.mg x = some (.ref f)) (hk : PySem.W.keepIn X.K (.ref f) = true)
    (hb : Binds X.K fd ps []) (hv : PE X (.Name bn p2) (tVar i)) (ha : AC X G W ρ es κ) (hi : AtO bc ρ i l s := by rfl) (hln : es.length + 1 = ps.length := by rfl) (hg : Gl X x := by rfl) (hdb : (x == ("__debug__" : Str)) = false := by decide) (he : starEach (.Name bn p2 :: es) X.env = (false, eval (.Name bn p2) X.env) :: starEach es X.env := by rfl)
    (hpl : (backTo pos (starEach es X.env)).any (·.1) = false := by rfl) : EE X G W ρ i bc s (.Call (.Name x p) (.Name bn p2 :: es) [] pos) (κ (D × List D) fun v => m s v) := by
  obtain ⟨ms, av, h2⟩ := ha
  rw [h2]
  exact ee_call tk Fk hr hm hk hb hv av hi hln hg hdb he hpl
theorem ee_methC {k : Nat} {f : Addr} {fd : FuncData} {ps : List Str} {m : List D → List D → Rs (D × List D)} {mn bn : Str} (tk : L2N.Takes X W) (sc : SlX.SCls X.K (He.ga X.K bc)) (hm : Meth X.K (He.ga X.K bc) mn f) (Fk : KeepsMO X.prog X.w X.K X.mg X.base k bc f fd ps m) (hr : Room k X.A)
    (hb : Binds X.K fd ps []) {pl : Sem Bool} (hv : PE X (.Name bn p2) (tVar i)) (ha : AC X G W ρ (e :: es) κ) (hi : AtO bc ρ i l s := by rfl) (hln : (e :: es).length + 1 = ps.length := by rfl)
    (hs : starEach (e :: es) X.env = (false, eval e X.env) :: starEach es X.env := by rfl) (hpl : (backTo pos (starEach es X.env)).any (·.1) = false := by rfl)
    (hev : eval (.Call (.Attribute (.Name bn p2) mn apos) (e :: es) [] pos) X.env = (do { let u ← eval (.Name bn p2) X.env; standAt apos.atName; let (f, first) ← holding [u] (getMethod u mn pl); callWith pos f first (backTo pos (starEach (e :: es) X.env)) (backToKw pos (keywordEach [] X.env)) }) := by rfl) :
    EE X G W ρ i bc s (.Call (.Attribute (.Name bn p2) mn apos) (e :: es) [] pos) (κ (D × List D) fun v => m s v) := by
  obtain ⟨ms, av, h2⟩ := ha
  rw [h2]
  exact ee_meth tk sc hm Fk hr hb hv av hi hln hs hpl hev
end
section
variable {X : Cx} {CX : CXT} {k : Nat} {C g : Addr} {fd : FuncData} {ps ks : List Str} {sp : Sp} {E : L2.St → XK} {o : Expr} {mn : Str} {apos pos : Pos} {kws : List Keyword} {tk : TA} {ta : TE} {gg : List Value → List Value → List Value} {gV : List V → List V → List V} {pl : Sem Bool}
def tMethOK (C : Addr) (n : Nat) (sp : Sp) (gV : List V → List V → List V) (E : St → XK) (ta : TE) (tk : TA) : TE := fun σ H Q => ta σ H fun x H1 => ∃ (a dx : Addr) (vs : List (Option V)), x = .ref a ∧ SlX.Slt H1 a C dx vs ∧ tk σ H1 fun zs H2 => zs.length = n ∧ sp (gV [x] zs) H2 Q (E σ)
theorem pe_methOK (he : PE X o ta) (sc : SlX.SCls X.K C) (hm : Meth X.K C mn g) (Fk : FnOk X.prog X.w X.K X.mg X.base CX k g fd ps sp) (hr : Room k X.A) (hb : KBn X.K fd ps 1 ks gg gV) (hx : ∀ σ, PassesAt CX X σ (E σ)) (hkw : PK X kws tk)
    (hall : (backToKw pos (keywordEach kws X.env)).all (·.1.isSome) = true := by rfl) (hks : (backToKw pos (keywordEach kws X.env)).filterMap (·.1) = ks := by rfl)
    (hpl : ((backTo pos (starEach [] X.env)).any (·.1) || (backToKw pos (keywordEach kws X.env)).any (·.1.isNone)) = false := by rfl)
    (ht : eval (.Call (.Attribute o mn apos) [] kws pos) X.env = (do
      let ov ← eval o X.env
      standAt apos.atName
      let (f, first) ← holding [ov] (getMethod ov mn pl)
      callWith pos f first (backTo pos (starEach [] X.env)) (backToKw pos (keywordEach kws X.env))) := by rfl) :
    PE X (.Call (.Attribute o mn apos) [] kws pos) (tMethOK C ks.length sp gV E ta tk) := by
  refine ⟨fun pins s σ H Q I w => PySem.W.methodCall_KW (pl := pl) (thn (he.run pins s σ H _ I w) fun u s1 ⟨x, H1, I1, rx, a, dx, vs, ex, sl, q⟩ => ?_) ht⟩
  subst ex
  obtain rfl : u = Value.ref a := rx
  refine SlX.getmethsl_ok I1 sl sc hm (PySem.W.callWith_KW0 (first := [.ref a]) (h₀ := X.base) I1.ok.mod.kin hm.kp hall (thn (hkw.run pos pins s1 σ H1 _ I1 q) fun ws s2 ⟨zs, H2, I2, rz, l2, q2⟩ => ⟨I2.kIn, ?_⟩) hpl)
  rw [hks]
  exact run_fnKS (us := [.ref a]) (ws := ws) (vs := [.ref a]) (zs := zs) Fk hr hb (hx σ) I2 (.cons rfl .nil) rz rfl l2 q2
end
section
variable {X : Cx} {G : Gd} {W : WX} {ρ : Rho} {i : Nat} {l : Bool} {bc : Str} {s : List D} {pos p2 apos : Pos} {kws : List Keyword} {κ : Kt}
theorem ee_methK0 {k : Nat} {f : Addr} {fd : FuncData} {ps ks : List Str} {is : List Nat} {m : List D → List D → Rs (D × List D)} {mn bn : Str} {pl : Sem Bool} (tk : L2N.Takes X W) (sc : SlX.SCls X.K (He.ga X.K bc)) (hm : Meth X.K (He.ga X.K bc) mn f) (Fk : KeepsMO X.prog X.w X.K X.mg X.base k bc f fd ps m)
    (hb : KBn X.K fd ps 1 ks (gOf is) (gOf is)) (hr : Room k X.A) (hv : PE X (.Name bn p2) (tVar i)) (ha : KC X G W ρ kws κ) (hp : ∀ zs : List D, zs.length = ks.length → (gOf is [] zs).length + 1 = ps.length) (hi : AtO bc ρ i l s := by rfl) (hln : kws.length = ks.length := by rfl)
    (hall : (backToKw pos (keywordEach kws X.env)).all (·.1.isSome) = true := by rfl) (hks : (backToKw pos (keywordEach kws X.env)).filterMap (·.1) = ks := by rfl)
    (hpl : ((backTo pos (starEach [] X.env)).any (·.1) || (backToKw pos (keywordEach kws X.env)).any (·.1.isNone)) = false := by rfl)
    (ht : eval (.Call (.Attribute (.Name bn p2) mn apos) [] kws pos) X.env = (do
      let ov ← eval (.Name bn p2) X.env
      standAt apos.atName
      let (f, first) ← holding [ov] (getMethod ov mn pl)
      callWith pos f first (backTo pos (starEach [] X.env)) (backToKw pos (keywordEach kws X.env))) := by rfl) :
    EE X G W ρ i bc s (.Call (.Attribute (.Name bn p2) mn apos) [] kws pos) (κ (D × List D) fun zs => m s (gOf is [] zs)) := by
  obtain ⟨ms, ⟨hl, t, pt, qt⟩, h2⟩ := ha
  rw [h2]
  intro F0 σ F H Q b hh hbx hq
  obtain ⟨b', h1, hf, h0, hw⟩ := hh.own i l _ hi
  rw [hbx] at h1
  cases h1
  have hw' := hw
  obtain ⟨o, ho, nt_⟩ := hw.there
  cases hw with
  | @obj dx _ xs _ g1 g2 g3 =>
    refine ⟨_, pe_methOK (E := WE W) hv sc hm Fk hr hb (fun σ => L2N.passAt tk σ) pt hall hks hpl ht, _, hbx, b, dx, _, rfl, .inr ⟨g1, hh.sub _ _ g2⟩, qt F0 σ F H _ hh ?_⟩
    cases ms with
    | no => exact hq
    | ex c fs => exact fun dd F' H' e1 x => hq dd F' H' (e1.toB ho nt_) x (hw'.ext e1)
    | ok ds =>
      intro vs F' H' e1 r1
      have l1 : ds.length = ks.length := (hl ds rfl).trans hln
      have r2 : Reps X.K F' (gOf is [] vs) (gOf is [] ds) := (Reps.nil).append (reps_pick r1 is)
      have hq' : PostE X.K (RFb X.K) bc b s F H Q (fun c d H => W c d σ H) (m s (gOf is [] ds)) := hq
      exact ⟨(Reps.length r1).trans l1, by
        show (V.ref b :: gOf is [] vs).length = ps.length
        rw [List.length_cons, Reps.length r2, hp ds l1], b, gOf is [] vs, F', gOf is [] ds, s, rfl, e1.sub, (e1.toB ho nt_).stays hf ho nt_, hw'.ext e1, r2, PostE.more hq' (e1.toB ho nt_)⟩
end
def setSl (k : Nat) (ds : List D) (d : D) : Option (List D) := if k < ds.length then some (ds.set k d) else none
section
variable {X : Cx} {G : Gd} {W : WX} {ρx ρ : Rho} {rest : List Stmt} {α β R : Type} {pn : α → Rho} {pl : β → Rho} {ι : R → Fl α β}
theorem bk_ssetS {i k : Nat} {l : Bool} {x c f : Str} {ds : List D} {e : Expr} {xpos apos pos : Pos} {m : Rs D} {g : List D → Rs (Fl α β)} (sc : SlX.SCls X.K (He.ga X.K c)) (st : ∃ p, SlX.Slot1 X.K (He.ga X.K c) f p k) (hv : PE X (.Name x xpos) (tVar i)) (he : EV X G W ρ e m)
    (hr : ∀ ds', BK X G W ρx (ρ.set i (some (.own l (.obj c ds')))) rest pn pl (g ds')) (hi : ρ[i]? = some (some (.own l (.obj c ds))) := by rfl)
    (hs : swapsWith e (some (.Attribute (.Name x xpos) f apos)) pos.line X.env = pure false := by rfl) (wx : Wk ρ ρx := by first | exact Wk.nil | exact Wk.refl | (repeat (first | exact Wk.nil | apply Wk.keep | apply Wk.drop))) :
    BK X G W ρx ρ (.Assign [.Attribute (.Name x xpos) f apos] e pos :: rest) pn pl (m.bind fun d => (Rs.of (setSl k ds d)).bind g) := by
  obtain ⟨t, p, q⟩ := he
  obtain ⟨pd, st⟩ := st
  intro F0 σ F H E hh hp
  refine any_cons (SlX.ps_sl hv p hs) (q F0 σ F H _ hh (post_seq hh wx hp fun d v F1 H1 e1 r1 hp1 => ?_))
  by_cases hk : k < ds.length
  · have hp2 : PostS X.K (G.at F0) W ρx pn pl E (g (ds.set k d)) := by
      simp only [setSl, if_pos hk] at hp1
      exact hp1
    obtain ⟨a, h1, h2, h3, h4⟩ := (hh.more e1).own i l _ hi
    cases h4 with
    | @obj dx _ xs _ g1 g2 g3 =>
      have d1 : H1 dx = some (.xd []) := e1.sub _ _ g2
      have kl : k < xs.length := by rw [g3.length]; exact hk
      refine ⟨.ref a, h1, a, He.ga X.K c, dx, pd, xs.map some, k, rfl, .inr ⟨g1, d1⟩, sc, st, ?_⟩
      have eqH : SlX.slH H1 a (He.ga X.K c) dx (SlX.putS k v (xs.map some)) = upd H1 a (SlX.SlO a (He.ga X.K c) dx ((xs.set k v).map some)) := by
        unfold SlX.slH
        rw [upd_id d1, put_in kl]
      rw [eqH]
      exact hr _ F0 σ F1 _ E ((hh.more e1).write hi h1 (.obj upd_same g2 (g3.set k r1))) hp2
  · simp only [setSl, if_neg hk] at hp1
    exact hp1.elim
theorem bi_ssetS {i k : Nat} {l : Bool} {x c f : Str} {ds : List D} {e : Expr} {xpos apos pos : Pos} {m : Rs D} {g : List D → Rs R} (sc : SlX.SCls X.K (He.ga X.K c)) (st : ∃ p, SlX.Slot1 X.K (He.ga X.K c) f p k) (hv : PE X (.Name x xpos) (tVar i)) (he : EV X G W ρ e m)
    (hr : ∀ ds', BI X G W ρx (ρ.set i (some (.own l (.obj c ds')))) rest pn pl ι (g ds')) (hi : ρ[i]? = some (some (.own l (.obj c ds))) := by rfl)
    (hs : swapsWith e (some (.Attribute (.Name x xpos) f apos)) pos.line X.env = pure false := by rfl) (wx : Wk ρ ρx := by first | exact Wk.nil | exact Wk.refl | (repeat (first | exact Wk.nil | apply Wk.keep | apply Wk.drop))) :
    BI X G W ρx ρ (.Assign [.Attribute (.Name x xpos) f apos] e pos :: rest) pn pl ι (m.bind fun d => (Rs.of (setSl k ds d)).bind g) := by
  unfold BI
  have z := bk_ssetS (ρx := ρx) (pn := pn) (pl := pl) (g := fun ds' => (g ds').bind fun r => .ok (ι r)) sc st hv he hr hi hs wx
  have e2 : ((m.bind fun d => (Rs.of (setSl k ds d)).bind g).bind fun r => (.ok (ι r) : Rs (Fl α β))) = m.bind fun d => (Rs.of (setSl k ds d)).bind fun ds' => (g ds').bind fun r => .ok (ι r) := by
    rw [Rs.assoc]
    refine congrArg m.bind (funext fun d => ?_)
    rw [Rs.assoc]
  rw [e2]
  exact z
theorem bi_retM {i : Nat} {l : Bool} {bc : Str} {s : List D} {e : Expr} {pos : Pos} {m : Rs (D × List D)} (he : EM X G ρ i bc e m) (hi : AtO bc ρ i l s := by rfl) (hb : G.bs = [] := by rfl) : BI X G W ρx ρ (.Return (some e) pos :: rest) pn pl rtI (m.noX.bind fun u => .ok u.1) := by
  intro F0 σ F H E hh hp
  rw [Rs.assoc] at hp
  obtain ⟨r, rfl, hp⟩ := postS_noX hp
  obtain ⟨b, hbx⟩ := obj_at hh hi
  refine any_cons (ps_ret pe_any) (he F0 σ F H _ b hh hbx fun v F' H' e1 r1 o1 => ?_)
  exact hp v F' H' (hh.moreB hi hbx e1 o1).toGnd r1 (owns0 hb)
end
section
variable {X : Cx} {G : Gd} {ρ : Rho} {rest : List Stmt} {e : Expr} {c : Str}
theorem bno_ssetS {i k : Nat} {l : Bool} {x c2 f : Str} {ds : List D} {xpos apos pos : Pos} {m : Rs D} {g : List D → Rs (List D)} (sc : SlX.SCls X.K (He.ga X.K c2)) (st : ∃ p, SlX.Slot1 X.K (He.ga X.K c2) f p k) (hv : PE X (.Name x xpos) (tVar i)) (he : EV X G W0 ρ e m)
    (hr : ∀ ds', BNo X G c (ρ.set i (some (.own l (.obj c2 ds')))) rest (g ds')) (hi : ρ[i]? = some (some (.own l (.obj c2 ds))) := by rfl)
    (hs : swapsWith e (some (.Attribute (.Name x xpos) f apos)) pos.line X.env = pure false := by rfl) : BNo X G c ρ (.Assign [.Attribute (.Name x xpos) f apos] e pos :: rest) (m.noX.bind fun d => (Rs.of (setSl k ds d)).bind g) := by
  obtain ⟨t, p, q⟩ := he
  obtain ⟨pd, st⟩ := st
  intro F0 σ F H E hh hp
  refine any_cons (SlX.ps_sl hv p hs) (q F0 σ F H _ hh ?_)
  cases m with
  | ex c fs => exact hp.elim
  | no => exact hp.elim
  | ok d =>
    intro v F1 H1 e1 r1
    by_cases hk : k < ds.length
    · have hp2 : PostRo X.K (G.at F0) c E (g (ds.set k d)) := by
        simp only [Rs.noX_ok, Rs.bind_ok, setSl, if_pos hk] at hp
        exact hp
      obtain ⟨a, h1, h2, h3, h4⟩ := (hh.more e1).own i l _ hi
      cases h4 with
      | @obj dx _ xs _ g1 g2 g3 =>
        have d1 : H1 dx = some (.xd []) := e1.sub _ _ g2
        have kl : k < xs.length := by rw [g3.length]; exact hk
        refine ⟨.ref a, h1, a, He.ga X.K c2, dx, pd, xs.map some, k, rfl, .inr ⟨g1, d1⟩, sc, st, ?_⟩
        have eqH : SlX.slH H1 a (He.ga X.K c2) dx (SlX.putS k v (xs.map some)) = upd H1 a (SlX.SlO a (He.ga X.K c2) dx ((xs.set k v).map some)) := by
          unfold SlX.slH
          rw [upd_id d1, put_in kl]
        rw [eqH]
        exact hr _ F0 σ F1 _ E ((hh.more e1).write hi h1 (.obj upd_same g2 (g3.set k r1))) hp2
    · simp only [Rs.noX_ok, Rs.bind_ok, setSl, if_neg hk] at hp
      exact hp.elim
end
end VL
set_option Elab.async false
set_option linter.all false
set_option maxRecDepth 100000
set_option autoImplicit false
namespace VL
open PySem PySem.Spec L2
open PyProof.Rows hiding St
theorem keeps_mo_eq {P : Program} {w : World} {K : PySem.W.Frag} {mg : Str → Option Value} {base : Heap} {k : Nat} {bc : Str} {f : Addr} {fd : FuncData} {ps : List Str} {m m' : List D → List D → Rs (D × List D)} (h : KeepsMO P w K mg base k bc f fd ps m) (e : ∀ s ds, ds.length + 1 = ps.length → m s ds = m' s ds) : KeepsMO P w K mg base k bc f fd ps m' :=
  FnOk.imp h fun vs H Q E q => by
    obtain ⟨hl, b, ws, F, ds, s, rfl, q1, q2, q3, q4, q5⟩ := q
    exact ⟨hl, b, ws, F, ds, s, rfl, q1, q2, q3, q4, by
      rw [e s ds (by rw [← q4.length]; exact hl)]
      exact q5⟩
theorem bno_as {X : Cx} {G : Gd} {ρ : Rho} {c : Str} (ρ' : Rho) {sts : List Stmt} {m m' : Rs (List D)} (h : BNo X G c ρ' sts m) (er : ρ = ρ') (e : m = m') : BNo X G c ρ sts m' := by
  subst er e
  exact h
end VL
set_option Elab.async false
set_option linter.all false
set_option maxRecDepth 100000
set_option autoImplicit false
namespace VL
open PySem PySem.Spec L2
open PyProof.Rows hiding St
section
variable {X : Cx} {G : Gd} {W : WX} {ρx ρ : Rho} {rest : List Stmt} {α β R : Type} {pn : α → Rho} {pl : β → Rho} {i : Nat} {bc : Str} {s : List D}
theorem bi_retO0 {e : Expr} {pos : Pos} {b : Addr} {m : Rs D} (he : EV X G W0 ρ e m) (hi : AtO bc ρ i false s := by rfl) (hb : G.bs = [b] := by rfl) : BI X G W ρx ρ (.Return (some e) pos :: rest) pn pl (ioO bc) (m.noX.bind fun d => .ok (d, s)) := by
  obtain ⟨t, p, q⟩ := he
  intro F0 σ F H E hh hp
  rw [Rs.assoc] at hp
  obtain ⟨d, rfl, hp1⟩ := postS_noX hp
  refine any_cons (ps_ret p) (q F0 σ F H _ hh fun v F' H' e1 r1 => ?_)
  have hh1 := hh.more e1
  obtain ⟨a, g1, g2, g3, g4⟩ := hh1.own i false _ hi
  refine hp1 v F' H' hh1.toGnd r1 ?_
  have g3' : a ∈ G.bs := g3
  show OwnsL X.K F' H' G.bs [.obj bc s]
  rw [hb] at g3' ⊢
  cases List.mem_singleton.mp g3'
  refine ⟨rfl, fun j a' q' => ?_⟩
  cases j with
  | zero =>
    cases q'
    exact ⟨g2, _, rfl, g4⟩
  | succ j => simp at q'
end
end VL
set_option Elab.async false
set_option linter.all false
set_option maxRecDepth 100000
set_option autoImplicit false
set_option maxHeartbeats 1000000
set_option Elab.async false
set_option linter.all false
set_option maxRecDepth 100000
set_option autoImplicit false
set_option maxHeartbeats 1000000
set_option Elab.async false
set_option linter.all false
set_option maxRecDepth 100000
set_option autoImplicit false
set_option maxHeartbeats 1000000
set_option Elab.async false
set_option linter.all false
set_option maxRecDepth 100000
set_option autoImplicit false
set_option maxHeartbeats 2000001
set_option Elab.async false
set_option linter.all false
set_option maxRecDepth 100000
set_option autoImplicit false
set_option maxHeartbeats 2000001
set_option Elab.async false
set_option linter.all false
set_option maxRecDepth 100000
set_option autoImplicit false
set_option maxHeartbeats 3200000
set_option Elab.async false
set_option linter.all false
set_option maxRecDepth 100000
set_option autoImplicit false
set_option maxHeartbeats 3200000
namespace VL
open PySem PySem.Spec L2
open PyProof.Rows hiding St
section
variable {M : Model} {prog : Program} {w : World} {A : Around} {E : Value → Shared → Prop} {s : Shared}
theorem KIs.keep {h h' : Heap} {a : Addr} {items : Array Value} {k : Kd} (x : KIs h a items k) (q : ∀ o, h.get? a = some o → h'.get? a = some o) : KIs h' a items k := by
  cases k with
  | l => exact Heap.IsList.at x q
  | t => exact Heap.IsTuple.at x q
variable {n N : Nat} {a : Nat → Nat} {xs : Nat → Array Value} {kd : Nat → Kd} {i : Nat}
theorem an {p q : Nat} (h : p ≠ q) : (show Addr from p) ≠ (show Addr from q) := h
end
end VL
set_option Elab.async false
set_option linter.all false
set_option maxRecDepth 100000
set_option autoImplicit false
set_option Elab.async false
set_option linter.all false
set_option maxRecDepth 100000
set_option autoImplicit false
set_option pp.maxSteps 400
set_option maxHeartbeats 8000000
namespace LW
open PySem PySem.Spec L2 VL
open PyProof.Rows hiding St
abbrev FUEL : Nat := 1000000
structure Txt (K : PySem.W.Frag) (mg : Str → Option Value) where
  f_ValueError : mg "ValueError" = none
  f_abs : mg "abs" = none
  f_all : mg "all" = none
  f_bool : mg "bool" = none
  f_enumerate : mg "enumerate" = none
  f_int : mg "int" = none
  f_isinstance : mg "isinstance" = none
  f_len : mg "len" = none
  f_list : mg "list" = none
  f_min : mg "min" = none
  f_range : mg "range" = none
  f_sorted : mg "sorted" = none
  f_str : mg "str" = none
  f_sum : mg "sum" = none
  f_tuple : mg "tuple" = none
  f_zip : mg "zip" = none
  g_NONE : mg "NONE" = some (.ref (He.ga K "NONE"))
  c_NONE : ∀ H, SqT K H (He.ga K "NONE") (([0, 1] : List Int).map V.int)
  g_Survey : mg "Survey" = some (.ref (He.ga K "Survey"))
  sc_Survey : SlX.SCls K (He.ga K "Survey")
  sl_Survey_own_houses : ∃ p, SlX.Slot1 K (He.ga K "Survey") "own_houses" p 0
  sl_Survey_own_told : ∃ p, SlX.Slot1 K (He.ga K "Survey") "own_told" p 1
  mk_Survey : Mk K (He.ga K "Survey") (He.ma K (He.ga K "Survey") "__init__")
  oe_Survey : OwnEq K (He.ga K "Survey") (He.ma K (He.ga K "Survey") "__eq__")
  om_Survey___len__ : OwnM K (He.ga K "Survey") (He.ma K (He.ga K "Survey") "__len__") "__len__"
  mt_Survey_back : Meth K (He.ga K "Survey") "back" (He.ma K (He.ga K "Survey") "back")
  mt_Survey_floor_of : Meth K (He.ga K "Survey") "floor_of" (He.ma K (He.ga K "Survey") "floor_of")
  mt_Survey_holds : Meth K (He.ga K "Survey") "holds" (He.ma K (He.ga K "Survey") "holds")
  mt_Survey_known : Meth K (He.ga K "Survey") "known" (He.ma K (He.ga K "Survey") "known")
  mt_Survey_tell : Meth K (He.ga K "Survey") "tell" (He.ma K (He.ga K "Survey") "tell")
  mt_Survey_twin : Meth K (He.ga K "Survey") "twin" (He.ma K (He.ga K "Survey") "twin")
  on_Survey : OwnNe K (He.ga K "Survey")
  ot_Survey : OwnIsT K (He.ga K "Survey")
  oi_Survey : OwnIs K (He.ga K "Survey")
  g_BadAnswer : mg "BadAnswer" = some (.ref (He.ga K "BadAnswer"))
  g_NothingDone : mg "NothingDone" = some (.ref (He.ga K "NothingDone"))
  ox_BadAnswer : OexC K (He.ga K "BadAnswer")
  ic_BadAnswer : PySem.W.findIn K (.ref (He.ga K "BadAnswer")) "__init__" = some (some (.ref (He.ma K (He.ga K "BadAnswer") "__init__"))) ∧ PySem.W.typeIn K (.ref (He.ma K (He.ga K "BadAnswer") "__init__")) = some (.type "function")
  no_BadAnswer : PySem.W.findIn K (.ref (He.ga K "BadAnswer")) "answer" = some none
  xf_BadAnswer : XfC K (He.ga K "BadAnswer")
  xi_BadAnswer : ExI K (He.ga K "BadAnswer")
  ox_NothingDone : OexC K (He.ga K "NothingDone")
  ic_NothingDone : PySem.W.findIn K (.ref (He.ga K "NothingDone")) "__init__" = some (some (.ref (He.ma K (He.ga K "NothingDone") "__init__"))) ∧ PySem.W.typeIn K (.ref (He.ma K (He.ga K "NothingDone") "__init__")) = some (.type "function")
  no_NothingDone : PySem.W.findIn K (.ref (He.ga K "NothingDone")) "given" = some none
  xf_NothingDone : XfC K (He.ga K "NothingDone")
  xi_NothingDone : ExI K (He.ga K "NothingDone")
  ex_BadAnswer_BadAnswer : PySem.W.exmOne K (.ref (He.ga K "BadAnswer")) (.ref (He.ga K "BadAnswer")) = some true
  ex_BadAnswer_NothingDone : PySem.W.exmOne K (.ref (He.ga K "BadAnswer")) (.ref (He.ga K "NothingDone")) = some false
  ex_NothingDone_BadAnswer : PySem.W.exmOne K (.ref (He.ga K "NothingDone")) (.ref (He.ga K "BadAnswer")) = some false
  ex_NothingDone_NothingDone : PySem.W.exmOne K (.ref (He.ga K "NothingDone")) (.ref (He.ga K "NothingDone")) = some true
  kt_BadAnswer_ValueError : PySem.W.kitOne K (.ref (He.ga K "BadAnswer")) (.type "ValueError") = some true
  kt_NothingDone_ValueError : PySem.W.kitOne K (.ref (He.ga K "NothingDone")) (.type "ValueError") = some true
  kn_ValueError : PySem.W.kitOne K (.type "NoneType") (.type "ValueError") = some false
  fd_tupled : FuncData
  F_tupled : FunD K "tupled" "tupled" (defArgs (top 6)) (defBody (top 6)) (defScope (top 6)) [] [] (He.ga K "tupled") fd_tupled
  g_tupled : mg "tupled" = some (.ref (He.ga K "tupled"))
  b_tupled : Binds K fd_tupled ["value"] []
  fd_common_part : FuncData
  F_common_part : FunD K "common_part" "common_part" (defArgs (top 9)) (defBody (top 9)) (defScope (top 9)) [] [] (He.ga K "common_part") fd_common_part
  g_common_part : mg "common_part" = some (.ref (He.ga K "common_part"))
  b_common_part : Binds K fd_common_part ["one", "other"] []
  fd_fraction : FuncData
  F_fraction : FunD K "fraction" "fraction" (defArgs (top 10)) (defBody (top 10)) (defScope (top 10)) [] [] (He.ga K "fraction") fd_fraction
  g_fraction : mg "fraction" = some (.ref (He.ga K "fraction"))
  b_fraction : Binds K fd_fraction ["top", "bottom"] []
  fd_over : FuncData
  F_over : FunD K "over" "over" (defArgs (top 11)) (defBody (top 11)) (defScope (top 11)) [] [] (He.ga K "over") fd_over
  g_over : mg "over" = some (.ref (He.ga K "over"))
  b_over : Binds K fd_over ["one", "other"] []
  fd_is_less : FuncData
  F_is_less : FunD K "is_less" "is_less" (defArgs (top 12)) (defBody (top 12)) (defScope (top 12)) [] [] (He.ga K "is_less") fd_is_less
  g_is_less : mg "is_less" = some (.ref (He.ga K "is_less"))
  b_is_less : Binds K fd_is_less ["one", "other"] []
  fd_greater : FuncData
  F_greater : FunD K "greater" "greater" (defArgs (top 13)) (defBody (top 13)) (defScope (top 13)) [] [] (He.ga K "greater") fd_greater
  g_greater : mg "greater" = some (.ref (He.ga K "greater"))
  b_greater : Binds K fd_greater ["one", "other"] []
  fd_size_on : FuncData
  F_size_on : FunD K "size_on" "size_on" (defArgs (top 15)) (defBody (top 15)) (defScope (top 15)) [] [] (He.ga K "size_on") fd_size_on
  g_size_on : mg "size_on" = some (.ref (He.ga K "size_on"))
  b_size_on : Binds K fd_size_on ["houses", "sizes", "cut"] []
  fd_Survey_init : FuncData
  F_Survey_init : FunD K "__init__" "Survey.__init__" (defArgs (sub (top 16) 1)) (defBody (sub (top 16) 1)) (defScope (sub (top 16) 1)) [] [] (He.ma K (He.ga K "Survey") "__init__") fd_Survey_init
  b_Survey_init : Binds K fd_Survey_init ["self", "houses"] []
  fd_Survey_houses : FuncData
  F_Survey_houses : FunD K "houses" "Survey.houses" (defArgs (sub (top 16) 2)) (defBody (sub (top 16) 2)) (defScope (sub (top 16) 2)) [] [] (recA K (He.ga K "Survey") "property" "houses") fd_Survey_houses
  b_Survey_houses : Binds K fd_Survey_houses ["self"] []
  pr_Survey_houses : Prp K (He.ga K "Survey") "houses" (recA K (He.ga K "Survey") "property" "houses")
  fd_Survey_told : FuncData
  F_Survey_told : FunD K "told" "Survey.told" (defArgs (sub (top 16) 3)) (defBody (sub (top 16) 3)) (defScope (sub (top 16) 3)) [] [] (recA K (He.ga K "Survey") "property" "told") fd_Survey_told
  b_Survey_told : Binds K fd_Survey_told ["self"] []
  pr_Survey_told : Prp K (He.ga K "Survey") "told" (recA K (He.ga K "Survey") "property" "told")
  fd_Survey_len : FuncData
  F_Survey_len : FunD K "__len__" "Survey.__len__" (defArgs (sub (top 16) 4)) (defBody (sub (top 16) 4)) (defScope (sub (top 16) 4)) [] [] (He.ma K (He.ga K "Survey") "__len__") fd_Survey_len
  b_Survey_len : Binds K fd_Survey_len ["self"] []
  fd_Survey_eq : FuncData
  F_Survey_eq : FunD K "__eq__" "Survey.__eq__" (defArgs (sub (top 16) 6)) (defBody (sub (top 16) 6)) (defScope (sub (top 16) 6)) [] [] (He.ma K (He.ga K "Survey") "__eq__") fd_Survey_eq
  b_Survey_eq : Binds K fd_Survey_eq ["self", "other"] []
  fd_Survey_known : FuncData
  F_Survey_known : FunD K "known" "Survey.known" (defArgs (sub (top 16) 7)) (defBody (sub (top 16) 7)) (defScope (sub (top 16) 7)) [] [] (He.ma K (He.ga K "Survey") "known") fd_Survey_known
  b_Survey_known : Binds K fd_Survey_known ["self"] []
  fd_Survey_floor_of : FuncData
  F_Survey_floor_of : FunD K "floor_of" "Survey.floor_of" (defArgs (sub (top 16) 8)) (defBody (sub (top 16) 8)) (defScope (sub (top 16) 8)) [] [] (He.ma K (He.ga K "Survey") "floor_of") fd_Survey_floor_of
  b_Survey_floor_of : Binds K fd_Survey_floor_of ["self", "cut"] []
  fd_BadAnswer_init : FuncData
  F_BadAnswer_init : FunD K "__init__" "BadAnswer.__init__" (defArgs (sub (top 3) 0)) (defBody (sub (top 3) 0)) (defScope (sub (top 3) 0)) [] [] (He.ma K (He.ga K "BadAnswer") "__init__") fd_BadAnswer_init
  b_BadAnswer_init : Binds K fd_BadAnswer_init ["self", "answer"] []
  fd_Survey_holds : FuncData
  F_Survey_holds : FunD K "holds" "Survey.holds" (defArgs (sub (top 16) 10)) (defBody (sub (top 16) 10)) (defScope (sub (top 16) 10)) [] [] (He.ma K (He.ga K "Survey") "holds") fd_Survey_holds
  b_Survey_holds : Binds K fd_Survey_holds ["self"] []
  fd_Survey_tell : FuncData
  F_Survey_tell : FunD K "tell" "Survey.tell" (defArgs (sub (top 16) 9)) (defBody (sub (top 16) 9)) (defScope (sub (top 16) 9)) [] [] (He.ma K (He.ga K "Survey") "tell") fd_Survey_tell
  b_Survey_tell : Binds K fd_Survey_tell ["self", "sizes", "time", "cut"] []
  fd_NothingDone_init : FuncData
  F_NothingDone_init : FunD K "__init__" "NothingDone.__init__" (defArgs (sub (top 4) 0)) (defBody (sub (top 4) 0)) (defScope (sub (top 4) 0)) [] [] (He.ma K (He.ga K "NothingDone") "__init__") fd_NothingDone_init
  b_NothingDone_init : Binds K fd_NothingDone_init ["self"] []
  fd_Survey_back : FuncData
  F_Survey_back : FunD K "back" "Survey.back" (defArgs (sub (top 16) 11)) (defBody (sub (top 16) 11)) (defScope (sub (top 16) 11)) [] [] (He.ma K (He.ga K "Survey") "back") fd_Survey_back
  b_Survey_back : Binds K fd_Survey_back ["self"] []
  fd_Survey_twin : FuncData
  F_Survey_twin : FunD K "twin" "Survey.twin" (defArgs (sub (top 16) 12)) (defBody (sub (top 16) 12)) (defScope (sub (top 16) 12)) [] [] (He.ma K (He.ga K "Survey") "twin") fd_Survey_twin
  b_Survey_twin : Binds K fd_Survey_twin ["self"] []
  fd_law_box : FuncData
  F_law_box : FunD K "_law_box" "_law_box" (defArgs (top 18)) (defBody (top 18)) (defScope (top 18)) [] [] (He.ga K "_law_box") fd_law_box
  g_law_box : mg "_law_box" = some (.ref (He.ga K "_law_box"))
  b_law_box : Binds K fd_law_box ["_law_script", "_law_k"] []
  fd_law_take : FuncData
  F_law_take : FunD K "_law_take" "_law_take" (defArgs (top 19)) (defBody (top 19)) (defScope (top 19)) [] [] (He.ga K "_law_take") fd_law_take
  g_law_take : mg "_law_take" = some (.ref (He.ga K "_law_take"))
  b_law_take : Binds K fd_law_take ["_law_box_here", "_law_size_so"] []
  fd_law_cells : FuncData
  F_law_cells : FunD K "_law_cells" "_law_cells" (defArgs (top 20)) (defBody (top 20)) (defScope (top 20)) [] [] (He.ga K "_law_cells") fd_law_cells
  g_law_cells : mg "_law_cells" = some (.ref (He.ga K "_law_cells"))
  b_law_cells : Binds K fd_law_cells ["_law_script", "_law_top_so"] []
  fd_law_same : FuncData
  F_law_same : FunD K "_law_same" "_law_same" (defArgs (top 21)) (defBody (top 21)) (defScope (top 21)) [] [] (He.ga K "_law_same") fd_law_same
  g_law_same : mg "_law_same" = some (.ref (He.ga K "_law_same"))
  b_law_same : Binds K fd_law_same ["_law_got", "_law_due_here"] []
  fd_law_pick : FuncData
  F_law_pick : FunD K "_law_pick" "_law_pick" (defArgs (top 22)) (defBody (top 22)) (defScope (top 22)) [] [] (He.ga K "_law_pick") fd_law_pick
  g_law_pick : mg "_law_pick" = some (.ref (He.ga K "_law_pick"))
  b_law_pick : Binds K fd_law_pick ["_law_box_here", "_law_goods_so", "_law_count_so"] []
  fd_law_part : FuncData
  F_law_part : FunD K "_law_part" "_law_part" (defArgs (top 24)) (defBody (top 24)) (defScope (top 24)) [] [] (He.ga K "_law_part") fd_law_part
  g_law_part : mg "_law_part" = some (.ref (He.ga K "_law_part"))
  b_law_part : Binds K fd_law_part ["_law_one_so", "_law_other_so"] []
  fd_law_ratio : FuncData
  F_law_ratio : FunD K "_law_ratio" "_law_ratio" (defArgs (top 23)) (defBody (top 23)) (defScope (top 23)) [] [] (He.ga K "_law_ratio") fd_law_ratio
  g_law_ratio : mg "_law_ratio" = some (.ref (He.ga K "_law_ratio"))
  b_law_ratio : Binds K fd_law_ratio ["_law_top_so", "_law_low_so"] []
  fd_law_less : FuncData
  F_law_less : FunD K "_law_less" "_law_less" (defArgs (top 25)) (defBody (top 25)) (defScope (top 25)) [] [] (He.ga K "_law_less") fd_law_less
  g_law_less : mg "_law_less" = some (.ref (He.ga K "_law_less"))
  b_law_less : Binds K fd_law_less ["_law_one_so", "_law_two_so"] []
  fd_law_most : FuncData
  F_law_most : FunD K "_law_most" "_law_most" (defArgs (top 26)) (defBody (top 26)) (defScope (top 26)) [] [] (He.ga K "_law_most") fd_law_most
  g_law_most : mg "_law_most" = some (.ref (He.ga K "_law_most"))
  b_law_most : Binds K fd_law_most ["_law_some"] []
  fd_law_houses : FuncData
  F_law_houses : FunD K "_law_houses" "_law_houses" (defArgs (top 27)) (defBody (top 27)) (defScope (top 27)) [] [] (He.ga K "_law_houses") fd_law_houses
  g_law_houses : mg "_law_houses" = some (.ref (He.ga K "_law_houses"))
  b_law_houses : Binds K fd_law_houses ["_law_box_here", "_law_most_so"] []
  fd_law_all_cuts : FuncData
  F_law_all_cuts : FunD K "_law_all_cuts" "_law_all_cuts" (defArgs (top 28)) (defBody (top 28)) (defScope (top 28)) [] [] (He.ga K "_law_all_cuts") fd_law_all_cuts
  g_law_all_cuts : mg "_law_all_cuts" = some (.ref (He.ga K "_law_all_cuts"))
  b_law_all_cuts : Binds K fd_law_all_cuts ["_law_houses_so"] []
  fd_law_on : FuncData
  F_law_on : FunD K "_law_on" "_law_on" (defArgs (top 29)) (defBody (top 29)) (defScope (top 29)) [] [] (He.ga K "_law_on") fd_law_on
  g_law_on : mg "_law_on" = some (.ref (He.ga K "_law_on"))
  b_law_on : Binds K fd_law_on ["_law_houses_so", "_law_sizes_so", "_law_cut_so"] []
  fd_law_floor : FuncData
  F_law_floor : FunD K "_law_floor" "_law_floor" (defArgs (top 30)) (defBody (top 30)) (defScope (top 30)) [] [] (He.ga K "_law_floor") fd_law_floor
  g_law_floor : mg "_law_floor" = some (.ref (He.ga K "_law_floor"))
  b_law_floor : Binds K fd_law_floor ["_law_houses_so", "_law_told_so", "_law_cut_so"] []
  fd_law_known : FuncData
  F_law_known : FunD K "_law_known" "_law_known" (defArgs (top 31)) (defBody (top 31)) (defScope (top 31)) [] [] (He.ga K "_law_known") fd_law_known
  g_law_known : mg "_law_known" = some (.ref (He.ga K "_law_known"))
  b_law_known : Binds K fd_law_known ["_law_houses_so", "_law_told_so"] []
  fd_law_speeds : FuncData
  F_law_speeds : FunD K "_law_speeds" "_law_speeds" (defArgs (top 32)) (defBody (top 32)) (defScope (top 32)) [] [] (He.ga K "_law_speeds") fd_law_speeds
  g_law_speeds : mg "_law_speeds" = some (.ref (He.ga K "_law_speeds"))
  b_law_speeds : Binds K fd_law_speeds ["_law_box_here", "_law_houses_so"] []
  fd_law_answer : FuncData
  F_law_answer : FunD K "_law_answer" "_law_answer" (defArgs (top 33)) (defBody (top 33)) (defScope (top 33)) [] [] (He.ga K "_law_answer") fd_law_answer
  g_law_answer : mg "_law_answer" = some (.ref (He.ga K "_law_answer"))
  b_law_answer : Binds K fd_law_answer ["_law_houses_so", "_law_speeds_so", "_law_sizes_so"] []
  fd_law_told : FuncData
  F_law_told : FunD K "_law_told" "_law_told" (defArgs (top 34)) (defBody (top 34)) (defScope (top 34)) [] [] (He.ga K "_law_told") fd_law_told
  g_law_told : mg "_law_told" = some (.ref (He.ga K "_law_told"))
  b_law_told : Binds K fd_law_told ["_law_host", "_law_sizes_so", "_law_time_so", "_law_cut_so"] []
  fd_law_back : FuncData
  F_law_back : FunD K "_law_back" "_law_back" (defArgs (top 35)) (defBody (top 35)) (defScope (top 35)) [] [] (He.ga K "_law_back") fd_law_back
  g_law_back : mg "_law_back" = some (.ref (He.ga K "_law_back"))
  b_law_back : Binds K fd_law_back ["_law_host"] []
  fd_law_fits : FuncData
  F_law_fits : FunD K "_law_fits" "_law_fits" (defArgs (top 36)) (defBody (top 36)) (defScope (top 36)) [] [] (He.ga K "_law_fits") fd_law_fits
  g_law_fits : mg "_law_fits" = some (.ref (He.ga K "_law_fits"))
  b_law_fits : Binds K fd_law_fits ["_law_houses_so", "_law_told_so"] []
  fd_law_state : FuncData
  F_law_state : FunD K "_law_state" "_law_state" (defArgs (top 37)) (defBody (top 37)) (defScope (top 37)) [] [] (He.ga K "_law_state") fd_law_state
  g_law_state : mg "_law_state" = some (.ref (He.ga K "_law_state"))
  b_law_state : Binds K fd_law_state ["_law_host"] []
  fd_law_due : FuncData
  F_law_due : FunD K "_law_due" "_law_due" (defArgs (top 38)) (defBody (top 38)) (defScope (top 38)) [] [] (He.ga K "_law_due") fd_law_due
  g_law_due : mg "_law_due" = some (.ref (He.ga K "_law_due"))
  b_law_due : Binds K fd_law_due ["_law_houses_so", "_law_told_so"] []
  fd_law_tries : FuncData
  F_law_tries : FunD K "_law_tries" "_law_tries" (defArgs (top 39)) (defBody (top 39)) (defScope (top 39)) [] [] (He.ga K "_law_tries") fd_law_tries
  g_law_tries : mg "_law_tries" = some (.ref (He.ga K "_law_tries"))
  b_law_tries : Binds K fd_law_tries ["_law_box_here", "_law_houses_so", "_law_speeds_so"] []
  fd_law_by_hand_right : FuncData
  F_law_by_hand_right : FunD K "_law_by_hand_right" "_law_by_hand_right" (defArgs (top 40)) (defBody (top 40)) (defScope (top 40)) [] [] (He.ga K "_law_by_hand_right") fd_law_by_hand_right
  g_law_by_hand_right : mg "_law_by_hand_right" = some (.ref (He.ga K "_law_by_hand_right"))
  b_law_by_hand_right : Binds K fd_law_by_hand_right [] []
  fd_law_right : FuncData
  F_law_right : FunD K "_law_right" "_law_right" (defArgs (top 41)) (defBody (top 41)) (defScope (top 41)) [] [] (He.ga K "_law_right") fd_law_right
  g_law_right : mg "_law_right" = some (.ref (He.ga K "_law_right"))
  b_law_right : Binds K fd_law_right ["_law_box_here"] []
  fd_law : FuncData
  F_law : FunD K "law" "law" (defArgs (top 42)) (defBody (top 42)) (defScope (top 42)) [] [] (He.ga K "law") fd_law
  g_law : mg "law" = some (.ref (He.ga K "law"))
  b_law : Binds K fd_law ["_law_script"] []
section
variable {P : Program} {w : World} {K : PySem.W.Frag} {mg : Str → Option Value} {base : Heap}
theorem sc_tupled : FnScope ["value", "part"] ["value"] (defScope (top 6)) := ⟨rfl, rfl, rfl, by decide +kernel, rfl, by decide +kernel, by decide +kernel⟩
def m_tupled : Nat → D → Rs D
  | 0, _ => Rs.no
  | n + 1, a_value => ((Rs.of (isiD2 "list" "tuple" a_value)).bind fun x0 => Rs.of (asB x0)).bind fun k => if k then (((Rs.of (itemsD a_value)).bind fun l2 => compM some (fun y1 => Rs.ok true) (fun y1 => m_tupled n y1) l2).bind fun l3 => Rs.ok (.lst l3)).bind fun x4 => Rs.of (tupleD [x4]) else (Rs.ok a_value)
theorem k_tupled (T : Txt K mg) : ∀ n : Nat, Keeps P w K mg base (n + 2) (He.ga K "tupled") T.fd_tupled ["value"] (fun ds => match ds with | [a_value] => m_tupled n a_value | _ => Rs.no)
  | 0 => keeps_no T.F_tupled sc_tupled (fun ds => by split <;> first | rfl | (simp only [m_tupled]))
  | n + 1 => by
    have ih := k_tupled T n
    exact keeps_ret T.F_tupled sc_tupled (fun cdv A outer s H E F ds hl hr => match ds, hl with | [a_value], _ => bi_as [some (.val a_value), none] (bi_ret (ev_if (tv_val (ev_isi2 T.f_isinstance T.f_list boot_list T.f_tuple boot_tuple kitT_list kitT_tuple (EV.o (ev_var (i := 0) (d := a_value) rfl (pv 0))))) (ev_callTyC call_tuple_of tupleD_ok T.f_tuple boot_tuple (oc_cons (EV.o (EF.ev (ef_comp rfl sc_tupled.nd (it_seqV (ev_var (i := 0) (d := a_value) rfl (pv 0))) (blkOk_by (own := [("part", 1)]) (by kernel_rfl)) (by decide) (fun _ _ _ _ _ => tt_name (i := 1) sc_tupled.nd) (fun _ _ _ _ _ y1 => tvs_nil) (fun _ _ _ _ _ y1 => (ev_callC takes0N ih (hr.mono (by omega)) T.g_tupled T.F_tupled.kp T.b_tupled (ac_consV (ev_var (i := 1) (d := y1) rfl (pv 1)) ac_nil)))))) oc_nil)) (ev_var (i := 0) (d := a_value) rfl (pv 0)))) rfl rfl)
end
end LW
set_option Elab.async false
set_option linter.all false
set_option maxRecDepth 100000
set_option autoImplicit false
set_option pp.maxSteps 400
set_option maxHeartbeats 8000000
namespace LW
open PySem PySem.Spec L2 VL
open PyProof.Rows hiding St
section
variable {P : Program} {w : World} {K : PySem.W.Frag} {mg : Str → Option Value} {base : Heap}
theorem sc_common_part : FnScope ["one", "other"] ["one", "other"] (defScope (top 9)) := ⟨rfl, rfl, rfl, by decide +kernel, rfl, by decide +kernel, by decide +kernel⟩
def m_common_part (a_one a_other : D) : Rs D := (whileN (fun z0 => Rs.of (neB z0.2 (.int 0))) (fun z0 => (Rs.of (modD z0.1 z0.2)).bind fun d2 => Rs.ok (z0.2, d2)) FUEL (a_one, a_other)).bind fun z0 => Rs.of (absD [z0.1])
theorem k_common_part (T : Txt K mg) : Keeps P w K mg base 2 (He.ga K "common_part") T.fd_common_part ["one", "other"] (fun ds => match ds with | [a_one, a_other] => m_common_part a_one a_other | _ => Rs.no) :=
  keeps_ret T.F_common_part sc_common_part (fun cdv A outer s H E F ds hl hr => match ds, hl with | [a_one, a_other], _ => bi_as [some (.val a_one), some (.val a_other)] (bi_while (post := fun (z0 : D × D) => [some (.val z0.1), some (.val z0.2)]) (z0 := (a_one, a_other)) FUEL (passes_of rfl) (Wk.keep (Wk.keep Wk.nil)) (fun z0 => (tv_cmp2 (op_neA hr.units) neD_ok neD_is (EV.o (ev_var (i := 1) (d := z0.2) rfl (pv 1))) (EV.o ev_int) (nomark _))) (fun z0 => (bi_par (i := 0) (j := 1) rfl sc_common_part.nd (ev_var (i := 1) (d := z0.2) rfl (pv 1)) (ev_bin2 op_modN modD_ok (EV.o (ev_var (i := 0) (d := z0.1) rfl (pv 0))) (EV.o (ev_var (i := 1) (d := z0.2) rfl (pv 1)))) (fun d1 d2 => (bi_nil (z := (d1, d2)) (Wk.keep (Wk.keep Wk.nil))))))  (fun z0 => (bi_ret (ev_callBC call_abs absD_ok T.f_abs boot_abs (oc_consV (EV.o (ev_var (i := 0) (d := z0.1) rfl (pv 0))) oc_nil))))) rfl rfl)
end
end LW
set_option Elab.async false
set_option linter.all false
set_option maxRecDepth 100000
set_option autoImplicit false
set_option pp.maxSteps 400
set_option maxHeartbeats 8000000
namespace LW
open PySem PySem.Spec L2 VL
open PyProof.Rows hiding St
section
variable {P : Program} {w : World} {K : PySem.W.Frag} {mg : Str → Option Value} {base : Heap}
theorem sc_fraction : FnScope ["top", "bottom", "part"] ["top", "bottom"] (defScope (top 10)) := ⟨rfl, rfl, rfl, by decide +kernel, rfl, by decide +kernel, by decide +kernel⟩
def m_fraction (a_top a_bottom : D) : Rs D := (m_common_part a_top a_bottom).bind fun d0 => ((Rs.of (ltB a_bottom (.int 0))).bind fun k => if k then (Rs.of (negD d0)).bind fun d2 => Rs.ok d2 else Rs.ok d0).bind fun z1 => (Rs.of (fdivD a_top z1)).bind fun x3 => (Rs.of (fdivD a_bottom z1)).bind fun x4 => Rs.ok (.tup [x3, x4])
theorem k_fraction (T : Txt K mg) : Keeps P w K mg base 4 (He.ga K "fraction") T.fd_fraction ["top", "bottom"] (fun ds => match ds with | [a_top, a_bottom] => m_fraction a_top a_bottom | _ => Rs.no) :=
  keeps_ret T.F_fraction sc_fraction (fun cdv A outer s H E F ds hl hr => match ds, hl with | [a_top, a_bottom], _ => bi_as [some (.val a_top), some (.val a_bottom), none] (bi_set (as_ev (i := 2) sc_fraction.nd (ev_callC (L2N.takes_of rfl rfl rfl rfl) (k_common_part T) (hr.mono (by decide)) T.g_common_part T.F_common_part.kp T.b_common_part (ac_consV (ev_var (i := 0) (d := a_top) rfl (pv 0)) (ac_consV (ev_var (i := 1) (d := a_bottom) rfl (pv 1)) ac_nil)))) (fun d0 => (bi_if (p1 := fun (z1 : D) => [some (.val a_top), some (.val a_bottom), some (.val z1)]) (tv_cmp2 (op_ltA hr.units) ltD_ok ltD_is (EV.o (ev_var (i := 1) (d := a_bottom) rfl (pv 1))) (EV.o ev_int) (nomark _)) (bi_set (as_ev (i := 2) sc_fraction.nd (ev_un un_neg negD_ok (EV.o (ev_var (i := 2) (d := d0) rfl (pv 2))))) (fun d2 => (bi_nil (z := d2) (Wk.keep (Wk.keep (Wk.keep Wk.nil)))))) (bi_nil (z := d0) (Wk.keep (Wk.keep (Wk.keep Wk.nil)))) (fun z1 => (bi_ret (ev_tupC (ac_cons (ev_bin2 op_fdivB fdivD_ok (EV.o (ev_var (i := 0) (d := a_top) rfl (pv 0))) (EV.o (ev_var (i := 2) (d := z1) rfl (pv 2)))) (ac_cons (ev_bin2 op_fdivB fdivD_ok (EV.o (ev_var (i := 1) (d := a_bottom) rfl (pv 1))) (EV.o (ev_var (i := 2) (d := z1) rfl (pv 2)))) ac_nil)))))))) rfl rfl)
end
end LW
set_option Elab.async false
set_option linter.all false
set_option maxRecDepth 100000
set_option autoImplicit false
set_option pp.maxSteps 400
set_option maxHeartbeats 8000000
namespace LW
open PySem PySem.Spec L2 VL
open PyProof.Rows hiding St
section
variable {P : Program} {w : World} {K : PySem.W.Frag} {mg : Str → Option Value} {base : Heap}
theorem sc_over : FnScope ["one", "other"] ["one", "other"] (defScope (top 11)) := ⟨rfl, rfl, rfl, by decide +kernel, rfl, by decide +kernel, by decide +kernel⟩
def m_over (a_one a_other : D) : Rs D := ((Rs.of (idxD a_one (.int 0))).bind fun x0 => (Rs.of (idxD a_other (.int 1))).bind fun x1 => Rs.of (mulD x0 x1)).bind fun x4 => ((Rs.of (idxD a_one (.int 1))).bind fun x2 => (Rs.of (idxD a_other (.int 0))).bind fun x3 => Rs.of (mulD x2 x3)).bind fun x5 => m_fraction x4 x5
theorem k_over (T : Txt K mg) : Keeps P w K mg base 6 (He.ga K "over") T.fd_over ["one", "other"] (fun ds => match ds with | [a_one, a_other] => m_over a_one a_other | _ => Rs.no) :=
  keeps_ret T.F_over sc_over (fun cdv A outer s H E F ds hl hr => match ds, hl with | [a_one, a_other], _ => bi_as [some (.val a_one), some (.val a_other)] (bi_ret (ev_callC (L2N.takes_of rfl rfl rfl rfl) (k_fraction T) (hr.mono (by decide)) T.g_fraction T.F_fraction.kp T.b_fraction (ac_cons (ev_bin op_mulD mulD_ok (EV.o (ev_ix2 ix_D idxD_ok (EV.o (ev_var (i := 0) (d := a_one) rfl (pv 0))) (EV.o ev_int) (fun _ _ => rfl))) (EV.o (ev_ix2 ix_D idxD_ok (EV.o (ev_var (i := 1) (d := a_other) rfl (pv 1))) (EV.o ev_int) (fun _ _ => rfl)))) (ac_cons (ev_bin op_mulD mulD_ok (EV.o (ev_ix2 ix_D idxD_ok (EV.o (ev_var (i := 0) (d := a_one) rfl (pv 0))) (EV.o ev_int) (fun _ _ => rfl))) (EV.o (ev_ix2 ix_D idxD_ok (EV.o (ev_var (i := 1) (d := a_other) rfl (pv 1))) (EV.o ev_int) (fun _ _ => rfl)))) ac_nil)))) rfl rfl)
end
end LW
set_option Elab.async false
set_option linter.all false
set_option maxRecDepth 100000
set_option autoImplicit false
set_option pp.maxSteps 400
set_option maxHeartbeats 8000000
namespace LW
open PySem PySem.Spec L2 VL
open PyProof.Rows hiding St
section
variable {P : Program} {w : World} {K : PySem.W.Frag} {mg : Str → Option Value} {base : Heap}
theorem sc_is_less : FnScope ["one", "other"] ["one", "other"] (defScope (top 12)) := ⟨rfl, rfl, rfl, by decide +kernel, rfl, by decide +kernel, by decide +kernel⟩
def m_is_less (a_one a_other : D) : Rs D := ((Rs.of (idxD a_one (.int 0))).bind fun x0 => (Rs.of (idxD a_other (.int 1))).bind fun x1 => Rs.of (mulD x0 x1)).bind fun x4 => ((Rs.of (idxD a_other (.int 0))).bind fun x2 => (Rs.of (idxD a_one (.int 1))).bind fun x3 => Rs.of (mulD x2 x3)).bind fun x5 => Rs.of (ltD x4 x5)
theorem k_is_less (T : Txt K mg) : Keeps P w K mg base 2 (He.ga K "is_less") T.fd_is_less ["one", "other"] (fun ds => match ds with | [a_one, a_other] => m_is_less a_one a_other | _ => Rs.no) :=
  keeps_ret T.F_is_less sc_is_less (fun cdv A outer s H E F ds hl hr => match ds, hl with | [a_one, a_other], _ => bi_as [some (.val a_one), some (.val a_other)] (bi_ret (ev_cmp (op_ltA hr.units) ltD_ok (EV.o (ev_bin op_mulD mulD_ok (EV.o (ev_ix2 ix_D idxD_ok (EV.o (ev_var (i := 0) (d := a_one) rfl (pv 0))) (EV.o ev_int) (fun _ _ => rfl))) (EV.o (ev_ix2 ix_D idxD_ok (EV.o (ev_var (i := 1) (d := a_other) rfl (pv 1))) (EV.o ev_int) (fun _ _ => rfl))))) (EV.o (ev_bin op_mulD mulD_ok (EV.o (ev_ix2 ix_D idxD_ok (EV.o (ev_var (i := 1) (d := a_other) rfl (pv 1))) (EV.o ev_int) (fun _ _ => rfl))) (EV.o (ev_ix2 ix_D idxD_ok (EV.o (ev_var (i := 0) (d := a_one) rfl (pv 0))) (EV.o ev_int) (fun _ _ => rfl))))) (nomark _))) rfl rfl)
end
end LW
set_option Elab.async false
set_option linter.all false
set_option maxRecDepth 100000
set_option autoImplicit false
set_option pp.maxSteps 400
set_option maxHeartbeats 8000000
namespace LW
open PySem PySem.Spec L2 VL
open PyProof.Rows hiding St
section
variable {P : Program} {w : World} {K : PySem.W.Frag} {mg : Str → Option Value} {base : Heap}
theorem sc_greater : FnScope ["one", "other"] ["one", "other"] (defScope (top 13)) := ⟨rfl, rfl, rfl, by decide +kernel, rfl, by decide +kernel, by decide +kernel⟩
def m_greater (a_one a_other : D) : Rs D := ((m_is_less a_one a_other).bind fun x0 => Rs.of (asB x0)).bind fun k => if k then Rs.of (tupleD [a_other]) else Rs.of (tupleD [a_one])
theorem k_greater (T : Txt K mg) : Keeps P w K mg base 4 (He.ga K "greater") T.fd_greater ["one", "other"] (fun ds => match ds with | [a_one, a_other] => m_greater a_one a_other | _ => Rs.no) :=
  keeps_ret T.F_greater sc_greater (fun cdv A outer s H E F ds hl hr => match ds, hl with | [a_one, a_other], _ => bi_as [some (.val a_one), some (.val a_other)] (bi_ret (ev_if (tv_val (ev_callC (L2N.takes_of rfl rfl rfl rfl) (k_is_less T) (hr.mono (by decide)) T.g_is_less T.F_is_less.kp T.b_is_less (ac_consV (ev_var (i := 0) (d := a_one) rfl (pv 0)) (ac_consV (ev_var (i := 1) (d := a_other) rfl (pv 1)) ac_nil)))) (ev_callTyC call_tuple_of tupleD_ok T.f_tuple boot_tuple (oc_consV (EV.o (ev_var (i := 1) (d := a_other) rfl (pv 1))) oc_nil)) (ev_callTyC call_tuple_of tupleD_ok T.f_tuple boot_tuple (oc_consV (EV.o (ev_var (i := 0) (d := a_one) rfl (pv 0))) oc_nil)))) rfl rfl)
end
end LW
set_option Elab.async false
set_option linter.all false
set_option maxRecDepth 100000
set_option autoImplicit false
set_option pp.maxSteps 400
set_option maxHeartbeats 8000000
namespace LW
open PySem PySem.Spec L2 VL
open PyProof.Rows hiding St
section
variable {P : Program} {w : World} {K : PySem.W.Frag} {mg : Str → Option Value} {base : Heap}
theorem sc_size_on : FnScope ["houses", "sizes", "cut", "house", "size"] ["houses", "sizes", "cut"] (defScope (top 15)) := ⟨rfl, rfl, rfl, by decide +kernel, rfl, by decide +kernel, by decide +kernel⟩
def m_size_on (a_houses a_sizes a_cut : D) : Rs D := (((Rs.of (zipD a_houses a_sizes)).bind fun l1 => compM un2 (fun y0 => Rs.of (inB y0.1 a_cut)) (fun y0 => (Rs.ok y0.2)) l1).bind fun l2 => Rs.ok (.lst l2)).bind fun x3 => Rs.of (sumD [x3])
theorem k_size_on (T : Txt K mg) : Keeps P w K mg base 2 (He.ga K "size_on") T.fd_size_on ["houses", "sizes", "cut"] (fun ds => match ds with | [a_houses, a_sizes, a_cut] => m_size_on a_houses a_sizes a_cut | _ => Rs.no) :=
  keeps_ret T.F_size_on sc_size_on (fun cdv A outer s H E F ds hl hr => match ds, hl with | [a_houses, a_sizes, a_cut], _ => bi_as [some (.val a_houses), some (.val a_sizes), some (.val a_cut), none, none] (bi_ret (ev_callBC (call_sumA rfl) sumD_ok T.f_sum boot_sum (oc_cons (EV.o (EF.ev (ef_comp rfl sc_size_on.nd (it_zip rfl T.f_zip (ev_var (i := 0) (d := a_houses) rfl (pv 0)) (ev_var (i := 1) (d := a_sizes) rfl (pv 1))) (blkOk_by (own := [("house", 3), ("size", 4)]) (by kernel_rfl)) (by decide) (fun _ _ _ _ _ => tt_2 (i := 3) rfl (pg_name (i := 3) sc_size_on.nd rfl (by first | exact Or.inl rfl | exact Or.inr rfl)) (pg_name (i := 4) sc_size_on.nd rfl (by first | exact Or.inl rfl | exact Or.inr rfl))) (fun _ _ _ _ _ y0 => (tvs_one (tv_cmp2 (op_inA hr) inD_ok inD_is (EV.o (ev_var (i := 3) (d := y0.1) rfl (pv 3))) (EV.o (ev_var (i := 2) (d := a_cut) rfl (pv 2))) rfl))) (fun _ _ _ _ _ y0 => (ev_var (i := 4) (d := y0.2) rfl (pv 4)))))) oc_nil))) rfl rfl)
end
end LW
set_option Elab.async false
set_option linter.all false
set_option maxRecDepth 100000
set_option autoImplicit false
set_option pp.maxSteps 400
set_option maxHeartbeats 8000000
namespace LW
open PySem PySem.Spec L2 VL
open PyProof.Rows hiding St
section
variable {P : Program} {w : World} {K : PySem.W.Frag} {mg : Str → Option Value} {base : Heap}
theorem sc_Survey_init : FnScope ["self", "houses"] ["self", "houses"] (defScope (sub (top 16) 1)) := ⟨rfl, rfl, rfl, by decide +kernel, rfl, by decide +kernel, by decide +kernel⟩
def m_Survey_init (a_houses : D) : Rs D := (m_tupled 14 a_houses).bind fun d1 => ((Rs.ok (.tup []))).bind fun d2 => Rs.ok (.obj "Survey" [d1, d2])
theorem k_Survey_init (T : Txt K mg) : KeepsI P w K mg base 18 "Survey" (He.ma K (He.ga K "Survey") "__init__") T.fd_Survey_init ["self", "houses"] (fun ds => match ds with | [a_houses] => m_Survey_init a_houses | _ => Rs.no) :=
  keeps_init2 (m1 := fun ds => match ds with | [a_houses] => m_tupled 14 a_houses | _ => Rs.no) (m2 := fun ds => match ds with | [a_houses] => (Rs.ok (.tup [])) | _ => Rs.no) T.F_Survey_init sc_Survey_init rfl T.sc_Survey T.sl_Survey_own_houses T.sl_Survey_own_told
    (fun ds => by match ds with | [a_houses] => rfl | [] | _ :: _ :: _ => rfl)
    (fun cdv A outer s H E ds hl hr => match ds, hl with | [a_houses], _ => ⟨fun F => ev_as [none, some (.val a_houses)] (ev_callC (L2N.takes_of rfl rfl rfl rfl) (k_tupled T 14) (hr.mono (by decide)) T.g_tupled T.F_tupled.kp T.b_tupled (ac_consV (ev_var (i := 1) (d := a_houses) rfl (pv 1)) ac_nil)) rfl rfl, fun F => ev_as [none, some (.val a_houses)] (ev_tupC ac_nil) rfl rfl, ⟨rfl, pv 0, pv 0, rfl, rfl, rfl, rfl, rfl, rfl, rfl, rfl, rfl⟩⟩)
end
end LW
set_option Elab.async false
set_option linter.all false
set_option maxRecDepth 100000
set_option autoImplicit false
set_option pp.maxSteps 400
set_option maxHeartbeats 8000000
namespace LW
open PySem PySem.Spec L2 VL
open PyProof.Rows hiding St
section
variable {P : Program} {w : World} {K : PySem.W.Frag} {mg : Str → Option Value} {base : Heap}
theorem sc_Survey_houses : FnScope ["self"] ["self"] (defScope (sub (top 16) 2)) := ⟨rfl, rfl, rfl, by decide +kernel, rfl, by decide +kernel, by decide +kernel⟩
def m_Survey_houses (a_self : D) : Rs D := Rs.of (fldD "Survey" 0 a_self)
theorem k_Survey_houses (T : Txt K mg) : Keeps P w K mg base 2 (recA K (He.ga K "Survey") "property" "houses") T.fd_Survey_houses ["self"] (fun ds => match ds with | [a_self] => m_Survey_houses a_self | _ => Rs.no) :=
  keeps_ret T.F_Survey_houses sc_Survey_houses (fun cdv A outer s H E F ds hl hr => match ds, hl with | [a_self], _ => bi_as [some (.val a_self)] (bi_ret (ev_fld T.sc_Survey T.sl_Survey_own_houses (EV.o (ev_var (i := 0) (d := a_self) rfl (pv 0))))) rfl rfl)
end
end LW
set_option Elab.async false
set_option linter.all false
set_option maxRecDepth 100000
set_option autoImplicit false
set_option pp.maxSteps 400
set_option maxHeartbeats 8000000
namespace LW
open PySem PySem.Spec L2 VL
open PyProof.Rows hiding St
section
variable {P : Program} {w : World} {K : PySem.W.Frag} {mg : Str → Option Value} {base : Heap}
theorem sc_Survey_told : FnScope ["self"] ["self"] (defScope (sub (top 16) 3)) := ⟨rfl, rfl, rfl, by decide +kernel, rfl, by decide +kernel, by decide +kernel⟩
def m_Survey_told (a_self : D) : Rs D := Rs.of (fldD "Survey" 1 a_self)
theorem k_Survey_told (T : Txt K mg) : Keeps P w K mg base 2 (recA K (He.ga K "Survey") "property" "told") T.fd_Survey_told ["self"] (fun ds => match ds with | [a_self] => m_Survey_told a_self | _ => Rs.no) :=
  keeps_ret T.F_Survey_told sc_Survey_told (fun cdv A outer s H E F ds hl hr => match ds, hl with | [a_self], _ => bi_as [some (.val a_self)] (bi_ret (ev_fld T.sc_Survey T.sl_Survey_own_told (EV.o (ev_var (i := 0) (d := a_self) rfl (pv 0))))) rfl rfl)
end
end LW
set_option Elab.async false
set_option linter.all false
set_option maxRecDepth 100000
set_option autoImplicit false
set_option pp.maxSteps 400
set_option maxHeartbeats 8000000
namespace LW
open PySem PySem.Spec L2 VL
open PyProof.Rows hiding St
section
variable {P : Program} {w : World} {K : PySem.W.Frag} {mg : Str → Option Value} {base : Heap}
theorem sc_Survey_len : FnScope ["self"] ["self"] (defScope (sub (top 16) 4)) := ⟨rfl, rfl, rfl, by decide +kernel, rfl, by decide +kernel, by decide +kernel⟩
def m_Survey_len (a_self : D) : Rs D := (Rs.of (fldD "Survey" 1 a_self)).bind fun x0 => Rs.of (lenD [x0])
theorem k_Survey_len (T : Txt K mg) : Keeps P w K mg base 2 (He.ma K (He.ga K "Survey") "__len__") T.fd_Survey_len ["self"] (fun ds => match ds with | [a_self] => m_Survey_len a_self | _ => Rs.no) :=
  keeps_ret T.F_Survey_len sc_Survey_len (fun cdv A outer s H E F ds hl hr => match ds, hl with | [a_self], _ => bi_as [some (.val a_self)] (bi_ret (ev_callBC call_len lenD_ok T.f_len boot_len (oc_cons (EV.o (ev_fld T.sc_Survey T.sl_Survey_own_told (EV.o (ev_var (i := 0) (d := a_self) rfl (pv 0))))) oc_nil))) rfl rfl)
end
end LW
set_option Elab.async false
set_option linter.all false
set_option maxRecDepth 100000
set_option autoImplicit false
set_option pp.maxSteps 400
set_option maxHeartbeats 8000000
namespace LW
open PySem PySem.Spec L2 VL
open PyProof.Rows hiding St
section
variable {P : Program} {w : World} {K : PySem.W.Frag} {mg : Str → Option Value} {base : Heap}
theorem sc_Survey_eq : FnScope ["self", "other"] ["self", "other"] (defScope (sub (top 16) 6)) := ⟨rfl, rfl, rfl, by decide +kernel, rfl, by decide +kernel, by decide +kernel⟩
def m_Survey_eq (a_self a_other : D) : Rs D := (((Rs.of (isoT "Survey" a_other)).bind fun x0 => Rs.of (asB x0)).bind fun k => Rs.ok (!k)).bind fun k => if k then (Rs.ok (.bl false)) else ((Rs.of (fldD "Survey" 0 a_self)).bind fun x1 => (Rs.of (fldD "Survey" 1 a_self)).bind fun x2 => Rs.ok (.tup [x1, x2])).bind fun x5 => ((Rs.of (fldD "Survey" 0 a_other)).bind fun x3 => (Rs.of (fldD "Survey" 1 a_other)).bind fun x4 => Rs.ok (.tup [x3, x4])).bind fun x6 => Rs.of (eqD x5 x6)
theorem k_Survey_eq (T : Txt K mg) : Keeps P w K mg base 4 (He.ma K (He.ga K "Survey") "__eq__") T.fd_Survey_eq ["self", "other"] (fun ds => match ds with | [a_self, a_other] => m_Survey_eq a_self a_other | _ => Rs.no) :=
  keeps_ret T.F_Survey_eq sc_Survey_eq (fun cdv A outer s H E F ds hl hr => match ds, hl with | [a_self, a_other], _ => bi_as [some (.val a_self), some (.val a_other)] (bi_ifr (tv_not (tv_val (EV.to (Rs.of (isoT "Survey" a_other)) (ev_isT T.f_isinstance (pe_glob rfl T.g_Survey rfl) T.sc_Survey T.oi_Survey T.ot_Survey (ev_var (i := 1) (d := a_other) rfl (pv 1))) rfl))) (bi_ret ev_bl) (bi_ret (ev_cmp (op_eqA hr.units) eqD_ok (EV.o (ev_tupC (ac_cons (ev_fld T.sc_Survey T.sl_Survey_own_houses (EV.o (ev_var (i := 0) (d := a_self) rfl (pv 0)))) (ac_cons (ev_fld T.sc_Survey T.sl_Survey_own_told (EV.o (ev_var (i := 0) (d := a_self) rfl (pv 0)))) ac_nil)))) (EV.o (ev_tupC (ac_cons (ev_propF (i := 0) T.sc_Survey T.pr_Survey_houses (k_Survey_houses T) (fun _ => rfl) T.b_Survey_houses (hr.mono (by decide)) (ev_var (i := 1) (d := a_other) rfl (pv 1))) (ac_cons (ev_propF (i := 1) T.sc_Survey T.pr_Survey_told (k_Survey_told T) (fun _ => rfl) T.b_Survey_told (hr.mono (by decide)) (ev_var (i := 1) (d := a_other) rfl (pv 1))) ac_nil)))) (nomark _)))) rfl rfl)
end
end LW
set_option Elab.async false
set_option linter.all false
set_option maxRecDepth 100000
set_option autoImplicit false
set_option pp.maxSteps 400
set_option maxHeartbeats 8000000
namespace LW
open PySem PySem.Spec L2 VL
open PyProof.Rows hiding St
section
variable {P : Program} {w : World} {K : PySem.W.Frag} {mg : Str → Option Value} {base : Heap}
theorem sc_Survey_known : FnScope ["self", "found", "sizes", "time", "cut"] ["self"] (defScope (sub (top 16) 7)) := ⟨rfl, rfl, rfl, by decide +kernel, rfl, by decide +kernel, by decide +kernel⟩
def m_Survey_known (a_self : D) : Rs D := ((Rs.ok (.dT []))).bind fun d0 => ((Rs.of (fldD "Survey" 1 a_self)).bind fun x9 => Rs.of (itemsD x9)).bind fun l3 => (foldM (fun z1 d => (Rs.of (unL3 d)).bind fun y2 => ((((Rs.of (fldD "Survey" 0 a_self)).bind fun x4 => m_size_on x4 y2.1 y2.2.2).bind fun x5 => Rs.ok (.tup [x5, (.int 1)])).bind fun x6 => m_over x6 y2.2.1).bind fun v => ((Rs.ok y2.2.2)).bind fun k => (Rs.of (dputD z1 k v)).bind fun d7 => Rs.ok d7) l3 d0).bind fun z1 => (Rs.of (sortIt z1)).bind fun x8 => Rs.of (tupleD [x8])
theorem k_Survey_known (T : Txt K mg) : Keeps P w K mg base 8 (He.ma K (He.ga K "Survey") "known") T.fd_Survey_known ["self"] (fun ds => match ds with | [a_self] => m_Survey_known a_self | _ => Rs.no) :=
  keeps_ret T.F_Survey_known sc_Survey_known (fun cdv A outer s H E F ds hl hr => match ds, hl with | [a_self], _ => bi_as [some (.val a_self), none, none, none, none] (bi_newd (i := 1) sc_Survey_known.nd ec_newT (fun d0 => (bi_for (post := fun (z1 : D) => [some (.val a_self), some (.own true z1), none, none, none]) (z0 := d0) (passes_of rfl) rfl (it_seq (ev_fld T.sc_Survey T.sl_Survey_own_told (EV.o (ev_var (i := 0) (d := a_self) rfl (pv 0))))) (Wk.keep (Wk.keep (Wk.drop (Wk.drop (Wk.drop Wk.nil))))) (fun z1 => tl_3 (i := 2) rfl (pg_name (i := 2) sc_Survey_known.nd rfl (by first | exact Or.inl rfl | exact Or.inr rfl)) (pg_name (i := 3) sc_Survey_known.nd rfl (by first | exact Or.inl rfl | exact Or.inr rfl)) (pg_name (i := 4) sc_Survey_known.nd rfl (by first | exact Or.inl rfl | exact Or.inr rfl))) (fun z1 y2 => (bi_dput (i := 1) (l := true) (c := z1) hr.units (pv 1) (ev_callC (L2N.takes_of rfl rfl rfl rfl) (k_over T) (hr.mono (by decide)) T.g_over T.F_over.kp T.b_over (ac_cons (ev_tupC (ac_cons (ev_callC (L2N.takes_of rfl rfl rfl rfl) (k_size_on T) (hr.mono (by decide)) T.g_size_on T.F_size_on.kp T.b_size_on (ac_cons (ev_fld T.sc_Survey T.sl_Survey_own_houses (EV.o (ev_var (i := 0) (d := a_self) rfl (pv 0)))) (ac_consV (ev_var (i := 2) (d := y2.1) rfl (pv 2)) (ac_consV (ev_var (i := 4) (d := y2.2.2) rfl (pv 4)) ac_nil)))) (ac_consV ev_int ac_nil))) (ac_consV (ev_var (i := 3) (d := y2.2.1) rfl (pv 3)) ac_nil))) (ev_var (i := 4) (d := y2.2.2) rfl (pv 4)) (fun d7 => (bi_nil (z := d7) (Wk.keep (Wk.keep (Wk.drop (Wk.drop (Wk.drop Wk.nil))))))))) (fun z1 => (bi_frz 1 (bi_ret (ev_callTyC call_tuple_of tupleD_ok T.f_tuple boot_tuple (oc_cons (EV.o (ev_sortIt hr.units rfl T.f_sorted (ev_var (i := 1) (d := z1) rfl (pv 1)))) oc_nil)))))))) rfl rfl)
end
end LW
set_option Elab.async false
set_option linter.all false
set_option maxRecDepth 100000
set_option autoImplicit false
set_option pp.maxSteps 400
set_option maxHeartbeats 8000000
namespace LW
open PySem PySem.Spec L2 VL
open PyProof.Rows hiding St
section
variable {P : Program} {w : World} {K : PySem.W.Frag} {mg : Str → Option Value} {base : Heap}
theorem sc_Survey_floor_of : FnScope ["self", "cut", "found", "sizes", "time", "own"] ["self", "cut"] (defScope (sub (top 16) 8)) := ⟨rfl, rfl, rfl, by decide +kernel, rfl, by decide +kernel, by decide +kernel⟩
def m_Survey_floor_of (a_self a_cut : D) : Rs D := ((Rs.of (fldD "Survey" 1 a_self)).bind fun x8 => Rs.of (itemsD x8)).bind fun l2 => (foldM (fun z0 d => (Rs.of (unL3 d)).bind fun y1 => (((((Rs.of (fldD "Survey" 0 a_self)).bind fun x3 => m_size_on x3 y1.1 a_cut).bind fun x4 => Rs.ok (.tup [x4, (.int 1)])).bind fun x5 => m_over x5 y1.2.1).bind fun x6 => m_greater z0 x6).bind fun d7 => Rs.ok d7) l2 ((.tup [.int 0, .int 1]) : D)).bind fun z0 => (Rs.ok z0)
theorem k_Survey_floor_of (T : Txt K mg) : Keeps P w K mg base 8 (He.ma K (He.ga K "Survey") "floor_of") T.fd_Survey_floor_of ["self", "cut"] (fun ds => match ds with | [a_self, a_cut] => m_Survey_floor_of a_self a_cut | _ => Rs.no) :=
  keeps_ret T.F_Survey_floor_of sc_Survey_floor_of (fun cdv A outer s H E F ds hl hr => match ds, hl with | [a_self, a_cut], _ => bi_as [some (.val a_self), some (.val a_cut), none, none, none, none] (bi_setV (as_ev (i := 2) sc_Survey_floor_of.nd (ev_glob_tup T.c_NONE T.g_NONE)) (bi_for (post := fun (z0 : D) => [some (.val a_self), some (.val a_cut), some (.val z0), none, none, none]) (z0 := ((.tup [.int 0, .int 1]) : D)) (passes_of rfl) rfl (it_seq (ev_fld T.sc_Survey T.sl_Survey_own_told (EV.o (ev_var (i := 0) (d := a_self) rfl (pv 0))))) (Wk.keep (Wk.keep (Wk.keep (Wk.drop (Wk.drop (Wk.drop Wk.nil)))))) (fun z0 => tl_3 (i := 3) rfl (pg_name (i := 3) sc_Survey_floor_of.nd rfl (by first | exact Or.inl rfl | exact Or.inr rfl)) (pg_name (i := 4) sc_Survey_floor_of.nd rfl (by first | exact Or.inl rfl | exact Or.inr rfl)) (pg_name (i := 5) sc_Survey_floor_of.nd rfl (by first | exact Or.inl rfl | exact Or.inr rfl))) (fun z0 y1 => (bi_set (as_ev (i := 2) sc_Survey_floor_of.nd (ev_callC (L2N.takes_of rfl rfl rfl rfl) (k_greater T) (hr.mono (by decide)) T.g_greater T.F_greater.kp T.b_greater (ac_consV (ev_var (i := 2) (d := z0) rfl (pv 2)) (ac_cons (ev_callC (L2N.takes_of rfl rfl rfl rfl) (k_over T) (hr.mono (by decide)) T.g_over T.F_over.kp T.b_over (ac_cons (ev_tupC (ac_cons (ev_callC (L2N.takes_of rfl rfl rfl rfl) (k_size_on T) (hr.mono (by decide)) T.g_size_on T.F_size_on.kp T.b_size_on (ac_cons (ev_fld T.sc_Survey T.sl_Survey_own_houses (EV.o (ev_var (i := 0) (d := a_self) rfl (pv 0)))) (ac_consV (ev_var (i := 3) (d := y1.1) rfl (pv 3)) (ac_consV (ev_var (i := 1) (d := a_cut) rfl (pv 1)) ac_nil)))) (ac_consV ev_int ac_nil))) (ac_consV (ev_var (i := 4) (d := y1.2.1) rfl (pv 4)) ac_nil))) ac_nil)))) (fun d7 => (bi_nil (z := d7) (Wk.keep (Wk.keep (Wk.keep (Wk.drop (Wk.drop (Wk.drop Wk.nil)))))))))) (fun z0 => (bi_ret (ev_var (i := 2) (d := z0) rfl (pv 2)))))) rfl rfl)
end
end LW
set_option Elab.async false
set_option linter.all false
set_option maxRecDepth 100000
set_option autoImplicit false
set_option pp.maxSteps 400
set_option maxHeartbeats 8000000
namespace LW
open PySem PySem.Spec L2 VL
open PyProof.Rows hiding St
section
variable {P : Program} {w : World} {K : PySem.W.Frag} {mg : Str → Option Value} {base : Heap}
theorem sc_BadAnswer_init : FnScope ["self", "answer"] ["self", "answer"] (defScope (sub (top 3) 0)) := ⟨rfl, rfl, rfl, by decide +kernel, rfl, by decide +kernel, by decide +kernel⟩
theorem k_BadAnswer_init (T : Txt K mg) : FnOk P w K mg base (L2N.CX P w) 1 (He.ma K (He.ga K "BadAnswer") "__init__") T.fd_BadAnswer_init ["self", "answer"] (spX K "BadAnswer" "answer") := keeps_xinit (k := 0) T.F_BadAnswer_init sc_BadAnswer_init rfl (by first | exact Or.inl rfl | exact Or.inr rfl) (by first | exact Or.inl rfl | exact Or.inr rfl) (by decide) (by decide) (by decide) (by decide) T.ox_BadAnswer T.no_BadAnswer
end
end LW
set_option Elab.async false
set_option linter.all false
set_option maxRecDepth 100000
set_option autoImplicit false
set_option pp.maxSteps 400
set_option maxHeartbeats 8000000
namespace LW
open PySem PySem.Spec L2 VL
open PyProof.Rows hiding St
section
variable {P : Program} {w : World} {K : PySem.W.Frag} {mg : Str → Option Value} {base : Heap}
theorem sc_Survey_holds : FnScope ["self", "sizes", "time", "cut"] ["self"] (defScope (sub (top 16) 10)) := ⟨rfl, rfl, rfl, by decide +kernel, rfl, by decide +kernel, by decide +kernel⟩
def m_Survey_holds (a_self : D) : Rs D := ((Rs.of (fldD "Survey" 1 a_self)).bind fun x8 => Rs.of (itemsD x8)).bind fun l2 => (loopM (β := Unit) (fun z0 d => (Rs.of (unL3 d)).bind fun y1 => (((((Rs.of (fldD "Survey" 0 a_self)).bind fun x3 => m_size_on x3 y1.1 y1.2.2).bind fun x4 => Rs.ok (.tup [x4, (.int 1)])).bind fun x5 => m_over x5 y1.2.1).bind fun x6 => (if isObj "Survey" a_self then m_Survey_floor_of a_self y1.2.2 else Rs.no).bind fun x7 => Rs.of (neB x6 x7)).bind fun k => if k then liftF (Rs.ok (.rt (.bl false) [])) else Rs.ok (.nx ())) l2 ()).bind (Fl.toX fun z0 => (Rs.ok (.bl true)))
theorem k_Survey_holds (T : Txt K mg) : Keeps P w K mg base 10 (He.ma K (He.ga K "Survey") "holds") T.fd_Survey_holds ["self"] (fun ds => match ds with | [a_self] => m_Survey_holds a_self | _ => Rs.no) :=
  keeps_ret T.F_Survey_holds sc_Survey_holds (fun cdv A outer s H E F ds hl hr => match ds, hl with | [a_self], _ => bi_as [some (.val a_self), none, none, none] (bi_forX (post := fun (z0 : Unit) => [some (.val a_self), none, none, none]) (z0 := ()) (passes_of rfl) rfl rfl (it_seq (ev_fld T.sc_Survey T.sl_Survey_own_told (EV.o (ev_var (i := 0) (d := a_self) rfl (pv 0))))) (Wk.keep (Wk.drop (Wk.drop (Wk.drop Wk.nil)))) (fun z0 => tl_3 (i := 1) rfl (pg_name (i := 1) sc_Survey_holds.nd rfl (by first | exact Or.inl rfl | exact Or.inr rfl)) (pg_name (i := 2) sc_Survey_holds.nd rfl (by first | exact Or.inl rfl | exact Or.inr rfl)) (pg_name (i := 3) sc_Survey_holds.nd rfl (by first | exact Or.inl rfl | exact Or.inr rfl))) (fun z0 y1 => (bk_ifr (tv_cmp (op_neA hr.units) neD_ok neD_is (EV.o (ev_callC (L2N.takes_of rfl rfl rfl rfl) (k_over T) (hr.mono (by decide)) T.g_over T.F_over.kp T.b_over (ac_cons (ev_tupC (ac_cons (ev_callC (L2N.takes_of rfl rfl rfl rfl) (k_size_on T) (hr.mono (by decide)) T.g_size_on T.F_size_on.kp T.b_size_on (ac_cons (ev_fld T.sc_Survey T.sl_Survey_own_houses (EV.o (ev_var (i := 0) (d := a_self) rfl (pv 0)))) (ac_consV (ev_var (i := 1) (d := y1.1) rfl (pv 1)) (ac_consV (ev_var (i := 3) (d := y1.2.2) rfl (pv 3)) ac_nil)))) (ac_consV ev_int ac_nil))) (ac_consV (ev_var (i := 2) (d := y1.2.1) rfl (pv 2)) ac_nil)))) (EV.o (EV.to (if isObj "Survey" a_self then m_Survey_floor_of a_self y1.2.2 else Rs.no) (ev_methC (L2N.takes_of rfl rfl rfl rfl) T.sc_Survey T.mt_Survey_floor_of (k_Survey_floor_of T) (hr.mono (by decide)) T.b_Survey_floor_of (ev_var (i := 0) (d := a_self) rfl (pv 0)) (ac_consV (ev_var (i := 3) (d := y1.2.2) rfl (pv 3)) ac_nil)) rfl)) (nomark _)) (bk_ret ev_bl) (bk_nil (z := ()) (Wk.keep (Wk.drop (Wk.drop (Wk.drop Wk.nil))))))) (fun z0 => (bi_ret ev_bl))) rfl rfl)
end
end LW
set_option Elab.async false
set_option linter.all false
set_option maxRecDepth 100000
set_option autoImplicit false
set_option pp.maxSteps 400
set_option maxHeartbeats 8000000
namespace LW
open PySem PySem.Spec L2 VL
open PyProof.Rows hiding St
section
variable {P : Program} {w : World} {K : PySem.W.Frag} {mg : Str → Option Value} {base : Heap}
theorem sc_Survey_tell : FnScope ["self", "sizes", "time", "cut", "later", "own"] ["self", "sizes", "time", "cut"] (defScope (sub (top 16) 9)) := ⟨rfl, rfl, rfl, by decide +kernel, rfl, by decide +kernel, by decide +kernel⟩
def m_Survey_tell_n (a_self : List D) (a_sizes a_time a_cut : D) : Rs (List D) := ((shedN ((Rs.of (fldD "Survey" 0 (.obj "Survey" a_self))).bind fun x0 => madeR "Survey" (m_Survey_init x0)))).bind fun d4 => ((m_tupled 14 a_sizes).bind fun x1 => (m_tupled 14 a_time).bind fun x2 => (m_tupled 14 a_cut).bind fun x3 => Rs.ok (.tup [x1, x2, x3])).bind fun d5 => ((shedR ((Rs.of (fldD "Survey" 1 (.obj "Survey" a_self))).bind fun x7 => (Rs.of (seqD x7)).bind fun l6 => Rs.of (tupR (l6 ++ (d5 :: [])))))).bind fun d => (Rs.of (setSl 1 d4 d)).bind fun o8 => (((shedB (shedB ((((Rs.of (fldD "Survey" 0 (.obj "Survey" a_self))).bind fun x9 => (Rs.of (idxD d5 (.int 0))).bind fun x10 => (Rs.of (idxD d5 (.int 2))).bind fun x11 => m_size_on x9 x10 x11).bind fun x12 => Rs.of (eqB x12 (.int 0))).bind fun k => if k then Rs.ok true else ((if isObj "Survey" (.obj "Survey" o8) then m_Survey_holds (.obj "Survey" o8) else Rs.no).bind fun x13 => Rs.of (asB x13)).bind fun k => Rs.ok (!k))))).bind fun k => if k then (Rs.of (sliceD d5 (some 1) none)).bind fun x14 => Rs.ex "BadAnswer" [("answer", x14)] else Rs.ok ()).bind fun _ => ((shedR (Rs.of (fldD "Survey" 1 (.obj "Survey" o8))))).bind fun d => (Rs.of (setSl 1 a_self d)).bind fun o16 => Rs.ok o16
def m_Survey_tell (a_self : List D) (a_sizes a_time a_cut : D) : Rs (D × List D) := (m_Survey_tell_n a_self a_sizes a_time a_cut).bind fun s => Rs.ok (.non, s)
theorem k_Survey_tell (T : Txt K mg) : KeepsMO P w K mg base 20 "Survey" (He.ma K (He.ga K "Survey") "tell") T.fd_Survey_tell ["self", "sizes", "time", "cut"] (fun a_self ds => match ds with | [a_sizes, a_time, a_cut] => m_Survey_tell a_self a_sizes a_time a_cut | _ => Rs.no) :=
  keeps_mo_eq (keeps_mo0 (m := fun a_self ds => match ds with | [a_sizes, a_time, a_cut] => m_Survey_tell_n a_self a_sizes a_time a_cut | _ => Rs.no) T.F_Survey_tell sc_Survey_tell (fun cdv A outer s H E F b a_self ds hl hr => match ds, hl with | [a_sizes, a_time, a_cut], _ => bi_as [some (.own false (.obj "Survey" a_self)), some (.val a_sizes), some (.val a_time), some (.val a_cut), none, none] (bi_parC (i := 4) (j := 5) rfl sc_Survey_tell.nd (ENo.ec (eno_lend (i := 0) rfl (eno_make T.mk_Survey (k_Survey_init T) (hr.mono (by decide)) T.g_Survey T.b_Survey_init .nil (fun _ => .nil) (ac_cons (ev_fld T.sc_Survey T.sl_Survey_own_houses (EV.o (ev_var (i := 0) (d := (.obj "Survey" a_self)) rfl (pv 0)))) ac_nil)))) (EV.ec (ev_tupC (ac_cons (ev_callC (L2N.takes_of rfl rfl rfl rfl) (k_tupled T 14) (hr.mono (by decide)) T.g_tupled T.F_tupled.kp T.b_tupled (ac_consV (ev_var (i := 1) (d := a_sizes) rfl (pv 1)) ac_nil)) (ac_cons (ev_callC (L2N.takes_of rfl rfl rfl rfl) (k_tupled T 14) (hr.mono (by decide)) T.g_tupled T.F_tupled.kp T.b_tupled (ac_consV (ev_var (i := 2) (d := a_time) rfl (pv 2)) ac_nil)) (ac_cons (ev_callC (L2N.takes_of rfl rfl rfl rfl) (k_tupled T 14) (hr.mono (by decide)) T.g_tupled T.F_tupled.kp T.b_tupled (ac_consV (ev_var (i := 3) (d := a_cut) rfl (pv 3)) ac_nil)) ac_nil))))) (fun d4 d5 => (bi_ssetS (i := 4) (k := 1) (l := true) (ds := d4) T.sc_Survey T.sl_Survey_own_told (pv 4) (ev_lend (i := 0) rfl (ev_tupS (sc_star (EV.o (ev_fld T.sc_Survey T.sl_Survey_own_told (EV.o (ev_var (i := 0) (d := (.obj "Survey" a_self)) rfl (pv 0))))) (sc_consV (ev_var (i := 5) (d := d5) rfl (pv 5)) sc_nil)))) (fun o8 => (bi_if (p1 := fun (_ : Unit) => [some (.own false (.obj "Survey" a_self)), some (.val a_sizes), some (.val a_time), some (.val a_cut), some (.own true (.obj "Survey" o8)), some (.val d5)]) (tv_lend (i := 4) rfl (tv_lend (i := 0) rfl (TW.tv (tw_or (tv_cmpR (op_eqA hr.units) eqD_ok eqD_is (EV.o (ev_callC (L2N.takes_of rfl rfl rfl rfl) (k_size_on T) (hr.mono (by decide)) T.g_size_on T.F_size_on.kp T.b_size_on (ac_cons (ev_fld T.sc_Survey T.sl_Survey_own_houses (EV.o (ev_var (i := 0) (d := (.obj "Survey" a_self)) rfl (pv 0)))) (ac_cons (ev_ix2 ix_D idxD_ok (EV.o (ev_var (i := 5) (d := d5) rfl (pv 5))) (EV.o ev_int) (fun _ _ => rfl)) (ac_cons (ev_ix2 ix_D idxD_ok (EV.o (ev_var (i := 5) (d := d5) rfl (pv 5))) (EV.o ev_int) (fun _ _ => rfl)) ac_nil))))) (EV.o ev_int) (nomark _)) (tw_or1 (tv_not (tv_val (EV.to (if isObj "Survey" (.obj "Survey" o8) then m_Survey_holds (.obj "Survey" o8) else Rs.no) (ev_meth0 (L2N.takes_of rfl rfl rfl rfl) T.sc_Survey T.mt_Survey_holds (k_Survey_holds T) (hr.mono (by decide)) T.b_Survey_holds (ev_var (i := 4) (d := (.obj "Survey" o8)) rfl (pv 4))) rfl)))))))) (bi_raiseX rfl (L2N.takes_of rfl rfl rfl rfl) T.ox_BadAnswer T.ic_BadAnswer.1 T.ic_BadAnswer.2 (k_BadAnswer_init T) (hr.mono (by decide)) T.b_BadAnswer_init rfl T.g_BadAnswer (EV.to (Rs.of (sliceD d5 (some 1) none)) (ev_slice (EV.o (ev_var (i := 5) (d := d5) rfl (pv 5))) (pv_some ev_int) pv_none) rfl)) (bi_nil (z := ()) (Wk.keep (Wk.keep (Wk.keep (Wk.keep (Wk.keep (Wk.keep Wk.nil))))))) (fun _ => (bi_ssetS (i := 0) (k := 1) (l := false) (ds := a_self) T.sc_Survey T.sl_Survey_own_told (pv 0) (ev_lend (i := 4) rfl (ev_fld T.sc_Survey T.sl_Survey_own_told (EV.o (ev_var (i := 4) (d := (.obj "Survey" o8)) rfl (pv 4))))) (fun o16 => (bi_nil (z := o16) (Wk.keep Wk.nil)))))))))) rfl rfl)) (fun a_self ds hl => match ds, hl with | [a_sizes, a_time, a_cut], _ => rfl)
end
end LW
set_option Elab.async false
set_option linter.all false
set_option maxRecDepth 100000
set_option autoImplicit false
set_option pp.maxSteps 400
set_option maxHeartbeats 8000000
namespace LW
open PySem PySem.Spec L2 VL
open PyProof.Rows hiding St
section
variable {P : Program} {w : World} {K : PySem.W.Frag} {mg : Str → Option Value} {base : Heap}
theorem sc_NothingDone_init : FnScope ["self"] ["self"] (defScope (sub (top 4) 0)) := ⟨rfl, rfl, rfl, by decide +kernel, rfl, by decide +kernel, by decide +kernel⟩
theorem k_NothingDone_init (T : Txt K mg) : FnOk P w K mg base (L2N.CX P w) 1 (He.ma K (He.ga K "NothingDone") "__init__") T.fd_NothingDone_init ["self"] (spX0 K "NothingDone" "given") := keeps_xinit0 (k := 0) T.F_NothingDone_init sc_NothingDone_init rfl (by first | exact Or.inl rfl | exact Or.inr rfl) (by decide) (by decide) T.ox_NothingDone T.no_NothingDone
end
end LW
set_option Elab.async false
set_option linter.all false
set_option maxRecDepth 100000
set_option autoImplicit false
set_option pp.maxSteps 400
set_option maxHeartbeats 8000000
namespace LW
open PySem PySem.Spec L2 VL
open PyProof.Rows hiding St
section
variable {P : Program} {w : World} {K : PySem.W.Frag} {mg : Str → Option Value} {base : Heap}
theorem sc_Survey_back : FnScope ["self"] ["self"] (defScope (sub (top 16) 11)) := ⟨rfl, rfl, rfl, by decide +kernel, rfl, by decide +kernel, by decide +kernel⟩
def m_Survey_back_n (a_self : List D) : Rs (List D) := (((shedB (((Rs.of (fldD "Survey" 1 (.obj "Survey" a_self))).bind fun x0 => Rs.of (lenD [x0])).bind fun x1 => Rs.of (eqB x1 (.int 0))))).bind fun k => if k then Rs.ex "NothingDone" [("given", (.tup []))] else Rs.ok ()).bind fun _ => ((shedR ((Rs.of (fldD "Survey" 1 (.obj "Survey" a_self))).bind fun x3 => ((Rs.of (negD (.int 1))).bind fun x5 => Rs.of (asI x5)).bind fun i4 => Rs.of (sliceD x3 none i4)))).bind fun d => (Rs.of (setSl 1 a_self d)).bind fun o6 => Rs.ok o6
def m_Survey_back (a_self : List D) : Rs (D × List D) := (m_Survey_back_n a_self).bind fun s => Rs.ok (.non, s)
theorem k_Survey_back (T : Txt K mg) : KeepsMO P w K mg base 4 "Survey" (He.ma K (He.ga K "Survey") "back") T.fd_Survey_back ["self"] (fun a_self ds => match ds with | [] => m_Survey_back a_self | _ => Rs.no) :=
  keeps_mo_eq (keeps_mo0 (m := fun a_self ds => match ds with | [] => m_Survey_back_n a_self | _ => Rs.no) T.F_Survey_back sc_Survey_back (fun cdv A outer s H E F b a_self ds hl hr => match ds, hl with | [], _ => bi_as [some (.own false (.obj "Survey" a_self))] (bi_if (p1 := fun (_ : Unit) => [some (.own false (.obj "Survey" a_self))]) (tv_lend (i := 0) rfl (tv_cmpR (op_eqA hr.units) eqD_ok eqD_is (EV.o (ev_callBC call_len lenD_ok T.f_len boot_len (oc_cons (EV.o (ev_fld T.sc_Survey T.sl_Survey_own_told (EV.o (ev_var (i := 0) (d := (.obj "Survey" a_self)) rfl (pv 0))))) oc_nil))) (EV.o ev_int) (nomark _))) (bi_raiseE rfl (L2N.takes_of rfl rfl rfl rfl) T.ox_NothingDone T.ic_NothingDone.1 T.ic_NothingDone.2 (k_NothingDone_init T) (hr.mono (by decide)) (kbN T.F_NothingDone_init 1 [] [] (fun kV doc pm an cdv ct us ws h1 h2 => match us, ws, h1, h2 with | [_], [], _, _ => rfl)) rfl T.g_NothingDone) (bi_nil (z := ()) (Wk.keep Wk.nil)) (fun _ => (bi_ssetS (i := 0) (k := 1) (l := false) (ds := a_self) T.sc_Survey T.sl_Survey_own_told (pv 0) (ev_lend (i := 0) rfl (EV.to ((Rs.of (fldD "Survey" 1 (.obj "Survey" a_self))).bind fun x3 => ((Rs.of (negD (.int 1))).bind fun x5 => Rs.of (asI x5)).bind fun i4 => Rs.of (sliceD x3 none i4)) (ev_slice (EV.o (ev_fld T.sc_Survey T.sl_Survey_own_told (EV.o (ev_var (i := 0) (d := (.obj "Survey" a_self)) rfl (pv 0))))) pv_none (pv_some (ev_un un_neg negD_ok (EV.o ev_int)))) rfl)) (fun o6 => (bi_nil (z := o6) (Wk.keep Wk.nil)))))) rfl rfl)) (fun a_self ds hl => match ds, hl with | [], _ => rfl)
end
end LW
set_option Elab.async false
set_option linter.all false
set_option maxRecDepth 100000
set_option autoImplicit false
set_option pp.maxSteps 400
set_option maxHeartbeats 8000000
namespace LW
open PySem PySem.Spec L2 VL
open PyProof.Rows hiding St
section
variable {P : Program} {w : World} {K : PySem.W.Frag} {mg : Str → Option Value} {base : Heap}
theorem sc_Survey_twin : FnScope ["self", "found"] ["self"] (defScope (sub (top 16) 12)) := ⟨rfl, rfl, rfl, by decide +kernel, rfl, by decide +kernel, by decide +kernel⟩
def m_Survey_twin (a_self : D) : Rs (List D) := (((Rs.of (fldD "Survey" 0 a_self)).bind fun x1 => madeR "Survey" (m_Survey_init x1))).noX.bind fun o0 => (Rs.of (fldD "Survey" 1 a_self)).noX.bind fun d => (Rs.of (setSl 1 o0 d)).bind fun o2 => Rs.ok o2
theorem k_Survey_twin (T : Txt K mg) : KeepsNO P w K mg base 20 "Survey" (He.ma K (He.ga K "Survey") "twin") T.fd_Survey_twin ["self"] (fun ds => match ds with | [a_self] => m_Survey_twin a_self | _ => Rs.no) :=
  keeps_newO T.F_Survey_twin sc_Survey_twin (fun cdv A outer s H E F ds hl hr => match ds, hl with | [a_self], _ => bno_as [some (.val a_self), none] (bno_new (i := 1) sc_Survey_twin.nd (eno_make T.mk_Survey (k_Survey_init T) (hr.mono (by decide)) T.g_Survey T.b_Survey_init .nil (fun _ => .nil) (ac_cons (ev_fld T.sc_Survey T.sl_Survey_own_houses (EV.o (ev_var (i := 0) (d := a_self) rfl (pv 0)))) ac_nil)) (fun o0 => (bno_ssetS (i := 1) (k := 1) (l := true) (ds := o0) T.sc_Survey T.sl_Survey_own_told (pv 1) (ev_fld T.sc_Survey T.sl_Survey_own_told (EV.o (ev_var (i := 0) (d := a_self) rfl (pv 0)))) (fun o2 => (bno_ret (i := 1) (pv 1)))))) rfl rfl)
end
end LW
set_option Elab.async false
set_option linter.all false
set_option maxRecDepth 100000
set_option autoImplicit false
set_option pp.maxSteps 400
set_option maxHeartbeats 8000000
namespace LW
open PySem PySem.Spec L2 VL
open PyProof.Rows hiding St
section
variable {P : Program} {w : World} {K : PySem.W.Frag} {mg : Str → Option Value} {base : Heap}
theorem sc_law_box : FnScope ["_law_script", "_law_k", "_law_cell"] ["_law_script", "_law_k"] (defScope (top 18)) := ⟨rfl, rfl, rfl, by decide +kernel, rfl, by decide +kernel, by decide +kernel⟩
def m_law_box (a_law_script a_law_k : D) : Rs (List D) := (((Rs.of (lenD [a_law_script])).bind fun x0 => Rs.of (ltB a_law_k x0)).bind fun k => if k then Rs.of (idxD a_law_script a_law_k) else (Rs.ok (.int 0))).bind fun d1 => ((Rs.of (absD [d1])).bind fun x5 => (((Rs.of (absD [d1])).bind fun x2 => (Rs.of (powD (.int 10) (.int 18))).bind fun x3 => Rs.of (geD x2 x3)).bind fun x4 => Rs.of (intD [x4])).bind fun x6 => Rs.of (mulD x5 x6)).bind fun x11 => ((((Rs.of (intD [d1])).bind fun x7 => Rs.of (modD x7 (.int 2305843009213693951))).bind fun x8 => (Rs.of (mulD (.int 39373) a_law_k)).bind fun x9 => Rs.of (addD x8 x9)).bind fun x10 => Rs.of (addD x10 (.int 92338))).bind fun x12 => Rs.ok [x11, x12, (.int 0)]
theorem k_law_box (T : Txt K mg) : KeepsF P w K mg base 2 (He.ga K "_law_box") T.fd_law_box ["_law_script", "_law_k"] (fun ds => match ds with | [a_law_script, a_law_k] => m_law_box a_law_script a_law_k | _ => Rs.no) :=
  keeps_new T.F_law_box sc_law_box (fun cdv A outer s H E F ds hl hr => match ds, hl with | [a_law_script, a_law_k], _ => bn_as [some (.val a_law_script), some (.val a_law_k), none] (bn_set (as_ev (i := 2) sc_law_box.nd (ev_if (tv_cmpL (op_ltA hr.units) ltD_ok ltD_is (EV.o (ev_var (i := 1) (d := a_law_k) rfl (pv 1))) (EV.o (ev_callBC call_len lenD_ok T.f_len boot_len (oc_consV (EV.o (ev_var (i := 0) (d := a_law_script) rfl (pv 0))) oc_nil))) (nomark _)) (ev_ix2 ix_D idxD_ok (EV.o (ev_var (i := 0) (d := a_law_script) rfl (pv 0))) (EV.o (ev_var (i := 1) (d := a_law_k) rfl (pv 1))) (fun _ _ => rfl)) ev_int)) (fun d1 => (bn_ret (ef_lstC (ac_cons (ev_bin op_mulD mulD_ok (EV.o (ev_callBC call_abs absD_ok T.f_abs boot_abs (oc_consV (EV.o (ev_var (i := 2) (d := d1) rfl (pv 2))) oc_nil))) (EV.o (ev_callTyC call_intD intD_ok T.f_int boot_int (oc_cons (EV.o (ev_cmp (op_geA hr.units) geD_ok (EV.o (ev_callBC call_abs absD_ok T.f_abs boot_abs (oc_consV (EV.o (ev_var (i := 2) (d := d1) rfl (pv 2))) oc_nil))) (EV.o (ev_bin2 op_pow powD_ok (EV.o ev_int) (EV.o ev_int))) (nomark _))) oc_nil)))) (ac_cons (ev_binR op_addD addD_ok (EV.o (ev_bin op_addD addD_ok (EV.o (ev_binR op_modN modD_ok (EV.o (ev_callTyC call_intD intD_ok T.f_int boot_int (oc_consV (EV.o (ev_var (i := 2) (d := d1) rfl (pv 2))) oc_nil))) (EV.o ev_int))) (EV.o (ev_bin2 op_mulD mulD_ok (EV.o ev_int) (EV.o (ev_var (i := 1) (d := a_law_k) rfl (pv 1))))))) (EV.o ev_int)) (ac_consV ev_int ac_nil))))))) rfl rfl)
end
end LW
set_option Elab.async false
set_option linter.all false
set_option maxRecDepth 100000
set_option autoImplicit false
set_option pp.maxSteps 400
set_option maxHeartbeats 8000000
namespace LW
open PySem PySem.Spec L2 VL
open PyProof.Rows hiding St
section
variable {P : Program} {w : World} {K : PySem.W.Frag} {mg : Str → Option Value} {base : Heap}
theorem sc_law_take : FnScope ["_law_box_here", "_law_size_so", "_law_drawn_so", "_law_once", "_law_far", "_law_again"] ["_law_box_here", "_law_size_so"] (defScope (top 19)) := ⟨rfl, rfl, rfl, by decide +kernel, rfl, by decide +kernel, by decide +kernel⟩
def m_law_take (a_law_box_here : List D) (a_law_size_so : D) : Rs (D × List D) := ((Rs.of (idxD (.lst a_law_box_here) (.int 0))).bind fun x0 => Rs.of (gtB x0 (.int 0))).bind fun k => if k then (((Rs.of (idxD (.lst a_law_box_here) (.int 0))).bind fun x1 => Rs.of (intD [x1])).bind fun x2 => Rs.of (modD x2 a_law_size_so)).bind fun d3 => ((Rs.of (idxD (.lst a_law_box_here) (.int 0))).bind fun x4 => Rs.of (fdivD x4 a_law_size_so)).bind fun x6 => (Rs.of (setL a_law_box_here (.int 0) x6)).bind fun l5 => Rs.ok (d3, l5) else ((Rs.of (idxD (.lst a_law_box_here) (.int 2))).bind fun x7 => Rs.of (addD x7 (.int 1))).bind fun x36 => (Rs.of (setL a_law_box_here (.int 2) x36)).bind fun l8 => (((((Rs.of (idxD (.lst l8) (.int 1))).bind fun x10 => ((Rs.of (idxD (.lst l8) (.int 2))).bind fun x9 => Rs.of (mulD (.int 48271) x9)).bind fun x11 => Rs.of (addD x10 x11)).bind fun x13 => ((Rs.of (idxD (.lst l8) (.int 2))).bind fun x12 => Rs.of (addD (.int 39373) x12)).bind fun x14 => Rs.of (mulD x13 x14)).bind fun x15 => Rs.of (intD [x15])).bind fun x16 => Rs.of (modD x16 (.int 2147483647))).bind fun d17 => (((Rs.of (intD [d17])).bind fun x18 => Rs.of (modD x18 (.int 40009))).bind fun x19 => Rs.of (addD x19 (.int 7))).bind fun d20 => ((((((Rs.of (idxD (.lst l8) (.int 2))).bind fun x21 => Rs.of (addD d17 x21)).bind fun x23 => ((Rs.of (idxD (.lst l8) (.int 1))).bind fun x22 => Rs.of (fdivD x22 (.int 1000003))).bind fun x24 => Rs.of (addD x23 x24)).bind fun x25 => Rs.of (mulD x25 d20)).bind fun x26 => Rs.of (intD [x26])).bind fun x27 => Rs.of (modD x27 (.int 2147483629))).bind fun d28 => (((((((Rs.of (mulD d28 (.int 48271))).bind fun x29 => Rs.of (addD x29 d17)).bind fun x30 => Rs.of (intD [x30])).bind fun x31 => Rs.of (modD x31 (.int 2147483587))).bind fun x32 => Rs.of (fdivD x32 (.int 64))).bind fun x33 => Rs.of (intD [x33])).bind fun x34 => Rs.of (modD x34 a_law_size_so)).bind fun x35 => Rs.ok (x35, l8)
theorem k_law_take (T : Txt K mg) : KeepsIO P w K mg base 2 (He.ga K "_law_take") T.fd_law_take ["_law_box_here", "_law_size_so"] (fun a_law_box_here ds => match ds with | [a_law_size_so] => m_law_take a_law_box_here a_law_size_so | _ => Rs.no) :=
  keeps_io T.F_law_take sc_law_take (fun cdv A outer s H E F b a_law_box_here ds hl hr => match ds, hl with | [a_law_size_so], _ => bi_as [some (.own false (.lst a_law_box_here)), some (.val a_law_size_so), none, none, none, none] (bi_nox (bi_ifrI ioI (fun _ => rfl) (tv_cmpR (op_gtA hr.units) gtD_ok gtD_is (EV.o (ev_ix2 ix_D idxD_ok (eo_var (i := 0) (l := false) (d := .lst a_law_box_here) rfl (pv 0)) (EV.o ev_int) (fun _ _ => rfl))) (EV.o ev_int) (nomark _)) (bi_set (as_ev (i := 2) sc_law_take.nd (ev_binR op_modN modD_ok (EV.o (ev_callTyC call_intD intD_ok T.f_int boot_int (oc_cons (EV.o (ev_ix2 ix_D idxD_ok (eo_var (i := 0) (l := false) (d := .lst a_law_box_here) rfl (pv 0)) (EV.o ev_int) (fun _ _ => rfl))) oc_nil))) (EV.o (ev_var (i := 1) (d := a_law_size_so) rfl (pv 1))))) (fun d3 => (bi_setix (i := 0) (c := a_law_box_here) (pv 0) (ev_binR op_fdivB fdivD_ok (EV.o (ev_ix2 ix_D idxD_ok (eo_var (i := 0) (l := false) (d := .lst a_law_box_here) rfl (pv 0)) (EV.o ev_int) (fun _ _ => rfl))) (EV.o (ev_var (i := 1) (d := a_law_size_so) rfl (pv 1)))) ev_int (fun l5 => (bi_retP (i := 0) (s := l5) (ev_var (i := 2) (d := d3) rfl (pv 2))))))) (bi_setix (i := 0) (c := a_law_box_here) (pv 0) (ev_binR op_addD addD_ok (EV.o (ev_ix2 ix_D idxD_ok (eo_var (i := 0) (l := false) (d := .lst a_law_box_here) rfl (pv 0)) (EV.o ev_int) (fun _ _ => rfl))) (EV.o ev_int)) ev_int (fun l8 => (bi_set (as_ev (i := 3) sc_law_take.nd (ev_binR op_modN modD_ok (EV.o (ev_callTyC call_intD intD_ok T.f_int boot_int (oc_cons (EV.o (ev_bin op_mulD mulD_ok (EV.o (ev_bin op_addD addD_ok (EV.o (ev_ix2 ix_D idxD_ok (eo_var (i := 0) (l := false) (d := .lst l8) rfl (pv 0)) (EV.o ev_int) (fun _ _ => rfl))) (EV.o (ev_binL op_mulD mulD_ok (EV.o ev_int) (EV.o (ev_ix2 ix_D idxD_ok (eo_var (i := 0) (l := false) (d := .lst l8) rfl (pv 0)) (EV.o ev_int) (fun _ _ => rfl))))))) (EV.o (ev_binL op_addD addD_ok (EV.o ev_int) (EV.o (ev_ix2 ix_D idxD_ok (eo_var (i := 0) (l := false) (d := .lst l8) rfl (pv 0)) (EV.o ev_int) (fun _ _ => rfl))))))) oc_nil))) (EV.o ev_int))) (fun d17 => (bi_set (as_ev (i := 4) sc_law_take.nd (ev_binR op_addD addD_ok (EV.o (ev_binR op_modN modD_ok (EV.o (ev_callTyC call_intD intD_ok T.f_int boot_int (oc_consV (EV.o (ev_var (i := 3) (d := d17) rfl (pv 3))) oc_nil))) (EV.o ev_int))) (EV.o ev_int))) (fun d20 => (bi_set (as_ev (i := 5) sc_law_take.nd (ev_binR op_modN modD_ok (EV.o (ev_callTyC call_intD intD_ok T.f_int boot_int (oc_cons (EV.o (ev_binR op_mulD mulD_ok (EV.o (ev_bin op_addD addD_ok (EV.o (ev_binL op_addD addD_ok (EV.o (ev_var (i := 3) (d := d17) rfl (pv 3))) (EV.o (ev_ix2 ix_D idxD_ok (eo_var (i := 0) (l := false) (d := .lst l8) rfl (pv 0)) (EV.o ev_int) (fun _ _ => rfl))))) (EV.o (ev_binR op_fdivB fdivD_ok (EV.o (ev_ix2 ix_D idxD_ok (eo_var (i := 0) (l := false) (d := .lst l8) rfl (pv 0)) (EV.o ev_int) (fun _ _ => rfl))) (EV.o ev_int))))) (EV.o (ev_var (i := 4) (d := d20) rfl (pv 4))))) oc_nil))) (EV.o ev_int))) (fun d28 => (bi_retP (i := 0) (s := l8) (ev_binR op_modN modD_ok (EV.o (ev_callTyC call_intD intD_ok T.f_int boot_int (oc_cons (EV.o (ev_binR op_fdivB fdivD_ok (EV.o (ev_binR op_modN modD_ok (EV.o (ev_callTyC call_intD intD_ok T.f_int boot_int (oc_cons (EV.o (ev_binR op_addD addD_ok (EV.o (ev_bin2 op_mulD mulD_ok (EV.o (ev_var (i := 5) (d := d28) rfl (pv 5))) (EV.o ev_int))) (EV.o (ev_var (i := 3) (d := d17) rfl (pv 3))))) oc_nil))) (EV.o ev_int))) (EV.o ev_int))) oc_nil))) (EV.o (ev_var (i := 1) (d := a_law_size_so) rfl (pv 1))))))))))))))) rfl (by unfold m_law_take; repeat' (first | with_reducible rfl | (refine bcongr ?_ fun _ => ?_) | (refine icongr ?_ ?_) | rfl)))
end
end LW
set_option Elab.async false
set_option linter.all false
set_option maxRecDepth 100000
set_option autoImplicit false
set_option pp.maxSteps 400
set_option maxHeartbeats 8000000
namespace LW
open PySem PySem.Spec L2 VL
open PyProof.Rows hiding St
section
variable {P : Program} {w : World} {K : PySem.W.Frag} {mg : Str → Option Value} {base : Heap}
theorem sc_law_cells : FnScope ["_law_script", "_law_top_so", "_law_cells_so", "_law_k", "_law_cell", "_law_at_so"] ["_law_script", "_law_top_so"] (defScope (top 20)) := ⟨rfl, rfl, rfl, by decide +kernel, rfl, by decide +kernel, by decide +kernel⟩
def m_law_cells (a_law_script a_law_top_so : D) : Rs D := ((((Rs.of (asI a_law_top_so)).bind fun i0 => Rs.of (sliceD a_law_script none i0)).bind fun x1 => Rs.of (listL x1)).bind fun l2 => if l2.isEmpty then Rs.ok [(.int 0)] else Rs.ok l2).bind fun l3 => (((Rs.of (asI a_law_top_so)).bind fun i14 => Rs.of (sliceD a_law_script i14 (some 63))).bind fun x15 => Rs.of (enumD x15)).bind fun l6 => (foldM (fun z4 d => (Rs.of (un2 d)).bind fun y5 => ((Rs.of (intD [y5.1])).bind fun x7 => Rs.of (modD x7 a_law_top_so)).bind fun d8 => ((Rs.of (idxD (.lst z4) d8)).bind fun x10 => ((Rs.of (addD y5.1 (.int 2))).bind fun x9 => Rs.of (mulD y5.2 x9)).bind fun x11 => Rs.of (addD x10 x11)).bind fun x13 => (Rs.of (setL z4 d8 x13)).bind fun l12 => Rs.ok l12) l6 l3).bind fun z4 => (Rs.ok (.lst z4))
theorem k_law_cells (T : Txt K mg) : Keeps P w K mg base 2 (He.ga K "_law_cells") T.fd_law_cells ["_law_script", "_law_top_so"] (fun ds => match ds with | [a_law_script, a_law_top_so] => m_law_cells a_law_script a_law_top_so | _ => Rs.no) :=
  keeps_ret T.F_law_cells sc_law_cells (fun cdv A outer s H E F ds hl hr => match ds, hl with | [a_law_script, a_law_top_so], _ => bi_as [some (.val a_law_script), some (.val a_law_top_so), none, none, none, none] (bi_own (af_ef (i := 2) sc_law_cells.nd (ef_or (ef_list T.f_list (EV.o (EV.to ((Rs.of (asI a_law_top_so)).bind fun i0 => Rs.of (sliceD a_law_script none i0)) (ev_slice (EV.o (ev_var (i := 0) (d := a_law_script) rfl (pv 0))) pv_none (pv_some (ev_var (i := 1) (d := a_law_top_so) rfl (pv 1)))) rfl))) (ef_lstC (ac_consV ev_int ac_nil)))) (fun l3 => (bi_for (post := fun (z4 : List D) => [some (.val a_law_script), some (.val a_law_top_so), some (.own true (.lst z4)), none, none, none]) (z0 := l3) (passes_of rfl) rfl (it_enum rfl T.f_enumerate (EV.to ((Rs.of (asI a_law_top_so)).bind fun i14 => Rs.of (sliceD a_law_script i14 (some 63))) (ev_slice (EV.o (ev_var (i := 0) (d := a_law_script) rfl (pv 0))) (pv_some (ev_var (i := 1) (d := a_law_top_so) rfl (pv 1))) (pv_some ev_int)) rfl)) (Wk.keep (Wk.keep (Wk.keep (Wk.drop (Wk.drop (Wk.drop Wk.nil)))))) (fun z4 => tt_2 (i := 3) rfl (pg_name (i := 3) sc_law_cells.nd rfl (by first | exact Or.inl rfl | exact Or.inr rfl)) (pg_name (i := 4) sc_law_cells.nd rfl (by first | exact Or.inl rfl | exact Or.inr rfl))) (fun z4 y5 => (bi_set (as_ev (i := 5) sc_law_cells.nd (ev_binR op_modN modD_ok (EV.o (ev_callTyC call_intD intD_ok T.f_int boot_int (oc_consV (EV.o (ev_var (i := 3) (d := y5.1) rfl (pv 3))) oc_nil))) (EV.o (ev_var (i := 1) (d := a_law_top_so) rfl (pv 1))))) (fun d8 => (bi_setix (i := 2) (c := z4) (pv 2) (ev_bin op_addD addD_ok (EV.o (ev_ix2 ix_D idxD_ok (eo_var (i := 2) (l := true) (d := .lst z4) rfl (pv 2)) (EV.o (ev_var (i := 5) (d := d8) rfl (pv 5))) (fun _ _ => rfl))) (EV.o (ev_binL op_mulD mulD_ok (EV.o (ev_var (i := 4) (d := y5.2) rfl (pv 4))) (EV.o (ev_bin2 op_addD addD_ok (EV.o (ev_var (i := 3) (d := y5.1) rfl (pv 3))) (EV.o ev_int)))))) (ev_var (i := 5) (d := d8) rfl (pv 5)) (fun l12 => (bi_nil (z := l12) (Wk.keep (Wk.keep (Wk.keep (Wk.drop (Wk.drop (Wk.drop Wk.nil)))))))))))) (fun z4 => (bi_frz 2 (bi_ret (ev_var (i := 2) (d := (.lst z4)) rfl (pv 2)))))))) rfl rfl)
end
end LW
set_option Elab.async false
set_option linter.all false
set_option maxRecDepth 100000
set_option autoImplicit false
set_option pp.maxSteps 400
set_option maxHeartbeats 8000000
namespace LW
open PySem PySem.Spec L2 VL
open PyProof.Rows hiding St
section
variable {P : Program} {w : World} {K : PySem.W.Frag} {mg : Str → Option Value} {base : Heap}
theorem sc_law_same : FnScope ["_law_got", "_law_due_here", "_law_mine", "_law_its", "_law_alike_so"] ["_law_got", "_law_due_here"] (defScope (top 21)) := ⟨rfl, rfl, rfl, by decide +kernel, rfl, by decide +kernel, by decide +kernel⟩
def m_law_same : Nat → D → D → Rs D
  | 0, _, _ => Rs.no
  | n + 1, a_law_got, a_law_due_here => ((Rs.of (isiD2 "list" "tuple" a_law_due_here)).bind fun x0 => Rs.of (asB x0)).bind fun k => if k then ((Rs.of (isiD "list" a_law_got)).bind fun x1 => (Rs.of (isiD "list" a_law_due_here)).bind fun x2 => Rs.of (neB x1 x2)).bind fun k => if k then (Rs.ok (.bl false)) else ((Rs.of (isiD "tuple" a_law_got)).bind fun x3 => (Rs.of (isiD "tuple" a_law_due_here)).bind fun x4 => Rs.of (neB x3 x4)).bind fun k => if k then (Rs.ok (.bl false)) else ((Rs.of (lenD [a_law_got])).bind fun x5 => (Rs.of (lenD [a_law_due_here])).bind fun x6 => Rs.of (eqD x5 x6)).bind fun x11 => (Rs.of (asB x11)).bind fun k => if k then (((Rs.of (zipD a_law_got a_law_due_here)).bind fun l8 => compM un2 (fun y7 => Rs.ok true) (fun y7 => m_law_same n y7.1 y7.2) l8).bind fun l9 => Rs.ok (.lst l9)).bind fun x10 => Rs.of (allD [x10]) else Rs.ok (.bl false) else ((Rs.of (isNB a_law_due_here .non)).bind fun k => if k then Rs.ok true else (Rs.of (isiD2 "bool" "str" a_law_due_here)).bind fun x12 => Rs.of (asB x12)).bind fun k => if k then (((Rs.of (isiD "bool" a_law_got)).bind fun x13 => (Rs.of (isiD "bool" a_law_due_here)).bind fun x14 => Rs.of (eqD x13 x14)).bind fun x17 => (Rs.of (asB x17)).bind fun k => if k then (Rs.of (isND a_law_got .non)).bind fun x15 => (Rs.of (isND a_law_due_here .non)).bind fun x16 => Rs.of (eqD x15 x16) else Rs.ok (.bl false)).bind fun d18 => (Rs.of (asB d18)).bind fun k => if k then Rs.of (eqD a_law_got a_law_due_here) else Rs.ok (.bl false) else (Rs.of (isiD "int" a_law_got)).bind fun x21 => (Rs.of (asB x21)).bind fun k => if k then ((Rs.of (isiD "bool" a_law_got)).bind fun x19 => (Rs.of (asB x19)).bind fun k => Rs.ok (.bl (!k))).bind fun x20 => (Rs.of (asB x20)).bind fun k => if k then Rs.of (eqD a_law_got a_law_due_here) else Rs.ok (.bl false) else Rs.ok (.bl false)
theorem k_law_same (T : Txt K mg) : ∀ n : Nat, Keeps P w K mg base (n + 2) (He.ga K "_law_same") T.fd_law_same ["_law_got", "_law_due_here"] (fun ds => match ds with | [a_law_got, a_law_due_here] => m_law_same n a_law_got a_law_due_here | _ => Rs.no)
  | 0 => keeps_no T.F_law_same sc_law_same (fun ds => by split <;> first | rfl | (simp only [m_law_same]))
  | n + 1 => by
    have ih := k_law_same T n
    exact keeps_ret T.F_law_same sc_law_same (fun cdv A outer s H E F ds hl hr => match ds, hl with | [a_law_got, a_law_due_here], _ => bi_as [some (.val a_law_got), some (.val a_law_due_here), none, none, none] (bi_ifr (tv_val (ev_isi2 T.f_isinstance T.f_list boot_list T.f_tuple boot_tuple kitT_list kitT_tuple (EV.o (ev_var (i := 1) (d := a_law_due_here) rfl (pv 1))))) (bi_ifr (tv_cmp (op_neA hr.units) neD_ok neD_is (EV.o (ev_isi T.f_isinstance T.f_list boot_list kitT_list (EV.o (ev_var (i := 0) (d := a_law_got) rfl (pv 0))))) (EV.o (ev_isi T.f_isinstance T.f_list boot_list kitT_list (EV.o (ev_var (i := 1) (d := a_law_due_here) rfl (pv 1))))) (nomark _)) (bi_ret ev_bl) (bi_ifr (tv_cmp (op_neA hr.units) neD_ok neD_is (EV.o (ev_isi T.f_isinstance T.f_tuple boot_tuple kitT_tuple (EV.o (ev_var (i := 0) (d := a_law_got) rfl (pv 0))))) (EV.o (ev_isi T.f_isinstance T.f_tuple boot_tuple kitT_tuple (EV.o (ev_var (i := 1) (d := a_law_due_here) rfl (pv 1))))) (nomark _)) (bi_ret ev_bl) (bi_ret (ev_and (ev_cmp (op_eqA hr.units) eqD_ok (EV.o (ev_callBC call_len lenD_ok T.f_len boot_len (oc_consV (EV.o (ev_var (i := 0) (d := a_law_got) rfl (pv 0))) oc_nil))) (EV.o (ev_callBC call_len lenD_ok T.f_len boot_len (oc_consV (EV.o (ev_var (i := 1) (d := a_law_due_here) rfl (pv 1))) oc_nil))) (nomark _)) (ev_one (ev_callBC (cr_all rfl) allD_ok T.f_all boot_all (oc_cons (EV.o (EF.ev (ef_comp rfl sc_law_same.nd (it_zip rfl T.f_zip (ev_var (i := 0) (d := a_law_got) rfl (pv 0)) (ev_var (i := 1) (d := a_law_due_here) rfl (pv 1))) (blkOk_by (own := [("_law_mine", 2), ("_law_its", 3)]) (by kernel_rfl)) (by decide) (fun _ _ _ _ _ => tt_2 (i := 2) rfl (pg_name (i := 2) sc_law_same.nd rfl (by first | exact Or.inl rfl | exact Or.inr rfl)) (pg_name (i := 3) sc_law_same.nd rfl (by first | exact Or.inl rfl | exact Or.inr rfl))) (fun _ _ _ _ _ y7 => tvs_nil) (fun _ _ _ _ _ y7 => (ev_callC takes0N ih (hr.mono (by omega)) T.g_law_same T.F_law_same.kp T.b_law_same (ac_consV (ev_var (i := 2) (d := y7.1) rfl (pv 2)) (ac_consV (ev_var (i := 3) (d := y7.2) rfl (pv 3)) ac_nil))))))) oc_nil))))))) (bi_ifr (TW.tv (tw_or (tv_cmp2 op_isN isND_ok isND_is (EV.o (ev_var (i := 1) (d := a_law_due_here) rfl (pv 1))) (EV.o ev_non) (nomark _)) (tw_or1 (tv_val (ev_isi2 T.f_isinstance T.f_bool boot_bool T.f_str boot_str kitT_bool kitT_str (EV.o (ev_var (i := 1) (d := a_law_due_here) rfl (pv 1)))))))) (bi_set (as_ev (i := 4) sc_law_same.nd (ev_and (ev_cmp (op_eqA hr.units) eqD_ok (EV.o (ev_isi T.f_isinstance T.f_bool boot_bool kitT_bool (EV.o (ev_var (i := 0) (d := a_law_got) rfl (pv 0))))) (EV.o (ev_isi T.f_isinstance T.f_bool boot_bool kitT_bool (EV.o (ev_var (i := 1) (d := a_law_due_here) rfl (pv 1))))) (nomark _)) (ev_one (ev_cmp (op_eqA hr.units) eqD_ok (EV.o (ev_cmp2 op_isN isND_ok (EV.o (ev_var (i := 0) (d := a_law_got) rfl (pv 0))) (EV.o ev_non) (nomark _))) (EV.o (ev_cmp2 op_isN isND_ok (EV.o (ev_var (i := 1) (d := a_law_due_here) rfl (pv 1))) (EV.o ev_non) (nomark _))) (nomark _))))) (fun d18 => (bi_ret (ev_and (ev_var (i := 4) (d := d18) rfl (pv 4)) (ev_one (ev_cmp2 (op_eqA hr.units) eqD_ok (EV.o (ev_var (i := 0) (d := a_law_got) rfl (pv 0))) (EV.o (ev_var (i := 1) (d := a_law_due_here) rfl (pv 1))) (nomark _))))))) (bi_ret (ev_and (ev_isi T.f_isinstance T.f_int boot_int kitT_int (EV.o (ev_var (i := 0) (d := a_law_got) rfl (pv 0)))) (ev_and (ev_not (ev_isi T.f_isinstance T.f_bool boot_bool kitT_bool (EV.o (ev_var (i := 0) (d := a_law_got) rfl (pv 0))))) (ev_one (ev_cmp2 (op_eqA hr.units) eqD_ok (EV.o (ev_var (i := 0) (d := a_law_got) rfl (pv 0))) (EV.o (ev_var (i := 1) (d := a_law_due_here) rfl (pv 1))) (nomark _)))))))) rfl rfl)
end
end LW
set_option Elab.async false
set_option linter.all false
set_option maxRecDepth 100000
set_option autoImplicit false
set_option pp.maxSteps 400
set_option maxHeartbeats 8000000
namespace LW
open PySem PySem.Spec L2 VL
open PyProof.Rows hiding St
section
variable {P : Program} {w : World} {K : PySem.W.Frag} {mg : Str → Option Value} {base : Heap}
theorem sc_law_pick : FnScope ["_law_box_here", "_law_goods_so", "_law_count_so", "_law_pool_so", "_law_found", "_law_turn"] ["_law_box_here", "_law_goods_so", "_law_count_so"] (defScope (top 22)) := ⟨rfl, rfl, rfl, by decide +kernel, rfl, by decide +kernel, by decide +kernel⟩
def m_law_pick (a_law_box_here : List D) (a_law_goods_so a_law_count_so : D) : Rs (D × List D) := (Rs.of (listL a_law_goods_so)).bind fun d0 => (Rs.ok []).bind fun d1 => (((Rs.of (intD [a_law_count_so])).bind fun x13 => (Rs.of (lenD [(.lst d0)])).bind fun x14 => Rs.of (minD [x13, x14])).bind fun x15 => Rs.of (rangeD x15)).bind fun l4 => (foldM (fun z2 d => (Rs.of (some d)).bind fun y3 => ((((Rs.of (lenD [(.lst z2.2.1)])).bind fun d => Rs.ok (d, z2.1))).bind fun u11 => m_law_take u11.2 u11.1).noX.bind fun u7 => (Rs.of (popL z2.2.1 u7.1)).bind fun q8 => (Rs.of (appL z2.2.2 q8.1)).bind fun l5 => Rs.ok (u7.2, q8.2, l5)) l4 (a_law_box_here, d0, d1)).bind fun z2 => Rs.ok ((.lst z2.2.2), z2.1)
theorem k_law_pick (T : Txt K mg) : KeepsIO P w K mg base 4 (He.ga K "_law_pick") T.fd_law_pick ["_law_box_here", "_law_goods_so", "_law_count_so"] (fun a_law_box_here ds => match ds with | [a_law_goods_so, a_law_count_so] => m_law_pick a_law_box_here a_law_goods_so a_law_count_so | _ => Rs.no) :=
  keeps_io T.F_law_pick sc_law_pick (fun cdv A outer s H E F b a_law_box_here ds hl hr => match ds, hl with | [a_law_goods_so, a_law_count_so], _ => bi_as [some (.own false (.lst a_law_box_here)), some (.val a_law_goods_so), some (.val a_law_count_so), none, none, none] (bi_nox (bi_parC (i := 3) (j := 4) rfl sc_law_pick.nd (EF.ec (ef_list T.f_list (EV.o (ev_var (i := 1) (d := a_law_goods_so) rfl (pv 1))))) (EF.ec (ef_lstC ac_nil)) (fun d0 d1 => (bi_for (post := fun (z2 : List D × List D × List D) => [some (.own false (.lst z2.1)), some (.val a_law_goods_so), some (.val a_law_count_so), some (.own true (.lst z2.2.1)), some (.own true (.lst z2.2.2)), none]) (z0 := (a_law_box_here, d0, d1)) (passes_of rfl) rfl (it_range rfl T.f_range (ev_callBC (call_minA rfl) minD_ok T.f_min boot_min (oc_cons (EV.o (ev_callTyC call_intD intD_ok T.f_int boot_int (oc_consV (EV.o (ev_var (i := 2) (d := a_law_count_so) rfl (pv 2))) oc_nil))) (oc_cons (EV.o (ev_callBC call_len lenD_ok T.f_len boot_len (oc_consV (eo_var (i := 3) (l := true) (d := .lst d0) rfl (pv 3)) oc_nil))) oc_nil)))) (Wk.keep (Wk.keep (Wk.keep (Wk.keep (Wk.keep (Wk.drop Wk.nil)))))) (fun z2 => tt_name (i := 5) sc_law_pick.nd) (fun z2 y3 => (bi_appPop (l := false) (l2 := true) (l3 := true) (c := z2.2.2) (ys := z2.2.1) (i := 0) (j := 4) (k := 3) (pv 4) (pv 3) (eb_ioC (l := false) (k_law_take T) (hr.mono (by decide)) T.g_law_take T.F_law_take.kp T.b_law_take (pv 0) (bc_cons (l := false) (eb_pure (l := false) (s := z2.1) (ev_callBC call_len lenD_ok T.f_len boot_len (oc_consV (eo_var (i := 3) (l := true) (d := .lst z2.2.1) rfl (pv 3)) oc_nil))) (fun s9 => (bc_nil (l := false) (s := s9))))) (fun l5 l12 s6 => (bi_nil (z := (s6, l12, l5)) (Wk.keep (Wk.keep (Wk.keep (Wk.keep (Wk.keep (Wk.drop Wk.nil)))))))))) (fun z2 => (bi_frz 4 (bi_retP (i := 0) (s := z2.1) (ev_var (i := 4) (d := (.lst z2.2.2)) rfl (pv 4))))))))) rfl (by unfold m_law_pick; repeat' (first | with_reducible rfl | (refine bcongr ?_ fun _ => ?_) | (refine icongr ?_ ?_) | rfl)))
end
end LW
set_option Elab.async false
set_option linter.all false
set_option maxRecDepth 100000
set_option autoImplicit false
set_option pp.maxSteps 400
set_option maxHeartbeats 8000000
namespace LW
open PySem PySem.Spec L2 VL
open PyProof.Rows hiding St
section
variable {P : Program} {w : World} {K : PySem.W.Frag} {mg : Str → Option Value} {base : Heap}
theorem sc_law_part : FnScope ["_law_one_so", "_law_other_so"] ["_law_one_so", "_law_other_so"] (defScope (top 24)) := ⟨rfl, rfl, rfl, by decide +kernel, rfl, by decide +kernel, by decide +kernel⟩
def m_law_part (a_law_one_so a_law_other_so : D) : Rs D := (whileN (fun z0 => Rs.of (neB z0.2 (.int 0))) (fun z0 => (Rs.of (modD z0.1 z0.2)).bind fun d2 => Rs.ok (z0.2, d2)) FUEL (a_law_one_so, a_law_other_so)).bind fun z0 => (Rs.ok z0.1)
theorem k_law_part (T : Txt K mg) : Keeps P w K mg base 2 (He.ga K "_law_part") T.fd_law_part ["_law_one_so", "_law_other_so"] (fun ds => match ds with | [a_law_one_so, a_law_other_so] => m_law_part a_law_one_so a_law_other_so | _ => Rs.no) :=
  keeps_ret T.F_law_part sc_law_part (fun cdv A outer s H E F ds hl hr => match ds, hl with | [a_law_one_so, a_law_other_so], _ => bi_as [some (.val a_law_one_so), some (.val a_law_other_so)] (bi_while (post := fun (z0 : D × D) => [some (.val z0.1), some (.val z0.2)]) (z0 := (a_law_one_so, a_law_other_so)) FUEL (passes_of rfl) (Wk.keep (Wk.keep Wk.nil)) (fun z0 => (tv_cmp2 (op_neA hr.units) neD_ok neD_is (EV.o (ev_var (i := 1) (d := z0.2) rfl (pv 1))) (EV.o ev_int) (nomark _))) (fun z0 => (bi_par (i := 0) (j := 1) rfl sc_law_part.nd (ev_var (i := 1) (d := z0.2) rfl (pv 1)) (ev_bin2 op_modN modD_ok (EV.o (ev_var (i := 0) (d := z0.1) rfl (pv 0))) (EV.o (ev_var (i := 1) (d := z0.2) rfl (pv 1)))) (fun d1 d2 => (bi_nil (z := (d1, d2)) (Wk.keep (Wk.keep Wk.nil))))))  (fun z0 => (bi_ret (ev_var (i := 0) (d := z0.1) rfl (pv 0))))) rfl rfl)
end
end LW
set_option Elab.async false
set_option linter.all false
set_option maxRecDepth 100000
set_option autoImplicit false
set_option pp.maxSteps 400
set_option maxHeartbeats 8000000
namespace LW
open PySem PySem.Spec L2 VL
open PyProof.Rows hiding St
section
variable {P : Program} {w : World} {K : PySem.W.Frag} {mg : Str → Option Value} {base : Heap}
theorem sc_law_ratio : FnScope ["_law_top_so", "_law_low_so", "_law_part_so"] ["_law_top_so", "_law_low_so"] (defScope (top 23)) := ⟨rfl, rfl, rfl, by decide +kernel, rfl, by decide +kernel, by decide +kernel⟩
def m_law_ratio (a_law_top_so a_law_low_so : D) : Rs D := (m_law_part a_law_top_so a_law_low_so).bind fun d0 => (Rs.of (fdivD a_law_top_so d0)).bind fun x1 => (Rs.of (fdivD a_law_low_so d0)).bind fun x2 => Rs.ok (.tup [x1, x2])
theorem k_law_ratio (T : Txt K mg) : Keeps P w K mg base 4 (He.ga K "_law_ratio") T.fd_law_ratio ["_law_top_so", "_law_low_so"] (fun ds => match ds with | [a_law_top_so, a_law_low_so] => m_law_ratio a_law_top_so a_law_low_so | _ => Rs.no) :=
  keeps_ret T.F_law_ratio sc_law_ratio (fun cdv A outer s H E F ds hl hr => match ds, hl with | [a_law_top_so, a_law_low_so], _ => bi_as [some (.val a_law_top_so), some (.val a_law_low_so), none] (bi_set (as_ev (i := 2) sc_law_ratio.nd (ev_callC (L2N.takes_of rfl rfl rfl rfl) (k_law_part T) (hr.mono (by decide)) T.g_law_part T.F_law_part.kp T.b_law_part (ac_consV (ev_var (i := 0) (d := a_law_top_so) rfl (pv 0)) (ac_consV (ev_var (i := 1) (d := a_law_low_so) rfl (pv 1)) ac_nil)))) (fun d0 => (bi_ret (ev_tupC (ac_cons (ev_bin2 op_fdivB fdivD_ok (EV.o (ev_var (i := 0) (d := a_law_top_so) rfl (pv 0))) (EV.o (ev_var (i := 2) (d := d0) rfl (pv 2)))) (ac_cons (ev_bin2 op_fdivB fdivD_ok (EV.o (ev_var (i := 1) (d := a_law_low_so) rfl (pv 1))) (EV.o (ev_var (i := 2) (d := d0) rfl (pv 2)))) ac_nil)))))) rfl rfl)
end
end LW
set_option Elab.async false
set_option linter.all false
set_option maxRecDepth 100000
set_option autoImplicit false
set_option pp.maxSteps 400
set_option maxHeartbeats 8000000
namespace LW
open PySem PySem.Spec L2 VL
open PyProof.Rows hiding St
section
variable {P : Program} {w : World} {K : PySem.W.Frag} {mg : Str → Option Value} {base : Heap}
theorem sc_law_less : FnScope ["_law_one_so", "_law_two_so"] ["_law_one_so", "_law_two_so"] (defScope (top 25)) := ⟨rfl, rfl, rfl, by decide +kernel, rfl, by decide +kernel, by decide +kernel⟩
def m_law_less (a_law_one_so a_law_two_so : D) : Rs D := ((Rs.of (idxD a_law_one_so (.int 0))).bind fun x0 => (Rs.of (idxD a_law_two_so (.int 1))).bind fun x1 => Rs.of (mulD x0 x1)).bind fun x4 => ((Rs.of (idxD a_law_two_so (.int 0))).bind fun x2 => (Rs.of (idxD a_law_one_so (.int 1))).bind fun x3 => Rs.of (mulD x2 x3)).bind fun x5 => Rs.of (ltD x4 x5)
theorem k_law_less (T : Txt K mg) : Keeps P w K mg base 2 (He.ga K "_law_less") T.fd_law_less ["_law_one_so", "_law_two_so"] (fun ds => match ds with | [a_law_one_so, a_law_two_so] => m_law_less a_law_one_so a_law_two_so | _ => Rs.no) :=
  keeps_ret T.F_law_less sc_law_less (fun cdv A outer s H E F ds hl hr => match ds, hl with | [a_law_one_so, a_law_two_so], _ => bi_as [some (.val a_law_one_so), some (.val a_law_two_so)] (bi_ret (ev_cmp (op_ltA hr.units) ltD_ok (EV.o (ev_bin op_mulD mulD_ok (EV.o (ev_ix2 ix_D idxD_ok (EV.o (ev_var (i := 0) (d := a_law_one_so) rfl (pv 0))) (EV.o ev_int) (fun _ _ => rfl))) (EV.o (ev_ix2 ix_D idxD_ok (EV.o (ev_var (i := 1) (d := a_law_two_so) rfl (pv 1))) (EV.o ev_int) (fun _ _ => rfl))))) (EV.o (ev_bin op_mulD mulD_ok (EV.o (ev_ix2 ix_D idxD_ok (EV.o (ev_var (i := 1) (d := a_law_two_so) rfl (pv 1))) (EV.o ev_int) (fun _ _ => rfl))) (EV.o (ev_ix2 ix_D idxD_ok (EV.o (ev_var (i := 0) (d := a_law_one_so) rfl (pv 0))) (EV.o ev_int) (fun _ _ => rfl))))) (nomark _))) rfl rfl)
end
end LW
set_option Elab.async false
set_option linter.all false
set_option maxRecDepth 100000
set_option autoImplicit false
set_option pp.maxSteps 400
set_option maxHeartbeats 8000000
namespace LW
open PySem PySem.Spec L2 VL
open PyProof.Rows hiding St
section
variable {P : Program} {w : World} {K : PySem.W.Frag} {mg : Str → Option Value} {base : Heap}
theorem sc_law_most : FnScope ["_law_some", "_law_found", "_law_own"] ["_law_some"] (defScope (top 26)) := ⟨rfl, rfl, rfl, by decide +kernel, rfl, by decide +kernel, by decide +kernel⟩
def m_law_most (a_law_some : D) : Rs D := (Rs.of (idxD a_law_some (.int 0))).bind fun d0 => (Rs.of (itemsD a_law_some)).bind fun l3 => (foldM (fun z1 d => (Rs.of (some d)).bind fun y2 => (((m_law_less z1 y2).bind fun x4 => Rs.of (asB x4)).bind fun k => if k then (Rs.ok y2) else (Rs.ok z1)).bind fun d5 => Rs.ok d5) l3 d0).bind fun z1 => (Rs.ok z1)
theorem k_law_most (T : Txt K mg) : Keeps P w K mg base 4 (He.ga K "_law_most") T.fd_law_most ["_law_some"] (fun ds => match ds with | [a_law_some] => m_law_most a_law_some | _ => Rs.no) :=
  keeps_ret T.F_law_most sc_law_most (fun cdv A outer s H E F ds hl hr => match ds, hl with | [a_law_some], _ => bi_as [some (.val a_law_some), none, none] (bi_set (as_ev (i := 1) sc_law_most.nd (ev_ix2 ix_D idxD_ok (EV.o (ev_var (i := 0) (d := a_law_some) rfl (pv 0))) (EV.o ev_int) (fun _ _ => rfl))) (fun d0 => (bi_for (post := fun (z1 : D) => [some (.val a_law_some), some (.val z1), none]) (z0 := d0) (passes_of rfl) rfl (it_seqV (ev_var (i := 0) (d := a_law_some) rfl (pv 0))) (Wk.keep (Wk.keep (Wk.drop Wk.nil))) (fun z1 => tt_name (i := 2) sc_law_most.nd) (fun z1 y2 => (bi_set (as_ev (i := 1) sc_law_most.nd (ev_if (tv_val (ev_callC (L2N.takes_of rfl rfl rfl rfl) (k_law_less T) (hr.mono (by decide)) T.g_law_less T.F_law_less.kp T.b_law_less (ac_consV (ev_var (i := 1) (d := z1) rfl (pv 1)) (ac_consV (ev_var (i := 2) (d := y2) rfl (pv 2)) ac_nil)))) (ev_var (i := 2) (d := y2) rfl (pv 2)) (ev_var (i := 1) (d := z1) rfl (pv 1)))) (fun d5 => (bi_nil (z := d5) (Wk.keep (Wk.keep (Wk.drop Wk.nil))))))) (fun z1 => (bi_ret (ev_var (i := 1) (d := z1) rfl (pv 1))))))) rfl rfl)
end
end LW
set_option Elab.async false
set_option linter.all false
set_option maxRecDepth 100000
set_option autoImplicit false
set_option pp.maxSteps 400
set_option maxHeartbeats 8000000
namespace LW
open PySem PySem.Spec L2 VL
open PyProof.Rows hiding St
section
variable {P : Program} {w : World} {K : PySem.W.Frag} {mg : Str → Option Value} {base : Heap}
theorem sc_law_houses : FnScope ["_law_box_here", "_law_most_so", "_law_pool"] ["_law_box_here", "_law_most_so"] (defScope (top 27)) := ⟨rfl, rfl, rfl, by decide +kernel, rfl, by decide +kernel, by decide +kernel⟩
def m_law_houses (a_law_box_here : List D) (a_law_most_so : D) : Rs (D × List D) := ((Rs.ok (.lst [(.str "a"), (.str "b"), (.str "c"), (.str "d"), (.str "ab"), (.str "hub"), (.str "zzzzzzzz")]))).bind fun d0 => (((((Rs.ok (d0, a_law_box_here))).bind fun u15 => (((Rs.ok ((.int 2), u15.2))).bind fun u11 => ((((Rs.of (subD a_law_most_so (.int 1))).bind fun d => Rs.ok (d, u11.2))).bind fun u9 => m_law_take u9.2 u9.1).bind fun u10 => (Rs.of (addD u11.1 u10.1)).bind fun d => Rs.ok (d, u10.2)).bind fun u14 => m_law_pick u14.2 u15.1 u14.1).bind fun u18 => (Rs.of (sortD [u18.1])).bind fun d => Rs.ok (d, u18.2)).bind fun u21 => (Rs.of (tupleD [u21.1])).bind fun d => Rs.ok (d, u21.2)).noX
theorem k_law_houses (T : Txt K mg) : KeepsIO P w K mg base 6 (He.ga K "_law_houses") T.fd_law_houses ["_law_box_here", "_law_most_so"] (fun a_law_box_here ds => match ds with | [a_law_most_so] => m_law_houses a_law_box_here a_law_most_so | _ => Rs.no) :=
  keeps_io T.F_law_houses sc_law_houses (fun cdv A outer s H E F b a_law_box_here ds hl hr => match ds, hl with | [a_law_most_so], _ => bi_as [some (.own false (.lst a_law_box_here)), some (.val a_law_most_so), none] (bi_nox (bi_set (as_ev (i := 2) sc_law_houses.nd (ev_lstC (ac_consV ev_str (ac_consV ev_str (ac_consV ev_str (ac_consV ev_str (ac_consV ev_str (ac_consV ev_str (ac_consV ev_str ac_nil))))))))) (fun d0 => (bk_retB (i := 0) (eb_callTyC call_tuple_of tupleD_ok T.f_tuple boot_tuple (bc_cons (l := false) (eb_callBC (call_sort hr.units) sortD_ok T.f_sorted boot_sorted (bc_cons (l := false) (eb_ioC (l := false) (k_law_pick T) (hr.mono (by decide)) T.g_law_pick T.F_law_pick.kp T.b_law_pick (pv 0) (bc_cons (l := false) (eb_val (l := false) (s := a_law_box_here) (ev_var (i := 2) (d := d0) rfl (pv 2))) (fun s1 => (bc_cons (l := false) (eb_bin (l := false) op_addD addD_ok (eb_val (l := false) (s := s1) ev_int) (fun s3 => (eb_ioC (l := false) (k_law_take T) (hr.mono (by decide)) T.g_law_take T.F_law_take.kp T.b_law_take (pv 0) (bc_cons (l := false) (eb_pure (l := false) (s := s3) (ev_bin2 op_sub subD_ok (EV.o (ev_var (i := 1) (d := a_law_most_so) rfl (pv 1))) (EV.o ev_int))) (fun s7 => (bc_nil (l := false) (s := s7))))))) (fun s12 => (bc_nil (l := false) (s := s12))))))) (fun s16 => (bc_nil (l := false) (s := s16))))) (fun s19 => (bc_nil (l := false) (s := s19))))))))) rfl (by unfold m_law_houses; repeat' (first | with_reducible rfl | (refine bcongr ?_ fun _ => ?_) | (refine icongr ?_ ?_) | rfl)))
end
end LW
set_option Elab.async false
set_option linter.all false
set_option maxRecDepth 100000
set_option autoImplicit false
set_option pp.maxSteps 400
set_option maxHeartbeats 8000000
namespace LW
open PySem PySem.Spec L2 VL
open PyProof.Rows hiding St
section
variable {P : Program} {w : World} {K : PySem.W.Frag} {mg : Str → Option Value} {base : Heap}
theorem sc_law_all_cuts : FnScope ["_law_houses_so", "_law_some", "_law_own", "_law_far"] ["_law_houses_so"] (defScope (top 28)) := ⟨rfl, rfl, rfl, by decide +kernel, rfl, by decide +kernel, by decide +kernel⟩
def m_law_all_cuts (a_law_houses_so : D) : Rs D := (Rs.of (itemsD a_law_houses_so)).bind fun l2 => (foldM (fun z0 d => (Rs.of (some d)).bind fun y1 => ((((Rs.of (itemsD z0)).bind fun l4 => compM some (fun y3 => Rs.ok true) (fun y3 => Rs.of (addD y3 (.tup [y1]))) l4).bind fun l5 => Rs.ok (.lst l5)).bind fun x6 => Rs.of (addD z0 x6)).bind fun d7 => Rs.ok d7) l2 ((.lst [(.tup [])]) : D)).bind fun z0 => (((Rs.of (itemsD z0)).bind fun l11 => compM some (fun y8 => (Rs.of (lenD [y8])).bind fun x9 => (Rs.of (ltB (.int 0) x9)).bind fun k => if k then (Rs.of (lenD [a_law_houses_so])).bind fun x10 => Rs.of (ltB x9 x10) else Rs.ok false) (fun y8 => (Rs.ok y8)) l11).bind fun l12 => Rs.ok (.lst l12)).bind fun x13 => Rs.of (sortD [x13])
theorem k_law_all_cuts (T : Txt K mg) : Keeps P w K mg base 2 (He.ga K "_law_all_cuts") T.fd_law_all_cuts ["_law_houses_so"] (fun ds => match ds with | [a_law_houses_so] => m_law_all_cuts a_law_houses_so | _ => Rs.no) :=
  keeps_ret T.F_law_all_cuts sc_law_all_cuts (fun cdv A outer s H E F ds hl hr => match ds, hl with | [a_law_houses_so], _ => bi_as [some (.val a_law_houses_so), none, none, none] (bi_setV (as_ev (i := 1) sc_law_all_cuts.nd (ev_lstC (ac_consV (ev_tupC ac_nil) ac_nil))) (bi_for (post := fun (z0 : D) => [some (.val a_law_houses_so), some (.val z0), none, none]) (z0 := ((.lst [(.tup [])]) : D)) (passes_of rfl) rfl (it_seqV (ev_var (i := 0) (d := a_law_houses_so) rfl (pv 0))) (Wk.keep (Wk.keep (Wk.drop (Wk.drop Wk.nil)))) (fun z0 => tt_name (i := 2) sc_law_all_cuts.nd) (fun z0 y1 => (bi_set (as_ev (i := 1) sc_law_all_cuts.nd (ev_binL op_addD addD_ok (EV.o (ev_var (i := 1) (d := z0) rfl (pv 1))) (EV.o (EF.ev (ef_comp rfl sc_law_all_cuts.nd (it_seqV (ev_var (i := 1) (d := z0) rfl (pv 1))) (blkOk_by (own := [("_law_far", 3)]) (by kernel_rfl)) (by decide) (fun _ _ _ _ _ => tt_name (i := 3) sc_law_all_cuts.nd) (fun _ _ _ _ _ y3 => tvs_nil) (fun _ _ _ _ _ y3 => (ev_bin2 op_addD addD_ok (EV.o (ev_var (i := 3) (d := y3) rfl (pv 3))) (EV.o (ev_tupC (ac_consV (ev_var (i := 2) (d := y1) rfl (pv 2)) ac_nil)))))))))) (fun d7 => (bi_nil (z := d7) (Wk.keep (Wk.keep (Wk.drop (Wk.drop Wk.nil)))))))) (fun z0 => (bi_ret (ev_callBC (call_sort hr.units) sortD_ok T.f_sorted boot_sorted (oc_cons (EV.o (EF.ev (ef_comp rfl sc_law_all_cuts.nd (it_seqV (ev_var (i := 1) (d := z0) rfl (pv 1))) (blkOk_by (own := [("_law_own", 2)]) (by kernel_rfl)) (by decide) (fun _ _ _ _ _ => tt_name (i := 2) sc_law_all_cuts.nd) (fun _ _ _ _ _ y8 => (tvs_one (tv_chain (op_ltA hr.units) ltD_ok ltD_is (op_ltA hr.units) ltD_ok ltD_is (EV.o ev_int) (EV.o (ev_callBC call_len lenD_ok T.f_len boot_len (oc_consV (EV.o (ev_var (i := 2) (d := y8) rfl (pv 2))) oc_nil))) (EV.o (ev_callBC call_len lenD_ok T.f_len boot_len (oc_consV (EV.o (ev_var (i := 0) (d := a_law_houses_so) rfl (pv 0))) oc_nil))) (fun a b c => pt_chain (op_ltA hr.units) (op_ltA hr.units) a b c)))) (fun _ _ _ _ _ y8 => (ev_var (i := 2) (d := y8) rfl (pv 2)))))) oc_nil)))))) rfl rfl)
end
end LW
set_option Elab.async false
set_option linter.all false
set_option maxRecDepth 100000
set_option autoImplicit false
set_option pp.maxSteps 400
set_option maxHeartbeats 8000000
namespace LW
open PySem PySem.Spec L2 VL
open PyProof.Rows hiding St
section
variable {P : Program} {w : World} {K : PySem.W.Frag} {mg : Str → Option Value} {base : Heap}
theorem sc_law_on : FnScope ["_law_houses_so", "_law_sizes_so", "_law_cut_so", "_law_own", "_law_size_so"] ["_law_houses_so", "_law_sizes_so", "_law_cut_so"] (defScope (top 29)) := ⟨rfl, rfl, rfl, by decide +kernel, rfl, by decide +kernel, by decide +kernel⟩
def m_law_on (a_law_houses_so a_law_sizes_so a_law_cut_so : D) : Rs D := (((Rs.of (zipD a_law_houses_so a_law_sizes_so)).bind fun l1 => compM un2 (fun y0 => Rs.of (inB y0.1 a_law_cut_so)) (fun y0 => (Rs.ok y0.2)) l1).bind fun l2 => Rs.ok (.lst l2)).bind fun x3 => Rs.of (sumD [x3])
theorem k_law_on (T : Txt K mg) : Keeps P w K mg base 2 (He.ga K "_law_on") T.fd_law_on ["_law_houses_so", "_law_sizes_so", "_law_cut_so"] (fun ds => match ds with | [a_law_houses_so, a_law_sizes_so, a_law_cut_so] => m_law_on a_law_houses_so a_law_sizes_so a_law_cut_so | _ => Rs.no) :=
  keeps_ret T.F_law_on sc_law_on (fun cdv A outer s H E F ds hl hr => match ds, hl with | [a_law_houses_so, a_law_sizes_so, a_law_cut_so], _ => bi_as [some (.val a_law_houses_so), some (.val a_law_sizes_so), some (.val a_law_cut_so), none, none] (bi_ret (ev_callBC (call_sumA rfl) sumD_ok T.f_sum boot_sum (oc_cons (EV.o (EF.ev (ef_comp rfl sc_law_on.nd (it_zip rfl T.f_zip (ev_var (i := 0) (d := a_law_houses_so) rfl (pv 0)) (ev_var (i := 1) (d := a_law_sizes_so) rfl (pv 1))) (blkOk_by (own := [("_law_own", 3), ("_law_size_so", 4)]) (by kernel_rfl)) (by decide) (fun _ _ _ _ _ => tt_2 (i := 3) rfl (pg_name (i := 3) sc_law_on.nd rfl (by first | exact Or.inl rfl | exact Or.inr rfl)) (pg_name (i := 4) sc_law_on.nd rfl (by first | exact Or.inl rfl | exact Or.inr rfl))) (fun _ _ _ _ _ y0 => (tvs_one (tv_cmp2 (op_inA hr) inD_ok inD_is (EV.o (ev_var (i := 3) (d := y0.1) rfl (pv 3))) (EV.o (ev_var (i := 2) (d := a_law_cut_so) rfl (pv 2))) rfl))) (fun _ _ _ _ _ y0 => (ev_var (i := 4) (d := y0.2) rfl (pv 4)))))) oc_nil))) rfl rfl)
end
end LW
set_option Elab.async false
set_option linter.all false
set_option maxRecDepth 100000
set_option autoImplicit false
set_option pp.maxSteps 400
set_option maxHeartbeats 8000000
namespace LW
open PySem PySem.Spec L2 VL
open PyProof.Rows hiding St
section
variable {P : Program} {w : World} {K : PySem.W.Frag} {mg : Str → Option Value} {base : Heap}
theorem sc_law_floor : FnScope ["_law_houses_so", "_law_told_so", "_law_cut_so", "_law_found", "_law_sizes_so", "_law_time_so", "_law_own", "_law_size_so"] ["_law_houses_so", "_law_told_so", "_law_cut_so"] (defScope (top 30)) := ⟨rfl, rfl, rfl, by decide +kernel, rfl, by decide +kernel, by decide +kernel⟩
def m_law_floor (a_law_houses_so a_law_told_so a_law_cut_so : D) : Rs D := (Rs.of (itemsD a_law_told_so)).bind fun l2 => (foldM (fun z0 d => (Rs.of (unL3 d)).bind fun y1 => (m_law_on a_law_houses_so y1.1 a_law_cut_so).bind fun d3 => (((((Rs.of (idxD y1.2.1 (.int 1))).bind fun x4 => Rs.of (mulD d3 x4)).bind fun x5 => (Rs.of (idxD y1.2.1 (.int 0))).bind fun x6 => m_law_ratio x5 x6).bind fun x7 => Rs.ok (.lst [z0, x7])).bind fun x8 => m_law_most x8).bind fun d9 => Rs.ok d9) l2 ((.tup [(.int 0), (.int 1)]) : D)).bind fun z0 => (Rs.ok z0)
theorem k_law_floor (T : Txt K mg) : Keeps P w K mg base 6 (He.ga K "_law_floor") T.fd_law_floor ["_law_houses_so", "_law_told_so", "_law_cut_so"] (fun ds => match ds with | [a_law_houses_so, a_law_told_so, a_law_cut_so] => m_law_floor a_law_houses_so a_law_told_so a_law_cut_so | _ => Rs.no) :=
  keeps_ret T.F_law_floor sc_law_floor (fun cdv A outer s H E F ds hl hr => match ds, hl with | [a_law_houses_so, a_law_told_so, a_law_cut_so], _ => bi_as [some (.val a_law_houses_so), some (.val a_law_told_so), some (.val a_law_cut_so), none, none, none, none, none] (bi_at [some (.val a_law_houses_so), some (.val a_law_told_so), some (.val a_law_cut_so), none, none, none, none, none] (bi_setV (as_ev (i := 3) sc_law_floor.nd (ev_tupC (ac_consV ev_int (ac_consV ev_int ac_nil)))) (bi_at [some (.val a_law_houses_so), some (.val a_law_told_so), some (.val a_law_cut_so), some (.val (.tup [(.int 0), (.int 1)])), none, none, none, none] (bi_for (post := fun (z0 : D) => [some (.val a_law_houses_so), some (.val a_law_told_so), some (.val a_law_cut_so), some (.val z0), none, none, none, none]) (z0 := ((.tup [(.int 0), (.int 1)]) : D)) (passes_of rfl) rfl (it_seqV (ev_var (i := 1) (d := a_law_told_so) rfl (pv 1))) (Wk.keep (Wk.keep (Wk.keep (Wk.keep (Wk.drop (Wk.drop (Wk.drop (Wk.drop Wk.nil)))))))) (fun z0 => tl_3 (i := 4) rfl (pg_name (i := 4) sc_law_floor.nd rfl (by first | exact Or.inl rfl | exact Or.inr rfl)) (pg_name (i := 5) sc_law_floor.nd rfl (by first | exact Or.inl rfl | exact Or.inr rfl)) (pg_name (i := 6) sc_law_floor.nd rfl (by first | exact Or.inl rfl | exact Or.inr rfl))) (fun z0 y1 => (bi_at [some (.val a_law_houses_so), some (.val a_law_told_so), some (.val a_law_cut_so), some (.val z0), some (.val y1.1), some (.val y1.2.1), some (.val y1.2.2), none] (bi_set (as_ev (i := 7) sc_law_floor.nd (ev_callC (L2N.takes_of rfl rfl rfl rfl) (k_law_on T) (hr.mono (by decide)) T.g_law_on T.F_law_on.kp T.b_law_on (ac_consV (ev_var (i := 0) (d := a_law_houses_so) rfl (pv 0)) (ac_consV (ev_var (i := 4) (d := y1.1) rfl (pv 4)) (ac_consV (ev_var (i := 2) (d := a_law_cut_so) rfl (pv 2)) ac_nil))))) (fun d3 => (bi_at [some (.val a_law_houses_so), some (.val a_law_told_so), some (.val a_law_cut_so), some (.val z0), some (.val y1.1), some (.val y1.2.1), some (.val y1.2.2), some (.val d3)] (bi_set (as_ev (i := 3) sc_law_floor.nd (ev_callC (L2N.takes_of rfl rfl rfl rfl) (k_law_most T) (hr.mono (by decide)) T.g_law_most T.F_law_most.kp T.b_law_most (ac_cons (ev_lstC (ac_consV (ev_var (i := 3) (d := z0) rfl (pv 3)) (ac_cons (ev_callC (L2N.takes_of rfl rfl rfl rfl) (k_law_ratio T) (hr.mono (by decide)) T.g_law_ratio T.F_law_ratio.kp T.b_law_ratio (ac_cons (ev_binL op_mulD mulD_ok (EV.o (ev_var (i := 7) (d := d3) rfl (pv 7))) (EV.o (ev_ix2 ix_D idxD_ok (EV.o (ev_var (i := 5) (d := y1.2.1) rfl (pv 5))) (EV.o ev_int) (fun _ _ => rfl)))) (ac_cons (ev_ix2 ix_D idxD_ok (EV.o (ev_var (i := 5) (d := y1.2.1) rfl (pv 5))) (EV.o ev_int) (fun _ _ => rfl)) ac_nil))) ac_nil))) ac_nil))) (fun d9 => (bi_nil (z := d9) (Wk.keep (Wk.keep (Wk.keep (Wk.keep (Wk.drop (Wk.drop (Wk.drop (Wk.drop Wk.nil)))))))))))))))) (fun z0 => (bi_at [some (.val a_law_houses_so), some (.val a_law_told_so), some (.val a_law_cut_so), some (.val z0), none, none, none, none] (bi_ret (ev_var (i := 3) (d := z0) rfl (pv 3))))))))) rfl rfl)
end
end LW
set_option Elab.async false
set_option linter.all false
set_option maxRecDepth 100000
set_option autoImplicit false
set_option pp.maxSteps 400
set_option maxHeartbeats 8000000
namespace LW
open PySem PySem.Spec L2 VL
open PyProof.Rows hiding St
section
variable {P : Program} {w : World} {K : PySem.W.Frag} {mg : Str → Option Value} {base : Heap}
theorem sc_law_known : FnScope ["_law_houses_so", "_law_told_so", "_law_found", "_law_sizes_so", "_law_time_so", "_law_cut_so"] ["_law_houses_so", "_law_told_so"] (defScope (top 31)) := ⟨rfl, rfl, rfl, by decide +kernel, rfl, by decide +kernel, by decide +kernel⟩
def m_law_known (a_law_houses_so a_law_told_so : D) : Rs D := ((Rs.ok (.dT []))).bind fun d0 => (Rs.of (itemsD a_law_told_so)).bind fun l3 => (foldM (fun z1 d => (Rs.of (unL3 d)).bind fun y2 => (((m_law_on a_law_houses_so y2.1 y2.2.2).bind fun x4 => (Rs.of (idxD y2.2.1 (.int 1))).bind fun x5 => Rs.of (mulD x4 x5)).bind fun x6 => (Rs.of (idxD y2.2.1 (.int 0))).bind fun x7 => m_law_ratio x6 x7).bind fun v => ((Rs.ok y2.2.2)).bind fun k => (Rs.of (dputD z1 k v)).bind fun d8 => Rs.ok d8) l3 d0).bind fun z1 => ((((Rs.of (sortK z1)).bind fun x9 => Rs.of (itemsD x9)).bind fun l12 => compM some (fun y10 => Rs.ok true) (fun y10 => (Rs.of (dgetD z1 y10)).bind fun x11 => Rs.ok (.tup [y10, x11])) l12).bind fun l13 => Rs.ok (.lst l13)).bind fun x14 => Rs.of (tupleD [x14])
theorem k_law_known (T : Txt K mg) : Keeps P w K mg base 6 (He.ga K "_law_known") T.fd_law_known ["_law_houses_so", "_law_told_so"] (fun ds => match ds with | [a_law_houses_so, a_law_told_so] => m_law_known a_law_houses_so a_law_told_so | _ => Rs.no) :=
  keeps_ret T.F_law_known sc_law_known (fun cdv A outer s H E F ds hl hr => match ds, hl with | [a_law_houses_so, a_law_told_so], _ => bi_as [some (.val a_law_houses_so), some (.val a_law_told_so), none, none, none, none] (bi_newd (i := 2) sc_law_known.nd ec_newT (fun d0 => (bi_for (post := fun (z1 : D) => [some (.val a_law_houses_so), some (.val a_law_told_so), some (.own true z1), none, none, none]) (z0 := d0) (passes_of rfl) rfl (it_seqV (ev_var (i := 1) (d := a_law_told_so) rfl (pv 1))) (Wk.keep (Wk.keep (Wk.keep (Wk.drop (Wk.drop (Wk.drop Wk.nil)))))) (fun z1 => tl_3 (i := 3) rfl (pg_name (i := 3) sc_law_known.nd rfl (by first | exact Or.inl rfl | exact Or.inr rfl)) (pg_name (i := 4) sc_law_known.nd rfl (by first | exact Or.inl rfl | exact Or.inr rfl)) (pg_name (i := 5) sc_law_known.nd rfl (by first | exact Or.inl rfl | exact Or.inr rfl))) (fun z1 y2 => (bi_dput (i := 2) (l := true) (c := z1) hr.units (pv 2) (ev_callC (L2N.takes_of rfl rfl rfl rfl) (k_law_ratio T) (hr.mono (by decide)) T.g_law_ratio T.F_law_ratio.kp T.b_law_ratio (ac_cons (ev_bin op_mulD mulD_ok (EV.o (ev_callC (L2N.takes_of rfl rfl rfl rfl) (k_law_on T) (hr.mono (by decide)) T.g_law_on T.F_law_on.kp T.b_law_on (ac_consV (ev_var (i := 0) (d := a_law_houses_so) rfl (pv 0)) (ac_consV (ev_var (i := 3) (d := y2.1) rfl (pv 3)) (ac_consV (ev_var (i := 5) (d := y2.2.2) rfl (pv 5)) ac_nil))))) (EV.o (ev_ix2 ix_D idxD_ok (EV.o (ev_var (i := 4) (d := y2.2.1) rfl (pv 4))) (EV.o ev_int) (fun _ _ => rfl)))) (ac_cons (ev_ix2 ix_D idxD_ok (EV.o (ev_var (i := 4) (d := y2.2.1) rfl (pv 4))) (EV.o ev_int) (fun _ _ => rfl)) ac_nil))) (ev_var (i := 5) (d := y2.2.2) rfl (pv 5)) (fun d8 => (bi_nil (z := d8) (Wk.keep (Wk.keep (Wk.keep (Wk.drop (Wk.drop (Wk.drop Wk.nil)))))))))) (fun z1 => (bi_frz 2 (bi_ret (ev_callTyC call_tuple_of tupleD_ok T.f_tuple boot_tuple (oc_cons (EV.o (EF.ev (ef_comp rfl sc_law_known.nd (it_seq (ev_sortK hr.units rfl T.f_sorted (ev_var (i := 2) (d := z1) rfl (pv 2)))) (blkOk_by (own := [("_law_cut_so", 5)]) (by kernel_rfl)) (by decide) (fun _ _ _ _ _ => tt_name (i := 5) sc_law_known.nd) (fun _ _ _ _ _ y10 => tvs_nil) (fun _ _ _ _ _ y10 => (ev_tupC (ac_consV (ev_var (i := 5) (d := y10) rfl (pv 5)) (ac_cons (ev_ix2 (ix_dict hr.units) dgetD_ok (EV.o (ev_var (i := 2) (d := z1) rfl (pv 2))) (EV.o (ev_var (i := 5) (d := y10) rfl (pv 5))) (fun _ _ => rfl)) ac_nil))))))) oc_nil)))))))) rfl rfl)
end
end LW
set_option Elab.async false
set_option linter.all false
set_option maxRecDepth 100000
set_option autoImplicit false
set_option pp.maxSteps 400
set_option maxHeartbeats 8000000
namespace LW
open PySem PySem.Spec L2 VL
open PyProof.Rows hiding St
section
variable {P : Program} {w : World} {K : PySem.W.Frag} {mg : Str → Option Value} {base : Heap}
theorem sc_law_speeds : FnScope ["_law_box_here", "_law_houses_so", "_law_own"] ["_law_box_here", "_law_houses_so"] (defScope (top 32)) := ⟨rfl, rfl, rfl, by decide +kernel, rfl, by decide +kernel, by decide +kernel⟩
def m_law_speeds (a_law_box_here : List D) (a_law_houses_so : D) : Rs (D × List D) := (((((m_law_all_cuts a_law_houses_so).bind fun x0 => Rs.of (itemsD x0)).bind fun ds => Rs.ok (ds, a_law_box_here)).bind fun l3 => compBM some (fun y1 s2 => Rs.ok (true, s2)) (fun y1 s2 => ((Rs.ok (y1, s2))).bind fun u33 => ((((Rs.ok ((.int 1), u33.2))).bind fun u14 => (((Rs.ok ((.int 8), u14.2))).bind fun u12 => m_law_take u12.2 u12.1).bind fun u13 => (Rs.of (addD u14.1 u13.1)).bind fun d => Rs.ok (d, u13.2)).bind fun u29 => (((Rs.ok ((.int 1), u29.2))).bind fun u25 => (((Rs.ok ((.int 3), u25.2))).bind fun u23 => m_law_take u23.2 u23.1).bind fun u24 => (Rs.of (addD u25.1 u24.1)).bind fun d => Rs.ok (d, u24.2)).bind fun u28 => (m_law_ratio u29.1 u28.1).bind fun d => Rs.ok (d, u28.2)).bind fun u32 => Rs.ok (.tup [u33.1, u32.1], u32.2)) l3.1 l3.2).bind fun v34 => Rs.ok (.lst v34.1, v34.2)).noX
theorem k_law_speeds (T : Txt K mg) : KeepsIO P w K mg base 6 (He.ga K "_law_speeds") T.fd_law_speeds ["_law_box_here", "_law_houses_so"] (fun a_law_box_here ds => match ds with | [a_law_houses_so] => m_law_speeds a_law_box_here a_law_houses_so | _ => Rs.no) :=
  keeps_io T.F_law_speeds sc_law_speeds (fun cdv A outer s H E F b a_law_box_here ds hl hr => match ds, hl with | [a_law_houses_so], _ => bi_as [some (.own false (.lst a_law_box_here)), some (.val a_law_houses_so), none] (bi_nox (bk_retB (i := 0) (EFB.eb (efb_comp (l := false) rfl sc_law_speeds.nd (ib_pure (l := false) (s := a_law_box_here) (it_seq (ev_callC takes0N (k_law_all_cuts T) (hr.mono (by decide)) T.g_law_all_cuts T.F_law_all_cuts.kp T.b_law_all_cuts (ac_consV (ev_var (i := 1) (d := a_law_houses_so) rfl (pv 1)) ac_nil)))) (blkOk_by (own := [("_law_own", 2)]) (by kernel_rfl)) (by decide) (by decide) (fun _ _ _ _ _ _ => tt_name (i := 2) sc_law_speeds.nd) (fun _ _ _ _ _ y1 s2 => (tbs_nil (l := false) (s := s2))) (fun _ _ _ _ _ y1 s2 => (eb_tupC (bc_cons (l := false) (eb_val (l := false) (s := s2) (ev_var (i := 2) (d := y1) rfl (pv 2))) (fun s4 => (bc_cons (l := false) (eb_ownC (k_law_ratio T) (hr.mono (by decide)) T.g_law_ratio T.F_law_ratio.kp T.b_law_ratio (bc_cons (l := false) (eb_bin (l := false) op_addD addD_ok (eb_val (l := false) (s := s4) ev_int) (fun s6 => (eb_ioC (l := false) (k_law_take T) (hr.mono (by decide)) T.g_law_take T.F_law_take.kp T.b_law_take (pv 0) (bc_cons (l := false) (eb_val (l := false) (s := s6) ev_int) (fun s10 => (bc_nil (l := false) (s := s10))))))) (fun s15 => (bc_cons (l := false) (eb_bin (l := false) op_addD addD_ok (eb_val (l := false) (s := s15) ev_int) (fun s17 => (eb_ioC (l := false) (k_law_take T) (hr.mono (by decide)) T.g_law_take T.F_law_take.kp T.b_law_take (pv 0) (bc_cons (l := false) (eb_val (l := false) (s := s17) ev_int) (fun s21 => (bc_nil (l := false) (s := s21))))))) (fun s26 => (bc_nil (l := false) (s := s26))))))) (fun s30 => (bc_nil (l := false) (s := s30)))))))))))) rfl (by unfold m_law_speeds; repeat' (first | with_reducible rfl | (refine bcongr ?_ fun _ => ?_) | (refine icongr ?_ ?_) | rfl)))
end
end LW
set_option Elab.async false
set_option linter.all false
set_option maxRecDepth 100000
set_option autoImplicit false
set_option pp.maxSteps 400
set_option maxHeartbeats 8000000
namespace LW
open PySem PySem.Spec L2 VL
open PyProof.Rows hiding St
section
variable {P : Program} {w : World} {K : PySem.W.Frag} {mg : Str → Option Value} {base : Heap}
theorem sc_law_answer : FnScope ["_law_houses_so", "_law_speeds_so", "_law_sizes_so", "_law_found", "_law_cut_so", "_law_own", "_law_time_so"] ["_law_houses_so", "_law_speeds_so", "_law_sizes_so"] (defScope (top 33)) := ⟨rfl, rfl, rfl, by decide +kernel, rfl, by decide +kernel, by decide +kernel⟩
def m_law_answer (a_law_houses_so a_law_speeds_so a_law_sizes_so : D) : Rs D := (Rs.of (itemsD a_law_speeds_so)).bind fun l2 => (foldM (fun z0 d => (Rs.of (unL2 d)).bind fun y1 => (((m_law_on a_law_houses_so a_law_sizes_so y1.1).bind fun x3 => (Rs.of (idxD y1.2 (.int 1))).bind fun x4 => Rs.of (mulD x3 x4)).bind fun x5 => (Rs.of (idxD y1.2 (.int 0))).bind fun x6 => m_law_ratio x5 x6).bind fun d7 => ((((Rs.of (idxD z0 (.int 0))).bind fun x8 => m_law_less d7 x8).bind fun x9 => Rs.of (asB x9)).bind fun k => Rs.ok (!k)).bind fun k => if k then Rs.ok ((.lst [d7, y1.1]) : D) else Rs.ok z0) l2 ((.lst [(.tup [(.int 0), (.int 1)]), (.tup [])]) : D)).bind fun z0 => (Rs.of (idxD z0 (.int 0))).bind fun x10 => (Rs.of (idxD z0 (.int 1))).bind fun x11 => Rs.ok (.tup [x10, x11])
theorem k_law_answer (T : Txt K mg) : Keeps P w K mg base 6 (He.ga K "_law_answer") T.fd_law_answer ["_law_houses_so", "_law_speeds_so", "_law_sizes_so"] (fun ds => match ds with | [a_law_houses_so, a_law_speeds_so, a_law_sizes_so] => m_law_answer a_law_houses_so a_law_speeds_so a_law_sizes_so | _ => Rs.no) :=
  keeps_ret T.F_law_answer sc_law_answer (fun cdv A outer s H E F ds hl hr => match ds, hl with | [a_law_houses_so, a_law_speeds_so, a_law_sizes_so], _ => bi_as [some (.val a_law_houses_so), some (.val a_law_speeds_so), some (.val a_law_sizes_so), none, none, none, none] (bi_at [some (.val a_law_houses_so), some (.val a_law_speeds_so), some (.val a_law_sizes_so), none, none, none, none] (bi_setV (as_ev (i := 3) sc_law_answer.nd (ev_lstC (ac_consV (ev_tupC (ac_consV ev_int (ac_consV ev_int ac_nil))) (ac_consV (ev_tupC ac_nil) ac_nil)))) (bi_at [some (.val a_law_houses_so), some (.val a_law_speeds_so), some (.val a_law_sizes_so), some (.val (.lst [(.tup [(.int 0), (.int 1)]), (.tup [])])), none, none, none] (bi_for (post := fun (z0 : D) => [some (.val a_law_houses_so), some (.val a_law_speeds_so), some (.val a_law_sizes_so), some (.val z0), none, none, none]) (z0 := ((.lst [(.tup [(.int 0), (.int 1)]), (.tup [])]) : D)) (passes_of rfl) rfl (it_seqV (ev_var (i := 1) (d := a_law_speeds_so) rfl (pv 1))) (Wk.keep (Wk.keep (Wk.keep (Wk.keep (Wk.drop (Wk.drop (Wk.drop Wk.nil))))))) (fun z0 => tl_2 (i := 4) rfl (pg_name (i := 4) sc_law_answer.nd rfl (by first | exact Or.inl rfl | exact Or.inr rfl)) (pg_name (i := 5) sc_law_answer.nd rfl (by first | exact Or.inl rfl | exact Or.inr rfl))) (fun z0 y1 => (bi_at [some (.val a_law_houses_so), some (.val a_law_speeds_so), some (.val a_law_sizes_so), some (.val z0), some (.val y1.1), some (.val y1.2), none] (bi_set (as_ev (i := 6) sc_law_answer.nd (ev_callC (L2N.takes_of rfl rfl rfl rfl) (k_law_ratio T) (hr.mono (by decide)) T.g_law_ratio T.F_law_ratio.kp T.b_law_ratio (ac_cons (ev_bin op_mulD mulD_ok (EV.o (ev_callC (L2N.takes_of rfl rfl rfl rfl) (k_law_on T) (hr.mono (by decide)) T.g_law_on T.F_law_on.kp T.b_law_on (ac_consV (ev_var (i := 0) (d := a_law_houses_so) rfl (pv 0)) (ac_consV (ev_var (i := 2) (d := a_law_sizes_so) rfl (pv 2)) (ac_consV (ev_var (i := 4) (d := y1.1) rfl (pv 4)) ac_nil))))) (EV.o (ev_ix2 ix_D idxD_ok (EV.o (ev_var (i := 5) (d := y1.2) rfl (pv 5))) (EV.o ev_int) (fun _ _ => rfl)))) (ac_cons (ev_ix2 ix_D idxD_ok (EV.o (ev_var (i := 5) (d := y1.2) rfl (pv 5))) (EV.o ev_int) (fun _ _ => rfl)) ac_nil)))) (fun d7 => (bi_at [some (.val a_law_houses_so), some (.val a_law_speeds_so), some (.val a_law_sizes_so), some (.val z0), some (.val y1.1), some (.val y1.2), some (.val d7)] (bi_if2 (tv_not (tv_val (ev_callC (L2N.takes_of rfl rfl rfl rfl) (k_law_less T) (hr.mono (by decide)) T.g_law_less T.F_law_less.kp T.b_law_less (ac_consV (ev_var (i := 6) (d := d7) rfl (pv 6)) (ac_cons (ev_ix2 ix_D idxD_ok (EV.o (ev_var (i := 3) (d := z0) rfl (pv 3))) (EV.o ev_int) (fun _ _ => rfl)) ac_nil))))) (bi_at [some (.val a_law_houses_so), some (.val a_law_speeds_so), some (.val a_law_sizes_so), some (.val z0), some (.val y1.1), some (.val y1.2), some (.val d7)] (bi_setV (as_ev (i := 3) sc_law_answer.nd (ev_lstC (ac_consV (ev_var (i := 6) (d := d7) rfl (pv 6)) (ac_consV (ev_var (i := 4) (d := y1.1) rfl (pv 4)) ac_nil)))) (bi_nil (z := ((.lst [d7, y1.1]) : D)) (Wk.keep (Wk.keep (Wk.keep (Wk.keep (Wk.drop (Wk.drop (Wk.drop Wk.nil)))))))))) (bi_nil (z := z0) (Wk.keep (Wk.keep (Wk.keep (Wk.keep (Wk.drop (Wk.drop (Wk.drop Wk.nil)))))))))))))) (fun z0 => (bi_at [some (.val a_law_houses_so), some (.val a_law_speeds_so), some (.val a_law_sizes_so), some (.val z0), none, none, none] (bi_ret (ev_tupC (ac_cons (ev_ix2 ix_D idxD_ok (EV.o (ev_var (i := 3) (d := z0) rfl (pv 3))) (EV.o ev_int) (fun _ _ => rfl)) (ac_cons (ev_ix2 ix_D idxD_ok (EV.o (ev_var (i := 3) (d := z0) rfl (pv 3))) (EV.o ev_int) (fun _ _ => rfl)) ac_nil)))))))))) rfl rfl)
end
end LW
set_option Elab.async false
set_option linter.all false
set_option maxRecDepth 100000
set_option autoImplicit false
set_option pp.maxSteps 400
set_option maxHeartbeats 8000000
namespace LW
open PySem PySem.Spec L2 VL
open PyProof.Rows hiding St
section
variable {P : Program} {w : World} {K : PySem.W.Frag} {mg : Str → Option Value} {base : Heap}
theorem sc_law_told : FnScope ["_law_host", "_law_sizes_so", "_law_time_so", "_law_cut_so", "_law_told_here", "_law_caught", "error"] ["_law_host", "_law_sizes_so", "_law_time_so", "_law_cut_so"] (defScope (top 34)) := ⟨rfl, rfl, rfl, by decide +kernel, rfl, by decide +kernel, by decide +kernel⟩
def m_law_told (a_law_host : List D) (a_law_sizes_so a_law_time_so a_law_cut_so : D) : Rs (D × List D) := (Rs.of (unL2 (.tup [(.int 7), .non]))).bind fun z0 => (Rs.tryM ((m_Survey_tell a_law_host a_law_sizes_so a_law_time_so a_law_cut_so).bind fun u4 => Rs.ok (u4.2, u4.1, z0.2)) [(fun c => List.lookup c [("BadAnswer", true), ("NothingDone", false)], fun c5 f6 => ((Rs.of (fldX ["BadAnswer"] "answer" (.exn c5 f6))).bind fun x7 => (Rs.of (isxD [("BadAnswer", true), ("NothingDone", true)] (some false) (.exn c5 f6))).bind fun x8 => Rs.ok (.lst [(.str "bad"), x7, x8])).bind fun d9 => Rs.ok (a_law_host, z0.1, d9))]).bind fun z1 => ((Rs.of (isNB z1.2.2 .non)).bind fun k => if k then (Rs.ok z1.2.1) else (Rs.ok z1.2.2)).noX.bind fun d => Rs.ok (d, z1.1)
theorem k_law_told (T : Txt K mg) : KeepsMO P w K mg base 22 "Survey" (He.ga K "_law_told") T.fd_law_told ["_law_host", "_law_sizes_so", "_law_time_so", "_law_cut_so"] (fun a_law_host ds => match ds with | [a_law_sizes_so, a_law_time_so, a_law_cut_so] => m_law_told a_law_host a_law_sizes_so a_law_time_so a_law_cut_so | _ => Rs.no) :=
  keeps_mo T.F_law_told sc_law_told (fun cdv A outer s H E F b a_law_host ds hl hr => match ds, hl with | [a_law_sizes_so, a_law_time_so, a_law_cut_so], _ => bi_as [some (.own false (.obj "Survey" a_law_host)), some (.val a_law_sizes_so), some (.val a_law_time_so), some (.val a_law_cut_so), none, none, none] (bi_at [some (.own false (.obj "Survey" a_law_host)), some (.val a_law_sizes_so), some (.val a_law_time_so), some (.val a_law_cut_so), none, none, none] (bi_unp (ev_tupC (ac_consV ev_int (ac_consV ev_non ac_nil))) (tl_2 rfl (pg_name (i := 4) sc_law_told.nd rfl (by first | exact Or.inl rfl | exact Or.inr rfl)) (pg_name (i := 5) sc_law_told.nd rfl (by first | exact Or.inl rfl | exact Or.inr rfl))) (fun z0 => (bi_at [some (.own false (.obj "Survey" a_law_host)), some (.val a_law_sizes_so), some (.val a_law_time_so), some (.val a_law_cut_so), some (.val z0.1), some (.val z0.2), none] (bi_try (ρb := [some (.own false (.obj "Survey" a_law_host)), some (.val a_law_sizes_so), some (.val a_law_time_so), some (.val a_law_cut_so), some (.val z0.1), some (.val z0.2), none]) (p1 := fun (z1 : List D × D × D) => [some (.own false (.obj "Survey" z1.1)), some (.val a_law_sizes_so), some (.val a_law_time_so), some (.val a_law_cut_so), some (.val z1.2.1), some (.val z1.2.2), none]) rfl rfl sc_law_told.nd rfl (L2N.takes_of rfl rfl rfl rfl) (fun W2 qn xe tk1 tk2 => (bi_at [some (.own false (.obj "Survey" a_law_host)), some (.val a_law_sizes_so), some (.val a_law_time_so), some (.val a_law_cut_so), some (.val z0.1), some (.val z0.2), none] (bi_setE (i := 0) (j := 4) sc_law_told.nd (ee_methC tk1 T.sc_Survey T.mt_Survey_tell (k_Survey_tell T) (hr.mono (by decide)) T.b_Survey_tell (pv 0) (ac_consV (ev_var (i := 1) (d := a_law_sizes_so) rfl (pv 1)) (ac_consV (ev_var (i := 2) (d := a_law_time_so) rfl (pv 2)) (ac_consV (ev_var (i := 3) (d := a_law_cut_so) rfl (pv 3)) ac_nil)))) (fun d2 o3 => (bi_nil (z := (o3, d2, z0.2)) (Wk.keep (Wk.keep (Wk.keep (Wk.keep (Wk.keep (Wk.keep (Wk.drop Wk.nil)))))))))))) (ClsI.cons (i := 6) ⟨rfl, by decide, .inl T.g_BadAnswer⟩ rfl rfl (by exact Nat.le_of_ble_eq_true rfl) (fun _ _ h => nomatch h) (fun _ _ h => nomatch h) (mt_of (tab := [("BadAnswer", true), ("NothingDone", false)]) (all_cons T.ex_BadAnswer_BadAnswer (all_cons T.ex_NothingDone_BadAnswer all_nil))) (fun a qn c5 f6 => (BI.h (bi_at [some (.own false (.obj "Survey" a_law_host)), some (.val a_law_sizes_so), some (.val a_law_time_so), some (.val a_law_cut_so), some (.val z0.1), some (.val z0.2), some (.val (.exn c5 f6))] (bi_set (as_ev (i := 5) sc_law_told.nd (ev_lstC (ac_consV ev_str (ac_cons (ev_xfld (cs := ["BadAnswer"]) (all_cons ⟨T.xf_BadAnswer, T.no_BadAnswer⟩ all_nil) (ev_var (i := 6) (d := (.exn c5 f6)) rfl (pv 6))) (ac_cons (ev_isx (tab := [("BadAnswer", true), ("NothingDone", true)]) (nb := some false) (ClsV.ty _) (pe_bltn rfl T.f_ValueError rfl rfl) T.f_isinstance (all_cons ⟨T.xi_BadAnswer, T.kt_BadAnswer_ValueError⟩ (all_cons ⟨T.xi_NothingDone, T.kt_NothingDone_ValueError⟩ all_nil)) (fun b h => Option.some.inj h ▸ T.kn_ValueError) (ev_var (i := 6) (d := (.exn c5 f6)) rfl (pv 6))) ac_nil))))) (fun d9 => (bi_nil (z := (a_law_host, z0.1, d9)) (Wk.keep (Wk.keep (Wk.keep (Wk.keep (Wk.keep (Wk.keep (Wk.drop Wk.nil))))))))))))) ClsI.nil) (Wk.keep Wk.nil) (fun z1 => (bi_at [some (.own false (.obj "Survey" z1.1)), some (.val a_law_sizes_so), some (.val a_law_time_so), some (.val a_law_cut_so), some (.val z1.2.1), some (.val z1.2.2), none] (bi_retO0 (i := 0) (s := z1.1) (ev_if (tv_cmp2 op_isN isND_ok isND_is (EV.o (ev_var (i := 5) (d := z1.2.2) rfl (pv 5))) (EV.o ev_non) (nomark _)) (ev_var (i := 4) (d := z1.2.1) rfl (pv 4)) (ev_var (i := 5) (d := z1.2.2) rfl (pv 5))))))))))) rfl rfl)
end
end LW
set_option Elab.async false
set_option linter.all false
set_option maxRecDepth 100000
set_option autoImplicit false
set_option pp.maxSteps 400
set_option maxHeartbeats 8000000
namespace LW
open PySem PySem.Spec L2 VL
open PyProof.Rows hiding St
section
variable {P : Program} {w : World} {K : PySem.W.Frag} {mg : Str → Option Value} {base : Heap}
theorem sc_law_back : FnScope ["_law_host", "_law_told_here", "_law_caught", "error"] ["_law_host"] (defScope (top 35)) := ⟨rfl, rfl, rfl, by decide +kernel, rfl, by decide +kernel, by decide +kernel⟩
def m_law_back (a_law_host : List D) : Rs (D × List D) := (Rs.of (unL2 (.tup [(.int 7), .non]))).bind fun z0 => (Rs.tryM ((m_Survey_back a_law_host).bind fun u4 => Rs.ok (u4.2, u4.1, z0.2)) [(fun c => List.lookup c [("BadAnswer", false), ("NothingDone", true)], fun c5 f6 => (Rs.of (isxD [("BadAnswer", true), ("NothingDone", true)] (some false) (.exn c5 f6))).bind fun d7 => Rs.ok (a_law_host, z0.1, d7))]).bind fun z1 => ((Rs.of (isNB z1.2.2 .non)).bind fun k => if k then (Rs.ok z1.2.1) else (Rs.ok (.lst [(.str "none"), z1.2.2]))).noX.bind fun d => Rs.ok (d, z1.1)
theorem k_law_back (T : Txt K mg) : KeepsMO P w K mg base 6 "Survey" (He.ga K "_law_back") T.fd_law_back ["_law_host"] (fun a_law_host ds => match ds with | [] => m_law_back a_law_host | _ => Rs.no) :=
  keeps_mo T.F_law_back sc_law_back (fun cdv A outer s H E F b a_law_host ds hl hr => match ds, hl with | [], _ => bi_as [some (.own false (.obj "Survey" a_law_host)), none, none, none] (bi_unp (ev_tupC (ac_consV ev_int (ac_consV ev_non ac_nil))) (tl_2 rfl (pg_name (i := 1) sc_law_back.nd rfl (by first | exact Or.inl rfl | exact Or.inr rfl)) (pg_name (i := 2) sc_law_back.nd rfl (by first | exact Or.inl rfl | exact Or.inr rfl))) (fun z0 => (bi_try (ρb := [some (.own false (.obj "Survey" a_law_host)), some (.val z0.1), some (.val z0.2), none]) (p1 := fun (z1 : List D × D × D) => [some (.own false (.obj "Survey" z1.1)), some (.val z1.2.1), some (.val z1.2.2), none]) rfl rfl sc_law_back.nd rfl (L2N.takes_of rfl rfl rfl rfl) (fun W2 qn xe tk1 tk2 => (bi_setE (i := 0) (j := 1) sc_law_back.nd (ee_meth0 tk1 T.sc_Survey T.mt_Survey_back (k_Survey_back T) (hr.mono (by decide)) T.b_Survey_back (pv 0)) (fun d2 o3 => (bi_nil (z := (o3, d2, z0.2)) (Wk.keep (Wk.keep (Wk.keep (Wk.drop Wk.nil)))))))) (ClsI.cons (i := 3) ⟨rfl, by decide, .inl T.g_NothingDone⟩ rfl rfl (by exact Nat.le_of_ble_eq_true rfl) (fun _ _ h => nomatch h) (fun _ _ h => nomatch h) (mt_of (tab := [("BadAnswer", false), ("NothingDone", true)]) (all_cons T.ex_BadAnswer_NothingDone (all_cons T.ex_NothingDone_NothingDone all_nil))) (fun a qn c5 f6 => (BI.h (bi_set (as_ev (i := 2) sc_law_back.nd (ev_isx (tab := [("BadAnswer", true), ("NothingDone", true)]) (nb := some false) (ClsV.ty _) (pe_bltn rfl T.f_ValueError rfl rfl) T.f_isinstance (all_cons ⟨T.xi_BadAnswer, T.kt_BadAnswer_ValueError⟩ (all_cons ⟨T.xi_NothingDone, T.kt_NothingDone_ValueError⟩ all_nil)) (fun b h => Option.some.inj h ▸ T.kn_ValueError) (ev_var (i := 3) (d := (.exn c5 f6)) rfl (pv 3)))) (fun d7 => (bi_nil (z := (a_law_host, z0.1, d7)) (Wk.keep (Wk.keep (Wk.keep (Wk.drop Wk.nil))))))))) ClsI.nil) (Wk.keep Wk.nil) (fun z1 => (bi_retO0 (i := 0) (s := z1.1) (ev_if (tv_cmp2 op_isN isND_ok isND_is (EV.o (ev_var (i := 2) (d := z1.2.2) rfl (pv 2))) (EV.o ev_non) (nomark _)) (ev_var (i := 1) (d := z1.2.1) rfl (pv 1)) (ev_lstC (ac_consV ev_str (ac_consV (ev_var (i := 2) (d := z1.2.2) rfl (pv 2)) ac_nil))))))))) rfl rfl)
end
end LW
set_option Elab.async false
set_option linter.all false
set_option maxRecDepth 100000
set_option autoImplicit false
set_option pp.maxSteps 400
set_option maxHeartbeats 8000000
namespace LW
open PySem PySem.Spec L2 VL
open PyProof.Rows hiding St
section
variable {P : Program} {w : World} {K : PySem.W.Frag} {mg : Str → Option Value} {base : Heap}
theorem sc_law_fits : FnScope ["_law_houses_so", "_law_told_so", "_law_sizes_so", "_law_time_so", "_law_cut_so", "_law_size_so"] ["_law_houses_so", "_law_told_so"] (defScope (top 36)) := ⟨rfl, rfl, rfl, by decide +kernel, rfl, by decide +kernel, by decide +kernel⟩
def m_law_fits (a_law_houses_so a_law_told_so : D) : Rs D := (Rs.of (itemsD a_law_told_so)).bind fun l2 => (loopM (β := Unit) (fun z0 d => (Rs.of (unL3 d)).bind fun y1 => (m_law_on a_law_houses_so y1.1 y1.2.2).bind fun d3 => (Rs.of (eqB d3 (.int 0))).bind fun k => if k then liftF (Rs.ok (.rt (.bl false) [])) else ((((Rs.of (idxD y1.2.1 (.int 1))).bind fun x4 => Rs.of (mulD d3 x4)).bind fun x5 => (Rs.of (idxD y1.2.1 (.int 0))).bind fun x6 => m_law_ratio x5 x6).bind fun x7 => (m_law_floor a_law_houses_so a_law_told_so y1.2.2).bind fun x8 => Rs.of (neB x7 x8)).bind fun k => if k then liftF (Rs.ok (.rt (.bl false) [])) else Rs.ok (.nx ())) l2 ()).bind (Fl.toX fun z0 => (Rs.ok (.bl true)))
theorem k_law_fits (T : Txt K mg) : Keeps P w K mg base 8 (He.ga K "_law_fits") T.fd_law_fits ["_law_houses_so", "_law_told_so"] (fun ds => match ds with | [a_law_houses_so, a_law_told_so] => m_law_fits a_law_houses_so a_law_told_so | _ => Rs.no) :=
  keeps_ret T.F_law_fits sc_law_fits (fun cdv A outer s H E F ds hl hr => match ds, hl with | [a_law_houses_so, a_law_told_so], _ => bi_as [some (.val a_law_houses_so), some (.val a_law_told_so), none, none, none, none] (bi_forX (post := fun (z0 : Unit) => [some (.val a_law_houses_so), some (.val a_law_told_so), none, none, none, none]) (z0 := ()) (passes_of rfl) rfl rfl (it_seqV (ev_var (i := 1) (d := a_law_told_so) rfl (pv 1))) (Wk.keep (Wk.keep (Wk.drop (Wk.drop (Wk.drop (Wk.drop Wk.nil)))))) (fun z0 => tl_3 (i := 2) rfl (pg_name (i := 2) sc_law_fits.nd rfl (by first | exact Or.inl rfl | exact Or.inr rfl)) (pg_name (i := 3) sc_law_fits.nd rfl (by first | exact Or.inl rfl | exact Or.inr rfl)) (pg_name (i := 4) sc_law_fits.nd rfl (by first | exact Or.inl rfl | exact Or.inr rfl))) (fun z0 y1 => (bk_set (as_ev (i := 5) sc_law_fits.nd (ev_callC (L2N.takes_of rfl rfl rfl rfl) (k_law_on T) (hr.mono (by decide)) T.g_law_on T.F_law_on.kp T.b_law_on (ac_consV (ev_var (i := 0) (d := a_law_houses_so) rfl (pv 0)) (ac_consV (ev_var (i := 2) (d := y1.1) rfl (pv 2)) (ac_consV (ev_var (i := 4) (d := y1.2.2) rfl (pv 4)) ac_nil))))) (fun d3 => (bk_ifr (tv_cmp2 (op_eqA hr.units) eqD_ok eqD_is (EV.o (ev_var (i := 5) (d := d3) rfl (pv 5))) (EV.o ev_int) (nomark _)) (bk_ret ev_bl) (bk_ifr (tv_cmp (op_neA hr.units) neD_ok neD_is (EV.o (ev_callC (L2N.takes_of rfl rfl rfl rfl) (k_law_ratio T) (hr.mono (by decide)) T.g_law_ratio T.F_law_ratio.kp T.b_law_ratio (ac_cons (ev_binL op_mulD mulD_ok (EV.o (ev_var (i := 5) (d := d3) rfl (pv 5))) (EV.o (ev_ix2 ix_D idxD_ok (EV.o (ev_var (i := 3) (d := y1.2.1) rfl (pv 3))) (EV.o ev_int) (fun _ _ => rfl)))) (ac_cons (ev_ix2 ix_D idxD_ok (EV.o (ev_var (i := 3) (d := y1.2.1) rfl (pv 3))) (EV.o ev_int) (fun _ _ => rfl)) ac_nil)))) (EV.o (ev_callC (L2N.takes_of rfl rfl rfl rfl) (k_law_floor T) (hr.mono (by decide)) T.g_law_floor T.F_law_floor.kp T.b_law_floor (ac_consV (ev_var (i := 0) (d := a_law_houses_so) rfl (pv 0)) (ac_consV (ev_var (i := 1) (d := a_law_told_so) rfl (pv 1)) (ac_consV (ev_var (i := 4) (d := y1.2.2) rfl (pv 4)) ac_nil))))) (nomark _)) (bk_ret ev_bl) (bk_nil (z := ()) (Wk.keep (Wk.keep (Wk.drop (Wk.drop (Wk.drop (Wk.drop Wk.nil)))))))))))) (fun z0 => (bi_ret ev_bl))) rfl rfl)
end
end LW
set_option Elab.async false
set_option linter.all false
set_option maxRecDepth 100000
set_option autoImplicit false
set_option pp.maxSteps 400
set_option maxHeartbeats 8000000
namespace LW
open PySem PySem.Spec L2 VL
open PyProof.Rows hiding St
section
variable {P : Program} {w : World} {K : PySem.W.Frag} {mg : Str → Option Value} {base : Heap}
theorem sc_law_state : FnScope ["_law_host", "_law_cuts_so", "_law_own"] ["_law_host"] (defScope (top 37)) := ⟨rfl, rfl, rfl, by decide +kernel, rfl, by decide +kernel, by decide +kernel⟩
def m_law_state (a_law_host : D) : Rs D := ((Rs.of (fldD "Survey" 0 a_law_host)).bind fun x0 => m_law_all_cuts x0).bind fun d1 => (Rs.of (fldD "Survey" 0 a_law_host)).bind fun x5 => (Rs.of (fldD "Survey" 1 a_law_host)).bind fun x6 => (if isObj "Survey" a_law_host then (m_Survey_len a_law_host).noX.bind fun d => Rs.of (len0 d) else Rs.no).bind fun x7 => (if isObj "Survey" a_law_host then m_Survey_known a_law_host else Rs.no).bind fun x8 => (((Rs.of (itemsD d1)).bind fun l3 => compM some (fun y2 => Rs.ok true) (fun y2 => if isObj "Survey" a_law_host then m_Survey_floor_of a_law_host y2 else Rs.no) l3).bind fun l4 => Rs.ok (.lst l4)).bind fun x9 => Rs.ok (.lst [x5, x6, x7, x8, x9])
theorem k_law_state (T : Txt K mg) : Keeps P w K mg base 10 (He.ga K "_law_state") T.fd_law_state ["_law_host"] (fun ds => match ds with | [a_law_host] => m_law_state a_law_host | _ => Rs.no) :=
  keeps_ret T.F_law_state sc_law_state (fun cdv A outer s H E F ds hl hr => match ds, hl with | [a_law_host], _ => bi_as [some (.val a_law_host), none, none] (bi_set (as_ev (i := 1) sc_law_state.nd (ev_callC (L2N.takes_of rfl rfl rfl rfl) (k_law_all_cuts T) (hr.mono (by decide)) T.g_law_all_cuts T.F_law_all_cuts.kp T.b_law_all_cuts (ac_cons (ev_propF (i := 0) T.sc_Survey T.pr_Survey_houses (k_Survey_houses T) (fun _ => rfl) T.b_Survey_houses (hr.mono (by decide)) (ev_var (i := 0) (d := a_law_host) rfl (pv 0))) ac_nil))) (fun d1 => (bi_ret (ev_lstC (ac_cons (ev_propF (i := 0) T.sc_Survey T.pr_Survey_houses (k_Survey_houses T) (fun _ => rfl) T.b_Survey_houses (hr.mono (by decide)) (ev_var (i := 0) (d := a_law_host) rfl (pv 0))) (ac_cons (ev_propF (i := 1) T.sc_Survey T.pr_Survey_told (k_Survey_told T) (fun _ => rfl) T.b_Survey_told (hr.mono (by decide)) (ev_var (i := 0) (d := a_law_host) rfl (pv 0))) (ac_cons (EV.to (if isObj "Survey" a_law_host then (m_Survey_len a_law_host).noX.bind fun d => Rs.of (len0 d) else Rs.no) (ev_lenO T.f_len T.om_Survey___len__ (k_Survey_len T) T.b_Survey_len (hr.mono (by decide)) (ev_var (i := 0) (d := a_law_host) rfl (pv 0))) rfl) (ac_cons (EV.to (if isObj "Survey" a_law_host then m_Survey_known a_law_host else Rs.no) (ev_meth0 (L2N.takes_of rfl rfl rfl rfl) T.sc_Survey T.mt_Survey_known (k_Survey_known T) (hr.mono (by decide)) T.b_Survey_known (ev_var (i := 0) (d := a_law_host) rfl (pv 0))) rfl) (ac_cons (EF.ev (ef_comp rfl sc_law_state.nd (it_seqV (ev_var (i := 1) (d := d1) rfl (pv 1))) (blkOk_by (own := [("_law_own", 2)]) (by kernel_rfl)) (by decide) (fun _ _ _ _ _ => tt_name (i := 2) sc_law_state.nd) (fun _ _ _ _ _ y2 => tvs_nil) (fun _ _ _ _ _ y2 => (EV.to (if isObj "Survey" a_law_host then m_Survey_floor_of a_law_host y2 else Rs.no) (ev_methC takes0N T.sc_Survey T.mt_Survey_floor_of (k_Survey_floor_of T) (hr.mono (by decide)) T.b_Survey_floor_of (ev_var (i := 0) (d := a_law_host) rfl (pv 0)) (ac_consV (ev_var (i := 2) (d := y2) rfl (pv 2)) ac_nil)) rfl)))) ac_nil))))))))) rfl rfl)
end
end LW
set_option Elab.async false
set_option linter.all false
set_option maxRecDepth 100000
set_option autoImplicit false
set_option pp.maxSteps 400
set_option maxHeartbeats 8000000
namespace LW
open PySem PySem.Spec L2 VL
open PyProof.Rows hiding St
section
variable {P : Program} {w : World} {K : PySem.W.Frag} {mg : Str → Option Value} {base : Heap}
theorem sc_law_due : FnScope ["_law_houses_so", "_law_told_so", "_law_cuts_so", "_law_found", "_law_own"] ["_law_houses_so", "_law_told_so"] (defScope (top 38)) := ⟨rfl, rfl, rfl, by decide +kernel, rfl, by decide +kernel, by decide +kernel⟩
def m_law_due (a_law_houses_so a_law_told_so : D) : Rs D := (m_law_all_cuts a_law_houses_so).bind fun d0 => ((Rs.of (tupleD [a_law_told_so])).bind fun x1 => (Rs.of (lenD [a_law_told_so])).bind fun x2 => (m_law_known a_law_houses_so a_law_told_so).bind fun x3 => Rs.ok (.lst [a_law_houses_so, x1, x2, x3])).bind fun d4 => ((((Rs.of (itemsD d0)).bind fun l6 => compM some (fun y5 => Rs.ok true) (fun y5 => m_law_floor a_law_houses_so a_law_told_so y5) l6).bind fun l7 => Rs.ok (.lst l7)).bind fun x8 => Rs.ok (.lst [x8])).bind fun x9 => Rs.of (addD d4 x9)
theorem k_law_due (T : Txt K mg) : Keeps P w K mg base 8 (He.ga K "_law_due") T.fd_law_due ["_law_houses_so", "_law_told_so"] (fun ds => match ds with | [a_law_houses_so, a_law_told_so] => m_law_due a_law_houses_so a_law_told_so | _ => Rs.no) :=
  keeps_ret T.F_law_due sc_law_due (fun cdv A outer s H E F ds hl hr => match ds, hl with | [a_law_houses_so, a_law_told_so], _ => bi_as [some (.val a_law_houses_so), some (.val a_law_told_so), none, none, none] (bi_set (as_ev (i := 2) sc_law_due.nd (ev_callC (L2N.takes_of rfl rfl rfl rfl) (k_law_all_cuts T) (hr.mono (by decide)) T.g_law_all_cuts T.F_law_all_cuts.kp T.b_law_all_cuts (ac_consV (ev_var (i := 0) (d := a_law_houses_so) rfl (pv 0)) ac_nil))) (fun d0 => (bi_set (as_ev (i := 3) sc_law_due.nd (ev_lstC (ac_consV (ev_var (i := 0) (d := a_law_houses_so) rfl (pv 0)) (ac_cons (ev_callTyC call_tuple_of tupleD_ok T.f_tuple boot_tuple (oc_consV (EV.o (ev_var (i := 1) (d := a_law_told_so) rfl (pv 1))) oc_nil)) (ac_cons (ev_callBC call_len lenD_ok T.f_len boot_len (oc_consV (EV.o (ev_var (i := 1) (d := a_law_told_so) rfl (pv 1))) oc_nil)) (ac_cons (ev_callC (L2N.takes_of rfl rfl rfl rfl) (k_law_known T) (hr.mono (by decide)) T.g_law_known T.F_law_known.kp T.b_law_known (ac_consV (ev_var (i := 0) (d := a_law_houses_so) rfl (pv 0)) (ac_consV (ev_var (i := 1) (d := a_law_told_so) rfl (pv 1)) ac_nil))) ac_nil)))))) (fun d4 => (bi_ret (ev_binL op_addD addD_ok (EV.o (ev_var (i := 3) (d := d4) rfl (pv 3))) (EV.o (ev_lstC (ac_cons (EF.ev (ef_comp rfl sc_law_due.nd (it_seqV (ev_var (i := 2) (d := d0) rfl (pv 2))) (blkOk_by (own := [("_law_own", 4)]) (by kernel_rfl)) (by decide) (fun _ _ _ _ _ => tt_name (i := 4) sc_law_due.nd) (fun _ _ _ _ _ y5 => tvs_nil) (fun _ _ _ _ _ y5 => (ev_callC takes0N (k_law_floor T) (hr.mono (by decide)) T.g_law_floor T.F_law_floor.kp T.b_law_floor (ac_consV (ev_var (i := 0) (d := a_law_houses_so) rfl (pv 0)) (ac_consV (ev_var (i := 1) (d := a_law_told_so) rfl (pv 1)) (ac_consV (ev_var (i := 4) (d := y5) rfl (pv 4)) ac_nil))))))) ac_nil))))))))) rfl rfl)
end
end LW
set_option Elab.async false
set_option linter.all false
set_option maxRecDepth 100000
set_option autoImplicit false
set_option pp.maxSteps 400
set_option maxHeartbeats 8000000
namespace LW
open PySem PySem.Spec L2 VL
open PyProof.Rows hiding St
section
variable {P : Program} {w : World} {K : PySem.W.Frag} {mg : Str → Option Value} {base : Heap}
theorem sc_law_tries : FnScope ["_law_box_here", "_law_houses_so", "_law_speeds_so", "_law_sizes_so", "_law_own", "_law_time_so", "_law_cut_so", "_law_way_so"] ["_law_box_here", "_law_houses_so", "_law_speeds_so"] (defScope (top 39)) := ⟨rfl, rfl, rfl, by decide +kernel, rfl, by decide +kernel, by decide +kernel⟩
def m_law_tries (a_law_box_here : List D) (a_law_houses_so a_law_speeds_so : D) : Rs (D × List D) := (((((Rs.of (itemsD a_law_houses_so)).bind fun ds => Rs.ok (ds, a_law_box_here)).bind fun l5 => compBM some (fun y3 s4 => Rs.ok (true, s4)) (fun y3 s4 => ((Rs.ok ((.int 4), s4))).bind fun u8 => m_law_take u8.2 u8.1) l5.1 l5.2).bind fun v9 => Rs.ok (.lst v9.1, v9.2)).bind fun u12 => (Rs.of (tupleD [u12.1])).bind fun d => Rs.ok (d, u12.2)).noX.bind fun u2 => (((Rs.of (sumD [u2.1])).bind fun x13 => Rs.of (gtB x13 (.int 0))).bind fun k => if k then (Rs.ok u2.1) else (Rs.of (lenD [a_law_houses_so])).bind fun x14 => Rs.of (mulD (.tup [(.int 1)]) x14)).bind fun d15 => (m_law_answer a_law_houses_so a_law_speeds_so d15).bind fun x70 => (Rs.of (unL2 x70)).bind fun z16 => (((Rs.ok ((.int 6), u2.2))).bind fun u22 => m_law_take u22.2 u22.1).noX.bind fun u19 => ((Rs.of (eqB u19.1 (.int 0))).bind fun k => if k then ((((Rs.ok ((.int 1), u19.2))).bind fun u35 => (((Rs.ok ((.int 9), u35.2))).bind fun u33 => m_law_take u33.2 u33.1).bind fun u34 => (Rs.of (addD u35.1 u34.1)).bind fun d => Rs.ok (d, u34.2)).bind fun u50 => (((Rs.ok ((.int 1), u50.2))).bind fun u46 => (((Rs.ok ((.int 3), u46.2))).bind fun u44 => m_law_take u44.2 u44.1).bind fun u45 => (Rs.of (addD u46.1 u45.1)).bind fun d => Rs.ok (d, u45.2)).bind fun u49 => (m_law_ratio u50.1 u49.1).bind fun d => Rs.ok (d, u49.2)).noX.bind fun u26 => Rs.ok (u26.2, u26.1) else Rs.ok (u19.2, z16.1)).bind fun z23 => ((Rs.of (eqB u19.1 (.int 1))).bind fun k => if k then ((((Rs.ok (a_law_speeds_so, z23.1))).bind fun u63 => ((((Rs.of (lenD [a_law_speeds_so])).bind fun d => Rs.ok (d, u63.2))).bind fun u61 => m_law_take u61.2 u61.1).bind fun u62 => (Rs.of (idxD u63.1 u62.1)).bind fun d => Rs.ok (d, u62.2)).bind fun u69 => ((Rs.ok ((.int 0), u69.2))).bind fun u68 => (Rs.of (idxD u69.1 u68.1)).bind fun d => Rs.ok (d, u68.2)).noX.bind fun u54 => Rs.ok (u54.2, u54.1) else Rs.ok (z23.1, z16.2)).bind fun z51 => Rs.ok ((.tup [d15, z23.2, z51.2]), z51.1)
theorem k_law_tries (T : Txt K mg) : KeepsIO P w K mg base 8 (He.ga K "_law_tries") T.fd_law_tries ["_law_box_here", "_law_houses_so", "_law_speeds_so"] (fun a_law_box_here ds => match ds with | [a_law_houses_so, a_law_speeds_so] => m_law_tries a_law_box_here a_law_houses_so a_law_speeds_so | _ => Rs.no) :=
  keeps_io T.F_law_tries sc_law_tries (fun cdv A outer s H E F b a_law_box_here ds hl hr => match ds, hl with | [a_law_houses_so, a_law_speeds_so], _ => bi_as [some (.own false (.lst a_law_box_here)), some (.val a_law_houses_so), some (.val a_law_speeds_so), none, none, none, none, none] (bi_nox (bi_at [some (.own false (.lst a_law_box_here)), some (.val a_law_houses_so), some (.val a_law_speeds_so), none, none, none, none, none] (bi_setS (l := false) (i := 0) (j := 3) (asb_eb sc_law_tries.nd (eb_callTyC call_tuple_of tupleD_ok T.f_tuple boot_tuple (bc_cons (l := false) (EFB.eb (efb_comp (l := false) rfl sc_law_tries.nd (ib_pure (l := false) (s := a_law_box_here) (it_seqV (ev_var (i := 1) (d := a_law_houses_so) rfl (pv 1)))) (blkOk_by (own := [("_law_own", 4)]) (by kernel_rfl)) (by decide) (by decide) (fun _ _ _ _ _ _ => tt_name (i := 4) sc_law_tries.nd) (fun _ _ _ _ _ y3 s4 => (tbs_nil (l := false) (s := s4))) (fun _ _ _ _ _ y3 s4 => (eb_ioC (l := false) (k_law_take T) (hr.mono (by decide)) T.g_law_take T.F_law_take.kp T.b_law_take (pv 0) (bc_cons (l := false) (eb_val (l := false) (s := s4) ev_int) (fun s6 => (bc_nil (l := false) (s := s6)))))))) (fun s10 => (bc_nil (l := false) (s := s10))))))  (fun d1 s0 => (bi_at [some (.own false (.lst s0)), some (.val a_law_houses_so), some (.val a_law_speeds_so), some (.val d1), none, none, none, none] (bi_set (as_ev (i := 3) sc_law_tries.nd (ev_if (tv_cmpR (op_gtA hr.units) gtD_ok gtD_is (EV.o (ev_callBC (call_sumA rfl) sumD_ok T.f_sum boot_sum (oc_consV (EV.o (ev_var (i := 3) (d := d1) rfl (pv 3))) oc_nil))) (EV.o ev_int) (nomark _)) (ev_var (i := 3) (d := d1) rfl (pv 3)) (ev_binL op_mulD mulD_ok (EV.o (ev_tupC (ac_consV ev_int ac_nil))) (EV.o (ev_callBC call_len lenD_ok T.f_len boot_len (oc_consV (EV.o (ev_var (i := 1) (d := a_law_houses_so) rfl (pv 1))) oc_nil)))))) (fun d15 => (bi_at [some (.own false (.lst s0)), some (.val a_law_houses_so), some (.val a_law_speeds_so), some (.val d15), none, none, none, none] (bi_unp (ev_callC (L2N.takes_of rfl rfl rfl rfl) (k_law_answer T) (hr.mono (by decide)) T.g_law_answer T.F_law_answer.kp T.b_law_answer (ac_consV (ev_var (i := 1) (d := a_law_houses_so) rfl (pv 1)) (ac_consV (ev_var (i := 2) (d := a_law_speeds_so) rfl (pv 2)) (ac_consV (ev_var (i := 3) (d := d15) rfl (pv 3)) ac_nil)))) (tl_2 rfl (pg_name (i := 5) sc_law_tries.nd rfl (by first | exact Or.inl rfl | exact Or.inr rfl)) (pg_name (i := 6) sc_law_tries.nd rfl (by first | exact Or.inl rfl | exact Or.inr rfl))) (fun z16 => (bi_at [some (.own false (.lst s0)), some (.val a_law_houses_so), some (.val a_law_speeds_so), some (.val d15), none, some (.val z16.1), some (.val z16.2), none] (bi_setS (l := false) (i := 0) (j := 7) (asb_eb sc_law_tries.nd (eb_ioC (l := false) (k_law_take T) (hr.mono (by decide)) T.g_law_take T.F_law_take.kp T.b_law_take (pv 0) (bc_cons (l := false) (eb_val (l := false) (s := s0) ev_int) (fun s20 => (bc_nil (l := false) (s := s20))))))  (fun d18 s17 => (bi_at [some (.own false (.lst s17)), some (.val a_law_houses_so), some (.val a_law_speeds_so), some (.val d15), none, some (.val z16.1), some (.val z16.2), some (.val d18)] (bi_if (p1 := fun (z23 : List D × D) => [some (.own false (.lst z23.1)), some (.val a_law_houses_so), some (.val a_law_speeds_so), some (.val d15), none, some (.val z23.2), some (.val z16.2), some (.val d18)]) (tv_cmp2 (op_eqA hr.units) eqD_ok eqD_is (EV.o (ev_var (i := 7) (d := d18) rfl (pv 7))) (EV.o ev_int) (nomark _)) (bi_at [some (.own false (.lst s17)), some (.val a_law_houses_so), some (.val a_law_speeds_so), some (.val d15), none, some (.val z16.1), some (.val z16.2), some (.val d18)] (bi_setS (l := false) (i := 0) (j := 5) (asb_eb sc_law_tries.nd (eb_ownC (k_law_ratio T) (hr.mono (by decide)) T.g_law_ratio T.F_law_ratio.kp T.b_law_ratio (bc_cons (l := false) (eb_bin (l := false) op_addD addD_ok (eb_val (l := false) (s := s17) ev_int) (fun s27 => (eb_ioC (l := false) (k_law_take T) (hr.mono (by decide)) T.g_law_take T.F_law_take.kp T.b_law_take (pv 0) (bc_cons (l := false) (eb_val (l := false) (s := s27) ev_int) (fun s31 => (bc_nil (l := false) (s := s31))))))) (fun s36 => (bc_cons (l := false) (eb_bin (l := false) op_addD addD_ok (eb_val (l := false) (s := s36) ev_int) (fun s38 => (eb_ioC (l := false) (k_law_take T) (hr.mono (by decide)) T.g_law_take T.F_law_take.kp T.b_law_take (pv 0) (bc_cons (l := false) (eb_val (l := false) (s := s38) ev_int) (fun s42 => (bc_nil (l := false) (s := s42))))))) (fun s47 => (bc_nil (l := false) (s := s47))))))))  (fun d25 s24 => (bi_nil (z := (s24, d25)) (Wk.keep (Wk.keep (Wk.keep (Wk.keep (Wk.drop (Wk.keep (Wk.keep (Wk.keep Wk.nil)))))))))))) (bi_nil (z := (s17, z16.1)) (Wk.keep (Wk.keep (Wk.keep (Wk.keep (Wk.drop (Wk.keep (Wk.keep (Wk.keep Wk.nil))))))))) (fun z23 => (bi_at [some (.own false (.lst z23.1)), some (.val a_law_houses_so), some (.val a_law_speeds_so), some (.val d15), none, some (.val z23.2), some (.val z16.2), some (.val d18)] (bi_if (p1 := fun (z51 : List D × D) => [some (.own false (.lst z51.1)), some (.val a_law_houses_so), some (.val a_law_speeds_so), some (.val d15), none, some (.val z23.2), some (.val z51.2), some (.val d18)]) (tv_cmp2 (op_eqA hr.units) eqD_ok eqD_is (EV.o (ev_var (i := 7) (d := d18) rfl (pv 7))) (EV.o ev_int) (nomark _)) (bi_at [some (.own false (.lst z23.1)), some (.val a_law_houses_so), some (.val a_law_speeds_so), some (.val d15), none, some (.val z23.2), some (.val z16.2), some (.val d18)] (bi_setS (l := false) (i := 0) (j := 6) (asb_eb sc_law_tries.nd (eb_ix (l := false) ix_D idxD_ok (eb_ix (l := false) ix_D idxD_ok (eb_val (l := false) (s := z23.1) (ev_var (i := 2) (d := a_law_speeds_so) rfl (pv 2))) (fun s55 => (eb_ioC (l := false) (k_law_take T) (hr.mono (by decide)) T.g_law_take T.F_law_take.kp T.b_law_take (pv 0) (bc_cons (l := false) (eb_pure (l := false) (s := s55) (ev_callBC call_len lenD_ok T.f_len boot_len (oc_consV (EV.o (ev_var (i := 2) (d := a_law_speeds_so) rfl (pv 2))) oc_nil))) (fun s59 => (bc_nil (l := false) (s := s59)))))) (fun _ _ => rfl)) (fun s64 => (eb_val (l := false) (s := s64) ev_int)) (fun _ _ => rfl)))  (fun d53 s52 => (bi_nil (z := (s52, d53)) (Wk.keep (Wk.keep (Wk.keep (Wk.keep (Wk.drop (Wk.keep (Wk.keep (Wk.keep Wk.nil)))))))))))) (bi_nil (z := (z23.1, z16.2)) (Wk.keep (Wk.keep (Wk.keep (Wk.keep (Wk.drop (Wk.keep (Wk.keep (Wk.keep Wk.nil))))))))) (fun z51 => (bi_at [some (.own false (.lst z51.1)), some (.val a_law_houses_so), some (.val a_law_speeds_so), some (.val d15), none, some (.val z23.2), some (.val z51.2), some (.val d18)] (bi_retP (i := 0) (s := z51.1) (ev_tupC (ac_consV (ev_var (i := 3) (d := d15) rfl (pv 3)) (ac_consV (ev_var (i := 5) (d := z23.2) rfl (pv 5)) (ac_consV (ev_var (i := 6) (d := z51.2) rfl (pv 6)) ac_nil))))))))))))))))))))))))) rfl (by unfold m_law_tries; repeat' (first | with_reducible rfl | (refine bcongr ?_ fun _ => ?_) | (refine icongr ?_ ?_) | rfl)))
end
end LW
set_option Elab.async false
set_option linter.all false
set_option maxRecDepth 100000
set_option autoImplicit false
set_option pp.maxSteps 400
set_option maxHeartbeats 8000000
namespace LW
open PySem PySem.Spec L2 VL
open PyProof.Rows hiding St
section
variable {P : Program} {w : World} {K : PySem.W.Frag} {mg : Str → Option Value} {base : Heap}
theorem sc_law_by_hand_right : FnScope ["_law_host", "_law_a", "_law_b", "_law_ab", "_law_got", "_law_due_here", "_law_bad", "_law_own", "_law_mate", "_law_great"] [] (defScope (top 40)) := ⟨rfl, rfl, rfl, by decide +kernel, rfl, by decide +kernel, by decide +kernel⟩
theorem g_law_by_hand_right (T : Txt K mg) (m_Survey_eq : D → D → Rs D) (k_Survey_eq : ∀ T : Txt K mg, Keeps P w K mg base 4 (He.ma K (He.ga K "Survey") "__eq__") T.fd_Survey_eq ["self", "other"] (fun ds => match ds with | [a_self, a_other] => m_Survey_eq a_self a_other | _ => Rs.no)) (m_Survey_init : D → Rs D) (k_Survey_init : ∀ T : Txt K mg, KeepsI P w K mg base 18 "Survey" (He.ma K (He.ga K "Survey") "__init__") T.fd_Survey_init ["self", "houses"] (fun ds => match ds with | [a_houses] => m_Survey_init a_houses | _ => Rs.no)) (m_Survey_len : D → Rs D) (k_Survey_len : ∀ T : Txt K mg, Keeps P w K mg base 2 (He.ma K (He.ga K "Survey") "__len__") T.fd_Survey_len ["self"] (fun ds => match ds with | [a_self] => m_Survey_len a_self | _ => Rs.no)) (m_Survey_floor_of : D → D → Rs D) (k_Survey_floor_of : ∀ T : Txt K mg, Keeps P w K mg base 8 (He.ma K (He.ga K "Survey") "floor_of") T.fd_Survey_floor_of ["self", "cut"] (fun ds => match ds with | [a_self, a_cut] => m_Survey_floor_of a_self a_cut | _ => Rs.no)) (m_Survey_known : D → Rs D) (k_Survey_known : ∀ T : Txt K mg, Keeps P w K mg base 8 (He.ma K (He.ga K "Survey") "known") T.fd_Survey_known ["self"] (fun ds => match ds with | [a_self] => m_Survey_known a_self | _ => Rs.no)) (m_Survey_tell : List D → D → D → D → Rs (D × List D)) (k_Survey_tell : ∀ T : Txt K mg, KeepsMO P w K mg base 20 "Survey" (He.ma K (He.ga K "Survey") "tell") T.fd_Survey_tell ["self", "sizes", "time", "cut"] (fun s0 ds => match ds with | [a_sizes, a_time, a_cut] => m_Survey_tell s0 a_sizes a_time a_cut | _ => Rs.no)) (m_Survey_twin : D → Rs (List D)) (k_Survey_twin : ∀ T : Txt K mg, KeepsNO P w K mg base 20 "Survey" (He.ma K (He.ga K "Survey") "twin") T.fd_Survey_twin ["self"] (fun ds => match ds with | [a_self] => m_Survey_twin a_self | _ => Rs.no)) (m_law_back : List D → Rs (D × List D)) (k_law_back : ∀ T : Txt K mg, KeepsMO P w K mg base 6 "Survey" (He.ga K "_law_back") T.fd_law_back ["_law_host"] (fun s0 ds => match ds with | [] => m_law_back s0  | _ => Rs.no)) (m_law_same : Nat → D → D → Rs D) (k_law_same : ∀ T : Txt K mg, ∀ n : Nat, Keeps P w K mg base (n + 2) (He.ga K "_law_same") T.fd_law_same ["_law_got", "_law_due_here"] (fun ds => match ds with | [a_law_got, a_law_due_here] => m_law_same n a_law_got a_law_due_here | _ => Rs.no)) (m_law_told : List D → D → D → D → Rs (D × List D)) (k_law_told : ∀ T : Txt K mg, KeepsMO P w K mg base 22 "Survey" (He.ga K "_law_told") T.fd_law_told ["_law_host", "_law_sizes_so", "_law_time_so", "_law_cut_so"] (fun s0 ds => match ds with | [a_law_sizes_so, a_law_time_so, a_law_cut_so] => m_law_told s0 a_law_sizes_so a_law_time_so a_law_cut_so | _ => Rs.no)) : Keeps P w K mg base 24 (He.ga K "_law_by_hand_right") T.fd_law_by_hand_right [] (fun ds => match ds with | [] => ((madeR "Survey" (m_Survey_init (.lst [(.str "a"), (.str "b"), (.str "c")])))).bind fun d0 => ((Rs.ok (.tup [(.str "a")]))).bind fun d1 => ((Rs.ok (.tup [(.str "b")]))).bind fun d2 => ((Rs.ok (.tup [(.str "a"), (.str "b")]))).bind fun d3 => (((((shedR (Rs.of (fldD "Survey" 0 (.obj "Survey" d0))))).bind fun d => Rs.ok (d, d0))).bind fun u24 => ((((shedR (Rs.of (fldD "Survey" 1 (.obj "Survey" u24.2))))).bind fun d => Rs.ok (d, u24.2))).bind fun u23 => ((((shedR (if isObj "Survey" (.obj "Survey" u23.2) then (m_Survey_len (.obj "Survey" u23.2)).noX.bind fun d => Rs.of (len0 d) else Rs.no))).bind fun d => Rs.ok (d, u23.2))).bind fun u22 => ((((shedR (if isObj "Survey" (.obj "Survey" u22.2) then m_Survey_known (.obj "Survey" u22.2) else Rs.no))).bind fun d => Rs.ok (d, u22.2))).bind fun u21 => ((((shedR (if isObj "Survey" (.obj "Survey" u21.2) then m_Survey_floor_of (.obj "Survey" u21.2) d1 else Rs.no))).bind fun d => Rs.ok (d, u21.2))).bind fun u20 => ((m_law_back u20.2).noX).bind fun u19 => Rs.ok (.lst [u24.1, u23.1, u22.1, u21.1, u20.1, u19.1], u19.2)).noX.bind fun u6 => ((Rs.ok (.lst [(.tup [(.str "a"), (.str "b"), (.str "c")]), (.tup []), (.int 0), (.tup []), (.tup [(.int 0), (.int 1)]), (.lst [(.str "none"), (.bl true)])]))).bind fun d25 => (((((Rs.ok u6.1)).bind fun d => Rs.ok (d, u6.2))).bind fun u43 => (((m_law_told u43.2 (.tup [(.int 3), (.int 3), (.int 0)]) (.tup [(.int 2), (.int 1)]) d3).noX).bind fun u41 => ((((shedR (if isObj "Survey" (.obj "Survey" u41.2) then m_Survey_known (.obj "Survey" u41.2) else Rs.no))).bind fun d => Rs.ok (d, u41.2))).bind fun u40 => ((((shedR (if isObj "Survey" (.obj "Survey" u40.2) then m_Survey_floor_of (.obj "Survey" u40.2) d1 else Rs.no))).bind fun d => Rs.ok (d, u40.2))).bind fun u39 => Rs.ok (.lst [u41.1, u40.1, u39.1], u39.2)).bind fun u42 => (Rs.of (addD u43.1 u42.1)).bind fun d => Rs.ok (d, u42.2)).noX.bind fun u28 => ((shedR (((if isObj "Survey" (.obj "Survey" u28.2) then m_Survey_floor_of (.obj "Survey" u28.2) (.lst [(.str "b"), (.str "c")]) else Rs.no).bind fun x44 => Rs.ok (.lst [x44])).bind fun x45 => Rs.of (addD u28.1 x45)))).bind fun d46 => (Rs.of (addD d25 (.lst [.non, (.tup [(.tup [d3, (.tup [(.int 3), (.int 1)])])]), (.tup [(.int 3), (.int 2)]), (.tup [(.int 3), (.int 2)])]))).bind fun d47 => ((Rs.ok (.lst [(.tup [(.tup [(.int 1), (.int 0), (.int 0)]), (.tup [(.int 1), (.int 4)]), d3]), (.tup [(.tup [(.int 3), (.int 0), (.int 0)]), (.tup [(.int 1), (.int 2)]), d1]), (.tup [(.tup [(.int 0), (.int 0), (.int 2)]), (.tup [(.int 1), (.int 1)]), d1]), (.tup [(.tup [(.int 1), (.int 0), (.int 0)]), (.tup [(.int 1), (.int 1)]), d1])]))).bind fun d48 => (((((Rs.ok d46)).bind fun d => Rs.ok (d, u28.2))).bind fun u64 => ((((Rs.of (itemsD d48)).bind fun ds => Rs.ok (ds, u64.2)).bind fun l58 => compBM some (fun y56 s57 => Rs.ok (true, s57)) (fun y56 s57 => ((Rs.of (idxD y56 (.int 0))).bind fun x59 => (Rs.of (idxD y56 (.int 1))).bind fun x60 => (Rs.of (idxD y56 (.int 2))).bind fun x61 => m_law_told s57 x59 x60 x61).noX) l58.1 l58.2).bind fun v62 => Rs.ok (.lst v62.1, v62.2)).bind fun u63 => (Rs.of (addD u64.1 u63.1)).bind fun d => Rs.ok (d, u63.2)).noX.bind fun u51 => ((((Rs.of (itemsD d48)).bind fun l69 => compM some (fun y65 => Rs.ok true) (fun y65 => ((Rs.of (idxD y65 (.int 1))).bind fun x66 => (Rs.of (idxD y65 (.int 2))).bind fun x67 => Rs.ok (.tup [x66, x67])).bind fun x68 => Rs.ok (.lst [(.str "bad"), x68, (.bl true)])) l69).bind fun l70 => Rs.ok (.lst l70)).bind fun x71 => Rs.of (addD d47 x71)).bind fun d72 => (((((Rs.ok u51.1)).bind fun d => Rs.ok (d, u51.2))).bind fun u93 => (((((shedR (if isObj "Survey" (.obj "Survey" u93.2) then (m_Survey_len (.obj "Survey" u93.2)).noX.bind fun d => Rs.of (len0 d) else Rs.no))).bind fun d => Rs.ok (d, u93.2))).bind fun u91 => ((m_law_told u91.2 (.lst [(.int 1), (.int 0), (.int 0)]) (.lst [(.int 2), (.int 3)]) (.lst [(.str "a")])).noX).bind fun u90 => ((((shedR (if isObj "Survey" (.obj "Survey" u90.2) then m_Survey_known (.obj "Survey" u90.2) else Rs.no))).bind fun d => Rs.ok (d, u90.2))).bind fun u89 => ((((shedR (Rs.of (fldD "Survey" 1 (.obj "Survey" u89.2))))).bind fun d => Rs.ok (d, u89.2))).bind fun u88 => Rs.ok (.lst [u91.1, u90.1, u89.1, u88.1], u88.2)).bind fun u92 => (Rs.of (addD u93.1 u92.1)).bind fun d => Rs.ok (d, u92.2)).noX.bind fun u75 => (Rs.of (addD d72 (.lst [(.int 1), .non, (.tup [(.tup [d1, (.tup [(.int 3), (.int 2)])]), (.tup [d3, (.tup [(.int 3), (.int 1)])])])]))).bind fun d94 => (Rs.of (addD d94 (.lst [(.tup [(.tup [(.tup [(.int 3), (.int 3), (.int 0)]), (.tup [(.int 2), (.int 1)]), d3]), (.tup [(.tup [(.int 1), (.int 0), (.int 0)]), (.tup [(.int 2), (.int 3)]), d1])])]))).bind fun d95 => ((shedN (if isObj "Survey" (.obj "Survey" u75.2) then (m_Survey_twin (.obj "Survey" u75.2)).noX else Rs.no))).bind fun o96 => (((((Rs.ok u75.1)).bind fun d => Rs.ok (d, o96))).bind fun u123 => (((((shedR (shedR (if isObj "Survey" (.obj "Survey" u123.2) && (isObj "Survey" (.obj "Survey" u75.2) || isSm (.obj "Survey" u75.2)) then (m_Survey_eq (.obj "Survey" u123.2) (.obj "Survey" u75.2)).noX else Rs.no)))).bind fun d => Rs.ok (d, u123.2))).bind fun u121 => ((((shedR (shedR (if isObj "Survey" (.obj "Survey" u121.2) && isObj "Survey" (.obj "Survey" u75.2) then (m_Survey_eq (.obj "Survey" u121.2) (.obj "Survey" u75.2)).noX.bind fun d => Rs.of (bln d) else Rs.no)))).bind fun d => Rs.ok (d, u121.2))).bind fun u120 => ((m_law_back u120.2).noX).bind fun u119 => ((((shedR (shedR (if isObj "Survey" (.obj "Survey" u119.2) && (isObj "Survey" (.obj "Survey" u75.2) || isSm (.obj "Survey" u75.2)) then (m_Survey_eq (.obj "Survey" u119.2) (.obj "Survey" u75.2)).noX else Rs.no)))).bind fun d => Rs.ok (d, u119.2))).bind fun u118 => ((((shedR (if isObj "Survey" (.obj "Survey" u118.2) then (m_Survey_len (.obj "Survey" u118.2)).noX.bind fun d => Rs.of (len0 d) else Rs.no))).bind fun d => Rs.ok (d, u118.2))).bind fun u117 => ((((shedR (if isObj "Survey" (.obj "Survey" u75.2) then (m_Survey_len (.obj "Survey" u75.2)).noX.bind fun d => Rs.of (len0 d) else Rs.no))).bind fun d => Rs.ok (d, u117.2))).bind fun u116 => Rs.ok (.lst [u121.1, u120.1, u119.1, u118.1, u117.1, u116.1], u116.2)).bind fun u122 => (Rs.of (addD u123.1 u122.1)).bind fun d => Rs.ok (d, u122.2)).noX.bind fun u99 => ((shedR (((if isObj "Survey" (.obj "Survey" u99.2) then m_Survey_known (.obj "Survey" u99.2) else Rs.no).bind fun x124 => Rs.ok (.lst [x124])).bind fun x125 => Rs.of (addD u99.1 x125)))).bind fun d126 => (Rs.of (addD d95 (.lst [(.bl true), (.bl false), .non, (.bl false), (.int 1), (.int 2), (.tup [(.tup [d3, (.tup [(.int 3), (.int 1)])])])]))).bind fun d127 => ((shedR (((((m_Survey_init (.tup [(.str "a"), (.str "b"), (.str "c")])).noX).bind fun x128 => if isObj "Survey" (.obj "Survey" u75.2) && (isObj "Survey" x128 || isSm x128) then (m_Survey_eq (.obj "Survey" u75.2) x128).noX else Rs.no).bind fun x131 => (((m_Survey_init (.tup [(.str "a"), (.str "b")])).noX).bind fun x129 => ((m_Survey_init (.tup [(.str "a"), (.str "c")])).noX).bind fun x130 => if isObj "Survey" x129 && (isObj "Survey" x130 || isSm x130) then (m_Survey_eq x129 x130).noX else Rs.no).bind fun x132 => (if isObj "Survey" (.obj "Survey" u75.2) && (isObj "Survey" (.int 7) || isSm (.int 7)) then (m_Survey_eq (.obj "Survey" u75.2) (.int 7)).noX else Rs.no).bind fun x133 => Rs.ok (.lst [x131, x132, x133])).bind fun x134 => Rs.of (addD d126 x134)))).bind fun d135 => ((shedR ((((Rs.of (fldD "Survey" 1 (.obj "Survey" u75.2))).bind fun x136 => if isObj "Survey" (.obj "Survey" u75.2) && (isObj "Survey" x136 || isSm x136) then (m_Survey_eq (.obj "Survey" u75.2) x136).noX else Rs.no).bind fun x137 => Rs.ok (.lst [x137])).bind fun x138 => Rs.of (addD d135 x138)))).bind fun d139 => (Rs.of (addD d127 (.lst [(.bl false), (.bl false), (.bl false), (.bl false)]))).bind fun d140 => (Rs.of (powD (.int 10) (.int 30))).bind fun d141 => (((((Rs.ok d139)).bind fun d => Rs.ok (d, u99.2))).bind fun u158 => (((((Rs.of (fdivD d141 (.int 2))).bind fun x149 => Rs.ok (.tup [x149, (.int 1)])).bind fun x150 => m_Survey_tell u158.2 (.tup [(.int 0), d141, (.int 0)]) x150 d2).noX).bind fun u156 => ((((shedR (if isObj "Survey" (.obj "Survey" u156.2) then m_Survey_floor_of (.obj "Survey" u156.2) d2 else Rs.no))).bind fun d => Rs.ok (d, u156.2))).bind fun u155 => Rs.ok (.lst [u156.1, u155.1], u155.2)).bind fun u157 => (Rs.of (addD u158.1 u157.1)).bind fun d => Rs.ok (d, u157.2)).noX.bind fun u144 => (((((Rs.ok u144.1)).bind fun d => Rs.ok (d, u144.2))).bind fun u173 => (((m_law_back u173.2).noX).bind fun u171 => ((m_law_back u171.2).noX).bind fun u170 => Rs.ok (.lst [u171.1, u170.1], u170.2)).bind fun u172 => (Rs.of (addD u173.1 u172.1)).bind fun d => Rs.ok (d, u172.2)).noX.bind fun u161 => ((((((Rs.ok u161.1)).bind fun d => Rs.ok (d, u161.2))).bind fun u185 => (((m_law_back u185.2).noX).bind fun u183 => ((((shedR (Rs.of (fldD "Survey" 1 (.obj "Survey" u183.2))))).bind fun d => Rs.ok (d, u183.2))).bind fun u182 => Rs.ok (.lst [u183.1, u182.1], u182.2)).bind fun u184 => (Rs.of (addD u185.1 u184.1)).bind fun d => Rs.ok (d, u184.2)).bind fun u191 => (((Rs.of (addD d140 (.lst [.non, (.tup [(.int 2), (.int 1)]), .non, .non, (.lst [(.str "none"), (.bl true)]), (.tup [])]))).bind fun d => Rs.ok (d, u191.2))).bind fun u190 => (m_law_same 14 u191.1 u190.1).bind fun d => Rs.ok (d, u190.2)).noX.bind fun u => Rs.ok u.1 | _ => Rs.no) :=
  keeps_ret T.F_law_by_hand_right sc_law_by_hand_right (fun cdv A outer s H E F ds hl hr => match ds, hl with | [], _ => bi_as [none, none, none, none, none, none, none, none, none, none] (bi_at [none, none, none, none, none, none, none, none, none, none] (bi_dsp4 (i1 := 0) (i2 := 1) (i3 := 2) (i4 := 3) rfl (pg_name (i := 0) sc_law_by_hand_right.nd rfl (by first | exact Or.inl rfl | exact Or.inr rfl)) (pg_name (i := 1) sc_law_by_hand_right.nd rfl (by first | exact Or.inl rfl | exact Or.inr rfl)) (pg_name (i := 2) sc_law_by_hand_right.nd rfl (by first | exact Or.inl rfl | exact Or.inr rfl)) (pg_name (i := 3) sc_law_by_hand_right.nd rfl (by first | exact Or.inl rfl | exact Or.inr rfl)) (ENo.ec (eno_make T.mk_Survey (k_Survey_init T) (hr.mono (by decide)) T.g_Survey T.b_Survey_init .nil (fun _ => .nil) (ac_consV (ev_lstC (ac_consV ev_str (ac_consV ev_str (ac_consV ev_str ac_nil)))) ac_nil))) (EV.ec (ev_tupC (ac_consV ev_str ac_nil))) (EV.ec (ev_tupC (ac_consV ev_str ac_nil))) (EV.ec (ev_tupC (ac_consV ev_str (ac_consV ev_str ac_nil)))) (fun d0 d1 d2 d3 => (bi_at [some (.own true (.obj "Survey" d0)), some (.val d1), some (.val d2), some (.val d3), none, none, none, none, none, none] (bi_setM (i := 0) (j := 4) sc_law_by_hand_right.nd (em_lstC (mc_cons (l := true) (em_pure (l := true) (s := d0) (ev_lend (i := 0) rfl (ev_propF (i := 0) T.sc_Survey T.pr_Survey_houses (k_Survey_houses T) (fun _ => rfl) T.b_Survey_houses (hr.mono (by decide)) (ev_var (i := 0) (d := (.obj "Survey" d0)) rfl (pv 0))))) (fun s7 => (mc_cons (l := true) (em_pure (l := true) (s := s7) (ev_lend (i := 0) rfl (ev_propF (i := 1) T.sc_Survey T.pr_Survey_told (k_Survey_told T) (fun _ => rfl) T.b_Survey_told (hr.mono (by decide)) (ev_var (i := 0) (d := (.obj "Survey" s7)) rfl (pv 0))))) (fun s9 => (mc_cons (l := true) (em_pure (l := true) (s := s9) (ev_lend (i := 0) rfl (EV.to (if isObj "Survey" (.obj "Survey" s9) then (m_Survey_len (.obj "Survey" s9)).noX.bind fun d => Rs.of (len0 d) else Rs.no) (ev_lenO T.f_len T.om_Survey___len__ (k_Survey_len T) T.b_Survey_len (hr.mono (by decide)) (ev_var (i := 0) (d := (.obj "Survey" s9)) rfl (pv 0))) rfl))) (fun s11 => (mc_cons (l := true) (em_pure (l := true) (s := s11) (ev_lend (i := 0) rfl (EV.to (if isObj "Survey" (.obj "Survey" s11) then m_Survey_known (.obj "Survey" s11) else Rs.no) (ev_meth0 takes0N T.sc_Survey T.mt_Survey_known (k_Survey_known T) (hr.mono (by decide)) T.b_Survey_known (ev_var (i := 0) (d := (.obj "Survey" s11)) rfl (pv 0))) rfl))) (fun s13 => (mc_cons (l := true) (em_pure (l := true) (s := s13) (ev_lend (i := 0) rfl (EV.to (if isObj "Survey" (.obj "Survey" s13) then m_Survey_floor_of (.obj "Survey" s13) d1 else Rs.no) (ev_methC takes0N T.sc_Survey T.mt_Survey_floor_of (k_Survey_floor_of T) (hr.mono (by decide)) T.b_Survey_floor_of (ev_var (i := 0) (d := (.obj "Survey" s13)) rfl (pv 0)) (ac_consV (ev_var (i := 1) (d := d1) rfl (pv 1)) ac_nil)) rfl))) (fun s15 => (mc_cons (l := true) (em_ee (ee_callC takes0N (k_law_back T) (hr.mono (by decide)) T.g_law_back T.F_law_back.kp T.b_law_back (pv 0) ac_nil)) (fun s17 => (mc_nil (l := true) (s := s17))))))))))))))) (fun d4 o5 => (bi_at [some (.own true (.obj "Survey" o5)), some (.val d1), some (.val d2), some (.val d3), some (.val d4), none, none, none, none, none] (bi_set (as_ev (i := 5) sc_law_by_hand_right.nd (ev_lstC (ac_consV (ev_tupC (ac_consV ev_str (ac_consV ev_str (ac_consV ev_str ac_nil)))) (ac_consV (ev_tupC ac_nil) (ac_consV ev_int (ac_consV (ev_tupC ac_nil) (ac_consV (ev_tupC (ac_consV ev_int (ac_consV ev_int ac_nil))) (ac_consV (ev_lstC (ac_consV ev_str (ac_consV ev_bl ac_nil))) ac_nil)))))))) (fun d25 => (bi_at [some (.own true (.obj "Survey" o5)), some (.val d1), some (.val d2), some (.val d3), some (.val d4), some (.val d25), none, none, none, none] (bi_setM (i := 0) (j := 4) sc_law_by_hand_right.nd (em_bin (l := true) op_addD addD_ok (em_pure (l := true) (s := o5) (ev_var (i := 4) (d := d4) rfl (pv 4))) (fun s29 => (em_lstC (mc_cons (l := true) (em_ee (ee_callC takes0N (k_law_told T) (hr.mono (by decide)) T.g_law_told T.F_law_told.kp T.b_law_told (pv 0) (ac_consV (ev_tupC (ac_consV ev_int (ac_consV ev_int (ac_consV ev_int ac_nil)))) (ac_consV (ev_tupC (ac_consV ev_int (ac_consV ev_int ac_nil))) (ac_consV (ev_var (i := 3) (d := d3) rfl (pv 3)) ac_nil))))) (fun s33 => (mc_cons (l := true) (em_pure (l := true) (s := s33) (ev_lend (i := 0) rfl (EV.to (if isObj "Survey" (.obj "Survey" s33) then m_Survey_known (.obj "Survey" s33) else Rs.no) (ev_meth0 takes0N T.sc_Survey T.mt_Survey_known (k_Survey_known T) (hr.mono (by decide)) T.b_Survey_known (ev_var (i := 0) (d := (.obj "Survey" s33)) rfl (pv 0))) rfl))) (fun s35 => (mc_cons (l := true) (em_pure (l := true) (s := s35) (ev_lend (i := 0) rfl (EV.to (if isObj "Survey" (.obj "Survey" s35) then m_Survey_floor_of (.obj "Survey" s35) d1 else Rs.no) (ev_methC takes0N T.sc_Survey T.mt_Survey_floor_of (k_Survey_floor_of T) (hr.mono (by decide)) T.b_Survey_floor_of (ev_var (i := 0) (d := (.obj "Survey" s35)) rfl (pv 0)) (ac_consV (ev_var (i := 1) (d := d1) rfl (pv 1)) ac_nil)) rfl))) (fun s37 => (mc_nil (l := true) (s := s37))))))))))) (fun d26 o27 => (bi_at [some (.own true (.obj "Survey" o27)), some (.val d1), some (.val d2), some (.val d3), some (.val d26), some (.val d25), none, none, none, none] (bi_set (as_ev (i := 4) sc_law_by_hand_right.nd (ev_lend (i := 0) rfl (ev_binL op_addD addD_ok (EV.o (ev_var (i := 4) (d := d26) rfl (pv 4))) (EV.o (ev_lstC (ac_cons (EV.to (if isObj "Survey" (.obj "Survey" o27) then m_Survey_floor_of (.obj "Survey" o27) (.lst [(.str "b"), (.str "c")]) else Rs.no) (ev_methC (L2N.takes_of rfl rfl rfl rfl) T.sc_Survey T.mt_Survey_floor_of (k_Survey_floor_of T) (hr.mono (by decide)) T.b_Survey_floor_of (ev_var (i := 0) (d := (.obj "Survey" o27)) rfl (pv 0)) (ac_consV (ev_lstC (ac_consV ev_str (ac_consV ev_str ac_nil))) ac_nil)) rfl) ac_nil)))))) (fun d46 => (bi_at [some (.own true (.obj "Survey" o27)), some (.val d1), some (.val d2), some (.val d3), some (.val d46), some (.val d25), none, none, none, none] (bi_set (as_ev (i := 5) sc_law_by_hand_right.nd (ev_bin2 op_addD addD_ok (EV.o (ev_var (i := 5) (d := d25) rfl (pv 5))) (EV.o (ev_lstC (ac_consV ev_non (ac_consV (ev_tupC (ac_consV (ev_tupC (ac_consV (ev_var (i := 3) (d := d3) rfl (pv 3)) (ac_consV (ev_tupC (ac_consV ev_int (ac_consV ev_int ac_nil))) ac_nil))) ac_nil)) (ac_consV (ev_tupC (ac_consV ev_int (ac_consV ev_int ac_nil))) (ac_consV (ev_tupC (ac_consV ev_int (ac_consV ev_int ac_nil))) ac_nil)))))))) (fun d47 => (bi_at [some (.own true (.obj "Survey" o27)), some (.val d1), some (.val d2), some (.val d3), some (.val d46), some (.val d47), none, none, none, none] (bi_set (as_ev (i := 6) sc_law_by_hand_right.nd (ev_lstC (ac_consV (ev_tupC (ac_consV (ev_tupC (ac_consV ev_int (ac_consV ev_int (ac_consV ev_int ac_nil)))) (ac_consV (ev_tupC (ac_consV ev_int (ac_consV ev_int ac_nil))) (ac_consV (ev_var (i := 3) (d := d3) rfl (pv 3)) ac_nil)))) (ac_consV (ev_tupC (ac_consV (ev_tupC (ac_consV ev_int (ac_consV ev_int (ac_consV ev_int ac_nil)))) (ac_consV (ev_tupC (ac_consV ev_int (ac_consV ev_int ac_nil))) (ac_consV (ev_var (i := 1) (d := d1) rfl (pv 1)) ac_nil)))) (ac_consV (ev_tupC (ac_consV (ev_tupC (ac_consV ev_int (ac_consV ev_int (ac_consV ev_int ac_nil)))) (ac_consV (ev_tupC (ac_consV ev_int (ac_consV ev_int ac_nil))) (ac_consV (ev_var (i := 1) (d := d1) rfl (pv 1)) ac_nil)))) (ac_consV (ev_tupC (ac_consV (ev_tupC (ac_consV ev_int (ac_consV ev_int (ac_consV ev_int ac_nil)))) (ac_consV (ev_tupC (ac_consV ev_int (ac_consV ev_int ac_nil))) (ac_consV (ev_var (i := 1) (d := d1) rfl (pv 1)) ac_nil)))) ac_nil)))))) (fun d48 => (bi_at [some (.own true (.obj "Survey" o27)), some (.val d1), some (.val d2), some (.val d3), some (.val d46), some (.val d47), some (.val d48), none, none, none] (bi_setM (i := 0) (j := 4) sc_law_by_hand_right.nd (em_bin (l := true) op_addD addD_ok (em_pure (l := true) (s := o27) (ev_var (i := 4) (d := d46) rfl (pv 4))) (fun s52 => (EFM.em (efm_comp (l := true) rfl sc_law_by_hand_right.nd (im_pure (l := true) (s := s52) (it_seqV (ev_var (i := 6) (d := d48) rfl (pv 6)))) (blkOk_by (own := [("_law_own", 7)]) (by kernel_rfl)) (by decide) (by decide) (fun _ _ _ _ _ _ => tt_name (i := 7) sc_law_by_hand_right.nd) (fun _ _ _ _ _ y56 s57 => (tms_nil (l := true) (s := s57))) (fun _ _ _ _ _ y56 s57 => (em_ee (ee_callC takes0N (k_law_told T) (hr.mono (by decide)) T.g_law_told T.F_law_told.kp T.b_law_told (pv 0) (ac_cons (ev_ix2 ix_D idxD_ok (EV.o (ev_var (i := 7) (d := y56) rfl (pv 7))) (EV.o ev_int) (fun _ _ => rfl)) (ac_cons (ev_ix2 ix_D idxD_ok (EV.o (ev_var (i := 7) (d := y56) rfl (pv 7))) (EV.o ev_int) (fun _ _ => rfl)) (ac_cons (ev_ix2 ix_D idxD_ok (EV.o (ev_var (i := 7) (d := y56) rfl (pv 7))) (EV.o ev_int) (fun _ _ => rfl)) ac_nil)))))))))) (fun d49 o50 => (bi_at [some (.own true (.obj "Survey" o50)), some (.val d1), some (.val d2), some (.val d3), some (.val d49), some (.val d47), some (.val d48), none, none, none] (bi_set (as_ev (i := 5) sc_law_by_hand_right.nd (ev_binL op_addD addD_ok (EV.o (ev_var (i := 5) (d := d47) rfl (pv 5))) (EV.o (EF.ev (ef_comp rfl sc_law_by_hand_right.nd (it_seqV (ev_var (i := 6) (d := d48) rfl (pv 6))) (blkOk_by (own := [("_law_own", 7)]) (by kernel_rfl)) (by decide) (fun _ _ _ _ _ => tt_name (i := 7) sc_law_by_hand_right.nd) (fun _ _ _ _ _ y65 => tvs_nil) (fun _ _ _ _ _ y65 => (ev_lstC (ac_consV ev_str (ac_cons (ev_tupC (ac_cons (ev_ix2 ix_D idxD_ok (EV.o (ev_var (i := 7) (d := y65) rfl (pv 7))) (EV.o ev_int) (fun _ _ => rfl)) (ac_cons (ev_ix2 ix_D idxD_ok (EV.o (ev_var (i := 7) (d := y65) rfl (pv 7))) (EV.o ev_int) (fun _ _ => rfl)) ac_nil))) (ac_consV ev_bl ac_nil)))))))))) (fun d72 => (bi_at [some (.own true (.obj "Survey" o50)), some (.val d1), some (.val d2), some (.val d3), some (.val d49), some (.val d72), some (.val d48), none, none, none] (bi_setM (i := 0) (j := 4) sc_law_by_hand_right.nd (em_bin (l := true) op_addD addD_ok (em_pure (l := true) (s := o50) (ev_var (i := 4) (d := d49) rfl (pv 4))) (fun s76 => (em_lstC (mc_cons (l := true) (em_pure (l := true) (s := s76) (ev_lend (i := 0) rfl (EV.to (if isObj "Survey" (.obj "Survey" s76) then (m_Survey_len (.obj "Survey" s76)).noX.bind fun d => Rs.of (len0 d) else Rs.no) (ev_lenO T.f_len T.om_Survey___len__ (k_Survey_len T) T.b_Survey_len (hr.mono (by decide)) (ev_var (i := 0) (d := (.obj "Survey" s76)) rfl (pv 0))) rfl))) (fun s80 => (mc_cons (l := true) (em_ee (ee_callC takes0N (k_law_told T) (hr.mono (by decide)) T.g_law_told T.F_law_told.kp T.b_law_told (pv 0) (ac_consV (ev_lstC (ac_consV ev_int (ac_consV ev_int (ac_consV ev_int ac_nil)))) (ac_consV (ev_lstC (ac_consV ev_int (ac_consV ev_int ac_nil))) (ac_consV (ev_lstC (ac_consV ev_str ac_nil)) ac_nil))))) (fun s82 => (mc_cons (l := true) (em_pure (l := true) (s := s82) (ev_lend (i := 0) rfl (EV.to (if isObj "Survey" (.obj "Survey" s82) then m_Survey_known (.obj "Survey" s82) else Rs.no) (ev_meth0 takes0N T.sc_Survey T.mt_Survey_known (k_Survey_known T) (hr.mono (by decide)) T.b_Survey_known (ev_var (i := 0) (d := (.obj "Survey" s82)) rfl (pv 0))) rfl))) (fun s84 => (mc_cons (l := true) (em_pure (l := true) (s := s84) (ev_lend (i := 0) rfl (ev_propF (i := 1) T.sc_Survey T.pr_Survey_told (k_Survey_told T) (fun _ => rfl) T.b_Survey_told (hr.mono (by decide)) (ev_var (i := 0) (d := (.obj "Survey" s84)) rfl (pv 0))))) (fun s86 => (mc_nil (l := true) (s := s86))))))))))))) (fun d73 o74 => (bi_at [some (.own true (.obj "Survey" o74)), some (.val d1), some (.val d2), some (.val d3), some (.val d73), some (.val d72), some (.val d48), none, none, none] (bi_set (as_ev (i := 5) sc_law_by_hand_right.nd (ev_bin2 op_addD addD_ok (EV.o (ev_var (i := 5) (d := d72) rfl (pv 5))) (EV.o (ev_lstC (ac_consV ev_int (ac_consV ev_non (ac_consV (ev_tupC (ac_consV (ev_tupC (ac_consV (ev_var (i := 1) (d := d1) rfl (pv 1)) (ac_consV (ev_tupC (ac_consV ev_int (ac_consV ev_int ac_nil))) ac_nil))) (ac_consV (ev_tupC (ac_consV (ev_var (i := 3) (d := d3) rfl (pv 3)) (ac_consV (ev_tupC (ac_consV ev_int (ac_consV ev_int ac_nil))) ac_nil))) ac_nil))) ac_nil))))))) (fun d94 => (bi_at [some (.own true (.obj "Survey" o74)), some (.val d1), some (.val d2), some (.val d3), some (.val d73), some (.val d94), some (.val d48), none, none, none] (bi_set (as_ev (i := 5) sc_law_by_hand_right.nd (ev_bin2 op_addD addD_ok (EV.o (ev_var (i := 5) (d := d94) rfl (pv 5))) (EV.o (ev_lstC (ac_consV (ev_tupC (ac_consV (ev_tupC (ac_consV (ev_tupC (ac_consV ev_int (ac_consV ev_int (ac_consV ev_int ac_nil)))) (ac_consV (ev_tupC (ac_consV ev_int (ac_consV ev_int ac_nil))) (ac_consV (ev_var (i := 3) (d := d3) rfl (pv 3)) ac_nil)))) (ac_consV (ev_tupC (ac_consV (ev_tupC (ac_consV ev_int (ac_consV ev_int (ac_consV ev_int ac_nil)))) (ac_consV (ev_tupC (ac_consV ev_int (ac_consV ev_int ac_nil))) (ac_consV (ev_var (i := 1) (d := d1) rfl (pv 1)) ac_nil)))) ac_nil))) ac_nil))))) (fun d95 => (bi_at [some (.own true (.obj "Survey" o74)), some (.val d1), some (.val d2), some (.val d3), some (.val d73), some (.val d95), some (.val d48), none, none, none] (bi_newO (i := 8) sc_law_by_hand_right.nd (eno_lend (i := 0) rfl (eno_meth0 T.sc_Survey T.mt_Survey_twin (k_Survey_twin T) (hr.mono (by decide)) T.b_Survey_twin (ev_var (i := 0) (d := (.obj "Survey" o74)) rfl (pv 0)))) (fun o96 => (bi_at [some (.own true (.obj "Survey" o74)), some (.val d1), some (.val d2), some (.val d3), some (.val d73), some (.val d95), some (.val d48), none, some (.own true (.obj "Survey" o96)), none] (bi_setM (i := 8) (j := 4) sc_law_by_hand_right.nd (em_bin (l := true) op_addD addD_ok (em_pure (l := true) (s := o96) (ev_var (i := 4) (d := d73) rfl (pv 4))) (fun s100 => (em_lstC (mc_cons (l := true) (em_pure (l := true) (s := s100) (ev_lend (i := 8) rfl (ev_lend (i := 0) rfl (EV.to (if isObj "Survey" (.obj "Survey" s100) && (isObj "Survey" (.obj "Survey" o74) || isSm (.obj "Survey" o74)) then (m_Survey_eq (.obj "Survey" s100) (.obj "Survey" o74)).noX else Rs.no) (ev_eqM T.oe_Survey (k_Survey_eq T) T.b_Survey_eq (hr.mono (by decide)) (ev_var (i := 8) (d := (.obj "Survey" s100)) rfl (pv 8)) (ev_var (i := 0) (d := (.obj "Survey" o74)) rfl (pv 0)) (nomark _)) rfl)))) (fun s104 => (mc_cons (l := true) (em_pure (l := true) (s := s104) (ev_lend (i := 8) rfl (ev_lend (i := 0) rfl (EV.to (if isObj "Survey" (.obj "Survey" s104) && isObj "Survey" (.obj "Survey" o74) then (m_Survey_eq (.obj "Survey" s104) (.obj "Survey" o74)).noX.bind fun d => Rs.of (bln d) else Rs.no) (ev_neO T.oe_Survey T.on_Survey (k_Survey_eq T) T.b_Survey_eq (hr.mono (by decide)) (ev_var (i := 8) (d := (.obj "Survey" s104)) rfl (pv 8)) (ev_var (i := 0) (d := (.obj "Survey" o74)) rfl (pv 0)) (nomark _)) rfl)))) (fun s106 => (mc_cons (l := true) (em_ee (ee_callC takes0N (k_law_back T) (hr.mono (by decide)) T.g_law_back T.F_law_back.kp T.b_law_back (pv 8) ac_nil)) (fun s108 => (mc_cons (l := true) (em_pure (l := true) (s := s108) (ev_lend (i := 8) rfl (ev_lend (i := 0) rfl (EV.to (if isObj "Survey" (.obj "Survey" s108) && (isObj "Survey" (.obj "Survey" o74) || isSm (.obj "Survey" o74)) then (m_Survey_eq (.obj "Survey" s108) (.obj "Survey" o74)).noX else Rs.no) (ev_eqM T.oe_Survey (k_Survey_eq T) T.b_Survey_eq (hr.mono (by decide)) (ev_var (i := 8) (d := (.obj "Survey" s108)) rfl (pv 8)) (ev_var (i := 0) (d := (.obj "Survey" o74)) rfl (pv 0)) (nomark _)) rfl)))) (fun s110 => (mc_cons (l := true) (em_pure (l := true) (s := s110) (ev_lend (i := 8) rfl (EV.to (if isObj "Survey" (.obj "Survey" s110) then (m_Survey_len (.obj "Survey" s110)).noX.bind fun d => Rs.of (len0 d) else Rs.no) (ev_lenO T.f_len T.om_Survey___len__ (k_Survey_len T) T.b_Survey_len (hr.mono (by decide)) (ev_var (i := 8) (d := (.obj "Survey" s110)) rfl (pv 8))) rfl))) (fun s112 => (mc_cons (l := true) (em_pure (l := true) (s := s112) (ev_lend (i := 0) rfl (EV.to (if isObj "Survey" (.obj "Survey" o74) then (m_Survey_len (.obj "Survey" o74)).noX.bind fun d => Rs.of (len0 d) else Rs.no) (ev_lenO T.f_len T.om_Survey___len__ (k_Survey_len T) T.b_Survey_len (hr.mono (by decide)) (ev_var (i := 0) (d := (.obj "Survey" o74)) rfl (pv 0))) rfl))) (fun s114 => (mc_nil (l := true) (s := s114))))))))))))))))) (fun d97 o98 => (bi_at [some (.own true (.obj "Survey" o74)), some (.val d1), some (.val d2), some (.val d3), some (.val d97), some (.val d95), some (.val d48), none, some (.own true (.obj "Survey" o98)), none] (bi_set (as_ev (i := 4) sc_law_by_hand_right.nd (ev_lend (i := 8) rfl (ev_binL op_addD addD_ok (EV.o (ev_var (i := 4) (d := d97) rfl (pv 4))) (EV.o (ev_lstC (ac_cons (EV.to (if isObj "Survey" (.obj "Survey" o98) then m_Survey_known (.obj "Survey" o98) else Rs.no) (ev_meth0 (L2N.takes_of rfl rfl rfl rfl) T.sc_Survey T.mt_Survey_known (k_Survey_known T) (hr.mono (by decide)) T.b_Survey_known (ev_var (i := 8) (d := (.obj "Survey" o98)) rfl (pv 8))) rfl) ac_nil)))))) (fun d126 => (bi_at [some (.own true (.obj "Survey" o74)), some (.val d1), some (.val d2), some (.val d3), some (.val d126), some (.val d95), some (.val d48), none, some (.own true (.obj "Survey" o98)), none] (bi_set (as_ev (i := 5) sc_law_by_hand_right.nd (ev_bin2 op_addD addD_ok (EV.o (ev_var (i := 5) (d := d95) rfl (pv 5))) (EV.o (ev_lstC (ac_consV ev_bl (ac_consV ev_bl (ac_consV ev_non (ac_consV ev_bl (ac_consV ev_int (ac_consV ev_int (ac_consV (ev_tupC (ac_consV (ev_tupC (ac_consV (ev_var (i := 3) (d := d3) rfl (pv 3)) (ac_consV (ev_tupC (ac_consV ev_int (ac_consV ev_int ac_nil))) ac_nil))) ac_nil)) ac_nil))))))))))) (fun d127 => (bi_at [some (.own true (.obj "Survey" o74)), some (.val d1), some (.val d2), some (.val d3), some (.val d126), some (.val d127), some (.val d48), none, some (.own true (.obj "Survey" o98)), none] (bi_set (as_ev (i := 4) sc_law_by_hand_right.nd (ev_lend (i := 0) rfl (ev_binL op_addD addD_ok (EV.o (ev_var (i := 4) (d := d126) rfl (pv 4))) (EV.o (ev_lstC (ac_cons (EV.to (((m_Survey_init (.tup [(.str "a"), (.str "b"), (.str "c")])).noX).bind fun x128 => if isObj "Survey" (.obj "Survey" o74) && (isObj "Survey" x128 || isSm x128) then (m_Survey_eq (.obj "Survey" o74) x128).noX else Rs.no) (ev_eqM T.oe_Survey (k_Survey_eq T) T.b_Survey_eq (hr.mono (by decide)) (ev_var (i := 0) (d := (.obj "Survey" o74)) rfl (pv 0)) (ev_make T.mk_Survey (k_Survey_init T) (hr.mono (by decide)) T.g_Survey T.b_Survey_init .nil (fun _ => .nil) (ac_consV (ev_tupC (ac_consV ev_str (ac_consV ev_str (ac_consV ev_str ac_nil)))) ac_nil)) (nomark _)) rfl) (ac_cons (EV.to (((m_Survey_init (.tup [(.str "a"), (.str "b")])).noX).bind fun x129 => ((m_Survey_init (.tup [(.str "a"), (.str "c")])).noX).bind fun x130 => if isObj "Survey" x129 && (isObj "Survey" x130 || isSm x130) then (m_Survey_eq x129 x130).noX else Rs.no) (ev_eqM T.oe_Survey (k_Survey_eq T) T.b_Survey_eq (hr.mono (by decide)) (ev_make T.mk_Survey (k_Survey_init T) (hr.mono (by decide)) T.g_Survey T.b_Survey_init .nil (fun _ => .nil) (ac_consV (ev_tupC (ac_consV ev_str (ac_consV ev_str ac_nil))) ac_nil)) (ev_make T.mk_Survey (k_Survey_init T) (hr.mono (by decide)) T.g_Survey T.b_Survey_init .nil (fun _ => .nil) (ac_consV (ev_tupC (ac_consV ev_str (ac_consV ev_str ac_nil))) ac_nil)) (nomark _)) rfl) (ac_cons (EV.to (if isObj "Survey" (.obj "Survey" o74) && (isObj "Survey" (.int 7) || isSm (.int 7)) then (m_Survey_eq (.obj "Survey" o74) (.int 7)).noX else Rs.no) (ev_eqM T.oe_Survey (k_Survey_eq T) T.b_Survey_eq (hr.mono (by decide)) (ev_var (i := 0) (d := (.obj "Survey" o74)) rfl (pv 0)) ev_int (nomark _)) rfl) ac_nil)))))))) (fun d135 => (bi_at [some (.own true (.obj "Survey" o74)), some (.val d1), some (.val d2), some (.val d3), some (.val d135), some (.val d127), some (.val d48), none, some (.own true (.obj "Survey" o98)), none] (bi_set (as_ev (i := 4) sc_law_by_hand_right.nd (ev_lend (i := 0) rfl (ev_binL op_addD addD_ok (EV.o (ev_var (i := 4) (d := d135) rfl (pv 4))) (EV.o (ev_lstC (ac_cons (EV.to ((Rs.of (fldD "Survey" 1 (.obj "Survey" o74))).bind fun x136 => if isObj "Survey" (.obj "Survey" o74) && (isObj "Survey" x136 || isSm x136) then (m_Survey_eq (.obj "Survey" o74) x136).noX else Rs.no) (ev_eqM T.oe_Survey (k_Survey_eq T) T.b_Survey_eq (hr.mono (by decide)) (ev_var (i := 0) (d := (.obj "Survey" o74)) rfl (pv 0)) (ev_propF (i := 1) T.sc_Survey T.pr_Survey_told (k_Survey_told T) (fun _ => rfl) T.b_Survey_told (hr.mono (by decide)) (ev_var (i := 0) (d := (.obj "Survey" o74)) rfl (pv 0))) (nomark _)) rfl) ac_nil)))))) (fun d139 => (bi_at [some (.own true (.obj "Survey" o74)), some (.val d1), some (.val d2), some (.val d3), some (.val d139), some (.val d127), some (.val d48), none, some (.own true (.obj "Survey" o98)), none] (bi_set (as_ev (i := 5) sc_law_by_hand_right.nd (ev_bin2 op_addD addD_ok (EV.o (ev_var (i := 5) (d := d127) rfl (pv 5))) (EV.o (ev_lstC (ac_consV ev_bl (ac_consV ev_bl (ac_consV ev_bl (ac_consV ev_bl ac_nil)))))))) (fun d140 => (bi_at [some (.own true (.obj "Survey" o74)), some (.val d1), some (.val d2), some (.val d3), some (.val d139), some (.val d140), some (.val d48), none, some (.own true (.obj "Survey" o98)), none] (bi_set (as_ev (i := 9) sc_law_by_hand_right.nd (ev_bin2 op_pow powD_ok (EV.o ev_int) (EV.o ev_int))) (fun d141 => (bi_at [some (.own true (.obj "Survey" o74)), some (.val d1), some (.val d2), some (.val d3), some (.val d139), some (.val d140), some (.val d48), none, some (.own true (.obj "Survey" o98)), some (.val d141)] (bi_setM (i := 8) (j := 4) sc_law_by_hand_right.nd (em_bin (l := true) op_addD addD_ok (em_pure (l := true) (s := o98) (ev_var (i := 4) (d := d139) rfl (pv 4))) (fun s145 => (em_lstC (mc_cons (l := true) (em_ee (ee_methK0 takes0N T.sc_Survey T.mt_Survey_tell (k_Survey_tell T) (kbN T.F_Survey_tell 1 ["cut", "time", "sizes"] [2, 1, 0] (fun kV doc pm an cdv ct us ws h1 h2 => match us, ws, h1, h2 with | [_], [_, _, _], _, _ => rfl)) (hr.mono (by decide)) (pv 8) (kc_consV (ev_var (i := 2) (d := d2) rfl (pv 2)) (kc_cons (ev_tupC (ac_cons (ev_bin2 op_fdivB fdivD_ok (EV.o (ev_var (i := 9) (d := d141) rfl (pv 9))) (EV.o ev_int)) (ac_consV ev_int ac_nil))) (kc_consV (ev_tupC (ac_consV ev_int (ac_consV (ev_var (i := 9) (d := d141) rfl (pv 9)) (ac_consV ev_int ac_nil)))) kc_nil))) (fun zs h => match zs, h with | [_, _, _], _ => rfl))) (fun s151 => (mc_cons (l := true) (em_pure (l := true) (s := s151) (ev_lend (i := 8) rfl (EV.to (if isObj "Survey" (.obj "Survey" s151) then m_Survey_floor_of (.obj "Survey" s151) d2 else Rs.no) (ev_methC takes0N T.sc_Survey T.mt_Survey_floor_of (k_Survey_floor_of T) (hr.mono (by decide)) T.b_Survey_floor_of (ev_var (i := 8) (d := (.obj "Survey" s151)) rfl (pv 8)) (ac_consV (ev_var (i := 2) (d := d2) rfl (pv 2)) ac_nil)) rfl))) (fun s153 => (mc_nil (l := true) (s := s153))))))))) (fun d142 o143 => (bi_at [some (.own true (.obj "Survey" o74)), some (.val d1), some (.val d2), some (.val d3), some (.val d142), some (.val d140), some (.val d48), none, some (.own true (.obj "Survey" o143)), some (.val d141)] (bi_setM (i := 8) (j := 4) sc_law_by_hand_right.nd (em_bin (l := true) op_addD addD_ok (em_pure (l := true) (s := o143) (ev_var (i := 4) (d := d142) rfl (pv 4))) (fun s162 => (em_lstC (mc_cons (l := true) (em_ee (ee_callC takes0N (k_law_back T) (hr.mono (by decide)) T.g_law_back T.F_law_back.kp T.b_law_back (pv 8) ac_nil)) (fun s166 => (mc_cons (l := true) (em_ee (ee_callC takes0N (k_law_back T) (hr.mono (by decide)) T.g_law_back T.F_law_back.kp T.b_law_back (pv 8) ac_nil)) (fun s168 => (mc_nil (l := true) (s := s168))))))))) (fun d159 o160 => (bi_at [some (.own true (.obj "Survey" o74)), some (.val d1), some (.val d2), some (.val d3), some (.val d159), some (.val d140), some (.val d48), none, some (.own true (.obj "Survey" o160)), some (.val d141)] (bi_retM (i := 8) (em_ownC (k_law_same T 14) (hr.mono (by decide)) T.g_law_same T.F_law_same.kp T.b_law_same (mc_cons (l := true) (em_bin (l := true) op_addD addD_ok (em_pure (l := true) (s := o160) (ev_var (i := 4) (d := d159) rfl (pv 4))) (fun s174 => (em_lstC (mc_cons (l := true) (em_ee (ee_callC takes0N (k_law_back T) (hr.mono (by decide)) T.g_law_back T.F_law_back.kp T.b_law_back (pv 8) ac_nil)) (fun s178 => (mc_cons (l := true) (em_pure (l := true) (s := s178) (ev_lend (i := 8) rfl (ev_propF (i := 1) T.sc_Survey T.pr_Survey_told (k_Survey_told T) (fun _ => rfl) T.b_Survey_told (hr.mono (by decide)) (ev_var (i := 8) (d := (.obj "Survey" s178)) rfl (pv 8))))) (fun s180 => (mc_nil (l := true) (s := s180))))))))) (fun s186 => (mc_cons (l := true) (em_pure (l := true) (s := s186) (ev_bin2 op_addD addD_ok (EV.o (ev_var (i := 5) (d := d140) rfl (pv 5))) (EV.o (ev_lstC (ac_consV ev_non (ac_consV (ev_tupC (ac_consV ev_int (ac_consV ev_int ac_nil))) (ac_consV ev_non (ac_consV ev_non (ac_consV (ev_lstC (ac_consV ev_str (ac_consV ev_bl ac_nil))) (ac_consV (ev_tupC ac_nil) ac_nil)))))))))) (fun s188 => (mc_nil (l := true) (s := s188))))))))))))))))))))))))))))))))))))))))))))))))))))))))))))))))))))))))))) rfl (by repeat' (first | with_reducible rfl | (refine bcongr ?_ fun _ => ?_) | (refine icongr ?_ ?_) | rfl)))
def m_law_by_hand_right : Rs D := ((madeR "Survey" (m_Survey_init (.lst [(.str "a"), (.str "b"), (.str "c")])))).bind fun d0 => ((Rs.ok (.tup [(.str "a")]))).bind fun d1 => ((Rs.ok (.tup [(.str "b")]))).bind fun d2 => ((Rs.ok (.tup [(.str "a"), (.str "b")]))).bind fun d3 => (((((shedR (Rs.of (fldD "Survey" 0 (.obj "Survey" d0))))).bind fun d => Rs.ok (d, d0))).bind fun u24 => ((((shedR (Rs.of (fldD "Survey" 1 (.obj "Survey" u24.2))))).bind fun d => Rs.ok (d, u24.2))).bind fun u23 => ((((shedR (if isObj "Survey" (.obj "Survey" u23.2) then (m_Survey_len (.obj "Survey" u23.2)).noX.bind fun d => Rs.of (len0 d) else Rs.no))).bind fun d => Rs.ok (d, u23.2))).bind fun u22 => ((((shedR (if isObj "Survey" (.obj "Survey" u22.2) then m_Survey_known (.obj "Survey" u22.2) else Rs.no))).bind fun d => Rs.ok (d, u22.2))).bind fun u21 => ((((shedR (if isObj "Survey" (.obj "Survey" u21.2) then m_Survey_floor_of (.obj "Survey" u21.2) d1 else Rs.no))).bind fun d => Rs.ok (d, u21.2))).bind fun u20 => ((m_law_back u20.2).noX).bind fun u19 => Rs.ok (.lst [u24.1, u23.1, u22.1, u21.1, u20.1, u19.1], u19.2)).noX.bind fun u6 => ((Rs.ok (.lst [(.tup [(.str "a"), (.str "b"), (.str "c")]), (.tup []), (.int 0), (.tup []), (.tup [(.int 0), (.int 1)]), (.lst [(.str "none"), (.bl true)])]))).bind fun d25 => (((((Rs.ok u6.1)).bind fun d => Rs.ok (d, u6.2))).bind fun u43 => (((m_law_told u43.2 (.tup [(.int 3), (.int 3), (.int 0)]) (.tup [(.int 2), (.int 1)]) d3).noX).bind fun u41 => ((((shedR (if isObj "Survey" (.obj "Survey" u41.2) then m_Survey_known (.obj "Survey" u41.2) else Rs.no))).bind fun d => Rs.ok (d, u41.2))).bind fun u40 => ((((shedR (if isObj "Survey" (.obj "Survey" u40.2) then m_Survey_floor_of (.obj "Survey" u40.2) d1 else Rs.no))).bind fun d => Rs.ok (d, u40.2))).bind fun u39 => Rs.ok (.lst [u41.1, u40.1, u39.1], u39.2)).bind fun u42 => (Rs.of (addD u43.1 u42.1)).bind fun d => Rs.ok (d, u42.2)).noX.bind fun u28 => ((shedR (((if isObj "Survey" (.obj "Survey" u28.2) then m_Survey_floor_of (.obj "Survey" u28.2) (.lst [(.str "b"), (.str "c")]) else Rs.no).bind fun x44 => Rs.ok (.lst [x44])).bind fun x45 => Rs.of (addD u28.1 x45)))).bind fun d46 => (Rs.of (addD d25 (.lst [.non, (.tup [(.tup [d3, (.tup [(.int 3), (.int 1)])])]), (.tup [(.int 3), (.int 2)]), (.tup [(.int 3), (.int 2)])]))).bind fun d47 => ((Rs.ok (.lst [(.tup [(.tup [(.int 1), (.int 0), (.int 0)]), (.tup [(.int 1), (.int 4)]), d3]), (.tup [(.tup [(.int 3), (.int 0), (.int 0)]), (.tup [(.int 1), (.int 2)]), d1]), (.tup [(.tup [(.int 0), (.int 0), (.int 2)]), (.tup [(.int 1), (.int 1)]), d1]), (.tup [(.tup [(.int 1), (.int 0), (.int 0)]), (.tup [(.int 1), (.int 1)]), d1])]))).bind fun d48 => (((((Rs.ok d46)).bind fun d => Rs.ok (d, u28.2))).bind fun u64 => ((((Rs.of (itemsD d48)).bind fun ds => Rs.ok (ds, u64.2)).bind fun l58 => compBM some (fun y56 s57 => Rs.ok (true, s57)) (fun y56 s57 => ((Rs.of (idxD y56 (.int 0))).bind fun x59 => (Rs.of (idxD y56 (.int 1))).bind fun x60 => (Rs.of (idxD y56 (.int 2))).bind fun x61 => m_law_told s57 x59 x60 x61).noX) l58.1 l58.2).bind fun v62 => Rs.ok (.lst v62.1, v62.2)).bind fun u63 => (Rs.of (addD u64.1 u63.1)).bind fun d => Rs.ok (d, u63.2)).noX.bind fun u51 => ((((Rs.of (itemsD d48)).bind fun l69 => compM some (fun y65 => Rs.ok true) (fun y65 => ((Rs.of (idxD y65 (.int 1))).bind fun x66 => (Rs.of (idxD y65 (.int 2))).bind fun x67 => Rs.ok (.tup [x66, x67])).bind fun x68 => Rs.ok (.lst [(.str "bad"), x68, (.bl true)])) l69).bind fun l70 => Rs.ok (.lst l70)).bind fun x71 => Rs.of (addD d47 x71)).bind fun d72 => (((((Rs.ok u51.1)).bind fun d => Rs.ok (d, u51.2))).bind fun u93 => (((((shedR (if isObj "Survey" (.obj "Survey" u93.2) then (m_Survey_len (.obj "Survey" u93.2)).noX.bind fun d => Rs.of (len0 d) else Rs.no))).bind fun d => Rs.ok (d, u93.2))).bind fun u91 => ((m_law_told u91.2 (.lst [(.int 1), (.int 0), (.int 0)]) (.lst [(.int 2), (.int 3)]) (.lst [(.str "a")])).noX).bind fun u90 => ((((shedR (if isObj "Survey" (.obj "Survey" u90.2) then m_Survey_known (.obj "Survey" u90.2) else Rs.no))).bind fun d => Rs.ok (d, u90.2))).bind fun u89 => ((((shedR (Rs.of (fldD "Survey" 1 (.obj "Survey" u89.2))))).bind fun d => Rs.ok (d, u89.2))).bind fun u88 => Rs.ok (.lst [u91.1, u90.1, u89.1, u88.1], u88.2)).bind fun u92 => (Rs.of (addD u93.1 u92.1)).bind fun d => Rs.ok (d, u92.2)).noX.bind fun u75 => (Rs.of (addD d72 (.lst [(.int 1), .non, (.tup [(.tup [d1, (.tup [(.int 3), (.int 2)])]), (.tup [d3, (.tup [(.int 3), (.int 1)])])])]))).bind fun d94 => (Rs.of (addD d94 (.lst [(.tup [(.tup [(.tup [(.int 3), (.int 3), (.int 0)]), (.tup [(.int 2), (.int 1)]), d3]), (.tup [(.tup [(.int 1), (.int 0), (.int 0)]), (.tup [(.int 2), (.int 3)]), d1])])]))).bind fun d95 => ((shedN (if isObj "Survey" (.obj "Survey" u75.2) then (m_Survey_twin (.obj "Survey" u75.2)).noX else Rs.no))).bind fun o96 => (((((Rs.ok u75.1)).bind fun d => Rs.ok (d, o96))).bind fun u123 => (((((shedR (shedR (if isObj "Survey" (.obj "Survey" u123.2) && (isObj "Survey" (.obj "Survey" u75.2) || isSm (.obj "Survey" u75.2)) then (m_Survey_eq (.obj "Survey" u123.2) (.obj "Survey" u75.2)).noX else Rs.no)))).bind fun d => Rs.ok (d, u123.2))).bind fun u121 => ((((shedR (shedR (if isObj "Survey" (.obj "Survey" u121.2) && isObj "Survey" (.obj "Survey" u75.2) then (m_Survey_eq (.obj "Survey" u121.2) (.obj "Survey" u75.2)).noX.bind fun d => Rs.of (bln d) else Rs.no)))).bind fun d => Rs.ok (d, u121.2))).bind fun u120 => ((m_law_back u120.2).noX).bind fun u119 => ((((shedR (shedR (if isObj "Survey" (.obj "Survey" u119.2) && (isObj "Survey" (.obj "Survey" u75.2) || isSm (.obj "Survey" u75.2)) then (m_Survey_eq (.obj "Survey" u119.2) (.obj "Survey" u75.2)).noX else Rs.no)))).bind fun d => Rs.ok (d, u119.2))).bind fun u118 => ((((shedR (if isObj "Survey" (.obj "Survey" u118.2) then (m_Survey_len (.obj "Survey" u118.2)).noX.bind fun d => Rs.of (len0 d) else Rs.no))).bind fun d => Rs.ok (d, u118.2))).bind fun u117 => ((((shedR (if isObj "Survey" (.obj "Survey" u75.2) then (m_Survey_len (.obj "Survey" u75.2)).noX.bind fun d => Rs.of (len0 d) else Rs.no))).bind fun d => Rs.ok (d, u117.2))).bind fun u116 => Rs.ok (.lst [u121.1, u120.1, u119.1, u118.1, u117.1, u116.1], u116.2)).bind fun u122 => (Rs.of (addD u123.1 u122.1)).bind fun d => Rs.ok (d, u122.2)).noX.bind fun u99 => ((shedR (((if isObj "Survey" (.obj "Survey" u99.2) then m_Survey_known (.obj "Survey" u99.2) else Rs.no).bind fun x124 => Rs.ok (.lst [x124])).bind fun x125 => Rs.of (addD u99.1 x125)))).bind fun d126 => (Rs.of (addD d95 (.lst [(.bl true), (.bl false), .non, (.bl false), (.int 1), (.int 2), (.tup [(.tup [d3, (.tup [(.int 3), (.int 1)])])])]))).bind fun d127 => ((shedR (((((m_Survey_init (.tup [(.str "a"), (.str "b"), (.str "c")])).noX).bind fun x128 => if isObj "Survey" (.obj "Survey" u75.2) && (isObj "Survey" x128 || isSm x128) then (m_Survey_eq (.obj "Survey" u75.2) x128).noX else Rs.no).bind fun x131 => (((m_Survey_init (.tup [(.str "a"), (.str "b")])).noX).bind fun x129 => ((m_Survey_init (.tup [(.str "a"), (.str "c")])).noX).bind fun x130 => if isObj "Survey" x129 && (isObj "Survey" x130 || isSm x130) then (m_Survey_eq x129 x130).noX else Rs.no).bind fun x132 => (if isObj "Survey" (.obj "Survey" u75.2) && (isObj "Survey" (.int 7) || isSm (.int 7)) then (m_Survey_eq (.obj "Survey" u75.2) (.int 7)).noX else Rs.no).bind fun x133 => Rs.ok (.lst [x131, x132, x133])).bind fun x134 => Rs.of (addD d126 x134)))).bind fun d135 => ((shedR ((((Rs.of (fldD "Survey" 1 (.obj "Survey" u75.2))).bind fun x136 => if isObj "Survey" (.obj "Survey" u75.2) && (isObj "Survey" x136 || isSm x136) then (m_Survey_eq (.obj "Survey" u75.2) x136).noX else Rs.no).bind fun x137 => Rs.ok (.lst [x137])).bind fun x138 => Rs.of (addD d135 x138)))).bind fun d139 => (Rs.of (addD d127 (.lst [(.bl false), (.bl false), (.bl false), (.bl false)]))).bind fun d140 => (Rs.of (powD (.int 10) (.int 30))).bind fun d141 => (((((Rs.ok d139)).bind fun d => Rs.ok (d, u99.2))).bind fun u158 => (((((Rs.of (fdivD d141 (.int 2))).bind fun x149 => Rs.ok (.tup [x149, (.int 1)])).bind fun x150 => m_Survey_tell u158.2 (.tup [(.int 0), d141, (.int 0)]) x150 d2).noX).bind fun u156 => ((((shedR (if isObj "Survey" (.obj "Survey" u156.2) then m_Survey_floor_of (.obj "Survey" u156.2) d2 else Rs.no))).bind fun d => Rs.ok (d, u156.2))).bind fun u155 => Rs.ok (.lst [u156.1, u155.1], u155.2)).bind fun u157 => (Rs.of (addD u158.1 u157.1)).bind fun d => Rs.ok (d, u157.2)).noX.bind fun u144 => (((((Rs.ok u144.1)).bind fun d => Rs.ok (d, u144.2))).bind fun u173 => (((m_law_back u173.2).noX).bind fun u171 => ((m_law_back u171.2).noX).bind fun u170 => Rs.ok (.lst [u171.1, u170.1], u170.2)).bind fun u172 => (Rs.of (addD u173.1 u172.1)).bind fun d => Rs.ok (d, u172.2)).noX.bind fun u161 => ((((((Rs.ok u161.1)).bind fun d => Rs.ok (d, u161.2))).bind fun u185 => (((m_law_back u185.2).noX).bind fun u183 => ((((shedR (Rs.of (fldD "Survey" 1 (.obj "Survey" u183.2))))).bind fun d => Rs.ok (d, u183.2))).bind fun u182 => Rs.ok (.lst [u183.1, u182.1], u182.2)).bind fun u184 => (Rs.of (addD u185.1 u184.1)).bind fun d => Rs.ok (d, u184.2)).bind fun u191 => (((Rs.of (addD d140 (.lst [.non, (.tup [(.int 2), (.int 1)]), .non, .non, (.lst [(.str "none"), (.bl true)]), (.tup [])]))).bind fun d => Rs.ok (d, u191.2))).bind fun u190 => (m_law_same 14 u191.1 u190.1).bind fun d => Rs.ok (d, u190.2)).noX.bind fun u => Rs.ok u.1
theorem k_law_by_hand_right (T : Txt K mg) : Keeps P w K mg base 24 (He.ga K "_law_by_hand_right") T.fd_law_by_hand_right [] (fun ds => match ds with | [] => m_law_by_hand_right | _ => Rs.no) := g_law_by_hand_right T m_Survey_eq k_Survey_eq m_Survey_init k_Survey_init m_Survey_len k_Survey_len m_Survey_floor_of k_Survey_floor_of m_Survey_known k_Survey_known m_Survey_tell k_Survey_tell m_Survey_twin k_Survey_twin m_law_back k_law_back m_law_same k_law_same m_law_told k_law_told
end
end LW
set_option Elab.async false
set_option linter.all false
set_option maxRecDepth 100000
set_option autoImplicit false
set_option pp.maxSteps 400
set_option maxHeartbeats 8000000
namespace LW
open PySem PySem.Spec L2 VL
open PyProof.Rows hiding St
section
variable {P : Program} {w : World} {K : PySem.W.Frag} {mg : Str → Option Value} {base : Heap}
theorem sc_law_right : FnScope ["_law_box_here", "_law_turn", "_law_houses_so", "_law_told_so", "_law_speeds_so", "_law_host", "_law_lap", "_law_own", "_law_mate", "_law_fine_so", "_law_told_here"] ["_law_box_here"] (defScope (top 41)) := ⟨rfl, rfl, rfl, by decide +kernel, rfl, by decide +kernel, by decide +kernel⟩
def m_law_right (a_law_box_here : List D) : Rs (D × List D) := (Rs.of (rangeD (.int 8))).bind fun l2 => (loopM (β := Unit) (fun z0 d => (Rs.of (some d)).bind fun y1 => (((Rs.ok ((.int 4), z0))).bind fun u5 => m_law_houses u5.2 u5.1).noX.bind fun u7 => (((Rs.ok (.lst []))).bind fun g => Rs.ok (g, u7.2)).noX.bind fun w8 => (((Rs.ok (u7.1, w8.2))).bind fun u14 => m_law_speeds u14.2 u14.1).noX.bind fun u16 => (((madeR "Survey" (m_Survey_init u7.1))).bind fun g => Rs.ok (g, u16.2)).noX.bind fun w17 => ((((Rs.ok ((.int 1), w17.2))).bind fun u106 => (((Rs.ok ((.int 7), u106.2))).bind fun u104 => m_law_take u104.2 u104.1).bind fun u105 => (Rs.of (addD u106.1 u105.1)).bind fun d => Rs.ok (d, u105.2)).bind fun u107 => (Rs.of (rangeD u107.1)).bind fun ds => Rs.ok (ds, u107.2)).noX.bind fun l23 => (loopM (fun z21 d => (Rs.of (some d)).bind fun y22 => (((Rs.ok (u7.1, z21.1))).bind fun u29 => ((Rs.ok (u16.1, u29.2))).bind fun u28 => m_law_tries u28.2 u29.1 u28.1).noX.bind fun u31 => (((shedN (if isObj "Survey" (.obj "Survey" z21.2.2) then (m_Survey_twin (.obj "Survey" z21.2.2)).noX else Rs.no))).bind fun g => Rs.ok (g, u31.2)).noX.bind fun w32 => ((Rs.of (addD z21.2.1 (.lst [u31.1]))).bind fun x36 => m_law_fits u7.1 x36).bind fun d37 => (((Rs.of (idxD u31.1 (.int 0))).bind fun x41 => (Rs.of (idxD u31.1 (.int 1))).bind fun x42 => (Rs.of (idxD u31.1 (.int 2))).bind fun x43 => m_law_told z21.2.2 x41 x42 x43).noX).noX.bind fun u40 => (((((Rs.of (asB d37)).bind fun k => if k then (Rs.ok .non) else ((Rs.of (idxD u31.1 (.int 1))).bind fun x44 => (Rs.of (idxD u31.1 (.int 2))).bind fun x45 => Rs.ok (.tup [x44, x45])).bind fun x46 => Rs.ok (.lst [(.str "bad"), x46, (.bl true)])).bind fun x47 => m_law_same 14 u40.1 x47).bind fun x48 => Rs.of (asB x48)).bind fun k => Rs.ok (!k)).bind fun k => if k then liftF (Rs.ok (.rt (.bl false) [.lst w32.2])) else (((Rs.of (intD [d37])).bind fun x49 => Rs.of (mulD (.lst [u31.1]) x49)).bind fun x50 => Rs.of (addD z21.2.1 x50)).bind fun d51 => ((shedB (shedB (((((m_law_state (.obj "Survey" u40.2)).bind fun x53 => ((if isObj "Survey" (.obj "Survey" u40.2) && (isObj "Survey" (.obj "Survey" w32.1) || isSm (.obj "Survey" w32.1)) then (m_Survey_eq (.obj "Survey" u40.2) (.obj "Survey" w32.1)).noX else Rs.no).bind fun x52 => Rs.ok (.lst [x52])).bind fun x54 => Rs.of (addD x53 x54)).bind fun x58 => ((m_law_due u7.1 d51).bind fun x56 => (((Rs.of (asB d37)).bind fun k => Rs.ok (.bl (!k))).bind fun x55 => Rs.ok (.lst [x55])).bind fun x57 => Rs.of (addD x56 x57)).bind fun x59 => m_law_same 14 x58 x59).bind fun x60 => Rs.of (asB x60)).bind fun k => Rs.ok (!k))))).bind fun k => if k then liftF (Rs.ok (.rt (.bl false) [.lst w32.2])) else Rs.ok (.nx (w32.2, d51, u40.2))) l23.1 (l23.2, w8.1, w17.1)).bind (Fl.andThen fun z21 => ((Rs.of (lenD [z21.2.1])).bind fun x97 => Rs.of (rangeD x97)).bind fun l63 => (loopM (fun z61 d => (Rs.of (some d)).bind fun y62 => (((Rs.of (negD (.int 1))).bind fun x65 => Rs.of (asI x65)).bind fun i64 => Rs.of (sliceD z61.1 none i64)).bind fun d66 => (((((((m_law_back z61.2).noX).bind fun u69 => Rs.ok (.lst [u69.1], u69.2)).bind fun u75 => ((((shedR (m_law_state (.obj "Survey" u75.2)))).bind fun d => Rs.ok (d, u75.2))).bind fun u74 => (Rs.of (addD u75.1 u74.1)).bind fun d => Rs.ok (d, u74.2)).bind fun u82 => ((((m_law_due u7.1 d66).bind fun x78 => Rs.of (addD (.lst [.non]) x78)).bind fun d => Rs.ok (d, u82.2))).bind fun u81 => (m_law_same 14 u82.1 u81.1).bind fun d => Rs.ok (d, u81.2)).bind fun u83 => (Rs.of (asB u83.1)).bind fun k => Rs.ok (k, u83.2)).bind fun u84 => Rs.ok (!u84.1, u84.2)).noX.bind fun u86 => if u86.1 then liftF (Rs.ok (.rt (.bl false) [.lst z21.1])) else Rs.ok (.nx (d66, u86.2))) l63 (z21.2.1, z21.2.2)).bind (Fl.andThen fun z61 => (((((m_law_back z61.2).noX).bind fun u92 => ((((Rs.ok (.lst [(.str "none"), (.bl true)]))).bind fun d => Rs.ok (d, u92.2))).bind fun u91 => (m_law_same 14 u92.1 u91.1).bind fun d => Rs.ok (d, u91.2)).bind fun u93 => (Rs.of (asB u93.1)).bind fun k => Rs.ok (k, u93.2)).bind fun u94 => Rs.ok (!u94.1, u94.2)).noX.bind fun u96 => if u96.1 then liftF (Rs.ok (.rt (.bl false) [.lst z21.1])) else Rs.ok (.nx z21.1)))) l2 a_law_box_here).bind (Fl.toIO fun z0 => Rs.ok ((.bl true), z0))
theorem k_law_right (T : Txt K mg) : KeepsIO P w K mg base 24 (He.ga K "_law_right") T.fd_law_right ["_law_box_here"] (fun a_law_box_here ds => match ds with | [] => m_law_right a_law_box_here | _ => Rs.no) :=
  keeps_io T.F_law_right sc_law_right (fun cdv A outer s H E F b a_law_box_here ds hl hr => match ds, hl with | [], _ => bi_as [some (.own false (.lst a_law_box_here)), none, none, none, none, none, none, none, none, none, none] (bi_nox (bi_at [some (.own false (.lst a_law_box_here)), none, none, none, none, none, none, none, none, none, none] (bi_forIO (post := fun (z0 : List D) => [some (.own false (.lst z0)), none, none, none, none, none, none, none, none, none, none]) (z0 := a_law_box_here) (passes_of rfl) rfl rfl (it_range rfl T.f_range ev_int) (Wk.keep (Wk.drop (Wk.drop (Wk.drop (Wk.drop (Wk.drop (Wk.drop (Wk.drop (Wk.drop (Wk.drop (Wk.drop Wk.nil))))))))))) (fun z0 => tt_name (i := 1) sc_law_right.nd) (fun z0 y1 => (bk_of (bi_parB (l := false) (i := 0) (k := 2) (j := 3) rfl sc_law_right.nd (EB.ecb (eb_ioC (l := false) (k_law_houses T) (hr.mono (by decide)) T.g_law_houses T.F_law_houses.kp T.b_law_houses (pv 0) (bc_cons (l := false) (eb_val (l := false) (s := z0) ev_int) (fun s3 => (bc_nil (l := false) (s := s3)))))) (fun s6 => (EC.ecb (l := false) (s := s6) (EV.ec (ev_lstC ac_nil)))) (fun d9 d10 s11 => bi_gen (bk_of (bi_parB (l := false) (i := 0) (k := 4) (j := 5) rfl sc_law_right.nd (EB.ecb (eb_ioC (l := false) (k_law_speeds T) (hr.mono (by decide)) T.g_law_speeds T.F_law_speeds.kp T.b_law_speeds (pv 0) (bc_cons (l := false) (eb_val (l := false) (s := s11) (ev_var (i := 2) (d := d9) rfl (pv 2))) (fun s12 => (bc_nil (l := false) (s := s12)))))) (fun s15 => (EC.ecb (l := false) (s := s15) (ENo.ec (eno_make T.mk_Survey (k_Survey_init T) (hr.mono (by decide)) T.g_Survey T.b_Survey_init .nil (fun _ => .nil) (ac_consV (ev_var (i := 2) (d := d9) rfl (pv 2)) ac_nil))))) (fun d18 d19 s20 => bi_gen (bk_forB (l := false) (post := fun (z21 : List D × D × List D) => [some (.own false (.lst z21.1)), some (.val y1), some (.val d9), some (.val z21.2.1), some (.val d18), some (.own true (.obj "Survey" z21.2.2)), none, none, none, none, none]) (z0 := fun s108 => (s108, d10, d19)) (i := 0) (passes_of rfl) rfl (ib_range rfl T.f_range (eb_bin (l := false) op_addD addD_ok (eb_val (l := false) (s := s20) ev_int) (fun s98 => (eb_ioC (l := false) (k_law_take T) (hr.mono (by decide)) T.g_law_take T.F_law_take.kp T.b_law_take (pv 0) (bc_cons (l := false) (eb_val (l := false) (s := s98) ev_int) (fun s102 => (bc_nil (l := false) (s := s102)))))))) (fun _ => (Wk.keep (Wk.keep (Wk.keep (Wk.keep (Wk.keep (Wk.keep (Wk.drop (Wk.drop (Wk.drop (Wk.drop (Wk.drop Wk.nil)))))))))))) (fun z21 => tt_name (i := 6) sc_law_right.nd) (fun z21 y22 => (bk_of (bi_parB (l := false) (i := 0) (k := 7) (j := 8) rfl sc_law_right.nd (EB.ecb (eb_ioC (l := false) (k_law_tries T) (hr.mono (by decide)) T.g_law_tries T.F_law_tries.kp T.b_law_tries (pv 0) (bc_cons (l := false) (eb_val (l := false) (s := z21.1) (ev_var (i := 2) (d := d9) rfl (pv 2))) (fun s24 => (bc_cons (l := false) (eb_val (l := false) (s := s24) (ev_var (i := 4) (d := d18) rfl (pv 4))) (fun s26 => (bc_nil (l := false) (s := s26)))))))) (fun s30 => (EC.ecb (l := false) (s := s30) (ENo.ec (eno_lend (i := 5) rfl (eno_meth0 T.sc_Survey T.mt_Survey_twin (k_Survey_twin T) (hr.mono (by decide)) T.b_Survey_twin (ev_var (i := 5) (d := (.obj "Survey" z21.2.2)) rfl (pv 5))))))) (fun d33 d34 s35 => bi_gen (bk_set (as_ev (i := 9) sc_law_right.nd (ev_callC (L2N.takes_of rfl rfl rfl rfl) (k_law_fits T) (hr.mono (by decide)) T.g_law_fits T.F_law_fits.kp T.b_law_fits (ac_consV (ev_var (i := 2) (d := d9) rfl (pv 2)) (ac_cons (ev_bin2 op_addD addD_ok (EV.o (ev_var (i := 3) (d := z21.2.1) rfl (pv 3))) (EV.o (ev_lstC (ac_consV (ev_var (i := 7) (d := d33) rfl (pv 7)) ac_nil)))) ac_nil)))) (fun d37 => (bk_of (bi_setM (i := 5) (j := 10) sc_law_right.nd (em_ee (ee_callC takes0N (k_law_told T) (hr.mono (by decide)) T.g_law_told T.F_law_told.kp T.b_law_told (pv 5) (ac_cons (ev_ix2 ix_D idxD_ok (EV.o (ev_var (i := 7) (d := d33) rfl (pv 7))) (EV.o ev_int) (fun _ _ => rfl)) (ac_cons (ev_ix2 ix_D idxD_ok (EV.o (ev_var (i := 7) (d := d33) rfl (pv 7))) (EV.o ev_int) (fun _ _ => rfl)) (ac_cons (ev_ix2 ix_D idxD_ok (EV.o (ev_var (i := 7) (d := d33) rfl (pv 7))) (EV.o ev_int) (fun _ _ => rfl)) ac_nil))))) (fun d38 o39 => bi_gen (bk_ifr (tv_not (tv_val (ev_callC (L2N.takes_of rfl rfl rfl rfl) (k_law_same T 14) (hr.mono (by decide)) T.g_law_same T.F_law_same.kp T.b_law_same (ac_consV (ev_var (i := 10) (d := d38) rfl (pv 10)) (ac_cons (ev_if (tv_val (ev_var (i := 9) (d := d37) rfl (pv 9))) ev_non (ev_lstC (ac_consV ev_str (ac_cons (ev_tupC (ac_cons (ev_ix2 ix_D idxD_ok (EV.o (ev_var (i := 7) (d := d33) rfl (pv 7))) (EV.o ev_int) (fun _ _ => rfl)) (ac_cons (ev_ix2 ix_D idxD_ok (EV.o (ev_var (i := 7) (d := d33) rfl (pv 7))) (EV.o ev_int) (fun _ _ => rfl)) ac_nil))) (ac_consV ev_bl ac_nil))))) ac_nil))))) (bk_retIO (i := 0) (s := .lst s35) ev_bl) (bk_set (as_ev (i := 3) sc_law_right.nd (ev_binL op_addD addD_ok (EV.o (ev_var (i := 3) (d := z21.2.1) rfl (pv 3))) (EV.o (ev_binL op_mulD mulD_ok (EV.o (ev_lstC (ac_consV (ev_var (i := 7) (d := d33) rfl (pv 7)) ac_nil))) (EV.o (ev_callTyC call_intD intD_ok T.f_int boot_int (oc_consV (EV.o (ev_var (i := 9) (d := d37) rfl (pv 9))) oc_nil))))))) (fun d51 => (bk_ifr (tv_lend (i := 8) rfl (tv_lend (i := 5) rfl (tv_not (tv_val (ev_callC (L2N.takes_of rfl rfl rfl rfl) (k_law_same T 14) (hr.mono (by decide)) T.g_law_same T.F_law_same.kp T.b_law_same (ac_cons (ev_bin op_addD addD_ok (EV.o (ev_callC (L2N.takes_of rfl rfl rfl rfl) (k_law_state T) (hr.mono (by decide)) T.g_law_state T.F_law_state.kp T.b_law_state (ac_consV (ev_var (i := 5) (d := (.obj "Survey" o39)) rfl (pv 5)) ac_nil))) (EV.o (ev_lstC (ac_cons (EV.to (if isObj "Survey" (.obj "Survey" o39) && (isObj "Survey" (.obj "Survey" d34) || isSm (.obj "Survey" d34)) then (m_Survey_eq (.obj "Survey" o39) (.obj "Survey" d34)).noX else Rs.no) (ev_eqM T.oe_Survey (k_Survey_eq T) T.b_Survey_eq (hr.mono (by decide)) (ev_var (i := 5) (d := (.obj "Survey" o39)) rfl (pv 5)) (ev_var (i := 8) (d := (.obj "Survey" d34)) rfl (pv 8)) (nomark _)) rfl) ac_nil)))) (ac_cons (ev_bin op_addD addD_ok (EV.o (ev_callC (L2N.takes_of rfl rfl rfl rfl) (k_law_due T) (hr.mono (by decide)) T.g_law_due T.F_law_due.kp T.b_law_due (ac_consV (ev_var (i := 2) (d := d9) rfl (pv 2)) (ac_consV (ev_var (i := 3) (d := d51) rfl (pv 3)) ac_nil)))) (EV.o (ev_lstC (ac_cons (ev_not (ev_var (i := 9) (d := d37) rfl (pv 9))) ac_nil)))) ac_nil))))))) (bk_retIO (i := 0) (s := .lst s35) ev_bl) (bk_nil (z := (s35, d51, o39)) (Wk.keep (Wk.keep (Wk.keep (Wk.keep (Wk.keep (Wk.keep (Wk.drop (Wk.drop (Wk.drop (Wk.drop (Wk.drop Wk.nil))))))))))))))))))))))))) (fun z21 => (bk_for (post := fun (z61 : D × List D) => [some (.own false (.lst z21.1)), some (.val y1), some (.val d9), some (.val z61.1), some (.val d18), some (.own true (.obj "Survey" z61.2)), none, none, none, none, none]) (z0 := (z21.2.1, z21.2.2)) (passes_of rfl) rfl (it_range rfl T.f_range (ev_callBC call_len lenD_ok T.f_len boot_len (oc_consV (EV.o (ev_var (i := 3) (d := z21.2.1) rfl (pv 3))) oc_nil))) (Wk.keep (Wk.keep (Wk.keep (Wk.keep (Wk.keep (Wk.keep (Wk.drop (Wk.drop (Wk.drop (Wk.drop (Wk.drop Wk.nil))))))))))) (fun z61 => tt_name (i := 6) sc_law_right.nd) (fun z61 y62 => (bk_set (as_ev (i := 3) sc_law_right.nd (EV.to (((Rs.of (negD (.int 1))).bind fun x65 => Rs.of (asI x65)).bind fun i64 => Rs.of (sliceD z61.1 none i64)) (ev_slice (EV.o (ev_var (i := 3) (d := z61.1) rfl (pv 3))) pv_none (pv_some (ev_un un_neg negD_ok (EV.o ev_int)))) rfl)) (fun d66 => (bk_ifrM (i := 5) (tm_not (tm_val (em_ownC (k_law_same T 14) (hr.mono (by decide)) T.g_law_same T.F_law_same.kp T.b_law_same (mc_cons (l := true) (em_bin (l := true) op_addD addD_ok (em_lstC (mc_cons (l := true) (em_ee (ee_callC takes0N (k_law_back T) (hr.mono (by decide)) T.g_law_back T.F_law_back.kp T.b_law_back (pv 5) ac_nil)) (fun s67 => (mc_nil (l := true) (s := s67))))) (fun s70 => (em_pure (l := true) (s := s70) (ev_lend (i := 5) rfl (ev_callC takes0N (k_law_state T) (hr.mono (by decide)) T.g_law_state T.F_law_state.kp T.b_law_state (ac_consV (ev_var (i := 5) (d := (.obj "Survey" s70)) rfl (pv 5)) ac_nil)))))) (fun s76 => (mc_cons (l := true) (em_pure (l := true) (s := s76) (ev_binL op_addD addD_ok (EV.o (ev_lstC (ac_consV ev_non ac_nil))) (EV.o (ev_callC takes0N (k_law_due T) (hr.mono (by decide)) T.g_law_due T.F_law_due.kp T.b_law_due (ac_consV (ev_var (i := 2) (d := d9) rfl (pv 2)) (ac_consV (ev_var (i := 3) (d := d66) rfl (pv 3)) ac_nil)))))) (fun s79 => (mc_nil (l := true) (s := s79))))))))) (fun o85 => (bk_retIO (i := 0) (s := .lst z21.1) ev_bl)) (fun o85 => (bk_nil (z := (d66, o85)) (Wk.keep (Wk.keep (Wk.keep (Wk.keep (Wk.keep (Wk.keep (Wk.drop (Wk.drop (Wk.drop (Wk.drop (Wk.drop Wk.nil))))))))))))))))) (fun z61 => (bk_ifrM (i := 5) (tm_not (tm_val (em_ownC (k_law_same T 14) (hr.mono (by decide)) T.g_law_same T.F_law_same.kp T.b_law_same (mc_cons (l := true) (em_ee (ee_callC takes0N (k_law_back T) (hr.mono (by decide)) T.g_law_back T.F_law_back.kp T.b_law_back (pv 5) ac_nil)) (fun s87 => (mc_cons (l := true) (em_pure (l := true) (s := s87) (ev_lstC (ac_consV ev_str (ac_consV ev_bl ac_nil)))) (fun s89 => (mc_nil (l := true) (s := s89))))))))) (fun o95 => (bk_retIO (i := 0) (s := .lst z21.1) ev_bl)) (fun o95 => (bk_nil (z := z21.1) (Wk.keep (Wk.drop (Wk.drop (Wk.drop (Wk.drop (Wk.drop (Wk.drop (Wk.drop (Wk.drop (Wk.drop (Wk.drop Wk.nil))))))))))))))))))))))))) (fun z0 => (bi_at [some (.own false (.lst z0)), none, none, none, none, none, none, none, none, none, none] (bi_retP (i := 0) (s := z0) ev_bl)))))) rfl (by unfold m_law_right; repeat' (first | with_reducible rfl | (refine bcongr ?_ fun _ => ?_) | (refine icongr ?_ ?_) | rfl)))
end
end LW
set_option Elab.async false
set_option linter.all false
set_option maxRecDepth 100000
set_option autoImplicit false
set_option pp.maxSteps 400
set_option maxHeartbeats 8000000
namespace LW
open PySem PySem.Spec L2 VL
open PyProof.Rows hiding St
section
variable {P : Program} {w : World} {K : PySem.W.Frag} {mg : Str → Option Value} {base : Heap}
theorem sc_law : FnScope ["_law_script", "_law_cells_here", "_law_k"] ["_law_script"] (defScope (top 42)) := ⟨rfl, rfl, rfl, by decide +kernel, rfl, by decide +kernel, by decide +kernel⟩
def m_law (a_law_script : D) : Rs D := ((((m_law_by_hand_right).noX).bind fun x0 => Rs.of (asB x0)).bind fun k => Rs.ok (!k)).bind fun k => if k then (Rs.ok (.bl false)) else (m_law_cells a_law_script (.int 3)).bind fun d1 => ((((Rs.of (lenD [d1])).bind fun x2 => Rs.of (rangeD x2)).bind fun l5 => compM some (fun y3 => Rs.ok true) (fun y3 => ((m_law_box d1 y3).noX).bind fun l4 => (m_law_right l4).noX.bind fun u => Rs.ok u.1) l5).bind fun l6 => Rs.ok (.lst l6)).bind fun x7 => Rs.of (allD [x7])
theorem k_law (T : Txt K mg) : Keeps P w K mg base 26 (He.ga K "law") T.fd_law ["_law_script"] (fun ds => match ds with | [a_law_script] => m_law a_law_script | _ => Rs.no) :=
  keeps_ret T.F_law sc_law (fun cdv A outer s H E F ds hl hr => match ds, hl with | [a_law_script], _ => bi_as [some (.val a_law_script), none, none] (bi_ifr (tv_not (tv_val (ev_call0 (k_law_by_hand_right T) (hr.mono (by decide)) T.g_law_by_hand_right T.F_law_by_hand_right.kp T.b_law_by_hand_right))) (bi_ret ev_bl) (bi_set (as_ev (i := 1) sc_law.nd (ev_callC (L2N.takes_of rfl rfl rfl rfl) (k_law_cells T) (hr.mono (by decide)) T.g_law_cells T.F_law_cells.kp T.b_law_cells (ac_consV (ev_var (i := 0) (d := a_law_script) rfl (pv 0)) (ac_consV ev_int ac_nil)))) (fun d1 => (bi_ret (ev_callBC (cr_all rfl) allD_ok T.f_all boot_all (oc_cons (EV.o (EF.ev (ef_comp rfl sc_law.nd (it_range rfl T.f_range (ev_callBC call_len lenD_ok T.f_len boot_len (oc_consV (EV.o (ev_var (i := 1) (d := d1) rfl (pv 1))) oc_nil))) (blkOk_by (own := [("_law_k", 2)]) (by kernel_rfl)) (by decide) (fun _ _ _ _ _ => tt_name (i := 2) sc_law.nd) (fun _ _ _ _ _ y3 => tvs_nil) (fun _ _ _ _ _ y3 => (ev_box (k_law_right T) (hr.mono (by decide)) T.g_law_right T.F_law_right.kp T.b_law_right (ef_callC (k_law_box T) (hr.mono (by decide)) T.g_law_box T.F_law_box.kp T.b_law_box (ac_consV (ev_var (i := 1) (d := d1) rfl (pv 1)) (ac_consV (ev_var (i := 2) (d := y3) rfl (pv 2)) ac_nil))) ac_nil))))) oc_nil)))))) rfl rfl)
end
end LW
set_option Elab.async false
set_option linter.all false
set_option maxRecDepth 100000
set_option autoImplicit false
namespace VL
open PySem PySem.Spec
theorem compM_map {α γ : Type} {u : D → Option γ} {fc : γ → Rs Bool} {fe : γ → Rs D} (e : α → D) (g : α → γ) (p : α → Bool) (h : α → D) :
    ∀ xs : List α, (∀ x ∈ xs, u (e x) = some (g x)) → (∀ x ∈ xs, fc (g x) = .ok (p x)) → (∀ x ∈ xs, p x = true → fe (g x) = .ok (h x)) → compM u fc fe (xs.map e) = .ok ((xs.filter p).map h)
  | [], _, _, _ => rfl
  | x :: xs, h1, h2, h3 => by
    have ih := compM_map e g p h xs (fun y hy => h1 y (List.mem_cons_of_mem _ hy)) (fun y hy => h2 y (List.mem_cons_of_mem _ hy)) (fun y hy => h3 y (List.mem_cons_of_mem _ hy))
    have m : x ∈ x :: xs := List.mem_cons_self
    simp only [List.map_cons, compM, h1 x m, Rs.of_some, Rs.bind_ok, h2 x m, Rs.noX_ok, ih]
    cases hp : p x with
    | true => simp [h3 x m hp, List.filter_cons, hp]
    | false => simp [List.filter_cons, hp]
theorem compM_all {α : Type} {fe : D → Rs D} (e h : α → D) (xs : List α) (h3 : ∀ x ∈ xs, fe (e x) = .ok (h x)) : compM some (fun _ => .ok true) fe (xs.map e) = .ok (xs.map h) := by
  have z := compM_map (u := some) (fc := fun _ => .ok true) (fe := fe) e e (fun _ => true) h xs (fun _ _ => rfl) (fun _ _ => rfl) (fun x hx _ => h3 x hx)
  rw [z, List.filter_eq_self.mpr (fun _ _ => rfl)]
theorem compM_allU {α γ : Type} {u : D → Option γ} {fe : γ → Rs D} (e : α → D) (g : α → γ) (h : α → D) (xs : List α) (h1 : ∀ x ∈ xs, u (e x) = some (g x)) (h3 : ∀ x ∈ xs, fe (g x) = .ok (h x)) : compM u (fun _ => .ok true) fe (xs.map e) = .ok (xs.map h) := by
  have z := compM_map (u := u) (fc := fun _ => .ok true) (fe := fe) e g (fun _ => true) h xs h1 (fun _ _ => rfl) (fun x hx _ => h3 x hx)
  rw [z, List.filter_eq_self.mpr (fun _ _ => rfl)]
theorem foldM_inv {α ε : Type} {f : ε → D → Rs ε} (e : α → D) (I : List α → ε → Prop) (all : List α) : ∀ (xs pre : List α) (z : ε), all = pre ++ xs → I pre z → (∀ pre x post z, all = pre ++ x :: post → I pre z → ∃ z', f z (e x) = .ok z' ∧ I (pre ++ [x]) z') →
    ∃ z', foldM f (xs.map e) z = .ok z' ∧ I all z'
  | [], pre, z, ha, h0, _ => ⟨z, rfl, by rw [ha, List.append_nil]; exact h0⟩
  | x :: xs, pre, z, ha, h0, h => by
    obtain ⟨z1, e1, i1⟩ := h pre x xs z ha h0
    obtain ⟨z2, e2, i2⟩ := foldM_inv e I all xs (pre ++ [x]) z1 (by rw [ha, List.append_assoc]; rfl) i1 h
    refine ⟨z2, ?_, i2⟩
    simp only [List.map_cons, foldM, e1, Rs.bind_ok, e2]
theorem foldM_ix {α ε : Type} {f : ε → D → Rs ε} (e : α → D) (I : Nat → ε → Prop) : ∀ (xs : List α) (k : Nat) (z : ε), I k z → (∀ j z, ∀ x ∈ xs, j < k + xs.length → I j z → ∃ z', f z (e x) = .ok z' ∧ I (j + 1) z') →
    ∃ z', foldM f (xs.map e) z = .ok z' ∧ I (k + xs.length) z'
  | [], k, z, h0, _ => ⟨z, rfl, h0⟩
  | x :: xs, k, z, h0, h => by
    obtain ⟨z1, e1, i1⟩ := h k z x List.mem_cons_self (by simp only [List.length_cons]; omega) h0
    obtain ⟨z2, e2, i2⟩ := foldM_ix e I xs (k + 1) z1 i1 fun j z y hy hj hi => h j z y (List.mem_cons_of_mem _ hy) (by simp only [List.length_cons]; omega) hi
    refine ⟨z2, ?_, ?_⟩
    · simp only [List.map_cons, foldM, e1, Rs.bind_ok, e2]
    · simp only [List.length_cons]
      rw [show k + (xs.length + 1) = k + 1 + xs.length by omega]
      exact i2
theorem compBM_ix {α γ : Type} {u : D → Option γ} {fe : γ → List D → Rs (D × List D)} (e : α → D) (g : α → γ) (I : Nat → List D → Prop) (J : α → D → Prop) : ∀ (xs : List α) (k : Nat) (s : List D), I k s → (∀ x ∈ xs, u (e x) = some (g x)) →
    (∀ j s, ∀ x ∈ xs, j < k + xs.length → I j s → ∃ d s', fe (g x) s = .ok (d, s') ∧ J x d ∧ I (j + 1) s') → ∃ ds s', compBM u (fun _ s => .ok (true, s)) fe (xs.map e) s = .ok (ds, s') ∧ ds.length = xs.length ∧ (∀ p ∈ xs.zip ds, J p.1 p.2) ∧ I (k + xs.length) s'
  | [], k, s, h0, _, _ => ⟨[], s, rfl, rfl, fun p hp => by simp at hp, h0⟩
  | x :: xs, k, s, h0, hu, h => by
    obtain ⟨d, s1, e1, j1, i1⟩ := h k s x List.mem_cons_self (by simp only [List.length_cons]; omega) h0
    obtain ⟨ds, s2, e2, l2, j2, i2⟩ := compBM_ix e g I J xs (k + 1) s1 i1 (fun y hy => hu y (List.mem_cons_of_mem _ hy)) fun j s y hy hj hi => h j s y (List.mem_cons_of_mem _ hy) (by simp only [List.length_cons]; omega) hi
    refine ⟨d :: ds, s2, ?_, by simp [l2], fun p hp => ?_, ?_⟩
    · simp only [List.map_cons, compBM, hu x List.mem_cons_self, Rs.of_some, Rs.bind_ok, Rs.noX_ok, if_true, e1, e2]
    · rcases List.mem_cons.mp (show p ∈ (x, d) :: xs.zip ds from hp) with rfl | hp
      · exact j1
      · exact j2 p hp
    · simp only [List.length_cons]
      rw [show k + (xs.length + 1) = k + 1 + xs.length by omega]
      exact i2
theorem loopM_inv {α ε β : Type} {f : ε → D → Rs (Fl ε ε)} (e : α → D) (I : Nat → ε → Prop) : ∀ (xs : List α) (k : Nat) (z : ε), I k z → (∀ j z, ∀ x ∈ xs, j < k + xs.length → I j z → ∃ z', f z (e x) = .ok (.nx z') ∧ I (j + 1) z') →
    ∃ z', loopM (β := β) f (xs.map e) z = .ok (.nx z') ∧ I (k + xs.length) z'
  | [], k, z, h0, _ => ⟨z, rfl, h0⟩
  | x :: xs, k, z, h0, h => by
    obtain ⟨z1, e1, i1⟩ := h k z x List.mem_cons_self (by simp only [List.length_cons]; omega) h0
    obtain ⟨z2, e2, i2⟩ := loopM_inv (β := β) e I xs (k + 1) z1 i1 fun j z y hy hj hi => h j z y (List.mem_cons_of_mem _ hy) (by simp only [List.length_cons]; omega) hi
    refine ⟨z2, ?_, ?_⟩
    · simp only [List.map_cons, loopM, e1, Rs.bind_ok, e2]
    · simp only [List.length_cons]
      rw [show k + (xs.length + 1) = k + 1 + xs.length by omega]
      exact i2
theorem intsD_map : ∀ ns : List Int, intsD (ns.map .int) = some ns
  | [] => rfl
  | n :: ns => by simp only [List.map_cons, intsD, intsD_map ns, Option.map_some]
theorem boolsD_map : ∀ ns : List Bool, boolsD (ns.map .bl) = some ns
  | [] => rfl
  | n :: ns => by simp only [List.map_cons, boolsD, boolsD_map ns, Option.map_some]
theorem sumD_map (ns : List Int) : sumD [.lst (ns.map .int)] = some (.int ns.sum) := by simp only [sumD, intsD_map, Option.map_some]
theorem allD_map (bs : List Bool) : allD [.lst (bs.map .bl)] = some (.bl (bs.all id)) := by simp only [allD, boolsD_map, Option.map_some]
theorem allD_of {α : Type} (xs : List α) (f : α → Bool) : allD [.lst (xs.map fun x => .bl (f x))] = some (.bl (xs.all f)) := by
  have z := allD_map (xs.map f)
  rw [List.map_map] at z
  rw [show (fun x => D.bl (f x)) = (D.bl ∘ f) from rfl, z]
  simp [List.all_map]
theorem sumD_of {α : Type} (xs : List α) (f : α → Int) : sumD [.lst (xs.map fun x => .int (f x))] = some (.int (xs.map f).sum) := by
  have z := sumD_map (xs.map f)
  rw [List.map_map] at z
  exact z
theorem zipL_map {α β : Type} (f : α → D) (g : β → D) : ∀ (xs : List α) (ys : List β), zipL (xs.map f) (ys.map g) = (xs.zip ys).map fun p => .tup [f p.1, g p.2]
  | [], _ => by simp [zipL]
  | _ :: _, [] => by simp [zipL]
  | x :: xs, y :: ys => by simp only [List.map_cons, zipL, zipL_map f g xs ys, List.zip_cons_cons]
theorem enumL_map {α : Type} (f : α → D) : ∀ (xs : List α) (i : Nat), enumL i (xs.map f) = (xs.zipIdx i).map fun p => .tup [.int (p.2 : Int), f p.1]
  | [], _ => rfl
  | x :: xs, i => by simp only [List.map_cons, enumL, enumL_map f xs (i + 1), List.zipIdx_cons, Int.zero_add]
@[simp] theorem asB_bl (b : Bool) : asB (.bl b) = some b := rfl
@[simp] theorem eqB_int (i j : Int) : eqB (.int i) (.int j) = some (decide (i = j)) := by
  unfold eqB
  show (if (D.int i).okD && (D.int j).okD then some (PyData.eqv (D.int i).py (D.int j).py) else none) = _
  have h : ∀ k : Int, (D.int k).okD = true := fun k => by simp [D.okD, D.isData, D.py, SeqAt.shaped, PyData.canLay0, PyData.depth]
  rw [h, h]
  simp only [D.py, PyData.eqv, Bool.and_self, if_true]
  congr 1
@[simp] theorem eqB_bl (i j : Bool) : eqB (.bl i) (.bl j) = some (i == j) := by cases i <;> cases j <;> rfl
@[simp] theorem eqB_str (x y : Str) : eqB (.str x) (.str y) = some (decide (x = y)) := rfl
@[simp] theorem neB_int (i j : Int) : neB (.int i) (.int j) = some (!decide (i = j)) := by simp [neB]
@[simp] theorem neB_bl (i j : Bool) : neB (.bl i) (.bl j) = some (!(i == j)) := by simp [neB]
@[simp] theorem neB_str (x y : Str) : neB (.str x) (.str y) = some (!decide (x = y)) := by simp [neB]
@[simp] theorem eqD_int (i j : Int) : eqD (.int i) (.int j) = some (.bl (decide (i = j))) := by simp [eqD]
@[simp] theorem eqD_bl (i j : Bool) : eqD (.bl i) (.bl j) = some (.bl (i == j)) := by simp [eqD]
@[simp] theorem eqD_str (x y : Str) : eqD (.str x) (.str y) = some (.bl (decide (x = y))) := by simp [eqD]
@[simp] theorem neD_int (i j : Int) : neD (.int i) (.int j) = some (.bl (!decide (i = j))) := by simp [neD]
@[simp] theorem neD_str (i j : Str) : neD (.str i) (.str j) = some (.bl (!decide (i = j))) := by simp [neD]
@[simp] theorem ltB_int (i j : Int) : ltB (.int i) (.int j) = some (decide (i < j)) := rfl
@[simp] theorem leB_int (i j : Int) : leB (.int i) (.int j) = some (decide (i ≤ j)) := rfl
@[simp] theorem gtB_int (i j : Int) : gtB (.int i) (.int j) = some (decide (j < i)) := rfl
@[simp] theorem geB_int (i j : Int) : geB (.int i) (.int j) = some (decide (j ≤ i)) := rfl
@[simp] theorem geD_int (i j : Int) : geD (.int i) (.int j) = some (.bl (decide (j ≤ i))) := rfl
@[simp] theorem ltD_int (i j : Int) : ltD (.int i) (.int j) = some (.bl (decide (i < j))) := rfl
@[simp] theorem leD_int (i j : Int) : leD (.int i) (.int j) = some (.bl (decide (i ≤ j))) := rfl
@[simp] theorem gtD_int (i j : Int) : gtD (.int i) (.int j) = some (.bl (decide (j < i))) := rfl
@[simp] theorem ltD_str (x y : Str) : ltD (.str x) (.str y) = some (.bl (decide (x.cps.toList < y.cps.toList))) := rfl
@[simp] theorem addD_int (i j : Int) : addD (.int i) (.int j) = some (.int (i + j)) := rfl
@[simp] theorem subD_int (i j : Int) : subD (.int i) (.int j) = some (.int (i - j)) := rfl
@[simp] theorem negD_int (i : Int) : negD (.int i) = some (.int (-i)) := rfl
@[simp] theorem intD_int (i : Int) : intD [.int i] = some (.int i) := rfl
theorem log2_lt {n k : Nat} (h : n < 2 ^ k) (hk : 0 < k) : n.log2 < k := by
  by_cases h0 : n = 0
  · subst h0
    simp
    exact hk
  · exact (Nat.log2_lt h0).mpr h
theorem mulD_int {i j : Int} {a b : Nat} (hi : i.natAbs < 2 ^ a) (hj : j.natAbs < 2 ^ b) (h : a + b ≤ 134000000) (ha : 0 < a) (hb : 0 < b) : mulD (.int i) (.int j) = some (.int (i * j)) := by
  have h1 := log2_lt hi ha
  have h2 := log2_lt hj hb
  simp only [mulD]
  rw [if_pos (by omega)]
theorem modD_int {i j : Int} (h : 0 < j) : modD (.int i) (.int j) = some (.int (i % j)) := by
  simp only [modD]
  rw [if_pos (by omega), Int.fmod_eq_emod_of_nonneg _ (by omega)]
theorem fdivD_int {i j : Int} (h : 0 < j) (hl : j.natAbs < 2 ^ 9000) : fdivD (.int i) (.int j) = some (.int (i / j)) := by
  simp only [fdivD]
  rw [if_pos ⟨by omega, log2_lt hl (by decide)⟩, Int.fdiv_eq_ediv_of_nonneg _ (by omega)]
theorem idxD_lst (xs : List D) (n : Nat) (d : D) (h : xs[n]? = some d) : idxD (.lst xs) (.int n) = some d := by
  have hl : n < xs.length := (List.getElem?_eq_some_iff.mp h).1
  simp only [idxD, L2.atI, L2.ixN]
  rw [if_pos (by omega), if_pos (by omega)]
  simpa using h
theorem line_ge : 1000000 ≤ sizeLine := by rw [sizeLine_eq]; omega
theorem zipL_self : ∀ xs : List D, zipL xs xs = xs.map fun x => .tup [x, x]
  | [] => rfl
  | x :: xs => by simp only [zipL, zipL_self xs, List.map_cons]
theorem erase_perm {α : Type} : ∀ (xs : List α) (q : Nat) (h : q < xs.length), (xs[q] :: xs.eraseIdx q).Perm xs
  | [], q, h => by simp at h
  | x :: xs, 0, h => .refl _
  | x :: xs, q + 1, h => by
    have z := erase_perm xs q (Nat.lt_of_succ_lt_succ h)
    simp only [List.getElem_cons_succ, List.eraseIdx_cons_succ]
    exact (List.Perm.swap x _ _).trans (z.cons x)
theorem erase_map {α β : Type} (f : α → β) : ∀ (xs : List α) (q : Nat), (xs.map f).eraseIdx q = (xs.eraseIdx q).map f
  | [], _ => by simp
  | x :: xs, 0 => by simp
  | x :: xs, q + 1 => by simp [erase_map f xs q]
theorem popL_nat {xs : List D} {q : Nat} (h : q < xs.length) : popL xs (.int q) = some (xs[q], xs.eraseIdx q) := by
  simp only [popL, L2.ixN]
  rw [if_pos (by omega), if_pos (by omega)]
  simp [h]
theorem appL_ok {xs : List D} {d : D} (h : xs.length < 1000000) : appL xs d = some (xs ++ [d]) := by
  unfold appL
  rw [if_pos (Nat.lt_of_lt_of_le h line_ge)]
theorem rangeD_nat {n : Nat} (h : n < 1000000) : rangeD (.int n) = some ((List.range n).map fun (i : Nat) => D.int (0 + (i : Int))) := by
  simp only [rangeD]
  rw [if_pos (by omega)]
  rfl
theorem minD_nat {k : Int} {n : Nat} (hk : 0 ≤ k) : minD [.int k, .int (n : Int)] = some (.int ((min k.toNat n : Nat) : Int)) := by
  simp only [minD]
  congr 2
  split <;> omega
theorem idx3_0 (x y z : D) : idxD (.lst [x, y, z]) (.int 0) = some x := rfl
theorem idx3_1 (x y z : D) : idxD (.lst [x, y, z]) (.int 1) = some y := rfl
theorem idx3_2 (x y z : D) : idxD (.lst [x, y, z]) (.int 2) = some z := rfl
theorem set3_0 (x y z w : D) : setL [x, y, z] (.int 0) w = some [w, y, z] := rfl
theorem set3_2 (x y z w : D) : setL [x, y, z] (.int 2) w = some [x, y, w] := rfl
def Box (N : Nat) (s : List D) : Prop := ∃ a b c : Int, s = [.int a, .int b, .int c] ∧ 0 ≤ a ∧ 0 ≤ b ∧ b < 2 ^ 70 ∧ 0 ≤ c ∧ c ≤ N
theorem Box.mono {N M : Nat} {s : List D} (h : Box N s) (hm : N ≤ M) : Box M s := by
  obtain ⟨a, b, c, e, h1, h2, h3, h4, h5⟩ := h
  exact ⟨a, b, c, e, h1, h2, h3, h4, by omega⟩
end VL
set_option Elab.async false
set_option linter.all false
set_option maxRecDepth 100000
set_option autoImplicit false
namespace VL
open PySem PySem.Spec
section
variable {α β : Type} {le : α → α → Bool}
theorem insW_perm (x : α) : ∀ l : List α, (insW le x l).Perm (x :: l)
  | [] => .refl _
  | y :: ys => by
    unfold insW
    split
    · exact .refl _
    · exact ((insW_perm x ys).cons y).trans (.swap x y ys)
theorem isortW_perm : ∀ l : List α, (isortW le l).Perm l
  | [] => .refl _
  | x :: xs => by
    unfold isortW
    exact (insW_perm x _).trans ((isortW_perm xs).cons x)
theorem insW_map {f : β → α} {le' : β → β → Bool} (h : ∀ x y, le (f x) (f y) = le' x y) (x : β) : ∀ l : List β, insW le (f x) (l.map f) = (insW le' x l).map f
  | [] => rfl
  | y :: ys => by
    simp only [List.map_cons, insW, h]
    split
    · rfl
    · simp only [List.map_cons, insW_map h x ys]
theorem isortW_map {f : β → α} {le' : β → β → Bool} (h : ∀ x y, le (f x) (f y) = le' x y) : ∀ l : List β, isortW le (l.map f) = (isortW le' l).map f
  | [] => rfl
  | x :: xs => by simp only [List.map_cons, isortW, isortW_map h xs, insW_map h]
theorem insW_sorted (tot : ∀ a b, le a b = false → le b a = true) (tr : ∀ a b c, le a b = true → le b c = true → le a c = true) (x : α) : ∀ l : List α, l.Pairwise (fun a b => le a b = true) → (insW le x l).Pairwise fun a b => le a b = true
  | [], _ => by simp [insW]
  | y :: ys, h => by
    obtain ⟨h1, h2⟩ := List.pairwise_cons.mp h
    unfold insW
    cases e : le x y with
    | true =>
      simp only [if_true]
      refine List.pairwise_cons.mpr ⟨fun z hz => ?_, h⟩
      rcases List.mem_cons.mp hz with rfl | hz
      · exact e
      · exact tr _ _ _ e (h1 z hz)
    | false =>
      simp only [Bool.false_eq_true, if_false]
      refine List.pairwise_cons.mpr ⟨fun z hz => ?_, insW_sorted tot tr x ys h2⟩
      rcases List.mem_cons.mp ((insW_perm x ys).mem_iff.mp hz) with rfl | hz
      · exact tot _ _ e
      · exact h1 z hz
theorem isortW_sorted (tot : ∀ a b, le a b = false → le b a = true) (tr : ∀ a b c, le a b = true → le b c = true → le a c = true) : ∀ l : List α, (isortW le l).Pairwise fun a b => le a b = true
  | [] => .nil
  | x :: xs => by
    unfold isortW
    exact insW_sorted tot tr x _ (isortW_sorted tot tr xs)
end
abbrev SLt (x y : Str) : Prop := x.cps.toList < y.cps.toList
theorem str_ext {x y : Str} (h : x.cps.toList = y.cps.toList) : x = y := by
  obtain ⟨a⟩ := x
  obtain ⟨b⟩ := y
  have e : a = b := Array.toList_inj.mp h
  rw [e]
theorem slt_irrefl (x : Str) : ¬ SLt x x := List.lt_irrefl _
theorem slt_trans {x y z : Str} (h : SLt x y) (g : SLt y z) : SLt x z := List.lt_trans h g
theorem slt_asymm {x y : Str} (h : SLt x y) : ¬ SLt y x := fun g => slt_irrefl _ (slt_trans h g)
theorem slt_tri {x y : Str} (h : ¬ SLt x y) (g : ¬ SLt y x) : x = y := str_ext (List.le_antisymm (List.not_lt.mp g) (List.not_lt.mp h))
def sle (x y : Str) : Bool := !decide (SLt y x)
theorem sle_tot (a b : Str) (h : sle a b = false) : sle b a = true := by
  simp only [sle, Bool.not_eq_false', decide_eq_true_eq] at h
  simp only [sle, Bool.not_eq_true', decide_eq_false_iff_not]
  exact slt_asymm h
theorem sle_tr (a b c : Str) (h : sle a b = true) (g : sle b c = true) : sle a c = true := by
  simp only [sle, Bool.not_eq_true', decide_eq_false_iff_not] at *
  intro k
  by_cases hb : SLt a b
  · exact g (slt_trans k hb)
  · have e := slt_tri hb h
    subst e
    exact g k
theorem leS_str (x y : Str) : leS (.str x) (.str y) = sle x y := by
  simp only [leS, D.py, ltP, sle]
def nmOk (x : Str) : Bool := decide (1 ≤ x.cps.size) && (decide (x.cps.size ≤ 8) && x.cps.toList.all fun c => decide (97 ≤ c) && decide (c ≤ 122))
theorem nmOk_mem {x : Str} (h : nmOk x = true) {c : Nat} (hc : c ∈ x.cps.toList) : 97 ≤ c ∧ c ≤ 122 := by
  simp only [nmOk, Bool.and_eq_true, decide_eq_true_eq] at h
  have z := List.all_eq_true.mp h.2.2 c hc
  simpa using z
theorem nmOk_str {x : Str} (h : nmOk x = true) : PyData.strOk x = true := by
  unfold PyData.strOk
  rw [← Array.all_toList]
  refine List.all_eq_true.mpr fun c hc => ?_
  have z := nmOk_mem h hc
  simp
  omega
abbrev hsD (hs : List Str) : D := .tup (hs.map .str)
theorem inB_tup (x : Str) (hs : List Str) : inB (.str x) (.tup (hs.map .str)) = some (decide (x ∈ hs)) := by
  have h1 : ((hs.map D.str).all flatD) = true := by simp [List.all_map, flatD]
  have h2 : ((hs.map D.str).any fun y => eqF y (.str x)) = decide (x ∈ hs) := by
    induction hs with
    | nil => simp
    | cons a hs ih =>
      simp only [List.map_cons, List.any_cons, List.all_cons] at *
      have z := ih (by simp [List.all_map, flatD])
      rw [z]
      simp only [eqF, List.mem_cons, Bool.decide_or]
      congr 1
      by_cases e : a = x
      · subst e; simp
      · have e2 : ¬ x = a := fun z => e z.symm
        simp [e, e2]
  simp only [inB, flatD, h1, Bool.and_self, if_true, h2]
abbrev Lk := Str × Str × Int
structure HsOk (hs : List Str) : Prop where
  nm : ∀ x ∈ hs, nmOk x = true
  asc : hs.Pairwise SLt
  two : 2 ≤ hs.length
  six : hs.length ≤ 6
theorem eqv_str (x y : Str) : PyData.eqv (.str x) (.str y) = decide (x = y) := by
  simp only [PyData.eqv]
  by_cases h : x = y
  · subst h; simp
  · simp [h]
theorem areData_map {α : Type} {f : α → D} : ∀ {xs : List α}, (∀ x ∈ xs, (f x).isData = true) → areData (xs.map f) = true
  | [], _ => by simp [areData]
  | x :: xs, h => by simp only [List.map_cons, areData, h x List.mem_cons_self, Bool.true_and]; exact areData_map fun y hy => h y (List.mem_cons_of_mem _ hy)
theorem canLay_map {α : Type} {f : α → D} : ∀ {xs : List α}, (∀ x ∈ xs, (f x).py.canLay0 = true) → PyData.canLayAll0 (pys (xs.map f)) = true
  | [], _ => by simp [pys, PyData.canLayAll0]
  | x :: xs, h => by simp only [List.map_cons, pys, PyData.canLayAll0, h x List.mem_cons_self, Bool.true_and]; exact canLay_map fun y hy => h y (List.mem_cons_of_mem _ hy)
theorem depth_map {α : Type} {f : α → D} {n : Nat} : ∀ {xs : List α}, (∀ x ∈ xs, (f x).py.depth ≤ n) → PyData.depthAll (pys (xs.map f)) ≤ n
  | [], _ => by simp [pys, PyData.depthAll]
  | x :: xs, h => by
    simp only [List.map_cons, pys, PyData.depthAll]
    have h1 := h x List.mem_cons_self
    have h2 := depth_map (n := n) fun y hy => h y (List.mem_cons_of_mem _ hy)
    omega
theorem okD_lst {α : Type} {f : α → D} {xs : List α} (h : ∀ x ∈ xs, (f x).isData = true ∧ (f x).py.canLay0 = true ∧ (f x).py.depth ≤ 60) : (D.lst (xs.map f)).okD = true := by
  simp only [D.okD, D.isData, D.py, SeqAt.shaped, PyData.canLay0, PyData.depth, Bool.and_eq_true, decide_eq_true_eq]
  refine ⟨areData_map fun x hx => (h x hx).1, canLay_map fun x hx => (h x hx).2.1, ?_⟩
  have z := depth_map (f := f) (n := 60) fun x hx => (h x hx).2.2
  omega
theorem okD_tup {α : Type} {f : α → D} {xs : List α} (h : ∀ x ∈ xs, (f x).isData = true ∧ (f x).py.canLay0 = true ∧ (f x).py.depth ≤ 60) : (D.tup (xs.map f)).okD = true := by
  have z := okD_lst h
  simp only [D.okD, D.isData, D.py, SeqAt.shaped, PyData.canLay0, PyData.depth] at z ⊢
  exact z
end VL
set_option Elab.async false
set_option linter.all false
set_option maxRecDepth 100000
set_option autoImplicit false
namespace VL
open PySem PySem.Spec
theorem sortL_tups {α : Type} (f : α → D) (xs : List α) (h1 : ∀ x ∈ xs, (f x).isData = true) (h2 : ∀ x ∈ xs, ∀ y ∈ xs, PySem.W.alike (f x).py (f y).py = true) (h3 : ∀ x ∈ xs, tupNe (f x).py = true) (h4 : ∀ x ∈ xs, (f x).py.depth ≤ 32) (h5 : ∀ x ∈ xs, ∀ y ∈ xs, cmpP (f x).py (f y).py = true) :
    sortL (xs.map f) = some (isortW leS (xs.map f)) := by
  unfold sortL
  rw [if_pos]
  simp only [Bool.and_eq_true, sortOk, cmpAll, pys_map, List.map_map, List.all_eq_true, List.mem_map, Function.comp_apply, Bool.or_eq_true, decide_eq_true_eq]
  refine ⟨areData_map h1, ⟨?_, .inl ?_, ?_⟩, ?_⟩
  · rintro _ ⟨x, hx, rfl⟩ _ ⟨y, hy, rfl⟩
    exact h2 x hx y hy
  · rintro _ ⟨x, hx, rfl⟩
    exact h3 x hx
  · rintro _ ⟨x, hx, rfl⟩
    exact h4 x hx
  · rintro _ ⟨x, hx, rfl⟩ _ ⟨y, hy, rfl⟩
    exact h5 x hx y hy
theorem sortL_strs (xs : List Str) : sortL (xs.map .str) = some ((isortW sle xs).map .str) := by
  have e : sortL (xs.map .str) = some (isortW leS (xs.map .str)) := by
    unfold sortL
    rw [if_pos]
    simp only [Bool.and_eq_true, sortOk, cmpAll, pys_map, List.map_map, List.all_eq_true, List.mem_map, Function.comp_apply, Bool.or_eq_true, decide_eq_true_eq]
    refine ⟨areData_map fun x _ => by simp [D.isData], ⟨?_, .inr ?_, ?_⟩, ?_⟩
    · rintro _ ⟨x, hx, rfl⟩ _ ⟨y, hy, rfl⟩
      simp [D.py, PySem.W.alike]
    · rintro _ ⟨x, hx, rfl⟩
      simp [D.py, noTup]
    · rintro _ ⟨x, hx, rfl⟩
      simp [D.py, PyData.depth]
    · rintro _ ⟨x, hx, rfl⟩ _ ⟨y, hy, rfl⟩
      simp [D.py, cmpP]
  rw [e, isortW_map leS_str]
theorem eqv_hs : ∀ xs ys : List Str, PyData.eqvAll (pys (xs.map .str)) (pys (ys.map .str)) = decide (xs = ys)
  | [], [] => by simp [pys, PyData.eqvAll]
  | [], _ :: _ => by simp [pys, PyData.eqvAll]
  | _ :: _, [] => by simp [pys, PyData.eqvAll]
  | x :: xs, y :: ys => by
    simp only [List.map_cons, pys, D.py, PyData.eqvAll, eqv_str, eqv_hs xs ys, List.cons.injEq]
    by_cases h : x = y <;> simp [h]
theorem hs_cmp : ∀ xs ys : List Str, cmpPs (pys (xs.map .str)) (pys (ys.map .str)) = true
  | [], [] => by simp [pys, cmpPs]
  | [], _ :: _ => by simp [pys, cmpPs]
  | _ :: _, [] => by simp [pys, cmpPs]
  | x :: xs, y :: ys => by
    simp only [List.map_cons, pys, D.py, cmpPs, cmpP, Bool.or_true, Bool.true_and]
    exact hs_cmp xs ys
theorem hs_alike : ∀ xs ys : List Str, PySem.W.alikeAll (pys (xs.map .str)) (pys (ys.map .str)) = true
  | [], [] => by simp [pys, PySem.W.alikeAll]
  | [], _ :: _ => by simp [pys, PySem.W.alikeAll]
  | _ :: _, [] => by simp [pys, PySem.W.alikeAll]
  | x :: xs, y :: ys => by
    simp only [List.map_cons, pys, D.py, PySem.W.alikeAll, PySem.W.alike, Bool.true_and]
    exact hs_alike xs ys
theorem hs_depth (xs : List Str) : (hsD xs).py.depth ≤ 1 := by
  simp only [D.py, PyData.depth]
  have z := depth_map (f := D.str) (n := 0) (xs := xs) (fun x _ => by simp [D.py, PyData.depth])
  omega
theorem hs_data (xs : List Str) : (hsD xs).isData = true := by
  simp only [D.isData]
  exact areData_map fun x _ => by simp [D.isData]
def hlt : List Str → List Str → Bool
  | [], [] => false
  | [], _ :: _ => true
  | _ :: _, [] => false
  | x :: xs, y :: ys => if x = y then hlt xs ys else decide (SLt x y)
theorem ltPs_hs : ∀ xs ys : List Str, ltPs (pys (xs.map .str)) (pys (ys.map .str)) = hlt xs ys
  | [], [] => by simp [pys, ltPs, hlt]
  | [], _ :: _ => by simp [pys, ltPs, hlt]
  | _ :: _, [] => by simp [pys, ltPs, hlt]
  | x :: xs, y :: ys => by
    simp only [List.map_cons, pys, D.py, ltPs, eqv_str, ltPs_hs xs ys, hlt, ltP, decide_eq_true_eq]
def hle (xs ys : List Str) : Bool := !hlt ys xs
theorem leS_hs (xs ys : List Str) : leS (hsD xs) (hsD ys) = hle xs ys := by simp only [leS, D.py, ltP, ltPs_hs, hle]
theorem sortL_hss (xss : List (List Str)) (h : ∀ xs ∈ xss, xs ≠ []) : sortL (xss.map hsD) = some ((isortW hle xss).map hsD) := by
  rw [sortL_tups hsD xss (fun x _ => hs_data x) (fun x _ y _ => by simp only [D.py, PySem.W.alike]; exact hs_alike x y) (fun x hx => by
    cases x with
    | nil => exact absurd rfl (h _ hx)
    | cons a x => simp [D.py, pys, tupNe]) (fun x _ => Nat.le_trans (hs_depth x) (by decide)) (fun x _ y _ => by simp only [D.py, cmpP]; exact hs_cmp x y), isortW_map leS_hs]
def fits : Nat → D → Bool
  | _, .non => true
  | _, .bl _ => true
  | _, .int _ => true
  | _, .str _ => true
  | n + 1, .tup xs => xs.all (fits n)
  | n + 1, .lst xs => xs.all (fits n)
  | _, _ => false
theorem fits_hs (n : Nat) (hs : List Str) : fits (n + 1) (hsD hs) = true := by
  cases n <;> simp [fits, List.all_map]
end VL
set_option Elab.async false
set_option linter.all false
set_option maxRecDepth 100000
set_option autoImplicit false
set_option maxHeartbeats 1000000
namespace LW
open PySem PySem.Spec VL
theorem take_ok {N : Nat} {s : List D} {n : Int} (hb : Box N s) (hN : N ≤ 1000000000) (hn : 0 < n) (hl : n < 2 ^ 200) : ∃ r s', m_law_take s (.int n) = .ok (.int r, s') ∧ 0 ≤ r ∧ r < n ∧ Box (N + 1) s' := by
  obtain ⟨a, b, c, rfl, ha, hb1, hb2, hc1, hc2⟩ := hb
  have hnl : n.natAbs < 2 ^ 9000 := Nat.lt_of_lt_of_le (show n.natAbs < 2 ^ 200 by omega) (Nat.pow_le_pow_right (by decide) (by decide))
  by_cases h0 : 0 < a
  · refine ⟨a % n, [.int (a / n), .int b, .int c], ?_, Int.emod_nonneg _ (by omega), Int.emod_lt_of_pos _ hn, _, _, _, rfl, Int.ediv_nonneg ha (by omega), hb1, hb2, hc1, by omega⟩
    simp only [m_law_take, idx3_0, Rs.of_some, Rs.bind_ok, gtB_int, decide_eq_true h0, if_true, intD_int, modD_int hn, fdivD_int hn hnl, set3_0]
  · have e1 : mulD (.int 48271) (.int (c + 1)) = some (.int (48271 * (c + 1))) := mulD_int (a := 20) (b := 40) (by decide) (by omega) (by decide) (by decide) (by decide)
    have e2 : mulD (.int (b + 48271 * (c + 1))) (.int (39373 + (c + 1))) = some (.int ((b + 48271 * (c + 1)) * (39373 + (c + 1)))) := mulD_int (a := 80) (b := 40) (by omega) (by omega) (by decide) (by decide) (by decide)
    have m1 : (0 : Int) < 2147483647 := by decide
    have m2 : (0 : Int) < 40009 := by decide
    have m3 : (0 : Int) < 2147483629 := by decide
    have m4 : (0 : Int) < 2147483587 := by decide
    obtain ⟨o, ho⟩ : ∃ o, o = (b + 48271 * (c + 1)) * (39373 + (c + 1)) % 2147483647 := ⟨_, rfl⟩
    have o1 : 0 ≤ o := ho ▸ Int.emod_nonneg _ (by decide)
    have o2 : o < 2147483647 := ho ▸ Int.emod_lt_of_pos _ (by decide)
    have f1 : 0 ≤ o % 40009 := Int.emod_nonneg _ (by decide)
    have f2 : o % 40009 < 40009 := Int.emod_lt_of_pos _ (by decide)
    have d1 : fdivD (.int b) (.int 1000003) = some (.int (b / 1000003)) := fdivD_int (by decide) (Nat.lt_of_lt_of_le (show (1000003 : Int).natAbs < 2 ^ 20 by decide) (Nat.pow_le_pow_right (by decide) (by decide)))
    have d2 : ∀ k : Int, fdivD (.int k) (.int 64) = some (.int (k / 64)) := fun k => fdivD_int (by decide) (Nat.lt_of_lt_of_le (show (64 : Int).natAbs < 2 ^ 20 by decide) (Nat.pow_le_pow_right (by decide) (by decide)))
    have b1 : 0 ≤ b / 1000003 := Int.ediv_nonneg hb1 (by decide)
    have b2 : b / 1000003 ≤ b := Int.ediv_le_self _ hb1
    have e3 : mulD (.int (o + (c + 1) + b / 1000003)) (.int (o % 40009 + 7)) = some (.int ((o + (c + 1) + b / 1000003) * (o % 40009 + 7))) := mulD_int (a := 80) (b := 40) (by omega) (by omega) (by decide) (by decide) (by decide)
    obtain ⟨g, hg⟩ : ∃ g, g = (o + (c + 1) + b / 1000003) * (o % 40009 + 7) % 2147483629 := ⟨_, rfl⟩
    have g1 : 0 ≤ g := hg ▸ Int.emod_nonneg _ (by decide)
    have g2 : g < 2147483629 := hg ▸ Int.emod_lt_of_pos _ (by decide)
    have e4 : mulD (.int g) (.int 48271) = some (.int (g * 48271)) := mulD_int (a := 80) (b := 40) (by omega) (by decide) (by decide) (by decide) (by decide)
    refine ⟨(g * 48271 + o) % 2147483587 / 64 % n, [.int a, .int b, .int (c + 1)], ?_, Int.emod_nonneg _ (by omega), Int.emod_lt_of_pos _ hn, _, _, _, rfl, ha, hb1, hb2, by omega, by omega⟩
    simp only [m_law_take, idx3_0, Rs.of_some, Rs.bind_ok, gtB_int, decide_eq_false h0, Bool.false_eq_true, if_false, idx3_1, idx3_2, addD_int, set3_2, intD_int, e1, e2, modD_int m1, ← ho, modD_int m2, d1, e3, modD_int m3, ← hg, e4, modD_int m4, d2, modD_int hn]
theorem pick_ok {α : Type} (f : α → D) {N : Nat} {s : List D} {xs : List α} {k : Int} (hb : Box N s) (hN : N + xs.length ≤ 1000000000) (hk : 0 ≤ k) (hl : xs.length < 1000) :
    ∃ (ys : List α) (s' : List D), m_law_pick s (.lst (xs.map f)) (.int k) = .ok (.lst (ys.map f), s') ∧ (∃ zs : List α, (ys ++ zs).Perm xs) ∧ ys.length = min k.toNat xs.length ∧ Box (N + xs.length) s' := by
  have hm := minD_nat (n := xs.length) hk
  have hr := rangeD_nat (n := min k.toNat xs.length) (by omega)
  obtain ⟨g, hg⟩ : ∃ g, g = fun (z2 : List D × List D × List D) (d : D) => (Rs.of (some d)).bind fun y3 => ((((Rs.of (lenD [(.lst z2.2.1)])).bind fun d => Rs.ok (d, z2.1))).bind fun u11 => m_law_take u11.2 u11.1).noX.bind fun u7 => (Rs.of (popL z2.2.1 u7.1)).bind fun q8 => (Rs.of (appL z2.2.2 q8.1)).bind fun l5 => Rs.ok (u7.2, q8.2, l5) := ⟨_, rfl⟩
  have key : ∃ z', foldM g ((List.range (min k.toNat xs.length)).map fun (i : Nat) => D.int (0 + (i : Int))) (s, xs.map f, []) = .ok z' ∧ ∃ (pool found : List α), z'.2.1 = pool.map f ∧ z'.2.2 = found.map f ∧ Box (N + (0 + (List.range (min k.toNat xs.length)).length)) z'.1 ∧ (found ++ pool).Perm xs ∧ found.length = 0 + (List.range (min k.toNat xs.length)).length := by
    refine foldM_ix (fun (i : Nat) => D.int (0 + (i : Int))) (fun j (z : List D × List D × List D) => ∃ (pool found : List α), z.2.1 = pool.map f ∧ z.2.2 = found.map f ∧ Box (N + j) z.1 ∧ (found ++ pool).Perm xs ∧ found.length = j) (List.range (min k.toNat xs.length)) 0 (s, xs.map f, []) ⟨xs, [], rfl, rfl, hb, by simp, rfl⟩ ?_
    rintro j ⟨s1, p1, f1⟩ x hx hj ⟨pool, found, rfl, rfl, i1, i2, i3⟩
    simp only [List.length_range] at hj
    have hlen := i2.length_eq
    simp only [List.length_append] at hlen
    have hp : 0 < pool.length := by omega
    obtain ⟨r, s2, e, r1, r2, hb'⟩ := take_ok i1 (by omega) (n := (pool.length : Int)) (by omega) (by omega)
    obtain ⟨q, rfl⟩ : ∃ q : Nat, r = q := ⟨r.toNat, by omega⟩
    have hq : q < pool.length := by omega
    have hpop := popL_nat (xs := pool.map f) (q := q) (by simpa using hq)
    have happ := appL_ok (xs := found.map f) (d := f pool[q]) (by rw [List.length_map]; omega)
    simp only [List.getElem_map] at hpop
    refine ⟨(s2, (pool.map f).eraseIdx q, found.map f ++ [f pool[q]]), ?_, pool.eraseIdx q, found ++ [pool[q]], erase_map f pool q, by simp, hb'.mono (by omega), ?_, by simp [i3]⟩
    · simp only [hg, Rs.of_some, Rs.bind_ok, lenD, List.length_map, e, Rs.noX_ok, hpop, happ]
    · refine List.Perm.trans ?_ i2
      rw [List.append_assoc]
      refine List.Perm.append_left found ?_
      exact erase_perm pool q hq
  obtain ⟨z', e, pool, found, e1, e2, i1, i2, i3⟩ := key
  refine ⟨found, z'.1, ?_, ⟨_, i2⟩, by simpa using i3, i1.mono (by simp only [List.length_range]; omega)⟩
  subst hg
  simp only [Rs.of_some, Rs.bind_ok, lenD] at e
  simp only [m_law_pick, listL, Rs.of_some, Rs.bind_ok, intD_int, lenD, List.length_map, hm, hr, e, e2]
theorem same_refl : ∀ (n : Nat) (d : D), fits n d = true → m_law_same (n + 1) d d = .ok (.bl true)
  | n, .exn c xs, h => by cases n <;> simp [fits] at h
  | n, .non, _ => rfl
  | n, .bl b, _ => by cases b <;> rfl
  | n, .int i, _ => by simp [m_law_same, isiD2, isiD, isiB, kindD, isiK, isNB, D.isNon]
  | n, .str x, _ => by simp [m_law_same, isiD2, isiD, isiB, kindD, isiK, isNB, D.isNon, isND]
  | n + 1, .tup xs, h => by
    have h' : ∀ x ∈ xs, fits n x = true := List.all_eq_true.mp (by simpa only [fits] using h)
    have e : compM un2 (fun y7 => Rs.ok true) (fun y7 => m_law_same (n + 1) y7.1 y7.2) (zipL xs xs) = .ok (xs.map fun _ => .bl true) := by
      have z := compM_allU (u := un2) (fe := fun y7 : D × D => m_law_same (n + 1) y7.1 y7.2) (fun x : D => .tup [x, x]) (fun x => (x, x)) (fun _ => .bl true) xs (fun _ _ => rfl) (fun x hx => same_refl n x (h' x hx))
      rw [← z, zipL_self]
    have e2 := allD_of xs fun _ => true
    rw [m_law_same]
    simp [isiD2, isiD, isiB, kindD, isiK, lenD, zipD, seqD, e, e2]
  | n + 1, .lst xs, h => by
    have h' : ∀ x ∈ xs, fits n x = true := List.all_eq_true.mp (by simpa only [fits] using h)
    have e : compM un2 (fun y7 => Rs.ok true) (fun y7 => m_law_same (n + 1) y7.1 y7.2) (zipL xs xs) = .ok (xs.map fun _ => .bl true) := by
      have z := compM_allU (u := un2) (fe := fun y7 : D × D => m_law_same (n + 1) y7.1 y7.2) (fun x : D => .tup [x, x]) (fun x => (x, x)) (fun _ => .bl true) xs (fun _ _ => rfl) (fun x hx => same_refl n x (h' x hx))
      rw [← z, zipL_self]
    have e2 := allD_of xs fun _ => true
    rw [m_law_same]
    simp [isiD2, isiD, isiB, kindD, isiK, lenD, zipD, seqD, e, e2]
  | 0, .tup xs, h => by simp [fits] at h
  | 0, .lst xs, h => by simp [fits] at h
  | n, .scr xs, h => by cases n <;> simp [fits] at h
  | n, .obj c xs, h => by cases n <;> simp [fits] at h
  | n, .dT xs, h => by cases n <;> simp [fits] at h
  | n, .dK xs, h => by cases n <;> simp [fits] at h
  | n, .dN w xs, h => by cases n <;> simp [fits] at h
  | n, .tupL xs, h => by cases n <;> simp [fits] at h
end LW
set_option Elab.async false
set_option linter.all false
set_option maxRecDepth 100000
set_option autoImplicit false
set_option maxHeartbeats 1000000
namespace LW
open PySem PySem.Spec VL
theorem cells_ok {ns : List Int} {p : Nat} (hl : ns.length ≤ 63) (hp : p ≤ 2000000) (hb : ∀ n ∈ ns, n.natAbs < 2 ^ p) :
    ∃ cs : List Int, m_law_cells (.scr (ns.map .int)) (.int 3) = .ok (.lst (cs.map .int)) ∧ 0 < cs.length ∧ cs.length ≤ 3 ∧ ∀ c ∈ cs, c.natAbs < 2 ^ (p + 20) := by
  obtain ⟨B, hB⟩ : ∃ B, B = 2 ^ p := ⟨_, rfl⟩
  have hB1 : 0 < B := hB ▸ Nat.pow_pos (by decide)
  have hBt : B * 4096 < 2 ^ (p + 20) := by
    rw [Nat.pow_add, ← hB]
    exact Nat.mul_lt_mul_of_pos_left (by decide) hB1
  have c1 : cutD (ns.map .int) none (some 3) = (ns.take 3).map .int := by
    simp only [cutD, HT.sIx, List.length_map, Nat.sub_zero, List.drop_zero]
    rw [if_neg (by omega), List.map_take]
    by_cases h : 3 ≤ ns.length
    · rw [show min (3 : Int).toNat ns.length = 3 by simp; omega]
    · rw [show min (3 : Int).toNat ns.length = ns.length by simp; omega, List.take_of_length_le (by simp), List.take_of_length_le (by simp; omega)]
  have c2 : cutD (ns.map .int) (some 3) (some 63) = (ns.drop 3).map .int := by
    simp only [cutD, HT.sIx, List.length_map]
    rw [if_neg (by omega), if_neg (by omega), List.map_drop]
    by_cases h : 3 ≤ ns.length
    · rw [show min (3 : Int).toNat ns.length = 3 by simp; omega, show min (63 : Int).toNat ns.length = ns.length by simp; omega, List.take_of_length_le (by simp)]
    · rw [show min (3 : Int).toNat ns.length = ns.length by simp; omega, List.drop_eq_nil_of_le (by simp), List.drop_eq_nil_of_le (by simp; omega)]
      simp
  have s1 : sliceD (.scr (ns.map .int)) none (some 3) = some (.lst ((ns.take 3).map .int)) := by simp only [sliceD, c1]
  have s2 : sliceD (.scr (ns.map .int)) (some 3) (some 63) = some (.lst ((ns.drop 3).map .int)) := by simp only [sliceD, c2]
  have e1 : enumD (.lst ((ns.drop 3).map .int)) = some (((ns.drop 3).zipIdx 0).map fun q => .tup [.int (q.2 : Int), .int q.1]) := by
    simp only [enumD, seqD, Option.map_some, enumL_map D.int (ns.drop 3) 0]
  obtain ⟨f, hf⟩ : ∃ f, f = fun (z4 : List D) (d : D) => (Rs.of (un2 d)).bind fun y5 => ((Rs.of (intD [y5.1])).bind fun x7 => Rs.of (modD x7 (.int 3))).bind fun d8 => ((Rs.of (idxD (.lst z4) d8)).bind fun x10 => ((Rs.of (addD y5.1 (.int 2))).bind fun x9 => Rs.of (mulD y5.2 x9)).bind fun x11 => Rs.of (addD x10 x11)).bind fun x13 => (Rs.of (setL z4 d8 x13)).bind fun l12 => Rs.ok l12 := ⟨_, rfl⟩
  have fin : ∀ cs0 : List Int, (0 < (ns.drop 3).length → cs0.length = 3) → (∀ c ∈ cs0, c.natAbs < B) → ∃ cs : List Int, foldM f (((ns.drop 3).zipIdx 0).map fun q => .tup [.int (q.2 : Int), .int q.1]) (cs0.map .int) = .ok (cs.map .int) ∧ cs.length = cs0.length ∧ ∀ c ∈ cs, c.natAbs < B * 4096 := by
    intro cs0 h0 h1
    have key : ∃ z', foldM f (((ns.drop 3).zipIdx 0).map fun q => .tup [.int (q.2 : Int), .int q.1]) (cs0.map .int) = .ok z' ∧ ∃ cs : List Int, z' = cs.map .int ∧ cs.length = cs0.length ∧ ∀ c ∈ cs, c.natAbs ≤ B + (0 + ((ns.drop 3).zipIdx 0).length) * (B * 65) := by
      refine foldM_ix (fun q : Int × Nat => .tup [.int (q.2 : Int), .int q.1]) (fun j (z : List D) => ∃ cs : List Int, z = cs.map D.int ∧ cs.length = cs0.length ∧ ∀ c ∈ cs, c.natAbs ≤ B + j * (B * 65)) _ 0 _ ⟨cs0, rfl, rfl, fun c hc => by have := h1 c hc; omega⟩ ?_
      rintro j z ⟨a, k⟩ hx hj ⟨cs, rfl, l1, l2⟩
      have hk := List.mem_zipIdx hx
      obtain ⟨_, hk2, hk3⟩ := hk
      simp only [Nat.zero_add, List.length_drop] at hk2
      have ha : a ∈ ns := by
        have : a ∈ ns.drop 3 := by rw [hk3]; exact List.getElem_mem _
        exact List.mem_of_mem_drop this
      have hlen : cs.length = 3 := by rw [l1]; exact h0 (by simp only [List.length_drop]; omega)
      have hm : modD (.int (k : Int)) (.int 3) = some (.int ((k % 3 : Nat) : Int)) := by rw [modD_int (by decide)]; rfl
      have hi : k % 3 < cs.length := by rw [hlen]; exact Nat.mod_lt _ (by decide)
      have hidx : idxD (.lst (cs.map .int)) (.int ((k % 3 : Nat) : Int)) = some (.int cs[k % 3]) := idxD_lst _ _ _ (by simp [hi])
      have hmul : mulD (.int a) (.int ((k : Int) + 2)) = some (.int (a * ((k : Int) + 2))) := mulD_int (a := p + 1) (b := 10) (by have := hb a ha; rw [Nat.pow_succ]; omega) (by omega) (by omega) (by omega) (by decide)
      have hset : setL (cs.map .int) (.int ((k % 3 : Nat) : Int)) (.int (cs[k % 3] + a * ((k : Int) + 2))) = some ((cs.set (k % 3) (cs[k % 3] + a * ((k : Int) + 2))).map .int) := by
        simp only [setL, L2.ixN, List.length_map]
        rw [if_pos (by omega), if_pos (by omega)]
        simp only [Option.map_some, Int.toNat_natCast, List.map_set]
      refine ⟨(cs.set (k % 3) (cs[k % 3] + a * ((k : Int) + 2))).map .int, ?_, _, rfl, by simp [l1], fun c hc => ?_⟩
      · simp only [hf, un2, Rs.of_some, Rs.bind_ok, intD_int, hm, hidx, addD_int, hmul, hset]
      · have e : (j + 1) * (B * 65) = j * (B * 65) + B * 65 := Nat.succ_mul _ _
        rcases List.mem_or_eq_of_mem_set hc with hc | rfl
        · have := l2 c hc
          omega
        · have z1 := l2 cs[k % 3] (List.getElem_mem hi)
          have z2 := Int.natAbs_add_le cs[k % 3] (a * ((k : Int) + 2))
          have z3 : (a * ((k : Int) + 2)).natAbs ≤ B * 65 := by
            rw [Int.natAbs_mul]
            exact Nat.mul_le_mul (by have := hb a ha; omega) (by omega)
          omega
    obtain ⟨z', e, cs, rfl, k1, k2⟩ := key
    refine ⟨cs, e, k1, fun c hc => ?_⟩
    have z := k2 c hc
    simp only [Nat.zero_add, List.length_zipIdx, List.length_drop] at z
    have z2 : (ns.length - 3) * (B * 65) ≤ 60 * (B * 65) := Nat.mul_le_mul_right _ (by omega)
    omega
  have start : ∃ cs0 : List Int, (if ((ns.take 3).map D.int).isEmpty = true then Rs.ok [D.int 0] else Rs.ok ((ns.take 3).map D.int)) = Rs.ok (cs0.map D.int) ∧ 0 < cs0.length ∧ cs0.length ≤ 3 ∧ (0 < (ns.drop 3).length → cs0.length = 3) ∧ ∀ c ∈ cs0, c.natAbs < B := by
    cases ns with
    | nil => exact ⟨[0], rfl, by decide, by decide, fun h => by simp at h, fun c hc => by simp at hc; subst hc; exact hB1⟩
    | cons n ns =>
      refine ⟨(n :: ns).take 3, by simp, by simp, by simp; omega, fun h => ?_, fun c hc => ?_⟩
      · simp only [List.length_drop, List.length_cons] at h
        simp only [List.length_take, List.length_cons]
        omega
      · rw [hB]
        exact hb c (List.mem_of_mem_take hc)
  obtain ⟨cs0, g1, g2, g3, g4, g5⟩ := start
  obtain ⟨cs, k1, k2, k3⟩ := fin cs0 g4 g5
  refine ⟨cs, ?_, by omega, by omega, fun c hc => Nat.lt_trans (k3 c hc) hBt⟩
  subst hf
  simp only [m_law_cells, asI, Rs.of_some, Rs.bind_ok, s1, listL, g1, s2, e1, k1]
theorem pow18 : powD (.int 10) (.int 18) = some (.int 1000000000000000000) := by kernel_rfl
theorem box_ok {cs : List Int} {k q : Nat} (hk : k < cs.length) (h3 : cs.length ≤ 3) (hq : q ≤ 10000000) (hb : ∀ c ∈ cs, c.natAbs < 2 ^ q) : ∃ s, m_law_box (.lst (cs.map .int)) (.int k) = .ok s ∧ Box 0 s := by
  have hidx : idxD (.lst (cs.map .int)) (.int (k : Int)) = some (.int cs[k]) := idxD_lst _ _ _ (by simp [hk])
  obtain ⟨c, hc⟩ : ∃ c, c = cs[k] := ⟨_, rfl⟩
  have hcb : c.natAbs < 2 ^ q := hb c (hc ▸ List.getElem_mem hk)
  have hlt : decide ((k : Int) < (cs.length : Int)) = true := decide_eq_true (by omega)
  have hm : modD (.int c) (.int 2305843009213693951) = some (.int (c % 2305843009213693951)) := modD_int (by decide)
  have m1 := Int.emod_nonneg c (show (2305843009213693951 : Int) ≠ 0 by decide)
  have m2 := Int.emod_lt_of_pos c (show (0 : Int) < 2305843009213693951 by decide)
  have hk2 : mulD (.int 39373) (.int (k : Int)) = some (.int (39373 * (k : Int))) := mulD_int (a := 20) (b := 20) (by decide) (by omega) (by decide) (by decide) (by decide)
  have habs : (if c < 0 then -c else c).natAbs < 2 ^ (q + 1) := by
    rw [Nat.pow_succ]
    split <;> omega
  have ha0 : 0 ≤ (if c < 0 then -c else c) := by split <;> omega
  have fin : ∀ b : Bool, ∃ v, mulD (.int (if c < 0 then -c else c)) (.int (if b = true then 1 else 0)) = some (.int v) ∧ 0 ≤ v := fun b => by
    refine ⟨_, mulD_int (a := q + 1) (b := 2) habs (by cases b <;> decide) (by omega) (by omega) (by decide), ?_⟩
    cases b
    · simp
    · simp only [if_true, Int.mul_one]
      exact ha0
  obtain ⟨v, v1, v2⟩ := fin (decide (1000000000000000000 ≤ (if c < 0 then -c else c)))
  refine ⟨[.int v, .int (c % 2305843009213693951 + 39373 * (k : Int) + 92338), .int 0], ?_, _, _, _, rfl, v2, ?_, ?_, Int.le_refl _, Int.le_refl _⟩
  · simp only [m_law_box, lenD, List.length_map, Rs.of_some, Rs.bind_ok, ltB_int, hlt, if_true, hidx, ← hc, absD, pow18, geD_int, intD, v1, hm, hk2, addD_int]
  · omega
  · omega
end LW
set_option Elab.async false
set_option linter.all false
set_option maxRecDepth 100000
set_option autoImplicit false
namespace VL
open PySem PySem.Spec
theorem gcd_loop {c : D × D → Rs Bool} {f : D × D → Rs (D × D)} (hc : ∀ a b : Nat, c (.int (a : Int), .int (b : Int)) = .ok (!decide (b = 0))) (hf : ∀ a b : Nat, b ≠ 0 → f (.int (a : Int), .int (b : Int)) = .ok (.int (b : Int), .int ((a % b : Nat) : Int))) :
    ∀ (k n a b : Nat), b < 2 ^ k → 2 * k + 1 ≤ n → whileN c f n (.int (a : Int), .int (b : Int)) = .ok (.int ((Nat.gcd a b : Nat) : Int), .int 0) := by
  have stop : ∀ (n a : Nat), 1 ≤ n → whileN c f n (.int (a : Int), .int ((0 : Nat) : Int)) = .ok (.int (a : Int), .int 0) := fun n a hn => by
    obtain ⟨m, rfl⟩ : ∃ m, n = m + 1 := ⟨n - 1, by omega⟩
    simp only [whileN, hc, Rs.bind_ok]
    simp
  have one : ∀ (n a b : Nat), b ≠ 0 → whileN c f (n + 1) (.int (a : Int), .int (b : Int)) = whileN c f n (.int (b : Int), .int ((a % b : Nat) : Int)) := fun n a b hb => by
    simp only [whileN, hc, Rs.bind_ok, hf a b hb]
    simp [hb]
  intro k
  induction k with
  | zero =>
    intro n a b hb hn
    have e : b = 0 := by omega
    subst e
    rw [stop n a (by omega), Nat.gcd_zero_right]
  | succ k ih =>
    intro n a b hb hn
    by_cases h0 : b = 0
    · subst h0
      rw [stop n a (by omega), Nat.gcd_zero_right]
    · obtain ⟨m, rfl⟩ : ∃ m, n = m + 1 + 1 := ⟨n - 2, by omega⟩
      rw [one _ a b h0]
      have hr : a % b < b := Nat.mod_lt _ (by omega)
      have g1 : Nat.gcd a b = Nat.gcd b (a % b) := by rw [Nat.gcd_comm b, Nat.gcd_comm a b, Nat.gcd_rec b a]
      by_cases h1 : a % b = 0
      · rw [h1] at g1 ⊢
        rw [stop _ b (by omega), g1, Nat.gcd_zero_right]
      · rw [one _ b (a % b) h1, g1]
        have g2 : Nat.gcd b (a % b) = Nat.gcd (a % b) (b % (a % b)) := by rw [Nat.gcd_comm (a % b) (b % (a % b)), Nat.gcd_comm b, Nat.gcd_rec (a % b) b]
        rw [g2]
        have hlt : b % (a % b) < a % b := Nat.mod_lt _ (by omega)
        have hdm := Nat.mod_add_div b (a % b)
        have hq : 1 ≤ b / (a % b) := Nat.div_pos (by omega) (by omega)
        have hmul : a % b ≤ (a % b) * (b / (a % b)) := Nat.le_mul_of_pos_right _ hq
        refine ih _ _ _ ?_ (by omega)
        rw [Nat.pow_succ] at hb
        omega
theorem itemsD_tup (xs : List D) : itemsD (.tup xs) = some xs := rfl
theorem itemsD_lst (xs : List D) : itemsD (.lst xs) = some xs := rfl
theorem seqD_tup (xs : List D) : seqD (.tup xs) = some xs := rfl
theorem seqD_lst (xs : List D) : seqD (.lst xs) = some xs := rfl
theorem lenD_tup (xs : List D) : lenD [.tup xs] = some (.int xs.length) := rfl
theorem lenD_lst (xs : List D) : lenD [.lst xs] = some (.int xs.length) := rfl
theorem tupleD_lst (xs : List D) : tupleD [.lst xs] = some (.tup xs) := rfl
def sq (k : Bool) (xs : List D) : D := if k then .lst xs else .tup xs
@[simp] theorem sq_t (xs : List D) : sq true xs = .lst xs := rfl
@[simp] theorem sq_f (xs : List D) : sq false xs = .tup xs := rfl
@[simp] theorem seqD_sq (k : Bool) (xs : List D) : seqD (sq k xs) = some xs := by cases k <;> rfl
@[simp] theorem itemsD_sq (k : Bool) (xs : List D) : itemsD (sq k xs) = some xs := by cases k <;> rfl
@[simp] theorem lenD_sq (k : Bool) (xs : List D) : lenD [sq k xs] = some (.int xs.length) := by cases k <;> rfl
def subs : List Str → List (List Str) := List.foldl (fun acc h => acc ++ acc.map fun c => c ++ [h]) [[]]
theorem subs_snoc (hs : List Str) (h : Str) : subs (hs ++ [h]) = subs hs ++ (subs hs).map fun c => c ++ [h] := by simp [subs, List.foldl_append]
theorem rev_ind {α : Type} {P : List α → Prop} (h0 : P []) (h1 : ∀ xs x, P xs → P (xs ++ [x])) (xs : List α) : P xs := by
  have key : ∀ ys : List α, P ys.reverse := fun ys => by
    induction ys with
    | nil => exact h0
    | cons y ys ih => rw [List.reverse_cons]; exact h1 _ _ ih
  have z := key xs.reverse
  rwa [List.reverse_reverse] at z
theorem subs_len (hs : List Str) : (subs hs).length = 2 ^ hs.length := by
  induction hs using rev_ind with
  | h0 => rfl
  | h1 hs h ih => rw [subs_snoc, List.length_append, List.length_map, ih, List.length_append, List.length_cons, List.length_nil, Nat.pow_succ]; omega
theorem subs_sub (hs : List Str) : ∀ c ∈ subs hs, c.Sublist hs := by
  induction hs using rev_ind with
  | h0 => intro c hc; simp [subs] at hc; subst hc; exact .slnil
  | h1 hs h ih =>
    intro c hc
    rw [subs_snoc] at hc
    rcases List.mem_append.mp hc with hc | hc
    · exact (ih c hc).trans (List.sublist_append_left _ _)
    · obtain ⟨b, hb, rfl⟩ := List.mem_map.mp hc
      exact (ih b hb).append (.refl _)
def cutsOf (hs : List Str) : List (List Str) := isortW hle ((subs hs).filter fun c => decide (0 < c.length) && decide (c.length < hs.length))
theorem addD_tup {xs ys : List D} (h : xs.length + ys.length ≤ 1000000) : addD (.tup xs) (.tup ys) = some (.tup (xs ++ ys)) := by
  simp only [addD]
  rw [if_pos (Nat.le_trans h line_ge)]
theorem addD_lst {xs ys : List D} (h : xs.length + ys.length ≤ 1000000) : addD (.lst xs) (.lst ys) = some (.lst (xs ++ ys)) := by
  simp only [addD]
  rw [if_pos (Nat.le_trans h line_ge)]
theorem slice_last (xs : List D) : sliceD (.tup xs) none (some (-1)) = some (.tup xs.dropLast) := by
  simp only [sliceD, cutD, HT.sIx]
  rw [if_pos (by omega), List.dropLast_eq_take, List.drop_zero]
  congr 3
  omega
end VL
set_option Elab.async false
set_option linter.all false
set_option maxRecDepth 100000
set_option autoImplicit false
namespace VL
open PySem PySem.Spec
theorem subs_mem {hs c : List Str} (h : c.Sublist hs) : c ∈ subs hs := by
  induction hs using rev_ind generalizing c with
  | h0 =>
    rw [List.sublist_nil.mp h]
    simp [subs]
  | h1 hs x ih =>
    obtain ⟨l1, l2, rfl, s1, s2⟩ := List.sublist_append_iff.mp h
    rw [subs_snoc, List.mem_append, List.mem_map]
    rcases List.sublist_cons_iff.mp s2 with s3 | ⟨r, rfl, s3⟩
    · rw [List.sublist_nil.mp s3, List.append_nil]
      exact .inl (ih s1)
    · rw [List.sublist_nil.mp s3]
      exact .inr ⟨l1, ih s1, rfl⟩
theorem cutsOf_mem {hs c : List Str} : c ∈ cutsOf hs ↔ c.Sublist hs ∧ 0 < c.length ∧ c.length < hs.length := by
  unfold cutsOf
  rw [(isortW_perm _).mem_iff, List.mem_filter]
  simp only [Bool.and_eq_true, decide_eq_true_eq]
  exact ⟨fun ⟨h1, h2⟩ => ⟨subs_sub hs c h1, h2⟩, fun ⟨h1, h2⟩ => ⟨subs_mem h1, h2⟩⟩
theorem cutsOf_ne {hs : List Str} (h : 2 ≤ hs.length) : cutsOf hs ≠ [] := by
  cases hs with
  | nil => simp at h
  | cons x hs =>
    intro e
    have m : [x] ∈ cutsOf (x :: hs) := cutsOf_mem.mpr ⟨(List.nil_sublist hs).cons₂ x, by simp, by simp at h ⊢; omega⟩
    rw [e] at m
    simp at m
end VL
set_option Elab.async false
set_option linter.all false
set_option maxRecDepth 100000
set_option autoImplicit false
set_option maxHeartbeats 1000000
set_option Elab.async false
set_option linter.all false
set_option maxRecDepth 100000
set_option autoImplicit false
set_option maxHeartbeats 1000000
namespace VL
open PySem PySem.Spec
theorem ok_fine {d : D} (h : d.isData = true ∧ d.py.canLay0 = true ∧ d.py.depth ≤ 60) : d.okD = true := by
  obtain ⟨a, b, c⟩ := h
  simp only [D.okD, SeqAt.shaped, a, b, Bool.true_and, decide_eq_true_eq]
  omega
end VL
set_option Elab.async false
set_option linter.all false
set_option maxRecDepth 100000
set_option autoImplicit false
set_option maxHeartbeats 1000000
set_option exponentiation.threshold 10000
namespace VL
open PySem PySem.Spec
def frQ (q : Rat) : D := .tup [.int q.num, .int (q.den : Int)]
structure BQ (k : Nat) (q : Rat) : Prop where
  num : q.num.natAbs < 2 ^ k
  den : q.den < 2 ^ k
theorem BQ.mono {k l : Nat} {q : Rat} (h : BQ k q) (hl : k ≤ l) : BQ l q :=
  ⟨Nat.lt_of_lt_of_le h.num (Nat.pow_le_pow_right (by decide) hl), Nat.lt_of_lt_of_le h.den (Nat.pow_le_pow_right (by decide) hl)⟩
theorem BQ.mk' {k : Nat} {a : Int} {b : Nat} (ha : a.natAbs < 2 ^ k) (hb : b < 2 ^ k) (hk : 0 < k) : BQ k (mkRat a b) := by
  constructor
  · rw [Rat.num_mkRat]
    split
    · exact Nat.pow_pos (by decide)
    · exact Nat.lt_of_le_of_lt (Int.natAbs_ediv_le_natAbs _ _) ha
  · rw [Rat.den_mkRat]
    split
    · exact Nat.one_lt_two_pow (by omega)
    · exact Nat.lt_of_le_of_lt (Nat.div_le_self _ _) hb
theorem mul_lt_pow {a b k l : Nat} (ha : a < 2 ^ k) (hb : b < 2 ^ l) : a * b < 2 ^ (k + l) := by
  rw [Nat.pow_add]
  exact Nat.mul_lt_mul'' ha hb
theorem cross_lt {k l : Nat} {p q : Rat} (hp : BQ k p) (hq : BQ l q) : (p.num * q.den).natAbs < 2 ^ (k + l) := by
  rw [Int.natAbs_mul]
  exact mul_lt_pow hp.num (by simpa using hq.den)
theorem cross_lt' {k l : Nat} {p q : Rat} (hp : BQ k p) (hq : BQ l q) : (q.num * p.den).natAbs < 2 ^ (k + l) := by
  have h := cross_lt hq hp
  rwa [Nat.add_comm]  at h
theorem BQ.sub {k l : Nat} {p q : Rat} (hp : BQ k p) (hq : BQ l q) : BQ (k + l + 1) (p - q) := by
  rw [Rat.sub_def']
  have h1 := cross_lt hp hq
  have h2 := cross_lt' hp hq
  refine (BQ.mk' (k := k + l + 1) ?_ ?_ (by omega))
  · have := Int.natAbs_sub_le (p.num * q.den) (q.num * p.den)
    rw [Nat.pow_succ]
    omega
  · exact Nat.lt_of_lt_of_le (mul_lt_pow hp.den hq.den) (Nat.pow_le_pow_right (by decide) (by omega))
theorem BQ.int {k : Nat} {a : Int} (ha : a.natAbs < 2 ^ k) (hk : 0 < k) : BQ k (a : Rat) := ⟨by simpa using ha, by simpa using Nat.one_lt_two_pow (by omega)⟩
theorem gcd_step (a : Int) (b r : Nat) (h : a % (b : Int) = (r : Int)) : Nat.gcd b r = Nat.gcd a.natAbs b := by
  have e := Int.emod_add_mul_ediv a (b : Int)
  refine Nat.dvd_antisymm (Nat.dvd_gcd ?_ (Nat.gcd_dvd_left _ _)) (Nat.dvd_gcd (Nat.gcd_dvd_right _ _) ?_)
  · refine Int.natCast_dvd_natCast.mp (Int.dvd_natAbs.mpr ?_)
    have h1 : ((Nat.gcd b r : Nat) : Int) ∣ (b : Int) := Int.natCast_dvd_natCast.mpr (Nat.gcd_dvd_left _ _)
    have h2 : ((Nat.gcd b r : Nat) : Int) ∣ (r : Int) := Int.natCast_dvd_natCast.mpr (Nat.gcd_dvd_right _ _)
    rw [← e, h]
    exact Int.dvd_add h2 (Int.dvd_mul_of_dvd_left h1)
  · have h1 : ((Nat.gcd a.natAbs b : Nat) : Int) ∣ (b : Int) := Int.natCast_dvd_natCast.mpr (Nat.gcd_dvd_right _ _)
    have h2 : ((Nat.gcd a.natAbs b : Nat) : Int) ∣ a := Int.dvd_natAbs.mp (Int.natCast_dvd_natCast.mpr (Nat.gcd_dvd_left _ _))
    rw [← Int.natCast_dvd_natCast, ← h]
    have h3 : a % (b : Int) = a - (b : Int) * (a / b) := by omega
    rw [h3]
    exact Int.dvd_sub h2 (Int.dvd_mul_of_dvd_left h1)
theorem gcd_loopI {c : D × D → Rs Bool} {f : D × D → Rs (D × D)} (hc : ∀ (a : Int) (b : Nat), c (.int a, .int (b : Int)) = .ok (!decide (b = 0))) (hf : ∀ (a : Int) (b : Nat), b ≠ 0 → f (.int a, .int (b : Int)) = .ok (.int (b : Int), .int (a % (b : Int))))
    {k n : Nat} {a : Int} {b : Nat} (h0 : b ≠ 0) (hb : b < 2 ^ k) (hn : 2 * k + 2 ≤ n) : whileN c f n (.int a, .int (b : Int)) = .ok (.int ((Nat.gcd a.natAbs b : Nat) : Int), .int 0) := by
  obtain ⟨m, rfl⟩ : ∃ m, n = m + 1 := ⟨n - 1, by omega⟩
  obtain ⟨r, hr⟩ : ∃ r : Nat, a % (b : Int) = (r : Int) := ⟨(a % (b : Int)).toNat, by have := Int.emod_nonneg a (show (b : Int) ≠ 0 by omega); omega⟩
  have hlt : r < b := by have := Int.emod_lt_of_pos a (show (0 : Int) < b by omega); omega
  simp only [whileN, hc, Rs.bind_ok, hf a b h0, hr]
  have z := gcd_loop (c := c) (f := f) (fun a b => hc a b) (fun a b h => by rw [hf a b h]; rfl) k m b r (Nat.lt_trans hlt hb) (by omega)
  simp only [h0, decide_false, Bool.not_false, if_true, z, gcd_step a b r hr]
theorem mkRat_parts {a : Int} {b : Nat} (h : b ≠ 0) : frQ (mkRat a b) = .tup [.int (a / ((Nat.gcd a.natAbs b : Nat) : Int)), .int ((b / Nat.gcd a.natAbs b : Nat) : Int)] := by
  unfold frQ
  rw [Rat.num_mkRat, Rat.den_mkRat, if_neg h, if_neg h, Nat.gcd_comm b]
theorem fdivD_gcd {a : Int} {g : Nat} (h : 0 < g) (hl : g < 2 ^ 8000) : fdivD (.int a) (.int (g : Int)) = some (.int (a / (g : Int))) :=
  fdivD_int (by omega) (Nat.lt_of_lt_of_le (show (g : Int).natAbs < 2 ^ 8000 by simpa using hl) (Nat.pow_le_pow_right (by decide) (by decide)))
theorem mul_big {a b : Int} {k l : Nat} (ha : a.natAbs < 2 ^ k) (hb : b.natAbs < 2 ^ l) (h : k + l ≤ 8000) : mulD (.int a) (.int b) = some (.int (a * b)) :=
  mulD_int (a := k + 1) (b := l + 1) (Nat.lt_of_lt_of_le ha (Nat.pow_le_pow_right (by decide) (by omega))) (Nat.lt_of_lt_of_le hb (Nat.pow_le_pow_right (by decide) (by omega))) (by omega) (by omega) (by omega)
theorem frQ_int (a : Int) : frQ (a : Rat) = .tup [.int a, .int 1] := rfl
theorem fits_frQ (n : Nat) (q : Rat) : fits (n + 1) (frQ q) = true := by cases n <;> simp [frQ, fits]
theorem frQ_fine (q : Rat) : (frQ q).isData = true ∧ (frQ q).py.canLay0 = true ∧ (frQ q).py.depth ≤ 60 := by
  simp [frQ, D.isData, areData, D.py, pys, PyData.canLay0, PyData.canLayAll0, PyData.depth, PyData.depthAll]
theorem eqv_frQ (a b : Rat) : PyData.eqv (frQ a).py (frQ b).py = decide (a = b) := by
  simp only [frQ, D.py, pys, PyData.eqv, PyData.eqvAll]
  by_cases h : a = b
  · subst h
    simp [PyData.eqv]
  · have : ¬ (a.num = b.num ∧ a.den = b.den) := fun z => h (Rat.ext z.1 z.2)
    simp only [h, decide_false]
    by_cases h1 : a.num = b.num
    · have h2 : ¬ a.den = b.den := fun z => this ⟨h1, z⟩
      have h3 : ¬ (a.den : Int) = (b.den : Int) := fun z => h2 (Int.ofNat.inj z)
      simp [h1, h2, h3]
    · simp [h1]
theorem eqB_frQ (a b : Rat) : eqB (frQ a) (frQ b) = some (decide (a = b)) := by
  have h1 : (frQ a).okD = true := ok_fine (frQ_fine a)
  have h2 : (frQ b).okD = true := ok_fine (frQ_fine b)
  have e : eqB (frQ a) (frQ b) = if (frQ a).okD && (frQ b).okD then some (PyData.eqv (frQ a).py (frQ b).py) else none := rfl
  rw [e, h1, h2, eqv_frQ]
  rfl
theorem lt_cross (a b : Rat) : decide (a.num * (b.den : Int) < b.num * (a.den : Int)) = decide (a < b) := decide_eq_decide.mpr (Rat.lt_iff a b).symm
end VL
set_option Elab.async false
set_option linter.all false
set_option maxRecDepth 100000
set_option autoImplicit false
set_option maxHeartbeats 1000000
set_option exponentiation.threshold 10000
namespace VL
open PySem PySem.Spec
theorem cross {a c : Int} {b d : Nat} (hb : 0 < b) (hd : 0 < d) : a * (d : Int) < c * (b : Int) ↔ mkRat a b < mkRat c d := by
  have hb' : (0 : Rat) < (b : Rat) := Rat.natCast_pos.mpr hb
  have hd' : (0 : Rat) < (d : Rat) := Rat.natCast_pos.mpr hd
  rw [Rat.mkRat_eq_div, Rat.mkRat_eq_div, Rat.div_lt_iff hb', ← Rat.intCast_lt_intCast]
  have e : (c : Rat) / (d : Rat) * (b : Rat) = (c * b : Rat) / (d : Rat) := by
    rw [Rat.div_def, Rat.div_def, Rat.mul_assoc, Rat.mul_comm _ (b : Rat), Rat.mul_assoc]
  rw [e, Rat.lt_div_iff hd', Rat.intCast_mul, Rat.intCast_mul]
  rfl
def qmax (a b : Rat) : Rat := if a < b then b else a
theorem BQ.qmax {k : Nat} {a b : Rat} (ha : BQ k a) (hb : BQ k b) : BQ k (qmax a b) := by
  unfold VL.qmax
  split <;> assumption
theorem BQ.foldl {k : Nat} : ∀ (ps : List Rat) (z : Rat), BQ k z → (∀ p ∈ ps, BQ k p) → BQ k (ps.foldl VL.qmax z)
  | [], z, hz, _ => hz
  | p :: ps, z, hz, h => BQ.foldl ps _ (hz.qmax (h p List.mem_cons_self)) fun q hq => h q (List.mem_cons_of_mem _ hq)
end VL
set_option Elab.async false
set_option linter.all false
set_option maxRecDepth 100000
set_option autoImplicit false
set_option maxHeartbeats 1000000
namespace LW
open PySem PySem.Spec VL SX
theorem asc_of {ns : List Str} (hd : ns.Nodup) : (isortW sle ns).Pairwise SLt := by
  have h1 := isortW_sorted (le := sle) sle_tot sle_tr ns
  have h2 : (isortW sle ns).Nodup := (isortW_perm ns).nodup_iff.mpr hd
  refine (h1.and h2).imp fun {a b} h => ?_
  have h3 := h.1
  simp only [sle, Bool.not_eq_true', decide_eq_false_iff_not] at h3
  by_cases hab : SLt a b
  · exact hab
  · exact absurd (slt_tri hab h3) h.2
def pool : List Str := ["a", "b", "c", "d", "ab", "hub", "zzzzzzzz"]
theorem pool_nodup : pool.Nodup := by decide +kernel
theorem pool_nm : ∀ x ∈ pool, nmOk x = true := by decide +kernel
theorem houses_ok {N : Nat} {s : List D} (hb : Box N s) (hN : N + 8 ≤ 1000000000) : ∃ hs s', m_law_houses s (.int 4) = .ok (hsD hs, s') ∧ HsOk hs ∧ (∀ x ∈ hs, x ∈ pool) ∧ hs.length ≤ 4 ∧ Box (N + 8) s' := by
  obtain ⟨r, s1, e1, r1, r2, b1⟩ := take_ok hb (by omega) (n := 3) (by decide) (by decide)
  obtain ⟨ys, s', e, ⟨zs, hp⟩, hl, hb'⟩ := pick_ok D.str (xs := pool) (k := 2 + r) b1 (show N + 1 + 7 ≤ 1000000000 by omega) (by omega) (by decide)
  have hl' : ys.length = (2 + r).toNat := by
    rw [hl]
    show min (2 + r).toNat 7 = (2 + r).toNat
    omega
  have hd : ys.Nodup := (List.nodup_append.mp (hp.nodup_iff.mpr pool_nodup)).1
  have hm : ∀ y ∈ ys, y ∈ pool := fun y hy => hp.mem_iff.mp (List.mem_append_left _ hy)
  refine ⟨isortW sle ys, s', ?_, ⟨fun x hx => ?_, asc_of hd, ?_, ?_⟩, fun x hx => hm x ((isortW_perm ys).mem_iff.mp hx), ?_, hb'⟩
  · have e' : m_law_pick s1 (.lst [(.str "a"), (.str "b"), (.str "c"), (.str "d"), (.str "ab"), (.str "hub"), (.str "zzzzzzzz")]) (.int (2 + r)) = .ok (.lst (ys.map .str), s') := e
    have sb : subD (.int 4) (.int 1) = some (.int 3) := rfl
    simp only [m_law_houses, Rs.bind_ok, sb, Rs.of_some, e1, addD_int, e', sortD, seqD, Option.bind_some, sortL_strs, Option.map_some, tupleD, Rs.noX_ok]
  · exact pool_nm x (hm x ((isortW_perm ys).mem_iff.mp hx))
  · rw [(isortW_perm ys).length_eq]; omega
  · rw [(isortW_perm ys).length_eq]; omega
  · rw [(isortW_perm ys).length_eq]; omega
mutual
def tpl : D → D
  | .lst xs => .tup (tpls xs)
  | .tup xs => .tup (tpls xs)
  | d => d
def tpls : List D → List D
  | [] => []
  | d :: ds => tpl d :: tpls ds
end
theorem tpls_map : ∀ ds : List D, tpls ds = ds.map tpl
  | [] => by simp [tpls]
  | d :: ds => by simp [tpls, tpls_map ds]
theorem tupled_ok : ∀ (n : Nat) (d : D), fits n d = true → m_tupled (n + 1) d = .ok (tpl d)
  | n, .exn c xs, h => by cases n <;> simp [fits] at h
  | n, .non, _ => by simp [m_tupled, isiD2, kindD, isiK, tpl]
  | n, .bl b, _ => by simp [m_tupled, isiD2, kindD, isiK, tpl]
  | n, .int i, _ => by simp [m_tupled, isiD2, kindD, isiK, tpl]
  | n, .str x, _ => by simp [m_tupled, isiD2, kindD, isiK, tpl]
  | n + 1, .tup xs, h => by
    have h' : ∀ x ∈ xs, fits n x = true := List.all_eq_true.mp (by simpa only [fits] using h)
    have e := compM_all (fe := fun y1 => m_tupled (n + 1) y1) id tpl xs fun x hx => tupled_ok n x (h' x hx)
    rw [List.map_id] at e
    rw [m_tupled]
    simp [isiD2, kindD, isiK, itemsD, e, tupleD, tpl, tpls_map]
  | n + 1, .lst xs, h => by
    have h' : ∀ x ∈ xs, fits n x = true := List.all_eq_true.mp (by simpa only [fits] using h)
    have e := compM_all (fe := fun y1 => m_tupled (n + 1) y1) id tpl xs fun x hx => tupled_ok n x (h' x hx)
    rw [List.map_id] at e
    rw [m_tupled]
    simp [isiD2, kindD, isiK, itemsD, e, tupleD, tpl, tpls_map]
  | 0, .tup xs, h => by simp [fits] at h
  | 0, .lst xs, h => by simp [fits] at h
  | n, .scr xs, h => by cases n <;> simp [fits] at h
  | n, .obj c xs, h => by cases n <;> simp [fits] at h
  | n, .dT xs, h => by cases n <;> simp [fits] at h
  | n, .dK xs, h => by cases n <;> simp [fits] at h
  | n, .dN w xs, h => by cases n <;> simp [fits] at h
  | n, .tupL xs, h => by cases n <;> simp [fits] at h
theorem tpl_hs (hs : List Str) : tpl (hsD hs) = hsD hs := by
  simp only [tpl, tpls_map, List.map_map]
  congr 1
theorem tix2_0 (x y : D) : idxD (.tup [x, y]) (.int 0) = some x := rfl
theorem tix2_1 (x y : D) : idxD (.tup [x, y]) (.int 1) = some y := rfl
theorem common_ok {a : Int} {b : Nat} (h0 : b ≠ 0) (hb : b < 2 ^ 8000) : m_common_part (.int a) (.int (b : Int)) = .ok (.int ((Nat.gcd a.natAbs b : Nat) : Int)) := by
  have e := gcd_loopI (c := fun z0 : D × D => Rs.of (neB z0.2 (.int 0))) (f := fun z0 => (Rs.of (modD z0.1 z0.2)).bind fun d2 => Rs.ok (z0.2, d2))
    (fun a b => by simp only [neB_int, Rs.of_some]; congr 2; simp) (fun a b h => by simp only [modD_int (show (0 : Int) < (b : Int) by omega), Rs.of_some, Rs.bind_ok]) (k := 8000) (n := FUEL) (a := a) h0 hb (by decide)
  simp only [m_common_part, e, Rs.bind_ok, absD]
  rw [if_neg (by omega)]
  rfl
theorem fraction_ok {a : Int} {b : Nat} (h0 : b ≠ 0) (hb : b < 2 ^ 8000) : m_fraction (.int a) (.int (b : Int)) = .ok (frQ (mkRat a b)) := by
  have g0 : 0 < Nat.gcd a.natAbs b := Nat.gcd_pos_of_pos_right _ (by omega)
  have g1 : Nat.gcd a.natAbs b < 2 ^ 8000 := Nat.lt_of_le_of_lt (Nat.gcd_le_right _ (by omega)) hb
  have hn : decide ((b : Int) < 0) = false := decide_eq_false (by omega)
  simp only [m_fraction, common_ok h0 hb, Rs.bind_ok, ltB_int, hn, Rs.of_some, Bool.false_eq_true, if_false, fdivD_gcd g0 g1, mkRat_parts h0]
  rfl
theorem is_less_ok {k l : Nat} {p q : Rat} (hp : BQ k p) (hq : BQ l q) (h : k + l ≤ 8000) : m_is_less (frQ p) (frQ q) = .ok (.bl (decide (p < q))) := by
  have e1 : mulD (.int p.num) (.int (q.den : Int)) = some (.int (p.num * (q.den : Int))) := mul_big hp.num (by simpa using hq.den) h
  have e3 : mulD (.int q.num) (.int (p.den : Int)) = some (.int (q.num * (p.den : Int))) := mul_big hq.num (by simpa using hp.den) (by omega)
  simp only [m_is_less, frQ, tix2_0, tix2_1, Rs.of_some, Rs.bind_ok, e1, e3, ltD, ltB_int, Option.map_some, lt_cross]
theorem over_ok {k l : Nat} {p q : Rat} (hp : BQ k p) (hq : BQ l q) (h0 : 0 < q) (h : k + l ≤ 8000) : m_over (frQ p) (frQ q) = .ok (frQ (p / q)) := by
  have qn : 0 < q.num := by
    have h1 : 0 ≤ q.num := Rat.num_nonneg.mpr (Rat.le_of_lt h0)
    have h2 : q.num ≠ 0 := fun e => Rat.ne_of_gt h0 (Rat.num_eq_zero.mp e)
    omega
  obtain ⟨n, hn⟩ : ∃ n : Nat, q.num = (n : Int) := ⟨q.num.toNat, by omega⟩
  have n0 : n ≠ 0 := by omega
  have nl : n < 2 ^ l := by have := hq.num; omega
  have e1 : mulD (.int p.num) (.int (q.den : Int)) = some (.int (p.num * (q.den : Int))) := mul_big hp.num (by simpa using hq.den) h
  have e2 : mulD (.int (p.den : Int)) (.int (n : Int)) = some (.int ((p.den * n : Nat) : Int)) := by
    rw [mul_big (k := k) (l := l) (by simpa using hp.den) (by simpa using nl) h]
    rfl
  have e3 : mkRat (p.num * (q.den : Int)) (p.den * n) = p / q := by
    have e4 : mkRat (p.num * (q.den : Int)) (p.den * n) * q = p := by
      conv => lhs; rhs; rw [← Rat.mkRat_self q]
      rw [Rat.mkRat_mul_mkRat, hn, Int.mul_assoc, Nat.mul_assoc, ← Int.natCast_mul, Nat.mul_comm q.den n, Rat.mkRat_mul_right (Nat.mul_ne_zero n0 q.den_nz), Rat.mkRat_self]
    rw [← e4, Rat.mul_div_cancel (Rat.ne_of_gt h0)]
    rw [e4]
  simp only [m_over, frQ, tix2_0, tix2_1, Rs.of_some, Rs.bind_ok, hn, e1, e2]
  rw [fraction_ok (Nat.mul_ne_zero p.den_nz n0) (Nat.lt_of_lt_of_le (mul_lt_pow hp.den nl) (Nat.pow_le_pow_right (by decide) h)), e3]
  rfl
theorem greater_ok {k l : Nat} {p q : Rat} (hp : BQ k p) (hq : BQ l q) (h : k + l ≤ 8000) : m_greater (frQ p) (frQ q) = .ok (frQ (qmax p q)) := by
  have t : ∀ p : Rat, tupleD [frQ p] = some (frQ p) := fun p => rfl
  simp only [m_greater, is_less_ok hp hq h, Rs.bind_ok, asB_bl, Rs.of_some, t]
  unfold qmax
  by_cases z : p < q <;> simp [z]
theorem law_part_ok {a : Int} {b : Nat} (h0 : b ≠ 0) (hb : b < 2 ^ 8000) : m_law_part (.int a) (.int (b : Int)) = .ok (.int ((Nat.gcd a.natAbs b : Nat) : Int)) := by
  have e := gcd_loopI (c := fun z0 : D × D => Rs.of (neB z0.2 (.int 0))) (f := fun z0 => (Rs.of (modD z0.1 z0.2)).bind fun d2 => Rs.ok (z0.2, d2))
    (fun a b => by simp only [neB_int, Rs.of_some]; congr 2; simp) (fun a b h => by simp only [modD_int (show (0 : Int) < (b : Int) by omega), Rs.of_some, Rs.bind_ok]) (k := 8000) (n := FUEL) (a := a) h0 hb (by decide)
  simp only [m_law_part, e, Rs.bind_ok]
theorem law_ratio_ok {a : Int} {b : Nat} (h0 : b ≠ 0) (hb : b < 2 ^ 8000) : m_law_ratio (.int a) (.int (b : Int)) = .ok (frQ (mkRat a b)) := by
  have g0 : 0 < Nat.gcd a.natAbs b := Nat.gcd_pos_of_pos_right _ (by omega)
  have g1 : Nat.gcd a.natAbs b < 2 ^ 8000 := Nat.lt_of_le_of_lt (Nat.gcd_le_right _ (by omega)) hb
  simp only [m_law_ratio, law_part_ok h0 hb, Rs.bind_ok, Rs.of_some, fdivD_gcd g0 g1, mkRat_parts h0]
  rfl
theorem law_less_ok {k l : Nat} {p q : Rat} (hp : BQ k p) (hq : BQ l q) (h : k + l ≤ 8000) : m_law_less (frQ p) (frQ q) = .ok (.bl (decide (p < q))) := by
  have e1 : mulD (.int p.num) (.int (q.den : Int)) = some (.int (p.num * (q.den : Int))) := mul_big hp.num (by simpa using hq.den) h
  have e3 : mulD (.int q.num) (.int (p.den : Int)) = some (.int (q.num * (p.den : Int))) := mul_big hq.num (by simpa using hp.den) (by omega)
  simp only [m_law_less, frQ, tix2_0, tix2_1, Rs.of_some, Rs.bind_ok, e1, e3, ltD, ltB_int, Option.map_some, lt_cross]
end LW
set_option Elab.async false
set_option linter.all false
set_option maxRecDepth 100000
set_option autoImplicit false
namespace VL
open PySem PySem.Spec L2 TL
theorem tl_tjoin (a : Str) (ys : List Str) : tl (Txt.join a ys) = joinL (tl a) (ys.map tl) := by rw [join_eq, tl_join]
theorem two {a b : Str} : a ++ " " ++ b = Txt.join " " [a, b] := by
  apply ext_tl
  rw [tl_tjoin]
  simp only [tl_append, List.map_cons, List.map_nil, joinL, List.append_assoc]
end VL
set_option Elab.async false
set_option linter.all false
set_option maxRecDepth 100000
set_option autoImplicit false
set_option maxHeartbeats 1000000
namespace LW
open PySem PySem.Spec VL SX
theorem cuts_sorted {hs : List Str} : sortL (((subs hs).filter fun c => decide (0 < c.length) && decide (c.length < hs.length)).map hsD) = some ((cutsOf hs).map hsD) := by
  rw [sortL_hss ((subs hs).filter fun c => decide (0 < c.length) && decide (c.length < hs.length)) (fun c hc => by
    have z := (List.mem_filter.mp hc).2
    intro e
    subst e
    simp at z)]
  rfl
theorem cuts_filt {hs : List Str} : compM some (fun y2 => (Rs.of (lenD [y2])).bind fun x4 => (Rs.of (ltB (.int 0) x4)).bind fun k => if k then (Rs.of (lenD [hsD hs])).bind fun x5 => Rs.of (ltB x4 x5) else Rs.ok false) (fun y2 => Rs.ok y2) ((subs hs).map hsD) = .ok (((subs hs).filter fun c => decide (0 < c.length) && decide (c.length < hs.length)).map hsD) :=
  compM_map (u := some) (fe := fun y2 => Rs.ok y2) hsD hsD (fun c => decide (0 < c.length) && decide (c.length < hs.length)) hsD (subs hs) (fun _ _ => rfl)
    (fun c _ => by
      simp only [lenD_tup, List.length_map, Rs.of_some, Rs.bind_ok, ltB_int]
      by_cases h : 0 < c.length
      · simp [h]
      · have h2 : c = [] := List.eq_nil_of_length_eq_zero (by omega)
        subst h2
        simp) (fun c _ _ => rfl)
theorem subs_fold {hs : List Str} {f : D → D → Rs D} (h6 : hs.length ≤ 6) (hf : ∀ (cs : List (List Str)) (h : Str), cs.length ≤ 64 → (∀ c ∈ cs, c.length ≤ 6) → f (.lst (cs.map hsD)) (.str h) = .ok (.lst ((cs ++ cs.map fun c => c ++ [h]).map hsD))) : foldM f (hs.map .str) (.lst [(.tup [])]) = .ok (.lst ((subs hs).map hsD)) := by
  obtain ⟨z', e, rfl⟩ := foldM_inv (f := f) D.str (fun (pre : List Str) (z : D) => z = .lst ((subs pre).map hsD)) hs hs [] (.lst [(.tup [])]) rfl rfl (by
    rintro pre h post z hall rfl
    have hp : pre.length < 6 := by
      have z := congrArg List.length hall
      simp only [List.length_append, List.length_cons] at z
      omega
    have hpw : 2 ^ pre.length ≤ 2 ^ 6 := Nat.pow_le_pow_right (by decide) (by omega)
    have hl := subs_len pre
    refine ⟨_, hf (subs pre) h (by omega) fun c hc => ?_, by rw [subs_snoc]⟩
    have hcl := (subs_sub pre c hc).length_le
    omega)
  exact e
theorem cuts_few {hs : List Str} (h6 : hs.length ≤ 6) : (cutsOf hs).length ≤ 64 := by
  have a := (isortW_perm (le := hle) ((subs hs).filter fun c => decide (0 < c.length) && decide (c.length < hs.length))).length_eq
  have b := List.length_filter_le (fun c => decide (0 < c.length) && decide (c.length < hs.length)) (subs hs)
  have c := subs_len hs
  have d : 2 ^ hs.length ≤ 2 ^ 6 := Nat.pow_le_pow_right (by decide) h6
  unfold cutsOf
  omega
theorem loop_all {α : Type} {f : Unit → D → Rs (Fl Unit Unit)} (e : α → D) (p : α → Bool) (r : D) (s : List D) : ∀ xs : List α, (∀ x ∈ xs, f () (e x) = if p x then .ok (.nx ()) else .ok (.rt r s)) → loopM (β := Unit) f (xs.map e) () = if xs.all p then .ok (.nx ()) else .ok (.rt r s)
  | [], _ => rfl
  | x :: xs, h => by
    have ih := loop_all e p r s xs fun y hy => h y (List.mem_cons_of_mem _ hy)
    simp only [List.map_cons, loopM, h x List.mem_cons_self, List.all_cons]
    by_cases hp : p x = true
    · rw [if_pos hp]
      simp only [Rs.bind_ok, ih, hp, Bool.true_and]
    · rw [if_neg hp]
      have hp : p x = false := by simpa using hp
      simp [hp]
theorem all_cuts_ok {hs : List Str} (h6 : hs.length ≤ 6) : m_law_all_cuts (hsD hs) = .ok (.lst ((cutsOf hs).map hsD)) := by
  rw [m_law_all_cuts]
  simp only [itemsD_tup, Rs.of_some, Rs.bind_ok]
  rw [subs_fold h6]
  · simp only [Rs.bind_ok, itemsD_lst, Rs.of_some]
    rw [cuts_filt]
    simp only [Rs.bind_ok, sortD, seqD_lst, Option.bind_some, cuts_sorted, Option.map_some, Rs.of_some]
  · intro cs h hl hc
    have c0 := compM_all (fe := fun y3 => Rs.of (addD y3 (.tup [.str h]))) hsD (fun c => hsD (c ++ [h])) cs fun c hc' => by
      have := hc c hc'
      rw [addD_tup (by simp only [List.length_map, List.length_cons, List.length_nil]; omega)]
      simp
    simp only [Rs.of_some, Rs.bind_ok, itemsD_lst, c0]
    rw [addD_lst (by simp only [List.length_map]; omega)]
    simp
theorem cuts_mem {hs c : List Str} (h : c ∈ cutsOf hs) : c.Sublist hs ∧ 0 < c.length ∧ c.length < hs.length := by
  have z := (isortW_perm (le := hle) ((subs hs).filter fun c => decide (0 < c.length) && decide (c.length < hs.length))).mem_iff.mp h
  obtain ⟨z1, z2⟩ := List.mem_filter.mp z
  simp only [Bool.and_eq_true, decide_eq_true_eq] at z2
  exact ⟨subs_sub hs c z1, z2.1, z2.2⟩
abbrev En := List Int × Rat × List Str
abbrev szD (s : List Int) : D := .tup (s.map .int)
abbrev enD (e : En) : D := .tup [szD e.1, frQ e.2.1, hsD e.2.2]
abbrev tdD (es : List En) : D := .tup (es.map enD)
abbrev svD (hs : List Str) (es : List En) : D := .obj "Survey" [hsD hs, tdD es]
def onI (hs : List Str) (s : List Int) (c : List Str) : Int := (((hs.zip s).filter fun p => decide (p.1 ∈ c)).map (·.2)).sum
def spQ (hs : List Str) (e : En) (c : List Str) : Rat := (onI hs e.1 c : Rat) / e.2.1
def flQ (hs : List Str) (es : List En) (c : List Str) : Rat := es.foldl (fun z e => qmax z (spQ hs e c)) 0
structure EnOk (hs : List Str) (e : En) : Prop where
  s0 : ∀ x ∈ e.1, 0 ≤ x ∧ x ≤ 3
  len : e.1.length = hs.length
  t0 : 0 < e.2.1
  tb : BQ 40 e.2.1
  cut : e.2.2 ∈ cutsOf hs
theorem size_on_ok (hs : List Str) (s : List Int) (c : List Str) : m_size_on (hsD hs) (szD s) (hsD c) = .ok (.int (onI hs s c)) := by
  have c0 := compM_map (u := un2) (fc := fun y0 : D × D => Rs.of (inB y0.1 (hsD c))) (fe := fun y0 => Rs.ok y0.2) (fun p : Str × Int => D.tup [.str p.1, .int p.2]) (fun p => (.str p.1, .int p.2)) (fun p => decide (p.1 ∈ c)) (fun p => .int p.2) (hs.zip s) (fun _ _ => rfl) (fun p _ => by simp only [inB_tup, Rs.of_some]) (fun _ _ _ => rfl)
  simp only [m_size_on, zipD, seqD, zipL_map, Rs.of_some, Rs.bind_ok, Option.bind_some, Option.map_some, c0, sumD_of]
  rfl
theorem law_on_ok (hs : List Str) (s : List Int) (c : List Str) : m_law_on (hsD hs) (szD s) (hsD c) = .ok (.int (onI hs s c)) := size_on_ok hs s c
theorem sum_between {xs : List Int} (h : ∀ x ∈ xs, 0 ≤ x ∧ x ≤ 3) : 0 ≤ xs.sum ∧ xs.sum ≤ 3 * xs.length := by
  induction xs with
  | nil => simp
  | cons x xs ih =>
    have a := h x List.mem_cons_self
    have b := ih fun y hy => h y (List.mem_cons_of_mem _ hy)
    simp only [List.sum_cons, List.length_cons]
    omega
theorem on_between {hs : List Str} {s : List Int} (c : List Str) (h : ∀ x ∈ s, 0 ≤ x ∧ x ≤ 3) (h4 : hs.length ≤ 6) : 0 ≤ onI hs s c ∧ onI hs s c ≤ 18 := by
  have z := sum_between (xs := ((hs.zip s).filter fun p => decide (p.1 ∈ c)).map (·.2)) fun x hx => by
    obtain ⟨p, hp, rfl⟩ := List.mem_map.mp hx
    exact h p.2 (List.of_mem_zip (List.mem_filter.mp hp).1).2
  have l : (((hs.zip s).filter fun p => decide (p.1 ∈ c)).map (·.2)).length ≤ 6 := by
    rw [List.length_map]
    refine Nat.le_trans (List.length_filter_le _ _) ?_
    rw [List.length_zip]
    omega
  refine ⟨z.1, ?_⟩
  have := z.2
  unfold onI
  omega
theorem on_bq {hs : List Str} {s : List Int} (c : List Str) (h : ∀ x ∈ s, 0 ≤ x ∧ x ≤ 3) (h4 : hs.length ≤ 6) : BQ 6 (onI hs s c : Rat) := by
  obtain ⟨a, b⟩ := on_between c h h4
  exact BQ.int (by omega) (by decide)
theorem div_mk {a : Int} {q : Rat} (h0 : 0 < q) {n : Nat} (hn : q.num = (n : Int)) : mkRat (a * (q.den : Int)) n = (a : Rat) / q ∧ n ≠ 0 := by
  have n0 : n ≠ 0 := fun e => by
    subst e
    exact Rat.ne_of_gt h0 (Rat.num_eq_zero.mp hn)
  refine ⟨?_, n0⟩
  have e4 : mkRat (a * (q.den : Int)) n * q = (a : Rat) := by
    conv => lhs; rhs; rw [← Rat.mkRat_self q]
    rw [Rat.mkRat_mul_mkRat, hn, Int.mul_assoc, Int.mul_comm (q.den : Int) (n : Int), ← Int.natCast_mul]
    have z := Rat.mkRat_mul_right (n := a) (d := 1) (Nat.mul_ne_zero n0 q.den_nz)
    rw [Nat.one_mul] at z
    rw [z]
    apply Rat.ext <;> simp [Rat.num_mkRat, Rat.den_mkRat]
  rw [← e4, Rat.mul_div_cancel (Rat.ne_of_gt h0)]
theorem num_nat {q : Rat} (h0 : 0 < q) : ∃ n : Nat, q.num = (n : Int) := by
  have h1 : 0 ≤ q.num := Rat.num_nonneg.mpr (Rat.le_of_lt h0)
  exact ⟨q.num.toNat, by omega⟩
section
variable {hs : List Str} {e : En} (h6 : hs.length ≤ 6) (ok : EnOk hs e) (c : List Str)
include h6 ok
theorem sp_bq : BQ 60 (spQ hs e c) := by
  obtain ⟨n, hn⟩ := num_nat ok.t0
  obtain ⟨z, n0⟩ := div_mk (a := onI hs e.1 c) ok.t0 hn
  rw [spQ, ← z]
  have b := on_bq c ok.s0 h6
  have t := ok.tb
  have t1 := t.num
  rw [hn] at t1
  refine BQ.mk' ?_ (Nat.lt_of_lt_of_le (show n < 2 ^ 40 by simpa using t1) (Nat.pow_le_pow_right (by decide) (by decide))) (by decide)
  rw [Int.natAbs_mul]
  have m := mul_lt_pow (k := 6) (l := 40) (show (onI hs e.1 c).natAbs < 2 ^ 6 by simpa using b.num) (show (e.2.1.den : Int).natAbs < 2 ^ 40 by simpa using t.den)
  exact Nat.lt_of_lt_of_le m (Nat.pow_le_pow_right (by decide) (by decide))
theorem over_sp : m_over (.tup [.int (onI hs e.1 c), .int 1]) (frQ e.2.1) = .ok (frQ (spQ hs e c)) := by
  have z := over_ok (p := (onI hs e.1 c : Rat)) (q := e.2.1) (k := 6) (l := 40) (on_bq c ok.s0 h6) ok.tb ok.t0 (by decide)
  rw [frQ_int] at z
  exact z
theorem ratio_sp : ((Rs.of (idxD (frQ e.2.1) (.int 1))).bind fun x4 => Rs.of (mulD (.int (onI hs e.1 c)) x4)).bind (fun x5 => (Rs.of (idxD (frQ e.2.1) (.int 0))).bind fun x6 => m_law_ratio x5 x6) = .ok (frQ (spQ hs e c)) := by
  obtain ⟨n, hn⟩ := num_nat ok.t0
  obtain ⟨z, n0⟩ := div_mk (a := onI hs e.1 c) ok.t0 hn
  have b := on_bq c ok.s0 h6
  have m : mulD (.int (onI hs e.1 c)) (.int (e.2.1.den : Int)) = some (.int (onI hs e.1 c * (e.2.1.den : Int))) := mul_big (k := 6) (l := 40) (by simpa using b.num) (by simpa using ok.tb.den) (by decide)
  have t1 := ok.tb.num
  rw [hn] at t1
  have nl : n < 2 ^ 8000 := Nat.lt_of_lt_of_le (show n < 2 ^ 40 by simpa using t1) (Nat.pow_le_pow_right (by decide) (by decide))
  simp only [frQ, tix2_0, tix2_1, Rs.of_some, Rs.bind_ok, m, hn]
  rw [law_ratio_ok n0 nl, z]
  rfl
end
theorem fold_fr {α : Type} {f : D → D → Rs D} {e : α → D} {V : α → Rat} : ∀ (xs : List α) (z : Rat), BQ 60 z → (∀ x ∈ xs, BQ 60 (V x)) → (∀ x ∈ xs, ∀ z, BQ 60 z → f (frQ z) (e x) = .ok (frQ (qmax z (V x)))) →
    foldM f (xs.map e) (frQ z) = .ok (frQ (xs.foldl (fun z x => qmax z (V x)) z)) ∧ BQ 60 (xs.foldl (fun z x => qmax z (V x)) z)
  | [], z, hz, _, _ => ⟨rfl, hz⟩
  | x :: xs, z, hz, h1, h2 => by
    have hx := h1 x List.mem_cons_self
    obtain ⟨a, b⟩ := fold_fr (f := f) (e := e) (V := V) xs _ (hz.qmax hx) (fun y hy => h1 y (List.mem_cons_of_mem _ hy)) fun y hy => h2 y (List.mem_cons_of_mem _ hy)
    exact ⟨by simp only [List.map_cons, foldM, h2 x List.mem_cons_self z hz, Rs.bind_ok, a, List.foldl_cons], b⟩
theorem bq0 : BQ 60 (0 : Rat) := ⟨by decide, by decide⟩
theorem un_en (e : En) : unL3 (enD e) = some (szD e.1, frQ e.2.1, hsD e.2.2) := rfl
section
variable {hs : List Str} {es : List En} (h6 : hs.length ≤ 6) (ok : ∀ e ∈ es, EnOk hs e) (c : List Str)
theorem fld0 : fldD "Survey" 0 (svD hs es) = some (hsD hs) := rfl
theorem fld1 : fldD "Survey" 1 (svD hs es) = some (tdD es) := rfl
include h6 ok
theorem floor_of_ok : m_Survey_floor_of (svD hs es) (hsD c) = .ok (frQ (flQ hs es c)) := by
  simp only [m_Survey_floor_of, fld0, fld1, Rs.of_some, Rs.bind_ok, itemsD_tup]
  rw [show (D.tup [.int 0, .int 1]) = frQ 0 from rfl, (fold_fr (e := enD) (V := fun e => spQ hs e c) es 0 bq0 (fun e he => sp_bq h6 (ok e he) c) fun e he z hz => by
    simp only [un_en, Rs.of_some, Rs.bind_ok, size_on_ok, over_sp h6 (ok e he) c, greater_ok hz (sp_bq h6 (ok e he) c) (by decide)]).1]
  rfl
theorem most2 {p q : Rat} (hp : BQ 60 p) (hq : BQ 60 q) : m_law_most (.lst [frQ p, frQ q]) = .ok (frQ (qmax p q)) := by
  have i0 : idxD (.lst [frQ p, frQ q]) (.int 0) = some (frQ p) := rfl
  simp only [m_law_most, i0, Rs.of_some, Rs.bind_ok, itemsD_lst, foldM, law_less_ok hp hp (by decide), law_less_ok hp hq (by decide), asB_bl]
  have n : ¬ p < p := Rat.lt_irrefl
  simp only [n, decide_false, Bool.false_eq_true, if_false, Rs.bind_ok, law_less_ok hp hq (show 60 + 60 ≤ 8000 by decide), asB_bl, Rs.of_some]
  unfold qmax
  by_cases z : p < q <;> simp [z]
theorem law_floor_ok : m_law_floor (hsD hs) (.lst (es.map enD)) (hsD c) = .ok (frQ (flQ hs es c)) := by
  simp only [m_law_floor, Rs.of_some, Rs.bind_ok, itemsD_lst]
  rw [show (D.tup [.int 0, .int 1]) = frQ 0 from rfl, (fold_fr (e := enD) (V := fun e => spQ hs e c) es 0 bq0 (fun e he => sp_bq h6 (ok e he) c) fun e he z hz => by
    have r := ratio_sp h6 (ok e he) c
    simp only [un_en, Rs.of_some, Rs.bind_ok, law_on_ok]
    rw [r]
    simp only [Rs.bind_ok]
    rw [most2 h6 ok hz (sp_bq h6 (ok e he) c)]
    rfl).1]
  rfl
def holdsB (hs : List Str) (es : List En) : Bool := es.all fun e => decide (spQ hs e e.2.2 = flQ hs es e.2.2)
theorem holds_ok : m_Survey_holds (svD hs es) = .ok (.bl (holdsB hs es)) := by
  have o : isObj "Survey" (svD hs es) = true := by simp [isObj]
  simp only [m_Survey_holds, fld0, fld1, Rs.of_some, Rs.bind_ok, itemsD_tup]
  rw [loop_all enD (fun e => decide (spQ hs e e.2.2 = flQ hs es e.2.2)) (.bl false) [] es fun e he => by
    simp only [un_en, Rs.of_some, Rs.bind_ok, size_on_ok, over_sp h6 (ok e he) e.2.2, o, if_true, floor_of_ok h6 ok e.2.2, neB, eqB_frQ, Option.map_some]
    by_cases z : spQ hs e e.2.2 = flQ hs es e.2.2 <;> simp [z, liftF, Fl.lift]]
  unfold holdsB
  by_cases z : (es.all fun e => decide (spQ hs e e.2.2 = flQ hs es e.2.2)) = true
  · simp only [z, if_true, Rs.bind_ok, Fl.toX]
  · simp only [z, Bool.false_eq_true, if_false, Rs.bind_ok, Fl.toX]
def fitsB (hs : List Str) (es : List En) : Bool := es.all fun e => !decide (onI hs e.1 e.2.2 = 0) && decide (spQ hs e e.2.2 = flQ hs es e.2.2)
theorem law_fits_ok : m_law_fits (hsD hs) (.lst (es.map enD)) = .ok (.bl (fitsB hs es)) := by
  simp only [m_law_fits, Rs.of_some, Rs.bind_ok, itemsD_lst]
  rw [loop_all enD (fun e => !decide (onI hs e.1 e.2.2 = 0) && decide (spQ hs e e.2.2 = flQ hs es e.2.2)) (.bl false) [] es fun e he => by
    have r := ratio_sp h6 (ok e he) e.2.2
    simp only [un_en, Rs.of_some, Rs.bind_ok, law_on_ok, eqB_int]
    by_cases y : onI hs e.1 e.2.2 = 0
    · simp [y, liftF, Fl.lift]
    · simp only [decide_eq_false y, Bool.false_eq_true, if_false, Bool.not_false, Bool.true_and]
      rw [r]
      simp only [Rs.bind_ok, law_floor_ok h6 ok e.2.2, neB, eqB_frQ, Option.map_some, Rs.of_some]
      by_cases z : spQ hs e e.2.2 = flQ hs es e.2.2 <;> simp [z, liftF, Fl.lift]]
  unfold fitsB
  by_cases z : (es.all fun e => !decide (onI hs e.1 e.2.2 = 0) && decide (spQ hs e e.2.2 = flQ hs es e.2.2)) = true
  · simp only [z, if_true, Rs.bind_ok, Fl.toX]
  · simp only [z, Bool.false_eq_true, if_false, Rs.bind_ok, Fl.toX]
end
end LW
set_option Elab.async false
set_option linter.all false
set_option maxRecDepth 100000
set_option autoImplicit false
set_option Elab.async false
set_option linter.all false
set_option maxRecDepth 100000
set_option autoImplicit false
namespace VL
open PySem PySem.Spec
abbrev Rw := List (Str × Str)
end VL
set_option Elab.async false
set_option linter.all false
set_option maxRecDepth 100000
set_option autoImplicit false
set_option Elab.async false
set_option linter.all false
set_option maxRecDepth 100000
set_option autoImplicit false
set_option Elab.async false
set_option linter.all false
set_option maxRecDepth 100000
set_option autoImplicit false
set_option Elab.async false
set_option linter.all false
set_option maxRecDepth 100000
set_option autoImplicit false
set_option Elab.async false
set_option linter.all false
set_option maxRecDepth 100000
set_option autoImplicit false
namespace VL
open PySem PySem.Spec L2
theorem sum_one {a : Str} {q : Str → Bool} : ∀ {hs : List Str}, hs.Nodup → (hs.map fun h => if q h = true then (if a = h then (1 : Int) else 0) else 0).sum = if a ∈ hs ∧ q a = true then 1 else 0
  | [], _ => by simp
  | h :: hs, nd => by
    obtain ⟨n1, n2⟩ := List.nodup_cons.mp nd
    have ih := sum_one (a := a) (q := q) n2
    simp only [List.map_cons, List.sum_cons, ih]
    by_cases e : a = h
    · subst e
      simp only [n1, false_and, if_false, if_true, List.mem_cons, true_or, true_and, Int.add_zero]
    · have : a ∈ h :: hs ↔ a ∈ hs := by simp [e]
      simp only [this, if_neg e, ite_self, Int.zero_add]
end VL
set_option Elab.async false
set_option linter.all false
set_option maxRecDepth 100000
set_option autoImplicit false
set_option maxHeartbeats 1000000
set_option Elab.async false
set_option linter.all false
set_option maxRecDepth 100000
set_option autoImplicit false
set_option maxHeartbeats 1000000
namespace VL
open PySem PySem.Spec L2
theorem insW_cg {α : Type} {le le' : α → α → Bool} {x : α} : ∀ {l : List α}, (∀ y ∈ l, le x y = le' x y) → insW le x l = insW le' x l
  | [], _ => rfl
  | y :: ys, h => by
    simp only [insW, h y List.mem_cons_self, insW_cg fun z hz => h z (List.mem_cons_of_mem _ hz)]
theorem isortW_cg {α : Type} {le le' : α → α → Bool} : ∀ {l : List α}, l.Pairwise (fun a b => le a b = le' a b) → isortW le l = isortW le' l
  | [], _ => rfl
  | x :: xs, h => by
    obtain ⟨h1, h2⟩ := List.pairwise_cons.mp h
    simp only [isortW, isortW_cg h2]
    exact insW_cg fun y hy => h1 y ((isortW_perm xs).mem_iff.mp hy)
end VL
set_option Elab.async false
set_option linter.all false
set_option maxRecDepth 100000
set_option autoImplicit false
set_option maxHeartbeats 1000000
namespace LW
open PySem PySem.Spec VL SX
abbrev Kn := List Str × Rat
def kq (p : Kn) : List L2.Key × D := (p.1.map Sum.inr, frQ p.2)
def pD (p : Kn) : D := .tup [hsD p.1, frQ p.2]
def insC (m : List Kn) (c : List Str) (q : Rat) : List Kn := if m.any (fun p => decide (p.1 = c)) then m.map (fun p => if p.1 = c then (p.1, q) else p) else m ++ [(c, q)]
theorem inr_inj : ∀ {a b : List Str}, ((a.map Sum.inr : List L2.Key) = b.map Sum.inr) ↔ a = b
  | [], [] => by simp
  | [], _ :: _ => by simp
  | _ :: _, [] => by simp
  | x :: a, y :: b => by
    simp only [List.map_cons, List.cons.injEq, Sum.inr.injEq, inr_inj (a := a) (b := b)]
theorem putE_kq (m : List Kn) (c : List Str) (q : Rat) : putE (m.map kq) (c.map Sum.inr) (frQ q) = (insC m c q).map kq := by
  have e : ((m.map kq).any fun p => decide (p.1 = (c.map Sum.inr : List L2.Key))) = m.any fun p => decide (p.1 = c) := by
    rw [List.any_map]
    congr 1
    funext p
    simp only [Function.comp_apply, kq]
    exact decide_eq_decide.mpr inr_inj
  unfold putE insC
  rw [e]
  by_cases h : (m.any fun p => decide (p.1 = c)) = true
  · rw [if_pos h, if_pos h, List.map_map, List.map_map]
    refine List.map_congr_left fun p _ => ?_
    show (if (kq p).1 = (c.map Sum.inr : List L2.Key) then ((kq p).1, frQ q) else kq p) = kq (if p.1 = c then (p.1, q) else p)
    by_cases g : p.1 = c
    · rw [if_pos g, if_pos (show (kq p).1 = (c.map Sum.inr : List L2.Key) from inr_inj.mpr g)]
      rfl
    · rw [if_neg g, if_neg (fun z : (kq p).1 = (c.map Sum.inr : List L2.Key) => g (inr_inj.mp z))]
  · rw [if_neg h, if_neg h, List.map_append]
    rfl
theorem insC_keys (m : List Kn) (c : List Str) (q : Rat) : (insC m c q).map (·.1) = if m.any (fun p => decide (p.1 = c)) then m.map (·.1) else m.map (·.1) ++ [c] := by
  unfold insC
  by_cases h : (m.any fun p => decide (p.1 = c)) = true
  · rw [if_pos h, if_pos h, List.map_map]
    refine List.map_congr_left fun p _ => ?_
    simp only [Function.comp_apply]
    by_cases g : p.1 = c <;> simp [g]
  · rw [if_neg h, if_neg h, List.map_append]
    rfl
structure KnOk (hs : List Str) (m : List Kn) (n : Nat) : Prop where
  nd : (m.map (·.1)).Nodup
  at_ : ∀ c ∈ m.map (·.1), c ∈ cutsOf hs
  len : m.length ≤ n
theorem KnOk.ins {hs : List Str} {m : List Kn} {n : Nat} (h : KnOk hs m n) {c : List Str} (hc : c ∈ cutsOf hs) (q : Rat) : KnOk hs (insC m c q) (n + 1) := by
  have e := insC_keys m c q
  have l : (insC m c q).length = ((insC m c q).map (·.1)).length := by rw [List.length_map]
  by_cases g : (m.any fun p => decide (p.1 = c)) = true
  · rw [if_pos g] at e
    refine ⟨by rw [e]; exact h.nd, by rw [e]; exact h.at_, ?_⟩
    rw [l, e, List.length_map]
    have := h.len
    omega
  · rw [if_neg g] at e
    refine ⟨?_, ?_, ?_⟩
    · rw [e, List.nodup_append]
      refine ⟨h.nd, by simp, fun a ha b hb => ?_⟩
      rw [List.mem_singleton.mp hb]
      rintro rfl
      obtain ⟨p, hp, rfl⟩ := List.mem_map.mp ha
      exact g (List.any_eq_true.mpr ⟨p, hp, by simp⟩)
    · rw [e]
      intro a ha
      rcases List.mem_append.mp ha with ha | ha
      · exact h.at_ a ha
      · rw [List.mem_singleton.mp ha]
        exact hc
    · rw [l, e, List.length_append, List.length_map]
      have := h.len
      simp only [List.length_cons, List.length_nil]
      omega
def knL (hs : List Str) (es : List En) : List Kn := es.foldl (fun m e => insC m e.2.2 (spQ hs e e.2.2)) []
theorem keys_strs : ∀ xs : List Str, keysOf (xs.map .str) = some (xs.map .inr)
  | [] => rfl
  | x :: xs => by simp only [List.map_cons, keysOf, keyOf, Option.bind_some, keys_strs xs, Option.map_some]
theorem dput_kq {m : List Kn} {c : List Str} {q : Rat} (hc : 0 < c.length) (hm : m.length < 1000) : dputD (.dT (m.map kq)) (hsD c) (frQ q) = some (.dT ((insC m c q).map kq)) := by
  have k2 : ((c.map D.str).any isStr) = true := by
    cases c with
    | nil => simp at hc
    | cons x c => simp [isStr]
  have k3 : (m.map kq).length < sizeLine := by
    have := line_ge
    rw [List.length_map]
    omega
  simp only [dputD, k2, if_true, keys_strs, Option.bind_some, if_pos k3, putE_kq]
theorem kn_fold {hs : List Str} {f : D → D → Rs D} (hf : ∀ (m : List Kn) (e : En), EnOk hs e → m.length < 1000 → f (.dT (m.map kq)) (enD e) = .ok (.dT ((insC m e.2.2 (spQ hs e e.2.2)).map kq))) : ∀ (es : List En) (m : List Kn) (n : Nat), KnOk hs m n → (∀ e ∈ es, EnOk hs e) → n + es.length < 1000 →
    foldM f (es.map enD) (.dT (m.map kq)) = .ok (.dT ((es.foldl (fun m e => insC m e.2.2 (spQ hs e e.2.2)) m).map kq)) ∧ KnOk hs (es.foldl (fun m e => insC m e.2.2 (spQ hs e e.2.2)) m) (n + es.length)
  | [], m, n, h, _, _ => ⟨rfl, h⟩
  | e :: es, m, n, h, hc, hn => by
    have he := hc e List.mem_cons_self
    have l := h.len
    simp only [List.length_cons] at hn
    obtain ⟨a, b⟩ := kn_fold hf es (insC m e.2.2 (spQ hs e e.2.2)) (n + 1) (h.ins he.cut _) (fun x hx => hc x (List.mem_cons_of_mem _ hx)) (by omega)
    refine ⟨by simp only [List.map_cons, foldM, hf m e he (by omega), Rs.bind_ok, a, List.foldl_cons], ?_⟩
    rw [List.foldl_cons, List.length_cons, show n + (es.length + 1) = n + 1 + es.length by omega]
    exact b
def hkK (p q : Kn) : Bool := hle p.1 q.1
def knD (m : List Kn) : D := .tup ((isortW hkK m).map pD)
theorem pD_depth (p : Kn) : (pD p).py.depth ≤ 2 := by
  have z := hs_depth p.1
  simp only [pD, frQ, D.py, pys, PyData.depth, PyData.depthAll] at z ⊢
  omega
theorem pD_data (p : Kn) : (pD p).isData = true := by
  have z := hs_data p.1
  simp only [pD, frQ, D.isData, areData] at z ⊢
  simp [z]
theorem pD_alike (x y : Kn) : PySem.W.alike (pD x).py (pD y).py = true := by
  have z := hs_alike x.1 y.1
  simp only [pD, frQ, D.py, pys, PySem.W.alike, PySem.W.alikeAll]
  simp [z]
theorem pD_cmp (x y : Kn) : cmpP (pD x).py (pD y).py = true := by
  have z := hs_cmp x.1 y.1
  simp only [pD, frQ, D.py, pys, cmpP, cmpPs]
  simp [z]
theorem leS_pD {p q : Kn} (h : p.1 ≠ q.1) : leS (pD p) (pD q) = hkK p q := by
  have e : PyData.eqvAll (pys (q.1.map .str)) (pys (p.1.map .str)) = false := by
    rw [eqv_hs]
    exact decide_eq_false fun z => h z.symm
  have l := ltPs_hs q.1 p.1
  simp only [leS, pD, D.py, pys, ltP, ltPs, PyData.eqv, e, Bool.false_eq_true, if_false, l, hkK, hle]
theorem sort_pD {m : List Kn} (nd : (m.map (·.1)).Nodup) : sortL (m.map pD) = some ((isortW hkK m).map pD) := by
  rw [sortL_tups pD m (fun x _ => pD_data x) (fun x _ y _ => pD_alike x y) (fun x _ => by simp [pD, D.py, pys, tupNe]) (fun x _ => Nat.le_trans (pD_depth x) (by decide)) (fun x _ y _ => pD_cmp x y), isortW_map (f := pD) (le' := fun p q => leS (pD p) (pD q)) (fun _ _ => rfl)]
  congr 2
  refine isortW_cg ?_
  have nd' : m.Pairwise fun a b => a.1 ≠ b.1 := List.pairwise_map.mp nd
  exact nd'.imp fun h => leS_pD h
theorem small_kq {hs : List Str} {m : List Kn} {n : Nat} (h : KnOk hs m n) (hn : n < 1000) (h6 : hs.length ≤ 6) : smallT (m.map kq) = true := by
  have l1 := line_ge
  simp only [smallT, List.length_map, Bool.and_eq_true, decide_eq_true_eq, List.all_eq_true]
  refine ⟨by have := h.len; omega, fun p hp => ?_⟩
  obtain ⟨x, hx, rfl⟩ := List.mem_map.mp hp
  have z := (cuts_mem (h.at_ x.1 (List.mem_map.mpr ⟨x, hx, rfl⟩))).2.2
  simp only [kq, List.length_map]
  omega
theorem tkey_strs (c : List Str) : tkey (c.map Sum.inr) = hsD c := by
  unfold tkey
  rw [List.map_map]
  rfl
theorem look_kq {m : List Kn} : (m.map (·.1)).Nodup → ∀ p ∈ m, look (m.map kq) (p.1.map Sum.inr) = some (frQ p.2) := by
  induction m with
  | nil => exact fun _ p hp => by simp at hp
  | cons x m ih =>
    intro nd p hp
    rw [List.map_cons, List.nodup_cons] at nd
    by_cases e : x.1 = p.1
    · have : p = x := by
        rcases List.mem_cons.mp hp with hp | hp
        · exact hp
        · exact absurd (List.mem_map.mpr ⟨p, hp, e.symm⟩) nd.1
      subst this
      simp [look, kq]
    · have hm : p ∈ m := by
        rcases List.mem_cons.mp hp with hp | hp
        · exact absurd (by rw [hp]) e
        · exact hp
      have z := ih nd.2 p hm
      rw [← z]
      unfold look
      have ng : ¬ (decide ((kq x).1 = (p.1.map Sum.inr : List L2.Key)) = true) := fun z => e (inr_inj.mp (of_decide_eq_true z))
      rw [List.map_cons, List.find?_cons_of_neg (p := fun p_1 : List L2.Key × D => decide (p_1.1 = (p.1.map Sum.inr : List L2.Key))) ng]
theorem get_kq {m : List Kn} (nd : (m.map (·.1)).Nodup) {p : Kn} (hp : p ∈ m) (ne : 0 < p.1.length) : dgetD (.dT (m.map kq)) (hsD p.1) = some (frQ p.2) := by
  have k2 : ((p.1.map D.str).any isStr) = true := by
    obtain ⟨c, q⟩ := p
    cases c with
    | nil => simp at ne
    | cons x c => simp [isStr]
  simp only [dgetD, dlook, k2, if_true, keys_strs, Option.map_some, look_kq nd p hp, Option.bind_some, id]
section
variable {hs : List Str} {es : List En} (h6 : hs.length ≤ 6) (ok : ∀ e ∈ es, EnOk hs e) (hn : es.length < 1000)
include h6 ok hn
theorem knOk : KnOk hs (knL hs es) es.length := by
  have key : ∀ (xs : List En) (m : List Kn) (n : Nat), KnOk hs m n → (∀ e ∈ xs, EnOk hs e) → KnOk hs (xs.foldl (fun m e => insC m e.2.2 (spQ hs e e.2.2)) m) (n + xs.length) := by
    intro xs
    induction xs with
    | nil => exact fun m n h _ => h
    | cons x xs ih =>
      intro m n h hx
      have w := ih _ _ (h.ins (hx x List.mem_cons_self).cut (spQ hs x x.2.2)) fun y hy => hx y (List.mem_cons_of_mem _ hy)
      rw [List.foldl_cons, List.length_cons, show n + (xs.length + 1) = n + 1 + xs.length by omega]
      exact w
  have w := key es [] 0 ⟨by simp, by simp, by simp⟩ ok
  rw [Nat.zero_add] at w
  exact w
theorem known_ok : m_Survey_known (svD hs es) = .ok (knD (knL hs es)) := by
  have k := knOk h6 ok hn
  have sm := small_kq k hn h6
  have e : ((knL hs es).map kq).map (fun p => D.tup [tkey p.1, p.2]) = (knL hs es).map pD := by
    rw [List.map_map]
    refine List.map_congr_left fun p _ => ?_
    simp only [Function.comp_apply, kq, tkey_strs, pD]
  simp only [m_Survey_known, fld0, fld1, Rs.of_some, Rs.bind_ok, itemsD_tup]
  rw [show (D.dT []) = D.dT (([] : List Kn).map kq) from rfl, (kn_fold (hs := hs) (fun m e he hm => ?_) es [] 0 ⟨by simp, by simp, by simp⟩ ok (by omega)).1]
  · simp only [Rs.bind_ok]
    rw [show es.foldl (fun m e => insC m e.2.2 (spQ hs e e.2.2)) [] = knL hs es from rfl]
    simp only [sortIt, sm, if_true, e, sort_pD k.nd, Option.map_some, Rs.of_some, Rs.bind_ok, tupleD_lst]
    rfl
  · have r := over_sp h6 he e.2.2
    have cl := (cuts_mem he.cut).2.1
    simp only [un_en, Rs.of_some, Rs.bind_ok, size_on_ok]
    rw [r]
    simp only [Rs.bind_ok, dput_kq cl hm, Rs.of_some]
theorem law_known_ok : m_law_known (hsD hs) (.lst (es.map enD)) = .ok (knD (knL hs es)) := by
  have k := knOk h6 ok hn
  have sm := small_kq k hn h6
  have e : ((knL hs es).map kq).map (fun p => tkey p.1) = ((knL hs es).map (·.1)).map hsD := by
    rw [List.map_map, List.map_map]
    refine List.map_congr_left fun p _ => ?_
    simp only [Function.comp_apply, kq, tkey_strs]
  have s1 := sortL_hss ((knL hs es).map (·.1)) (fun c hc => by
    have z := (cuts_mem (k.at_ c hc)).2.1
    intro e
    subst e
    simp at z)
  rw [isortW_map (f := fun p : Kn => p.1) (le' := hkK) (fun _ _ => rfl)] at s1
  have c0 := compM_all (fe := fun y10 => (Rs.of (dgetD (.dT ((knL hs es).map kq)) y10)).bind fun x11 => Rs.ok (.tup [y10, x11])) (fun p : Kn => hsD p.1) pD (isortW hkK (knL hs es)) fun p hp => by
    have hp' := (isortW_perm (le := hkK) (knL hs es)).mem_iff.mp hp
    have z := (cuts_mem (k.at_ p.1 (List.mem_map.mpr ⟨p, hp', rfl⟩))).2.1
    simp only [get_kq k.nd hp' z, Rs.of_some, Rs.bind_ok]
    rfl
  simp only [m_law_known, Rs.of_some, Rs.bind_ok, itemsD_lst]
  rw [show (D.dT []) = D.dT (([] : List Kn).map kq) from rfl, (kn_fold (hs := hs) (fun m e he hm => ?_) es [] 0 ⟨by simp, by simp, by simp⟩ ok (by omega)).1]
  · simp only [Rs.bind_ok]
    rw [show es.foldl (fun m e => insC m e.2.2 (spQ hs e e.2.2)) [] = knL hs es from rfl]
    simp only [sortK, sm, if_true, e, s1, Option.map_some, Rs.of_some, Rs.bind_ok, itemsD_lst]
    rw [List.map_map]
    have c1 : compM some (fun y10 => Rs.ok true) (fun y10 => (Rs.of (dgetD (.dT ((knL hs es).map kq)) y10)).bind fun x11 => Rs.ok (.tup [y10, x11])) ((isortW hkK (knL hs es)).map (hsD ∘ fun p : Kn => p.1)) = .ok ((isortW hkK (knL hs es)).map pD) := c0
    rw [c1]
    simp only [Rs.bind_ok, tupleD_lst]
    rfl
  · have r := ratio_sp h6 he e.2.2
    have cl := (cuts_mem he.cut).2.1
    simp only [un_en, Rs.of_some, Rs.bind_ok, law_on_ok]
    rw [r]
    simp only [Rs.bind_ok, dput_kq cl hm, Rs.of_some]
end
end LW
set_option Elab.async false
set_option linter.all false
set_option maxRecDepth 100000
set_option autoImplicit false
set_option maxHeartbeats 1000000
namespace LW
open PySem PySem.Spec VL SX
theorem noOs_all : ∀ xs : List D, noOs xs = xs.all noO
  | [] => rfl
  | x :: xs => by simp [noOs, noOs_all xs]
theorem noO_tm {α : Type} {f : α → D} {xs : List α} (h : ∀ x ∈ xs, noO (f x) = true) : noO (.tup (xs.map f)) = true := by
  simp only [noO, noOs_all, List.all_map, List.all_eq_true]
  exact h
theorem noO_lm {α : Type} {f : α → D} {xs : List α} (h : ∀ x ∈ xs, noO (f x) = true) : noO (.lst (xs.map f)) = true := by
  simp only [noO, noOs_all, List.all_map, List.all_eq_true]
  exact h
theorem noO_hs (c : List Str) : noO (hsD c) = true := noO_tm fun _ _ => rfl
theorem noO_sz (s : List Int) : noO (szD s) = true := noO_tm fun _ _ => rfl
theorem noO_fr (q : Rat) : noO (frQ q) = true := rfl
theorem noO_en (e : En) : noO (enD e) = true := by
  simp only [noO, noOs, Bool.and_true, Bool.and_eq_true]
  exact ⟨noO_sz e.1, noO_fr _, noO_hs _⟩
theorem noO_td (es : List En) : noO (tdD es) = true := noO_tm fun e _ => noO_en e
theorem noO_kn (m : List Kn) : noO (knD m) = true := noO_tm fun p _ => by
  simp only [pD, noO, noOs, Bool.and_true, Bool.and_eq_true]
  exact ⟨noO_hs _, noO_fr _⟩
theorem noO_st (hs : List Str) (es : List En) : noOs [hsD hs, tdD es] = true := by
  have a := noO_hs hs
  have b := noO_td es
  simp only [noOs, a, b, Bool.and_self, Bool.and_true]
theorem shed_ok {d : D} (h : noO d = true) : shedR (.ok d) = .ok d := by simp only [shedR, h, if_true]
theorem shedB_ok {b : Bool} : shedB (.ok b) = .ok b := rfl
abbrev stL (hs : List Str) (es : List En) : List D := [hsD hs, tdD es]
theorem tup_hs (c : List Str) : m_tupled 14 (hsD c) = .ok (hsD c) := by rw [tupled_ok 13 _ (fits_hs 12 c), tpl_hs]
theorem tup_sz (s : List Int) : m_tupled 14 (szD s) = .ok (szD s) := by
  rw [tupled_ok 13 _ (by simp [fits])]
  simp only [tpl, tpls_map, List.map_map]
  congr 2
theorem tup_fr (q : Rat) : m_tupled 14 (frQ q) = .ok (frQ q) := by
  rw [tupled_ok 13 _ (by simp [fits, frQ])]
  simp [tpl, tpls, frQ]
theorem init_ok (hs : List Str) : m_Survey_init (hsD hs) = .ok (.obj "Survey" (stL hs [])) := by
  simp only [m_Survey_init, tup_hs, Rs.bind_ok]
  rfl
theorem made_ok (hs : List Str) : madeR "Survey" (m_Survey_init (hsD hs)) = .ok (stL hs []) := by
  have n := noO_st hs []
  simp only [init_ok, madeR, n, and_self, if_true]
theorem set1 (a b d : D) : setSl 1 [a, b] d = some [a, d] := rfl
theorem twin_ok (hs : List Str) (es : List En) : m_Survey_twin (.obj "Survey" (stL hs es)) = .ok (stL hs es) := by
  simp only [m_Survey_twin, fld0, fld1, Rs.of_some, Rs.bind_ok, made_ok, Rs.noX_ok, set1]
section
variable {hs : List Str} {es : List En} {e : En} (h6 : hs.length ≤ 6) (ok : ∀ x ∈ es ++ [e], EnOk hs x) (hn : es.length < 900)
def badB (hs : List Str) (es : List En) (e : En) : Bool := decide (onI hs e.1 e.2.2 = 0) || !holdsB hs (es ++ [e])
def answD (e : En) : D := .tup [frQ e.2.1, hsD e.2.2]
include h6 ok hn
theorem tell_ok : m_Survey_tell_n (stL hs es) (szD e.1) (frQ e.2.1) (hsD e.2.2) = if badB hs es e then .ex "BadAnswer" [("answer", answD e)] else .ok (stL hs (es ++ [e])) := by
  have l1 := line_ge
  have o : isObj "Survey" (.obj "Survey" (stL hs (es ++ [e]))) = true := by simp [isObj]
  have t : tupR (es.map enD ++ [enD e]) = some (tdD (es ++ [e])) := by
    simp only [tupR]
    rw [if_pos (by simp only [List.length_append, List.length_map, List.length_cons, List.length_nil]; omega)]
    show some (D.tup (es.map enD ++ [enD e])) = some (D.tup ((es ++ [e]).map enD))
    rw [List.map_append]
    rfl
  have n1 : shedR (.ok (tdD (es ++ [e]))) = .ok (tdD (es ++ [e])) := shed_ok (noO_td _)
  have i0 : idxD (enD e) (.int 0) = some (szD e.1) := rfl
  have i2 : idxD (enD e) (.int 2) = some (hsD e.2.2) := rfl
  have sl : sliceD (enD e) (some 1) none = some (answD e) := rfl
  have n2 : shedN (.ok (stL hs [])) = .ok (stL hs []) := by
    have n := noO_st hs []
    simp only [shedN]
    rw [if_pos n]
  have t' : m_tupled 14 (szD e.1) = .ok (szD e.1) := tup_sz e.1
  simp only [m_Survey_tell_n, fld0, fld1, Rs.of_some, Rs.bind_ok, made_ok, n2, tup_sz, tup_fr, tup_hs, seqD_tup, t, n1, set1, i0, i2, size_on_ok, eqB_int, o, if_true, holds_ok h6 ok, asB_bl, sl]
  unfold badB
  by_cases a : onI hs e.1 e.2.2 = 0
  · simp [a, shedB]
  · cases b : holdsB hs (es ++ [e]) <;> simp [a, b, shedB]
theorem law_told_ok : m_law_told (stL hs es) (szD e.1) (frQ e.2.1) (hsD e.2.2) = .ok (if badB hs es e then .lst [.str "bad", answD e, .bl true] else .non, stL hs (if badB hs es e then es else es ++ [e])) := by
  simp only [m_law_told, m_Survey_tell, tell_ok h6 ok hn]
  cases b : badB hs es e
  · simp [unL2, Rs.tryM, isNB, D.isNon]
  · simp [unL2, Rs.tryM, catchM, isNB, D.isNon, fldX, isxD, List.lookup]
end
theorem law_back_ok (hs : List Str) (es : List En) : m_law_back (stL hs es) = .ok (if es = [] then .lst [.str "none", .bl true] else .non, stL hs es.dropLast) := by
  have sl := slice_last (es.map enD)
  rw [← List.map_dropLast] at sl
  have n1 : shedR (.ok (tdD es.dropLast)) = .ok (tdD es.dropLast) := shed_ok (noO_td _)
  have ng : negD (.int 1) = some (.int (-1)) := rfl
  have tl : m_Survey_back_n (stL hs es) = if es = [] then .ex "NothingDone" [("given", .tup [])] else .ok (stL hs es.dropLast) := by
    simp only [m_Survey_back_n, fld1, Rs.of_some, Rs.bind_ok, lenD_tup, List.length_map, eqB_int, ng, asI, sl, n1, set1]
    cases es with
    | nil => simp [shedB]
    | cons e es =>
      have : ¬ ((es.length : Int) + 1 = 0) := by omega
      simp [shedB, this]
  simp only [m_law_back, m_Survey_back, tl]
  by_cases h : es = []
  · subst h
    have q : ((("NothingDone" : Str)) == ("BadAnswer" : Str)) = false := by decide +kernel
    simp [unL2, Rs.tryM, catchM, isNB, D.isNon, isxD, List.lookup, q]
  · simp [h, unL2, Rs.tryM, isNB, D.isNon]
theorem len0_ok {i : Int} (h0 : 0 ≤ i) (h1 : i ≤ 1000) : len0 (.int i) = some (.int i) := by
  simp only [len0]
  rw [if_pos ⟨h0, by omega⟩]
def stD (hs : List Str) (es : List En) : D := .lst [hsD hs, tdD es, .int es.length, knD (knL hs es), .lst ((cutsOf hs).map fun c => frQ (flQ hs es c))]
theorem noO_stD (hs : List Str) (es : List En) : noO (stD hs es) = true := by
  have a := noO_hs hs
  have b := noO_td es
  have c := noO_kn (knL hs es)
  have d : noO (.lst ((cutsOf hs).map fun c => frQ (flQ hs es c))) = true := noO_lm fun _ _ => rfl
  simp only [stD, noO] at a b c d ⊢
  simp only [noOs, noO, a, b, c, d, Bool.and_self]
section
variable {hs : List Str} {es : List En} (h6 : hs.length ≤ 6) (ok : ∀ e ∈ es, EnOk hs e) (hn : es.length < 900)
include h6 ok hn
theorem len_step : (if isObj "Survey" (.obj "Survey" (stL hs es)) then (m_Survey_len (.obj "Survey" (stL hs es))).noX.bind fun d => Rs.of (len0 d) else Rs.no) = .ok (.int es.length) := by
  have o : isObj "Survey" (.obj "Survey" (stL hs es)) = true := by simp [isObj]
  have l : m_Survey_len (.obj "Survey" (stL hs es)) = .ok (.int es.length) := by
    rw [m_Survey_len]
    simp only [fld1, Rs.of_some, Rs.bind_ok, lenD_tup, List.length_map]
  have ln : len0 (.int ((es.length : Nat) : Int)) = some (.int es.length) := len0_ok (by omega) (by omega)
  rw [if_pos o, l, Rs.noX_ok, Rs.bind_ok, ln, Rs.of_some]
theorem known_step : (if isObj "Survey" (.obj "Survey" (stL hs es)) then m_Survey_known (.obj "Survey" (stL hs es)) else Rs.no) = .ok (knD (knL hs es)) := by
  have o : isObj "Survey" (.obj "Survey" (stL hs es)) = true := by simp [isObj]
  rw [if_pos o]
  exact known_ok h6 ok (by omega)
theorem floors_step : compM some (fun y2 => Rs.ok true) (fun y2 => if isObj "Survey" (.obj "Survey" (stL hs es)) then m_Survey_floor_of (.obj "Survey" (stL hs es)) y2 else Rs.no) ((cutsOf hs).map hsD) = .ok ((cutsOf hs).map fun c => frQ (flQ hs es c)) := by
  have o : isObj "Survey" (.obj "Survey" (stL hs es)) = true := by simp [isObj]
  refine compM_all (fe := fun y2 => if isObj "Survey" (.obj "Survey" (stL hs es)) then m_Survey_floor_of (.obj "Survey" (stL hs es)) y2 else Rs.no) hsD (fun c => frQ (flQ hs es c)) (cutsOf hs) fun c _ => ?_
  rw [if_pos o]
  exact floor_of_ok h6 ok c
omit h6 ok hn in
theorem bX {α β : Type} (a : α) (f : α → Rs β) : (Rs.ok a).bind f = f a := Eq.trans rfl rfl
omit h6 ok hn in
theorem oX {α : Type} (a : α) : Rs.of (some a) = .ok a := Eq.trans rfl rfl
omit h6 ok hn in
theorem f0X : fldD "Survey" 0 (.obj "Survey" (stL hs es)) = some (hsD hs) := Eq.trans rfl rfl
omit h6 ok hn in
theorem f1X : fldD "Survey" 1 (.obj "Survey" (stL hs es)) = some (tdD es) := Eq.trans rfl rfl
theorem state_ok : m_law_state (.obj "Survey" (stL hs es)) = .ok (stD hs es) := by
  rw [m_law_state, len_step h6 ok hn, known_step h6 ok hn]
  simp only [f0X, f1X, oX, bX, all_cuts_ok h6, itemsD_lst]
  rw [floors_step h6 ok hn]
  simp only [bX, stD]
theorem due_ok : m_law_due (hsD hs) (.lst (es.map enD)) = .ok (stD hs es) := by
  have k := law_known_ok h6 ok (by omega)
  have c0 := compM_all (fe := fun y5 => m_law_floor (hsD hs) (.lst (es.map enD)) y5) hsD (fun c => frQ (flQ hs es c)) (cutsOf hs) fun c _ => law_floor_ok h6 ok c
  simp only [m_law_due, all_cuts_ok h6, Rs.bind_ok, tupleD_lst, Rs.of_some, lenD_lst, List.length_map, k, itemsD_lst, c0]
  rw [addD_lst (by simp only [List.length_cons, List.length_nil]; omega)]
  rfl
end
end LW
set_option Elab.async false
set_option linter.all false
set_option maxRecDepth 100000
set_option autoImplicit false
set_option maxHeartbeats 1000000
namespace LW
open PySem PySem.Spec VL SX
theorem mk_pos {a : Int} {b : Nat} (ha : 0 < a) (hb : b ≠ 0) : 0 < mkRat a b := by
  have z := (cross (a := 0) (b := 1) (c := a) (d := b) (by decide) (by omega)).mp (by omega)
  rwa [show mkRat 0 1 = 0 by rfl] at z
theorem lift_kn {P : Rat → Prop} : ∀ (cs : List (List Str)) (ds : List D), ds.length = cs.length → (∀ p ∈ cs.zip ds, ∃ q, p.2 = pD (p.1, q) ∧ P q) → ∃ sp : List Kn, ds = sp.map pD ∧ sp.map (·.1) = cs ∧ ∀ p ∈ sp, P p.2
  | [], [], _, _ => ⟨[], rfl, rfl, by simp⟩
  | [], _ :: _, h, _ => by simp at h
  | _ :: _, [], h, _ => by simp at h
  | c :: cs, d :: ds, h, g => by
    obtain ⟨q, e, hq⟩ := g (c, d) (by simp)
    obtain ⟨sp, e1, e2, e3⟩ := lift_kn cs ds (by simpa using h) fun p hp => g p (by simp only [List.zip_cons_cons]; exact List.mem_cons_of_mem _ hp)
    refine ⟨(c, q) :: sp, by rw [e1, List.map_cons, ← e], by simp [e2], fun p hp => ?_⟩
    rcases List.mem_cons.mp hp with rfl | hp
    · exact hq
    · exact e3 p hp
theorem ratio_draw {r q : Int} (r0 : 0 ≤ r) (r1 : r < 9) (q0 : 0 ≤ q) (q1 : q < 3) : ∃ t : Rat, m_law_ratio (.int (1 + r)) (.int (1 + q)) = .ok (frQ t) ∧ 0 < t ∧ BQ 5 t := by
  obtain ⟨b, hb⟩ : ∃ b : Nat, 1 + q = (b : Int) := ⟨(1 + q).toNat, by omega⟩
  have b0 : b ≠ 0 := by omega
  refine ⟨mkRat (1 + r) b, ?_, mk_pos (by omega) b0, BQ.mk' (by omega) (by omega) (by decide)⟩
  rw [hb, law_ratio_ok b0 (Nat.lt_of_lt_of_le (show b < 2 ^ 5 by omega) (Nat.pow_le_pow_right (by decide) (by decide)))]
structure SpOk (hs : List Str) (sp : List Kn) : Prop where
  at_ : sp.map (·.1) = cutsOf hs
  pos : ∀ p ∈ sp, 0 < p.2 ∧ BQ 5 p.2
theorem speeds_ok {N : Nat} {s : List D} {hs : List Str} (hb : Box N s) (hN : N + 200 ≤ 1000000000) (h6 : hs.length ≤ 6) :
    ∃ sp s', m_law_speeds s (hsD hs) = .ok (.lst (sp.map pD), s') ∧ SpOk hs sp ∧ Box (N + 200) s' := by
  have few := cuts_few h6
  have fin : ∀ {fe : D → List D → Rs (D × List D)}, (∀ (c : List Str) (M : Nat) (s0 : List D), Box M s0 → M + 2 ≤ N + 200 → ∃ q s', fe (hsD c) s0 = .ok (pD (c, q), s') ∧ (0 < q ∧ BQ 5 q) ∧ Box (M + 2) s') →
      ∃ sp s', ((compBM some (fun y1 s2 => Rs.ok (true, s2)) fe ((cutsOf hs).map hsD) s).bind fun v34 => Rs.ok (D.lst v34.1, v34.2)).noX = .ok (D.lst (sp.map pD), s') ∧ SpOk hs sp ∧ Box (N + 200) s' := fun {fe} h => by
    obtain ⟨ds, s', e, l, j, b⟩ := compBM_ix (u := some) (fe := fe) hsD hsD (fun j s => Box (N + 2 * j) s) (fun c d => ∃ q, d = pD (c, q) ∧ (0 < q ∧ BQ 5 q)) (cutsOf hs) 0 s (by simpa using hb) (fun _ _ => rfl) (fun j s c _ hj hB => by
      obtain ⟨q, s', e, hq, b⟩ := h c _ s hB (by omega)
      exact ⟨_, s', e, ⟨q, rfl, hq⟩, by rw [show N + 2 * (j + 1) = N + 2 * j + 2 by omega]; exact b⟩)
    obtain ⟨sp, rfl, e2, e3⟩ := lift_kn (P := fun q => 0 < q ∧ BQ 5 q) (cutsOf hs) ds l j
    exact ⟨sp, s', by rw [e]; rfl, ⟨e2, e3⟩, b.mono (by omega)⟩
  simp only [m_law_speeds, all_cuts_ok h6, Rs.bind_ok, itemsD_lst, Rs.of_some]
  refine fin ?_
  intro c M s0 hB hM
  obtain ⟨r, s1, e1, r1, r2, b1⟩ := take_ok hB (by omega) (n := 8) (by decide) (by decide)
  obtain ⟨q, s2, e2, q1, q2, b2⟩ := take_ok b1 (by omega) (n := 3) (by decide) (by decide)
  obtain ⟨t, e3, t0, tb⟩ := ratio_draw r1 (by omega) q1 q2
  refine ⟨t, s2, ?_, ⟨t0, tb⟩, b2⟩
  simp only [Rs.bind_ok, e1, addD_int, Rs.of_some, e2, e3]
  rfl
theorem un_pD (p : Kn) : unL2 (pD p) = some (hsD p.1, frQ p.2) := rfl
def tmQ (hs : List Str) (sz : List Int) (p : Kn) : Rat := (onI hs sz p.1 : Rat) / p.2
structure SzOk (hs : List Str) (sz : List Int) : Prop where
  s0 : ∀ x ∈ sz, 0 ≤ x ∧ x ≤ 3
  len : sz.length = hs.length
  pos : 0 < sz.sum
theorem sum_pos : ∀ {xs : List Int}, 0 < xs.sum → ∃ i, ∃ h : i < xs.length, 0 < xs[i]
  | [], h => by simp at h
  | x :: xs, h => by
    by_cases hx : 0 < x
    · exact ⟨0, by simp, hx⟩
    · obtain ⟨i, hi, g⟩ := sum_pos (xs := xs) (by simp only [List.sum_cons] at h; omega)
      exact ⟨i + 1, by simp; omega, by simpa using g⟩
theorem sum_ge {xs : List Int} (h : ∀ x ∈ xs, 0 ≤ x) {y : Int} (hy : y ∈ xs) : y ≤ xs.sum := by
  induction xs with
  | nil => simp at hy
  | cons x xs ih =>
    have hx := h x List.mem_cons_self
    have nn : 0 ≤ xs.sum := by
      clear ih hy
      induction xs with
      | nil => simp
      | cons z xs ih2 =>
        have hz := h z (by simp)
        have := ih2 fun w hw => h w (by rcases List.mem_cons.mp hw with rfl | hw <;> simp [*])
        simp only [List.sum_cons]
        omega
    simp only [List.sum_cons]
    rcases List.mem_cons.mp hy with rfl | hy
    · omega
    · have := ih (fun w hw => h w (List.mem_cons_of_mem _ hw)) hy
      omega
section
variable {hs : List Str} {sz : List Int} {sp : List Kn} (hh : HsOk hs) (oz : SzOk hs sz) (os : SpOk hs sp)
include hh oz
theorem tm_bq {p : Kn} (hp : 0 < p.2 ∧ BQ 5 p.2) : BQ 20 (tmQ hs sz p) ∧ 0 ≤ tmQ hs sz p := by
  obtain ⟨n, hn⟩ := num_nat hp.1
  obtain ⟨z, n0⟩ := div_mk (a := onI hs sz p.1) hp.1 hn
  have b := on_between p.1 oz.s0 hh.six
  have t1 := hp.2.num
  rw [hn] at t1
  rw [tmQ, ← z]
  refine ⟨BQ.mk' ?_ (Nat.lt_of_lt_of_le (show n < 2 ^ 5 by simpa using t1) (by decide)) (by decide), ?_⟩
  · rw [Int.natAbs_mul]
    have m := mul_lt_pow (k := 6) (l := 5) (show (onI hs sz p.1).natAbs < 2 ^ 6 by omega) (show (p.2.den : Int).natAbs < 2 ^ 5 by simpa using hp.2.den)
    exact Nat.lt_of_lt_of_le m (by decide)
  · by_cases h0 : onI hs sz p.1 = 0
    · rw [h0]
      simp
    · exact Rat.le_of_lt (mk_pos (Int.mul_pos (by omega) (by have := p.2.den_pos; omega)) n0)
theorem ratio_tm {p : Kn} (hp : 0 < p.2 ∧ BQ 5 p.2) : ((Rs.of (idxD (frQ p.2) (.int 1))).bind fun x4 => Rs.of (mulD (.int (onI hs sz p.1)) x4)).bind (fun x5 => (Rs.of (idxD (frQ p.2) (.int 0))).bind fun x6 => m_law_ratio x5 x6) = .ok (frQ (tmQ hs sz p)) := by
  obtain ⟨n, hn⟩ := num_nat hp.1
  obtain ⟨z, n0⟩ := div_mk (a := onI hs sz p.1) hp.1 hn
  have b := on_bq p.1 oz.s0 hh.six
  have m : mulD (.int (onI hs sz p.1)) (.int (p.2.den : Int)) = some (.int (onI hs sz p.1 * (p.2.den : Int))) := mul_big (k := 6) (l := 5) (by simpa using b.num) (by simpa using hp.2.den) (by decide)
  have t1 := hp.2.num
  rw [hn] at t1
  have nl : n < 2 ^ 8000 := Nat.lt_of_lt_of_le (show n < 2 ^ 5 by simpa using t1) (Nat.pow_le_pow_right (by decide) (by decide))
  simp only [frQ, tix2_0, tix2_1, Rs.of_some, Rs.bind_ok, m, hn]
  rw [law_ratio_ok n0 nl, z]
  rfl
def ansS (hs : List Str) (sz : List Int) (z : Rat × List Str) (p : Kn) : Rat × List Str := if tmQ hs sz p < z.1 then z else (tmQ hs sz p, p.1)
def anD (z : Rat × List Str) : D := .lst [frQ z.1, hsD z.2]
theorem ans_fold {f : D → D → Rs D} (hf : ∀ (z : Rat × List Str) (p : Kn), BQ 20 z.1 → (0 < p.2 ∧ BQ 5 p.2) → f (anD z) (pD p) = .ok (anD (ansS hs sz z p))) : ∀ (ps : List Kn) (z : Rat × List Str), BQ 20 z.1 → (∀ p ∈ ps, 0 < p.2 ∧ BQ 5 p.2) →
    foldM f (ps.map pD) (anD z) = .ok (anD (ps.foldl (ansS hs sz) z)) ∧ BQ 20 (ps.foldl (ansS hs sz) z).1 ∧ z.1 ≤ (ps.foldl (ansS hs sz) z).1 ∧ (∀ p ∈ ps, tmQ hs sz p ≤ (ps.foldl (ansS hs sz) z).1) ∧ (ps.foldl (ansS hs sz) z = z ∨ (ps.foldl (ansS hs sz) z).2 ∈ ps.map (·.1))
  | [], z, hz, _ => ⟨rfl, hz, Rat.le_refl, by simp, .inl rfl⟩
  | p :: ps, z, hz, h => by
    have hp := h p List.mem_cons_self
    have hb : BQ 20 (ansS hs sz z p).1 := by
      unfold ansS
      split
      · exact hz
      · exact (tm_bq hh oz hp).1
    obtain ⟨a, b, c, d, e⟩ := ans_fold hf ps (ansS hs sz z p) hb fun q hq => h q (List.mem_cons_of_mem _ hq)
    have z1 : z.1 ≤ (ansS hs sz z p).1 := by
      unfold ansS
      split
      · exact Rat.le_refl
      · rename_i n
        exact Rat.not_lt.mp n
    have z2 : tmQ hs sz p ≤ (ansS hs sz z p).1 := by
      unfold ansS
      split
      · rename_i n
        exact Rat.le_of_lt n
      · exact Rat.le_refl
    refine ⟨by simp only [List.map_cons, foldM, hf z p hz hp, Rs.bind_ok, a, List.foldl_cons], b, Rat.le_trans z1 c, fun q hq => ?_, ?_⟩
    · rcases List.mem_cons.mp hq with rfl | hq
      · exact Rat.le_trans z2 c
      · exact d q hq
    · rcases e with e | e
      · rw [List.foldl_cons, e]
        unfold ansS
        split
        · exact .inl rfl
        · exact .inr (by simp)
      · exact .inr (by rw [List.foldl_cons, List.map_cons]; exact List.mem_cons_of_mem _ e)
include os
theorem answer_ok : ∃ t c, m_law_answer (hsD hs) (.lst (sp.map pD)) (szD sz) = .ok (.tup [frQ t, hsD c]) ∧ 0 < t ∧ BQ 40 t ∧ c ∈ cutsOf hs := by
  obtain ⟨z, hz⟩ : ∃ z, z = sp.foldl (ansS hs sz) (0, []) := ⟨_, rfl⟩
  obtain ⟨i, hi, gi⟩ := sum_pos oz.pos
  have hil : i < hs.length := by rw [← oz.len]; exact hi
  have mem : [hs[i]] ∈ cutsOf hs := by
    refine cutsOf_mem.mpr ⟨List.singleton_sublist.mpr (List.getElem_mem hil), by simp, ?_⟩
    have := hh.two
    simp only [List.length_cons, List.length_nil]
    omega
  have on1 : 0 < onI hs sz [hs[i]] := by
    have m : sz[i] ∈ (((hs.zip sz).filter fun p => decide (p.1 ∈ [hs[i]])).map (·.2)) := by
      refine List.mem_map.mpr ⟨(hs[i], sz[i]), List.mem_filter.mpr ⟨?_, by simp⟩, rfl⟩
      rw [List.mem_iff_getElem]
      exact ⟨i, by rw [List.length_zip]; omega, by simp⟩
    have g := sum_ge (fun x hx => by
      obtain ⟨p, hp, rfl⟩ := List.mem_map.mp hx
      exact (oz.s0 p.2 (List.of_mem_zip (List.mem_filter.mp hp).1).2).1) m
    unfold onI
    omega
  rw [← os.at_] at mem
  obtain ⟨p, hp, ep⟩ := List.mem_map.mp mem
  have tp : 0 < tmQ hs sz p := by
    have hp2 := os.pos p hp
    have e : p.1 = [hs[i]] := ep
    rw [tmQ, e]
    obtain ⟨n, hn⟩ := num_nat hp2.1
    obtain ⟨z, n0⟩ := div_mk (a := onI hs sz [hs[i]]) hp2.1 hn
    rw [← z]
    exact mk_pos (Int.mul_pos on1 (by have := p.2.den_pos; omega)) n0
  have fin : ∀ {f : D → D → Rs D}, (∀ (z : Rat × List Str) (p : Kn), BQ 20 z.1 → (0 < p.2 ∧ BQ 5 p.2) → f (anD z) (pD p) = .ok (anD (ansS hs sz z p))) → ∃ t c, ((foldM f (sp.map pD) (anD (0, []))).bind fun z0 => (Rs.of (idxD z0 (.int 0))).bind fun x10 => (Rs.of (idxD z0 (.int 1))).bind fun x11 => Rs.ok (D.tup [x10, x11])) = .ok (D.tup [frQ t, hsD c]) ∧ 0 < t ∧ BQ 40 t ∧ c ∈ cutsOf hs := fun {f} hf => by
    obtain ⟨a, b, c, d, e⟩ := ans_fold hh oz hf sp (0, []) ⟨by decide, by decide⟩ os.pos
    have pos := Std.lt_of_lt_of_le tp (d p hp)
    refine ⟨(sp.foldl (ansS hs sz) (0, [])).1, (sp.foldl (ansS hs sz) (0, [])).2, by rw [a]; rfl, pos, b.mono (by decide), ?_⟩
    rcases e with e | e
    · rw [e] at pos
      exact absurd pos (by decide)
    · rw [← os.at_]
      exact e
  simp only [m_law_answer, itemsD_lst, Rs.of_some, Rs.bind_ok]
  refine fin ?_
  intro z p hz hp
  have i0 : idxD (anD z) (.int 0) = some (frQ z.1) := rfl
  have r := ratio_tm hh oz hp
  simp only [un_pD, Rs.of_some, Rs.bind_ok, law_on_ok]
  rw [r]
  simp only [Rs.bind_ok, i0, Rs.of_some, law_less_ok (tm_bq hh oz hp).1 hz (show 20 + 20 ≤ 8000 by decide), asB_bl]
  unfold ansS
  by_cases g : tmQ hs sz p < z.1 <;> simp [g, anD]
end
end LW
set_option Elab.async false
set_option linter.all false
set_option maxRecDepth 100000
set_option autoImplicit false
set_option maxHeartbeats 1000000
namespace LW
open PySem PySem.Spec VL SX
theorem lift_int {P : Int → Prop} {α : Type} : ∀ (cs : List α) (ds : List D), ds.length = cs.length → (∀ p ∈ cs.zip ds, ∃ q, p.2 = .int q ∧ P q) → ∃ zs : List Int, ds = zs.map .int ∧ zs.length = cs.length ∧ ∀ z ∈ zs, P z
  | [], [], _, _ => ⟨[], rfl, rfl, by simp⟩
  | [], _ :: _, h, _ => by simp at h
  | _ :: _, [], h, _ => by simp at h
  | c :: cs, d :: ds, h, g => by
    obtain ⟨q, e, hq⟩ := g (c, d) (by simp)
    obtain ⟨zs, e1, e2, e3⟩ := lift_int cs ds (by simpa using h) fun p hp => g p (by simp only [List.zip_cons_cons]; exact List.mem_cons_of_mem _ hp)
    refine ⟨q :: zs, by rw [e1, List.map_cons, ← e], by simp [e2], fun p hp => ?_⟩
    rcases List.mem_cons.mp hp with rfl | hp
    · exact hq
    · exact e3 p hp
theorem rep_one : ∀ n : Nat, (List.replicate n [D.int 1]).flatten = (List.replicate n (1 : Int)).map .int
  | 0 => rfl
  | n + 1 => by rw [List.replicate_succ, List.replicate_succ, List.flatten_cons, List.map_cons, rep_one n]; rfl
theorem sum_one : ∀ n : Nat, (List.replicate n (1 : Int)).sum = n
  | 0 => rfl
  | n + 1 => by rw [List.replicate_succ, List.sum_cons, sum_one n]; omega
theorem sumD_tup (zs : List Int) : sumD [.tup (zs.map .int)] = some (.int zs.sum) := by
  have z := sumD_map zs
  simpa only [sumD, seqD] using z
theorem sizes_ok {hs : List Str} (hh : HsOk hs) {zs : List Int} (h0 : ∀ z ∈ zs, 0 ≤ z ∧ z < 4) (hl : zs.length = hs.length) :
    ∃ sz, (((Rs.of (sumD [szD zs])).bind fun x13 => Rs.of (gtB x13 (.int 0))).bind fun k => if k then Rs.ok (szD zs) else (Rs.of (lenD [hsD hs])).bind fun x14 => Rs.of (mulD (.tup [(.int 1)]) x14)) = .ok (szD sz) ∧ SzOk hs sz := by
  have two := hh.two
  have six := hh.six
  by_cases g : 0 < zs.sum
  · refine ⟨zs, ?_, fun x hx => ⟨(h0 x hx).1, by have := (h0 x hx).2; omega⟩, hl, g⟩
    simp only [sumD_tup, Rs.of_some, Rs.bind_ok, gtB_int, decide_eq_true g, if_true]
  · refine ⟨List.replicate hs.length 1, ?_, fun x hx => by rw [List.eq_of_mem_replicate hx]; decide, by simp, by rw [sum_one]; omega⟩
    have m : mulD (.tup [.int 1]) (.int (hs.length : Int)) = some (szD (List.replicate hs.length 1)) := by
      simp only [mulD]
      rw [if_pos ⟨by simp, by omega, by omega, by simp⟩, Int.toNat_natCast, rep_one]
    simp only [sumD_tup, Rs.of_some, Rs.bind_ok, gtB_int, decide_eq_false g, Bool.false_eq_true, if_false, lenD_tup, List.length_map, m]
theorem tries_ok {N : Nat} {s : List D} {hs : List Str} {sp : List Kn} (hb : Box N s) (hN : N + 20 ≤ 1000000000) (hh : HsOk hs) (os : SpOk hs sp) :
    ∃ e s', m_law_tries s (hsD hs) (.lst (sp.map pD)) = .ok (enD e, s') ∧ EnOk hs e ∧ Box (N + 20) s' := by
  have two := hh.two
  have six := hh.six
  have spl : sp.length = (cutsOf hs).length := by rw [← os.at_, List.length_map]
  have spp : 0 < sp.length := by
    rw [spl]
    exact List.length_pos_iff.mpr (cutsOf_ne two)
  have few := cuts_few six
  have draw : ∀ {fe : D → List D → Rs (D × List D)}, (∀ (x : Str) (M : Nat) (s0 : List D), Box M s0 → M + 1 ≤ N + 20 → ∃ r s', fe (.str x) s0 = .ok (.int r, s') ∧ (0 ≤ r ∧ r < 4) ∧ Box (M + 1) s') →
      ∃ (zs : List Int) (s' : List D), compBM some (fun y3 s4 => Rs.ok (true, s4)) fe (hs.map .str) s = .ok (zs.map .int, s') ∧ zs.length = hs.length ∧ (∀ z ∈ zs, 0 ≤ z ∧ z < 4) ∧ Box (N + 6) s' := fun {fe} h => by
    obtain ⟨ds, s', e, l, j, b⟩ := compBM_ix (u := some) (fe := fe) D.str D.str (fun j s => Box (N + j) s) (fun c d => ∃ q, d = .int q ∧ (0 ≤ q ∧ q < 4)) hs 0 s (by simpa using hb) (fun _ _ => rfl) (fun j s c _ hj hB => by
      obtain ⟨q, s', e, hq, b⟩ := h c _ s hB (by omega)
      exact ⟨_, s', e, ⟨q, rfl, hq⟩, b⟩)
    obtain ⟨zs, rfl, e2, e3⟩ := lift_int (P := fun q => 0 ≤ q ∧ q < 4) hs ds l j
    exact ⟨zs, s', e, e2, e3, b.mono (by omega)⟩
  obtain ⟨zs, s1, d1, dl, d0, b1⟩ := draw (fe := fun y3 s4 => ((Rs.ok ((.int 4), s4))).bind fun u8 => m_law_take u8.2 u8.1) fun x M s0 hB hM => by
    obtain ⟨r, s', e, r0, r1, b⟩ := take_ok hB (by omega) (n := 4) (by decide) (by decide)
    exact ⟨r, s', e, ⟨r0, r1⟩, b⟩
  obtain ⟨sz, z1, oz⟩ := sizes_ok hh d0 dl
  obtain ⟨t, c, a1, t0, tb, hc⟩ := answer_ok hh oz os
  obtain ⟨w, s2, e2, w0, w1, b2⟩ := take_ok b1 (by omega) (n := 6) (by decide) (by decide)
  have way0 : ∃ t' s3, ((Rs.of (eqB (.int w) (.int 0))).bind fun k => if k then ((((Rs.ok ((.int 1), s2))).bind fun u35 => (((Rs.ok ((.int 9), u35.2))).bind fun u33 => m_law_take u33.2 u33.1).bind fun u34 => (Rs.of (addD u35.1 u34.1)).bind fun d => Rs.ok (d, u34.2)).bind fun u50 => (((Rs.ok ((.int 1), u50.2))).bind fun u46 => (((Rs.ok ((.int 3), u46.2))).bind fun u44 => m_law_take u44.2 u44.1).bind fun u45 => (Rs.of (addD u46.1 u45.1)).bind fun d => Rs.ok (d, u45.2)).bind fun u49 => (m_law_ratio u50.1 u49.1).bind fun d => Rs.ok (d, u49.2)).noX.bind fun u26 => Rs.ok (u26.2, u26.1) else Rs.ok (s2, frQ t)) = .ok (s3, frQ t') ∧ 0 < t' ∧ BQ 40 t' ∧ Box (N + 6 + 1 + 2) s3 := by
    by_cases g : w = 0
    · obtain ⟨r, s3, e3, r0, r1, b3⟩ := take_ok b2 (by omega) (n := 9) (by decide) (by decide)
      obtain ⟨q, s4, e4, q0, q1, b4⟩ := take_ok b3 (by omega) (n := 3) (by decide) (by decide)
      obtain ⟨t', e5, p0, pb⟩ := ratio_draw r0 r1 q0 q1
      refine ⟨t', s4, ?_, p0, pb.mono (by decide), b4⟩
      simp only [eqB_int, decide_eq_true g, Rs.of_some, Rs.bind_ok, if_true, e3, addD_int, e4, e5, Rs.noX_ok]
    · refine ⟨t, s2, ?_, t0, tb, b2.mono (by omega)⟩
      simp only [eqB_int, decide_eq_false g, Rs.of_some, Rs.bind_ok, Bool.false_eq_true, if_false]
  obtain ⟨t', s3, e3, p0, pb, b3⟩ := way0
  have way1 : ∃ c' s4, ((Rs.of (eqB (.int w) (.int 1))).bind fun k => if k then ((((Rs.ok ((.lst (sp.map pD)), s3))).bind fun u63 => ((((Rs.of (lenD [(.lst (sp.map pD))])).bind fun d => Rs.ok (d, u63.2))).bind fun u61 => m_law_take u61.2 u61.1).bind fun u62 => (Rs.of (idxD u63.1 u62.1)).bind fun d => Rs.ok (d, u62.2)).bind fun u69 => ((Rs.ok ((.int 0), u69.2))).bind fun u68 => (Rs.of (idxD u69.1 u68.1)).bind fun d => Rs.ok (d, u68.2)).noX.bind fun u54 => Rs.ok (u54.2, u54.1) else Rs.ok (s3, hsD c)) = .ok (s4, hsD c') ∧ c' ∈ cutsOf hs ∧ Box (N + 6 + 1 + 2 + 1) s4 := by
    by_cases g : w = 1
    · obtain ⟨r, s4, e4, r0, r1, b4⟩ := take_ok b3 (by omega) (n := (sp.length : Int)) (by omega) (by omega)
      obtain ⟨q, rfl⟩ : ∃ q : Nat, r = q := ⟨r.toNat, by omega⟩
      have hq : q < sp.length := by omega
      have ix : idxD (.lst (sp.map pD)) (.int (q : Int)) = some (pD sp[q]) := idxD_lst _ _ _ (by simp [hq])
      have i0 : idxD (pD sp[q]) (.int 0) = some (hsD sp[q].1) := rfl
      refine ⟨sp[q].1, s4, ?_, ?_, b4⟩
      · simp only [eqB_int, decide_eq_true g, Rs.of_some, Rs.bind_ok, if_true, lenD_lst, List.length_map, e4, ix, i0, Rs.noX_ok]
      · rw [← os.at_]
        exact List.mem_map.mpr ⟨sp[q], List.getElem_mem hq, rfl⟩
    · refine ⟨c, s3, ?_, hc, b3.mono (by omega)⟩
      simp only [eqB_int, decide_eq_false g, Rs.of_some, Rs.bind_ok, Bool.false_eq_true, if_false]
  obtain ⟨c', s4, e4, hc', b4⟩ := way1
  refine ⟨(sz, t', c'), s4, ?_, ⟨oz.s0, oz.len, p0, pb, hc'⟩, b4.mono (by omega)⟩
  have un : unL2 (.tup [frQ t, hsD c]) = some (frQ t, hsD c) := rfl
  rw [m_law_tries]
  simp only [Rs.bind_ok] at d1 e3 e4
  simp only [itemsD_tup, Rs.of_some, Rs.bind_ok, d1, tupleD_lst, Rs.noX_ok]
  rw [z1]
  simp only [Rs.bind_ok, a1, un, Rs.of_some, e2, Rs.noX_ok]
  rw [e3]
  simp only [Rs.bind_ok]
  rw [e4]
  rfl
theorem eqvAll_len : ∀ {xs ys : List PyData}, PyData.eqvAll xs ys = true → xs.length = ys.length
  | [], [], _ => rfl
  | [], _ :: _, h => by simp [PyData.eqvAll] at h
  | _ :: _, [], h => by simp [PyData.eqvAll] at h
  | x :: xs, y :: ys, h => by
    simp only [PyData.eqvAll, Bool.and_eq_true] at h
    simp only [List.length_cons, eqvAll_len h.2]
abbrev FineN (n : Nat) (d : D) : Prop := d.isData = true ∧ d.py.canLay0 = true ∧ d.py.depth ≤ n
theorem fine_tm {α : Type} {f : α → D} {xs : List α} {n : Nat} (h : ∀ x ∈ xs, FineN n (f x)) : FineN (n + 1) (.tup (xs.map f)) := by
  refine ⟨?_, ?_, ?_⟩
  · simp only [D.isData]
    exact areData_map fun x hx => (h x hx).1
  · simp only [D.py, PyData.canLay0]
    exact canLay_map fun x hx => (h x hx).2.1
  · simp only [D.py, PyData.depth]
    have z := depth_map (f := f) (n := n) (xs := xs) fun x hx => (h x hx).2.2
    omega
theorem fine_hs {c : List Str} (h : ∀ x ∈ c, PyData.strOk x = true) : FineN 1 (hsD c) := fine_tm fun x hx => ⟨rfl, by simpa [D.py, PyData.canLay0] using h x hx, by simp [D.py, PyData.depth]⟩
theorem fine_sz (s : List Int) : FineN 1 (szD s) := fine_tm fun x _ => ⟨rfl, by simp [D.py, PyData.canLay0], by simp [D.py, PyData.depth]⟩
theorem fine_fr (q : Rat) : FineN 1 (frQ q) := by
  have z := fine_sz [q.num, (q.den : Int)]
  exact z
theorem FineN.mono {m n : Nat} {d : D} (h : FineN m d) (l : m ≤ n) : FineN n d := ⟨h.1, h.2.1, Nat.le_trans h.2.2 l⟩
theorem fine_st {hs : List Str} {es : List En} (hh : HsOk hs) (ok : ∀ e ∈ es, EnOk hs e) : (D.tup [hsD hs, tdD es]).okD = true := by
  have st : ∀ x ∈ hs, PyData.strOk x = true := fun x hx => nmOk_str (hh.nm x hx)
  have a := fine_hs st
  have b : FineN 3 (tdD es) := fine_tm fun e he => by
    have z : ∀ d ∈ [szD e.1, frQ e.2.1, hsD e.2.2], FineN 1 (id d) := fun d hd => by
      simp only [List.mem_cons, List.not_mem_nil, or_false] at hd
      rcases hd with rfl | rfl | rfl
      · exact fine_sz _
      · exact fine_fr _
      · exact fine_hs fun x hx => st x ((cuts_mem (ok e he).cut).1.subset hx)
    have y := fine_tm z
    rw [List.map_id] at y
    exact y
  have z : ∀ d ∈ [hsD hs, tdD es], (id d).isData = true ∧ (id d).py.canLay0 = true ∧ (id d).py.depth ≤ 60 := fun d hd => by
    simp only [List.mem_cons, List.not_mem_nil, or_false] at hd
    rcases hd with rfl | rfl
    · exact a.mono (by decide)
    · exact b.mono (by decide)
  have y := okD_tup z
  rw [List.map_id] at y
  exact y
section
variable {hs : List Str} {es es' : List En} (hh : HsOk hs) (ok : ∀ e ∈ es, EnOk hs e) (ok' : ∀ e ∈ es', EnOk hs e)
include hh ok ok'
theorem sv_eq {b : Bool} (h : PyData.eqv (D.tup [hsD hs, tdD es]).py (D.tup [hsD hs, tdD es']).py = b) : m_Survey_eq (.obj "Survey" (stL hs es)) (.obj "Survey" (stL hs es')) = .ok (.bl b) := by
  have i : isoT "Survey" (.obj "Survey" (stL hs es')) = some (.bl true) := by simp [isoT]
  have o1 := fine_st hh ok
  have o2 := fine_st hh ok'
  have e : eqB (.tup [hsD hs, tdD es]) (.tup [hsD hs, tdD es']) = some b := by
    simp only [eqB, o1, o2, Bool.and_self, if_true, h]
  simp only [m_Survey_eq, i, Rs.of_some, Rs.bind_ok, asB_bl, Bool.not_true, Bool.false_eq_true, if_false, fld0, fld1, eqD, e, Option.map_some]
end
theorem sv_same {hs : List Str} {es : List En} (hh : HsOk hs) (ok : ∀ e ∈ es, EnOk hs e) : m_Survey_eq (.obj "Survey" (stL hs es)) (.obj "Survey" (stL hs es)) = .ok (.bl true) := by
  refine sv_eq hh ok ok (PySem.SeqAt.eqv_refl _ ?_)
  have o := fine_st hh ok
  simp only [D.okD, SeqAt.shaped, Bool.and_eq_true] at o
  exact o.2.1
theorem sv_more {hs : List Str} {es : List En} {e : En} (hh : HsOk hs) (ok : ∀ x ∈ es ++ [e], EnOk hs x) : m_Survey_eq (.obj "Survey" (stL hs (es ++ [e]))) (.obj "Survey" (stL hs es)) = .ok (.bl false) := by
  refine sv_eq hh ok (fun x hx => ok x (List.mem_append_left _ hx)) ?_
  cases h : PyData.eqv (D.tup [hsD hs, tdD (es ++ [e])]).py (D.tup [hsD hs, tdD es]).py with
  | false => rfl
  | true =>
    simp only [D.py, pys, PyData.eqv, PyData.eqvAll, Bool.and_eq_true] at h
    have l := eqvAll_len h.2.1
    simp [pys_map] at l
end LW
set_option Elab.async false
set_option linter.all false
set_option maxRecDepth 100000
set_option autoImplicit false
set_option maxHeartbeats 0
namespace LW
open PySem PySem.Spec VL
theorem byhand : m_law_by_hand_right = .ok (.bl true) := by kernel_rfl
end LW
set_option Elab.async false
set_option linter.all false
set_option maxRecDepth 100000
set_option autoImplicit false
set_option maxHeartbeats 1000000
namespace LW
open PySem PySem.Spec VL SX
theorem fits_tm {α : Type} {f : α → D} {xs : List α} {n : Nat} (h : ∀ x ∈ xs, fits n (f x) = true) : fits (n + 1) (.tup (xs.map f)) = true := by
  simp only [fits, List.all_map, List.all_eq_true]
  exact h
theorem fits_lm {α : Type} {f : α → D} {xs : List α} {n : Nat} (h : ∀ x ∈ xs, fits n (f x) = true) : fits (n + 1) (.lst (xs.map f)) = true := by
  simp only [fits, List.all_map, List.all_eq_true]
  exact h
theorem fits_sz (n : Nat) (s : List Int) : fits (n + 1) (szD s) = true := fits_tm fun _ _ => by cases n <;> rfl
theorem fits_en (n : Nat) (e : En) : fits (n + 2) (enD e) = true := by
  have a := fits_sz n e.1
  have b := fits_frQ n e.2.1
  have c := fits_hs n e.2.2
  simp only [fits, List.all_cons, List.all_nil, Bool.and_true, Bool.and_eq_true] at a b c ⊢
  exact ⟨a, b, c⟩
theorem fits_answ (n : Nat) (e : En) : fits (n + 2) (answD e) = true := by
  have b := fits_frQ n e.2.1
  have c := fits_hs n e.2.2
  simp only [answD, fits, List.all_cons, List.all_nil, Bool.and_true, Bool.and_eq_true] at b c ⊢
  exact ⟨b, c⟩
def stI (hs : List Str) (es : List En) : List D := [hsD hs, tdD es, .int es.length, knD (knL hs es), .lst ((cutsOf hs).map fun c => frQ (flQ hs es c))]
theorem stD_eq (hs : List Str) (es : List En) : stD hs es = .lst (stI hs es) := rfl
theorem fits_stI (hs : List Str) (es : List En) : ∀ d ∈ stI hs es, fits 12 d = true := by
  intro d hd
  simp only [stI, List.mem_cons, List.not_mem_nil, or_false] at hd
  rcases hd with rfl | rfl | rfl | rfl | rfl
  · exact fits_hs 11 hs
  · exact fits_tm fun e _ => fits_en 9 e
  · rfl
  · refine fits_tm fun p _ => ?_
    have a := fits_hs 9 p.1
    have b := fits_frQ 9 p.2
    simp only [pD, fits, List.all_cons, List.all_nil, Bool.and_true, Bool.and_eq_true] at a b ⊢
    exact ⟨a, b⟩
  · exact fits_lm fun c _ => fits_frQ 10 _
theorem same_more (hs : List Str) (es : List En) (b : Bool) : m_law_same 14 (.lst (stI hs es ++ [.bl b])) (.lst (stI hs es ++ [.bl b])) = .ok (.bl true) := by
  refine same_refl 13 _ ?_
  have z := List.all_eq_true.mpr (fits_stI hs es)
  simp only [fits, List.all_append, List.all_cons, List.all_nil, z, Bool.and_self]
theorem same_front (hs : List Str) (es : List En) : m_law_same 14 (.lst (.non :: stI hs es)) (.lst (.non :: stI hs es)) = .ok (.bl true) := by
  refine same_refl 13 _ ?_
  have z := List.all_eq_true.mpr (fits_stI hs es)
  simp only [fits, List.all_cons, z, Bool.and_self]
theorem slice_lastL (xs : List D) : sliceD (.lst xs) none (some (-1)) = some (.lst xs.dropLast) := by
  simp only [sliceD, cutD, HT.sIx]
  rw [if_pos (by omega), List.dropLast_eq_take, List.drop_zero]
  congr 3
  omega
structure Good (hs : List Str) (es : List En) : Prop where
  ok : ∀ e ∈ es, EnOk hs e
  on : ∀ e ∈ es, onI hs e.1 e.2.2 ≠ 0
theorem fits_bad {hs : List Str} {es : List En} {e : En} (g : Good hs es) : fitsB hs (es ++ [e]) = !badB hs es e := by
  unfold fitsB badB holdsB
  rw [Bool.eq_iff_iff]
  simp only [List.all_eq_true, Bool.and_eq_true, Bool.not_eq_true', decide_eq_false_iff_not, decide_eq_true_eq, Bool.or_eq_false_iff, Bool.not_eq_false']
  constructor
  · exact fun h => ⟨(h e (by simp)).1, fun x hx => (h x hx).2⟩
  · refine fun h x hx => ⟨?_, h.2 x hx⟩
    rcases List.mem_append.mp hx with m | m
    · exact g.on x m
    · rw [List.mem_singleton.mp m]
      exact h.1
theorem add_st (hs : List Str) (es : List En) (d : D) : addD (.lst (stI hs es)) (.lst [d]) = some (.lst (stI hs es ++ [d])) := addD_lst (by simp [stI])
theorem add_front (hs : List Str) (es : List En) : addD (.lst [.non]) (.lst (stI hs es)) = some (.lst (.non :: stI hs es)) := addD_lst (xs := [.non]) (by simp [stI])
theorem mul_1 (d : D) : mulD (.lst [d]) (.int 1) = some (.lst [d]) := by rfl
theorem mul_0 (d : D) : mulD (.lst [d]) (.int 0) = some (.lst []) := by rfl
theorem and_obj (hs : List Str) (es es' : List En) : (isObj "Survey" (.obj "Survey" (stL hs es)) && (isObj "Survey" (.obj "Survey" (stL hs es')) || isSm (.obj "Survey" (stL hs es')))) = true := by simp [isObj]
theorem lap1 {hs : List Str} {sp : List Kn} (hh : HsOk hs) (os : SpOk hs sp) {M : Nat} {s : List D} {es : List En} (hB : Box M s) (hM : M + 20 ≤ 1000000000) (g : Good hs es) (hn : es.length ≤ 100) (d : D) :
    ∃ s' es', ((Rs.of (some d)).bind fun y22 => (((Rs.ok (hsD hs, s))).bind fun u29 => ((Rs.ok ((.lst (sp.map pD)), u29.2))).bind fun u28 => m_law_tries u28.2 u29.1 u28.1).noX.bind fun u31 => (((shedN (if isObj "Survey" (.obj "Survey" (stL hs es)) then (m_Survey_twin (.obj "Survey" (stL hs es))).noX else Rs.no))).bind fun g => Rs.ok (g, u31.2)).noX.bind fun w32 => ((Rs.of (addD (.lst (es.map enD)) (.lst [u31.1]))).bind fun x36 => m_law_fits (hsD hs) x36).bind fun d37 => (((Rs.of (idxD u31.1 (.int 0))).bind fun x41 => (Rs.of (idxD u31.1 (.int 1))).bind fun x42 => (Rs.of (idxD u31.1 (.int 2))).bind fun x43 => m_law_told (stL hs es) x41 x42 x43).noX).noX.bind fun u40 => (((((Rs.of (asB d37)).bind fun k => if k then (Rs.ok .non) else ((Rs.of (idxD u31.1 (.int 1))).bind fun x44 => (Rs.of (idxD u31.1 (.int 2))).bind fun x45 => Rs.ok (.tup [x44, x45])).bind fun x46 => Rs.ok (.lst [(.str "bad"), x46, (.bl true)])).bind fun x47 => m_law_same 14 u40.1 x47).bind fun x48 => Rs.of (asB x48)).bind fun k => Rs.ok (!k)).bind fun k => if k then liftF (Rs.ok (.rt (.bl false) [.lst w32.2])) else (((Rs.of (intD [d37])).bind fun x49 => Rs.of (mulD (.lst [u31.1]) x49)).bind fun x50 => Rs.of (addD (.lst (es.map enD)) x50)).bind fun d51 => ((shedB (shedB (((((m_law_state (.obj "Survey" u40.2)).bind fun x53 => ((if isObj "Survey" (.obj "Survey" u40.2) && (isObj "Survey" (.obj "Survey" w32.1) || isSm (.obj "Survey" w32.1)) then (m_Survey_eq (.obj "Survey" u40.2) (.obj "Survey" w32.1)).noX else Rs.no).bind fun x52 => Rs.ok (.lst [x52])).bind fun x54 => Rs.of (addD x53 x54)).bind fun x58 => ((m_law_due (hsD hs) d51).bind fun x56 => (((Rs.of (asB d37)).bind fun k => Rs.ok (.bl (!k))).bind fun x55 => Rs.ok (.lst [x55])).bind fun x57 => Rs.of (addD x56 x57)).bind fun x59 => m_law_same 14 x58 x59).bind fun x60 => Rs.of (asB x60)).bind fun k => Rs.ok (!k))))).bind fun k => if k then liftF (Rs.ok (.rt (.bl false) [.lst w32.2])) else (Rs.ok (.nx (w32.2, d51, u40.2)) : Rs (Fl (List D × D × List D) (List D × D × List D)))) = .ok (.nx (s', .lst (es'.map enD), stL hs es')) ∧ Good hs es' ∧ es'.length ≤ es.length + 1 ∧ Box (M + 20) s' := by
  obtain ⟨e, s1, e1, ek, b1⟩ := tries_ok hB hM hh os
  have ok' : ∀ x ∈ es ++ [e], EnOk hs x := fun x hx => by
    rcases List.mem_append.mp hx with m | m
    · exact g.ok x m
    · rw [List.mem_singleton.mp m]
      exact ek
  have h6 := hh.six
  have l1 := line_ge
  have i0 : idxD (enD e) (.int 0) = some (szD e.1) := rfl
  have i1 : idxD (enD e) (.int 1) = some (frQ e.2.1) := rfl
  have i2 : idxD (enD e) (.int 2) = some (hsD e.2.2) := rfl
  have ad : addD (.lst (es.map enD)) (.lst [enD e]) = some (.lst ((es ++ [e]).map enD)) := by
    rw [addD_lst (by simp only [List.length_map, List.length_cons, List.length_nil]; omega), List.map_append]
    rfl
  have ad0 : addD (.lst (es.map enD)) (.lst []) = some (.lst (es.map enD)) := by
    rw [addD_lst (by simp only [List.length_map, List.length_nil]; omega), List.append_nil]
  have fi := law_fits_ok h6 ok'
  rw [fits_bad g] at fi
  have to := law_told_ok h6 ok' (by omega)
  have tw : shedN (if isObj "Survey" (.obj "Survey" (stL hs es)) then (m_Survey_twin (.obj "Survey" (stL hs es))).noX else Rs.no) = .ok (stL hs es) := by
    have o : isObj "Survey" (.obj "Survey" (stL hs es)) = true := by simp [isObj]
    have n := noO_st hs es
    rw [if_pos o, twin_ok, Rs.noX_ok]
    simp only [shedN, n, if_true]
  have an : D.tup [frQ e.2.1, hsD e.2.2] = answD e := rfl
  simp only [Rs.of_some, Rs.bind_ok, e1, Rs.noX_ok, tw, ad, fi, i0, i1, i2, to, asB_bl, an]
  cases b : badB hs es e with
  | false =>
    have s0 : m_law_same 14 .non .non = .ok (.bl true) := same_refl 13 .non rfl
    have st := state_ok h6 ok' (by simp only [List.length_append, List.length_cons, List.length_nil]; omega)
    have du := due_ok h6 ok' (by simp only [List.length_append, List.length_cons, List.length_nil]; omega)
    have ii : intD [.bl true] = some (.int 1) := rfl
    refine ⟨s1, es ++ [e], ?_, ⟨ok', fun x hx => ?_⟩, by simp, b1⟩
    · simp only [Bool.not_false, if_true, Bool.false_eq_true, if_false, Rs.bind_ok, s0, asB_bl, Rs.of_some, Bool.not_true, ii, mul_1, ad, st, stD_eq, and_obj, sv_more hh ok', Rs.noX_ok, add_st, du, same_more, shedB_ok]
    · rcases List.mem_append.mp hx with m | m
      · exact g.on x m
      · rw [List.mem_singleton.mp m]
        intro z
        simp [badB, z] at b
  | true =>
    have s0 : m_law_same 14 (.lst [.str "bad", answD e, .bl true]) (.lst [.str "bad", answD e, .bl true]) = .ok (.bl true) := same_refl 13 _ (by
      have z := fits_answ 10 e
      simp only [fits, List.all_cons, List.all_nil, Bool.and_true, Bool.true_and]
      exact z)
    have st := state_ok h6 g.ok (by omega)
    have du := due_ok h6 g.ok (by omega)
    have ii : intD [.bl false] = some (.int 0) := rfl
    refine ⟨s1, es, ?_, g, by omega, b1⟩
    simp only [Bool.not_true, if_true, Bool.false_eq_true, if_false, Rs.bind_ok, s0, asB_bl, Rs.of_some, ii, mul_0, ad0, st, stD_eq, and_obj, sv_same hh g.ok, Rs.noX_ok, add_st, du, same_more, shedB_ok, Bool.not_false]
theorem back_step {hs : List Str} (hh : HsOk hs) {es : List En} (g : Good hs es) (ne : es ≠ []) (hn : es.length ≤ 100) (d : D) (s : List D) :
    ((Rs.of (some d)).bind fun y62 => (((Rs.of (negD (.int 1))).bind fun x65 => Rs.of (asI x65)).bind fun i64 => Rs.of (sliceD (.lst (es.map enD)) none i64)).bind fun d66 => (((((((m_law_back (stL hs es)).noX).bind fun u69 => Rs.ok (D.lst [u69.1], u69.2)).bind fun u75 => ((((shedR (m_law_state (.obj "Survey" u75.2)))).bind fun d => Rs.ok (d, u75.2))).bind fun u74 => (Rs.of (addD u75.1 u74.1)).bind fun d => Rs.ok (d, u74.2)).bind fun u82 => ((((m_law_due (hsD hs) d66).bind fun x78 => Rs.of (addD (.lst [.non]) x78)).bind fun d => Rs.ok (d, u82.2))).bind fun u81 => (m_law_same 14 u82.1 u81.1).bind fun d => Rs.ok (d, u81.2)).bind fun u83 => (Rs.of (asB u83.1)).bind fun k => Rs.ok (k, u83.2)).bind fun u84 => Rs.ok (!u84.1, u84.2)).noX.bind fun u86 => if u86.1 then liftF (Rs.ok (.rt (.bl false) [.lst s])) else (Rs.ok (.nx (d66, u86.2)) : Rs (Fl (D × List D) (D × List D)))) = .ok (.nx (.lst (es.dropLast.map enD), stL hs es.dropLast)) ∧ Good hs es.dropLast := by
  have h6 := hh.six
  have g2 : Good hs es.dropLast := ⟨fun x hx => g.ok x (List.dropLast_subset es hx), fun x hx => g.on x (List.dropLast_subset es hx)⟩
  have l2 : es.dropLast.length < 900 := by rw [List.length_dropLast]; omega
  have ba := law_back_ok hs es
  rw [if_neg ne] at ba
  have st := state_ok h6 g2.ok l2
  have du := due_ok h6 g2.ok l2
  have sh : shedR (.ok (stD hs es.dropLast)) = .ok (stD hs es.dropLast) := shed_ok (noO_stD _ _)
  have ng : negD (.int 1) = some (.int (-1)) := rfl
  have sl := slice_lastL (es.map enD)
  rw [← List.map_dropLast] at sl
  refine ⟨?_, g2⟩
  simp only [ng, asI, Rs.of_some, Rs.bind_ok, sl, ba, Rs.noX_ok, st, sh, du]
  simp only [stD_eq, add_front, Rs.of_some, Rs.bind_ok, same_front, asB_bl, Bool.not_true, Rs.noX_ok, Bool.false_eq_true, if_false]
theorem back_end {hs : List Str} (s : List D) : (((((m_law_back (stL hs [])).noX).bind fun u92 => ((((Rs.ok (.lst [(.str "none"), (.bl true)]))).bind fun d => Rs.ok (d, u92.2))).bind fun u91 => (m_law_same 14 u92.1 u91.1).bind fun d => Rs.ok (d, u91.2)).bind fun u93 => (Rs.of (asB u93.1)).bind fun k => Rs.ok (k, u93.2)).bind fun u94 => Rs.ok (!u94.1, u94.2)).noX.bind (fun u96 => if u96.1 then liftF (Rs.ok (.rt (.bl false) [.lst s])) else (Rs.ok (.nx s) : Rs (Fl (List D) (List D)))) = .ok (.nx s) := by
  have ba := law_back_ok hs []
  have s0 : m_law_same 14 (.lst [.str "none", .bl true]) (.lst [.str "none", .bl true]) = .ok (.bl true) := same_refl 13 _ rfl
  rw [if_pos rfl] at ba
  simp only [ba, Rs.noX_ok, Rs.bind_ok, s0, Rs.of_some, asB_bl, Bool.not_true, Bool.false_eq_true, if_false]
end LW
set_option Elab.async false
set_option linter.all false
set_option maxRecDepth 100000
set_option autoImplicit false
set_option maxHeartbeats 1000000
namespace LW
open PySem PySem.Spec VL SX
theorem tell_laps {hs : List Str} {G : List D × D × List D → D → Rs (Fl (List D × D × List D) (List D × D × List D))} {K : List D × D × List D → Rs (Fl (List D) (List D))} {B : Nat}
    (hG : ∀ (M : Nat) (s : List D) (es : List En) (d : D), Box M s → M + 20 ≤ B → Good hs es → es.length ≤ 100 → ∃ s' es', G (s, .lst (es.map enD), stL hs es) d = .ok (.nx (s', .lst (es'.map enD), stL hs es')) ∧ Good hs es' ∧ es'.length ≤ es.length + 1 ∧ Box (M + 20) s')
    (hK : ∀ (s : List D) (es : List En), Good hs es → es.length ≤ 100 → K (s, .lst (es.map enD), stL hs es) = .ok (.nx s)) {n N C : Nat} {s : List D} (hb : Box N s) (hn : n ≤ 9) (hN : N + 200 ≤ B) (hC : N + 200 ≤ C) :
    ∃ s', (loopM G ((List.range n).map fun (i : Nat) => D.int (0 + (i : Int))) (s, .lst [], stL hs [])).bind (Fl.andThen K) = .ok (.nx s') ∧ Box C s' := by
  obtain ⟨z', e, s', es', rfl, b, g, l⟩ := loopM_inv (β := List D) (f := G) (fun (i : Nat) => D.int (0 + (i : Int))) (fun j z => ∃ s es, z = (s, .lst (es.map enD), stL hs es) ∧ Box (N + 20 * j) s ∧ Good hs es ∧ es.length ≤ j) (List.range n) 0 (s, .lst [], stL hs []) ⟨s, [], rfl, by simpa using hb, ⟨by simp, by simp⟩, by simp⟩ (by
    rintro j z x hx hj ⟨s, es, rfl, b, g, l⟩
    simp only [List.length_range] at hj
    obtain ⟨s', es', e, g', l', b'⟩ := hG _ s es (D.int (0 + (x : Int))) b (by omega) g (by omega)
    exact ⟨_, e, s', es', rfl, b'.mono (by omega), g', by omega⟩)
  simp only [List.length_range] at b l
  refine ⟨s', ?_, b.mono (by omega)⟩
  rw [e]
  exact hK s' es' g (by omega)
theorem back_laps {hs : List Str} {s : List D} {G : D × List D → D → Rs (Fl (D × List D) (D × List D))} {K : D × List D → Rs (Fl (List D) (List D))}
    (hG : ∀ (es : List En) (d : D), Good hs es → es ≠ [] → es.length ≤ 100 → G (.lst (es.map enD), stL hs es) d = .ok (.nx (.lst (es.dropLast.map enD), stL hs es.dropLast)) ∧ Good hs es.dropLast)
    (hK : K (.lst [], stL hs []) = .ok (.nx s)) {es : List En} (g : Good hs es) (hn : es.length ≤ 100) :
    (loopM G ((List.range es.length).map fun (i : Nat) => D.int (0 + (i : Int))) (.lst (es.map enD), stL hs es)).bind (Fl.andThen K) = .ok (.nx s) := by
  obtain ⟨z', e, es', rfl, g', l⟩ := loopM_inv (β := List D) (f := G) (fun (i : Nat) => D.int (0 + (i : Int))) (fun j z => ∃ es', z = (.lst (es'.map enD), stL hs es') ∧ Good hs es' ∧ es'.length + j = es.length) (List.range es.length) 0 (.lst (es.map enD), stL hs es) ⟨es, rfl, g, rfl⟩ (by
    rintro j z x hx hj ⟨es', rfl, g', l⟩
    simp only [List.length_range] at hj
    have ne : es' ≠ [] := fun e => by
      subst e
      simp only [List.length_nil] at l
      omega
    obtain ⟨e, g2⟩ := hG es' (D.int (0 + (x : Int))) g' ne (by omega)
    have : 0 < es'.length := List.length_pos_iff.mpr ne
    exact ⟨_, e, _, rfl, g2, by rw [List.length_dropLast]; omega⟩)
  simp only [List.length_range] at l
  have z : es' = [] := List.eq_nil_of_length_eq_zero (by omega)
  subst z
  rw [e]
  exact hK
theorem right_ok {s : List D} (hb : Box 0 s) : ∃ s', m_law_right s = .ok (.bl true, s') := by
  have fin : ∀ {F : List D → D → Rs (Fl (List D) (List D))}, (∀ (M : Nat) (s0 : List D) (d : D), Box M s0 → M + 500 ≤ 5000 → ∃ s', F s0 d = .ok (.nx s') ∧ Box (M + 500) s') → ∃ s', ((Rs.of (rangeD (.int 8))).bind fun l2 => (loopM (β := Unit) F l2 s).bind (Fl.toIO fun z0 => Rs.ok (D.bl true, z0))) = .ok (D.bl true, s') := fun {F} h => by
    have r := rangeD_nat (n := 8) (by decide)
    obtain ⟨z', e, b⟩ := loopM_inv (β := Unit) (f := F) (fun (i : Nat) => D.int (0 + (i : Int))) (fun j z => Box (500 * j) z) (List.range 8) 0 s (by simpa using hb) (by
      intro j z x hx hj b
      simp only [List.length_range] at hj
      obtain ⟨s', e, b'⟩ := h _ z (D.int (0 + (x : Int))) b (by omega)
      exact ⟨s', e, b'.mono (by omega)⟩)
    refine ⟨z', ?_⟩
    have r' : rangeD (.int 8) = some ((List.range 8).map fun (i : Nat) => D.int (0 + (i : Int))) := r
    rw [r', Rs.of_some, Rs.bind_ok, e]
    rfl
  rw [m_law_right]
  refine fin ?_
  intro M s0 d hB hM
  obtain ⟨hs, s1, e1, hh, _, h4, b1⟩ := houses_ok hB (by omega)
  have h6 := hh.six
  obtain ⟨sp, s2, e2, os, b2⟩ := speeds_ok b1 (by omega) h6
  obtain ⟨r, s3, e3, r0, r1, b3⟩ := take_ok b2 (by omega) (n := 7) (by decide) (by decide)
  obtain ⟨n, hn⟩ : ∃ n : Nat, 1 + r = (n : Int) := ⟨(1 + r).toNat, by omega⟩
  have rg := rangeD_nat (n := n) (by omega)
  rw [Rs.of_some, Rs.bind_ok, Rs.bind_ok, e1, Rs.noX_ok, Rs.bind_ok, Rs.bind_ok, Rs.noX_ok, Rs.bind_ok, Rs.bind_ok, e2, Rs.noX_ok, Rs.bind_ok, made_ok, Rs.bind_ok, Rs.noX_ok, Rs.bind_ok, Rs.bind_ok, Rs.bind_ok, e3, Rs.bind_ok, addD_int, Rs.of_some, Rs.bind_ok, Rs.bind_ok, hn, rg, Rs.of_some, Rs.bind_ok, Rs.noX_ok, Rs.bind_ok]
  refine tell_laps (hs := hs) (B := 5000) (n := n) ?hG ?hK b3 (by omega) (by omega) (by omega)
  case hG =>
    intro M s es d hB hM g hn
    exact lap1 hh os hB (by omega) g hn d
  case hK =>
    intro s es g hn
    have rg2 := rangeD_nat (n := es.length) (by omega)
    show ((Rs.of (lenD [D.lst (es.map enD)])).bind fun x97 => Rs.of (rangeD x97)).bind _ = _
    rw [lenD_lst, List.length_map, Rs.of_some, Rs.bind_ok, rg2, Rs.of_some, Rs.bind_ok]
    refine back_laps ?_ ?_ g hn
    · intro es d g ne hn
      exact back_step hh g ne hn d s
    · exact back_end s
set_option exponentiation.threshold 256
theorem plain (ns : List Int) (hl : ns.length ≤ 63) (hb : ∀ i ∈ ns, Builtin.Int.intBits i ≤ 1048576) : m_law (.scr (ns.map .int)) = .ok (.bl true) := by
  have hb' : ∀ n ∈ ns, n.natAbs < 2 ^ 1048576 := fun n hn => by
    have z := hb n hn
    unfold Builtin.Int.intBits at z
    split at z
    · rename_i h0
      have e : n.natAbs = 0 := by simpa using h0
      rw [e]
      exact Nat.pow_pos (by decide)
    · exact Nat.lt_of_lt_of_le Nat.lt_log2_self (Nat.pow_le_pow_right (by decide) z)
  obtain ⟨cs, e1, c1, c2, c3⟩ := cells_ok hl (p := 1048576) (by decide) hb'
  have hr := rangeD_nat (n := cs.length) (by omega)
  have c0 := compM_all (fe := fun y2 => ((m_law_box (.lst (cs.map .int)) y2).noX).bind fun l3 => (m_law_right l3).noX.bind fun u => Rs.ok u.1) (fun (i : Nat) => D.int (0 + (i : Int))) (fun _ => .bl true) (List.range cs.length) fun k hk => by
    obtain ⟨s, e2, b⟩ := box_ok (List.mem_range.mp hk) c2 (by decide) c3
    obtain ⟨s', e3⟩ := right_ok b
    simp only [Int.zero_add, e2, Rs.noX_ok, Rs.bind_ok, e3]
  have a0 := allD_of (List.range cs.length) fun _ => true
  simp only [m_law, e1, Rs.bind_ok, byhand, Rs.noX_ok, asB_bl, Rs.of_some, if_true, lenD_lst, List.length_map, hr, c0, a0]
  simp
end LW
set_option Elab.async false
set_option linter.all false
set_option maxRecDepth 100000
set_option maxHeartbeats 0
set_option autoImplicit false
namespace LW
open PySem PySem.Spec L2 VL
open PyProof.Rows hiding St
theorem mkTxt {K : PySem.W.Frag} {mg : Str → Option Value} {h : Heap} (X : K.In h) (G : h.Ns mainGlobals mg) (c : SaysV fac fns K) : Nonempty (Txt K mg) := by
  obtain ⟨fd0, F0⟩ := c.fn_ 0 (d := df_tupled) rfl
  obtain ⟨fd1, F1⟩ := c.fn_ 1 (d := df_common_part) rfl
  obtain ⟨fd2, F2⟩ := c.fn_ 2 (d := df_fraction) rfl
  obtain ⟨fd3, F3⟩ := c.fn_ 3 (d := df_over) rfl
  obtain ⟨fd4, F4⟩ := c.fn_ 4 (d := df_is_less) rfl
  obtain ⟨fd5, F5⟩ := c.fn_ 5 (d := df_greater) rfl
  obtain ⟨fd6, F6⟩ := c.fn_ 6 (d := df_size_on) rfl
  obtain ⟨fd7, F7⟩ := c.fn_ 7 (d := df_Survey_init) rfl
  obtain ⟨fd8, F8⟩ := c.fn_ 8 (d := df_Survey_houses) rfl
  obtain ⟨fd9, F9⟩ := c.fn_ 9 (d := df_Survey_told) rfl
  obtain ⟨fd10, F10⟩ := c.fn_ 10 (d := df_Survey_len) rfl
  obtain ⟨fd11, F11⟩ := c.fn_ 11 (d := df_Survey_eq) rfl
  obtain ⟨fd12, F12⟩ := c.fn_ 12 (d := df_Survey_known) rfl
  obtain ⟨fd13, F13⟩ := c.fn_ 13 (d := df_Survey_floor_of) rfl
  obtain ⟨fd14, F14⟩ := c.fn_ 14 (d := df_BadAnswer_init) rfl
  obtain ⟨fd15, F15⟩ := c.fn_ 15 (d := df_Survey_holds) rfl
  obtain ⟨fd16, F16⟩ := c.fn_ 16 (d := df_Survey_tell) rfl
  obtain ⟨fd17, F17⟩ := c.fn_ 17 (d := df_NothingDone_init) rfl
  obtain ⟨fd18, F18⟩ := c.fn_ 18 (d := df_Survey_back) rfl
  obtain ⟨fd19, F19⟩ := c.fn_ 19 (d := df_Survey_twin) rfl
  obtain ⟨fd20, F20⟩ := c.fn_ 20 (d := df_law_box) rfl
  obtain ⟨fd21, F21⟩ := c.fn_ 21 (d := df_law_take) rfl
  obtain ⟨fd22, F22⟩ := c.fn_ 22 (d := df_law_cells) rfl
  obtain ⟨fd23, F23⟩ := c.fn_ 23 (d := df_law_same) rfl
  obtain ⟨fd24, F24⟩ := c.fn_ 24 (d := df_law_pick) rfl
  obtain ⟨fd25, F25⟩ := c.fn_ 25 (d := df_law_part) rfl
  obtain ⟨fd26, F26⟩ := c.fn_ 26 (d := df_law_ratio) rfl
  obtain ⟨fd27, F27⟩ := c.fn_ 27 (d := df_law_less) rfl
  obtain ⟨fd28, F28⟩ := c.fn_ 28 (d := df_law_most) rfl
  obtain ⟨fd29, F29⟩ := c.fn_ 29 (d := df_law_houses) rfl
  obtain ⟨fd30, F30⟩ := c.fn_ 30 (d := df_law_all_cuts) rfl
  obtain ⟨fd31, F31⟩ := c.fn_ 31 (d := df_law_on) rfl
  obtain ⟨fd32, F32⟩ := c.fn_ 32 (d := df_law_floor) rfl
  obtain ⟨fd33, F33⟩ := c.fn_ 33 (d := df_law_known) rfl
  obtain ⟨fd34, F34⟩ := c.fn_ 34 (d := df_law_speeds) rfl
  obtain ⟨fd35, F35⟩ := c.fn_ 35 (d := df_law_answer) rfl
  obtain ⟨fd36, F36⟩ := c.fn_ 36 (d := df_law_told) rfl
  obtain ⟨fd37, F37⟩ := c.fn_ 37 (d := df_law_back) rfl
  obtain ⟨fd38, F38⟩ := c.fn_ 38 (d := df_law_fits) rfl
  obtain ⟨fd39, F39⟩ := c.fn_ 39 (d := df_law_state) rfl
  obtain ⟨fd40, F40⟩ := c.fn_ 40 (d := df_law_due) rfl
  obtain ⟨fd41, F41⟩ := c.fn_ 41 (d := df_law_tries) rfl
  obtain ⟨fd42, F42⟩ := c.fn_ 42 (d := df_law_by_hand_right) rfl
  obtain ⟨fd43, F43⟩ := c.fn_ 43 (d := df_law_right) rfl
  obtain ⟨fd44, F44⟩ := c.fn_ 44 (d := df_law) rfl
  exact ⟨{
    f_ValueError := He.free_ok X G (c.fact 0 (f := freeB "ValueError") rfl)
    f_abs := He.free_ok X G (c.fact 1 (f := freeB "abs") rfl)
    f_all := He.free_ok X G (c.fact 2 (f := freeB "all") rfl)
    f_bool := He.free_ok X G (c.fact 3 (f := freeB "bool") rfl)
    f_enumerate := He.free_ok X G (c.fact 4 (f := freeB "enumerate") rfl)
    f_int := He.free_ok X G (c.fact 5 (f := freeB "int") rfl)
    f_isinstance := He.free_ok X G (c.fact 6 (f := freeB "isinstance") rfl)
    f_len := He.free_ok X G (c.fact 7 (f := freeB "len") rfl)
    f_list := He.free_ok X G (c.fact 8 (f := freeB "list") rfl)
    f_min := He.free_ok X G (c.fact 9 (f := freeB "min") rfl)
    f_range := He.free_ok X G (c.fact 10 (f := freeB "range") rfl)
    f_sorted := He.free_ok X G (c.fact 11 (f := freeB "sorted") rfl)
    f_str := He.free_ok X G (c.fact 12 (f := freeB "str") rfl)
    f_sum := He.free_ok X G (c.fact 13 (f := freeB "sum") rfl)
    f_tuple := He.free_ok X G (c.fact 14 (f := freeB "tuple") rfl)
    f_zip := He.free_ok X G (c.fact 15 (f := freeB "zip") rfl)
    g_NONE := He.glo_ok X G (c.fact 16 (f := gloB "NONE") rfl)
    c_NONE := gtupB_ok (c.fact 17 (f := gtupB "NONE" [0, 1]) rfl)
    g_Survey := He.glo_ok X G (c.fact 18 (f := gloB "Survey") rfl)
    sc_Survey := sclsB_ok (C := fun K => He.ga K "Survey") (c.fact 19 (f := sclsB (fun K => He.ga K "Survey")) rfl)
    sl_Survey_own_houses := slotB_ok (C := fun K => He.ga K "Survey") (c.fact 20 (f := slotB (fun K => He.ga K "Survey") "own_houses" 0) rfl)
    sl_Survey_own_told := slotB_ok (C := fun K => He.ga K "Survey") (c.fact 21 (f := slotB (fun K => He.ga K "Survey") "own_told" 1) rfl)
    mk_Survey := He.mkr_ok (c.fact 22 (f := mkrB "Survey") rfl)
    oe_Survey := oweqB_ok (c.fact 23 (f := oweqB "Survey") rfl)
    om_Survey___len__ := owmB_ok (c.fact 24 (f := owmB "Survey" "__len__") rfl)
    mt_Survey_back := metB_ok (c.fact 25 (f := metB "Survey" "back") rfl)
    mt_Survey_floor_of := metB_ok (c.fact 26 (f := metB "Survey" "floor_of") rfl)
    mt_Survey_holds := metB_ok (c.fact 27 (f := metB "Survey" "holds") rfl)
    mt_Survey_known := metB_ok (c.fact 28 (f := metB "Survey" "known") rfl)
    mt_Survey_tell := metB_ok (c.fact 29 (f := metB "Survey" "tell") rfl)
    mt_Survey_twin := metB_ok (c.fact 30 (f := metB "Survey" "twin") rfl)
    on_Survey := owneB_ok (c.fact 31 (f := owneB "Survey") rfl)
    ot_Survey := owitB_ok (c.fact 32 (f := owitB "Survey") rfl)
    oi_Survey := owisB_ok (c.fact 33 (f := owisB "Survey") rfl)
    g_BadAnswer := He.glo_ok X G (c.fact 34 (f := gloB "BadAnswer") rfl)
    g_NothingDone := He.glo_ok X G (c.fact 35 (f := gloB "NothingDone") rfl)
    ox_BadAnswer := oexB_ok (c.fact 36 (f := oexB "BadAnswer") rfl)
    ic_BadAnswer := xicB_ok (c.fact 37 (f := xicB "BadAnswer") rfl)
    no_BadAnswer := He.eqO_ok (c.fact 38 (f := noatB "BadAnswer" "answer") rfl)
    xf_BadAnswer := xfB_ok (c.fact 39 (f := xfcB "BadAnswer") rfl)
    xi_BadAnswer := exiB_ok (C := fun K => He.ga K "BadAnswer") (c.fact 40 (f := exiBn "BadAnswer") rfl)
    ox_NothingDone := oexB_ok (c.fact 41 (f := oexB "NothingDone") rfl)
    ic_NothingDone := xicB_ok (c.fact 42 (f := xicB "NothingDone") rfl)
    no_NothingDone := He.eqO_ok (c.fact 43 (f := noatB "NothingDone" "given") rfl)
    xf_NothingDone := xfB_ok (c.fact 44 (f := xfcB "NothingDone") rfl)
    xi_NothingDone := exiB_ok (C := fun K => He.ga K "NothingDone") (c.fact 45 (f := exiBn "NothingDone") rfl)
    ex_BadAnswer_BadAnswer := of_decide_eq_true (c.fact 46 (f := exmB "BadAnswer" "BadAnswer" true) rfl)
    ex_BadAnswer_NothingDone := of_decide_eq_true (c.fact 47 (f := exmB "BadAnswer" "NothingDone" false) rfl)
    ex_NothingDone_BadAnswer := of_decide_eq_true (c.fact 48 (f := exmB "NothingDone" "BadAnswer" false) rfl)
    ex_NothingDone_NothingDone := of_decide_eq_true (c.fact 49 (f := exmB "NothingDone" "NothingDone" true) rfl)
    kt_BadAnswer_ValueError := of_decide_eq_true (c.fact 50 (f := kitTB1 "BadAnswer" "ValueError" true) rfl)
    kt_NothingDone_ValueError := of_decide_eq_true (c.fact 51 (f := kitTB1 "NothingDone" "ValueError" true) rfl)
    kn_ValueError := of_decide_eq_true (c.fact 52 (f := kitNTB1 "ValueError" false) rfl)
    fd_tupled := fd0
    F_tupled := F0
    g_tupled := He.glo_ok X G (c.fact 53 (f := gloB "tupled") rfl)
    b_tupled := FunD.bindsN F0 fun _ _ _ _ _ _ us hl => match us, hl with | [_], _ => rfl
    fd_common_part := fd1
    F_common_part := F1
    g_common_part := He.glo_ok X G (c.fact 54 (f := gloB "common_part") rfl)
    b_common_part := FunD.bindsN F1 fun _ _ _ _ _ _ us hl => match us, hl with | [_, _], _ => rfl
    fd_fraction := fd2
    F_fraction := F2
    g_fraction := He.glo_ok X G (c.fact 55 (f := gloB "fraction") rfl)
    b_fraction := FunD.bindsN F2 fun _ _ _ _ _ _ us hl => match us, hl with | [_, _], _ => rfl
    fd_over := fd3
    F_over := F3
    g_over := He.glo_ok X G (c.fact 56 (f := gloB "over") rfl)
    b_over := FunD.bindsN F3 fun _ _ _ _ _ _ us hl => match us, hl with | [_, _], _ => rfl
    fd_is_less := fd4
    F_is_less := F4
    g_is_less := He.glo_ok X G (c.fact 57 (f := gloB "is_less") rfl)
    b_is_less := FunD.bindsN F4 fun _ _ _ _ _ _ us hl => match us, hl with | [_, _], _ => rfl
    fd_greater := fd5
    F_greater := F5
    g_greater := He.glo_ok X G (c.fact 58 (f := gloB "greater") rfl)
    b_greater := FunD.bindsN F5 fun _ _ _ _ _ _ us hl => match us, hl with | [_, _], _ => rfl
    fd_size_on := fd6
    F_size_on := F6
    g_size_on := He.glo_ok X G (c.fact 59 (f := gloB "size_on") rfl)
    b_size_on := FunD.bindsN F6 fun _ _ _ _ _ _ us hl => match us, hl with | [_, _, _], _ => rfl
    fd_Survey_init := fd7
    F_Survey_init := F7
    b_Survey_init := FunD.bindsN F7 fun _ _ _ _ _ _ us hl => match us, hl with | [_, _], _ => rfl
    fd_Survey_houses := fd8
    F_Survey_houses := F8
    b_Survey_houses := FunD.bindsN F8 fun _ _ _ _ _ _ us hl => match us, hl with | [_], _ => rfl
    pr_Survey_houses := propB_ok (C := fun K => He.ga K "Survey") (c.fact 60 (f := propB (fun K => He.ga K "Survey") "houses") rfl)
    fd_Survey_told := fd9
    F_Survey_told := F9
    b_Survey_told := FunD.bindsN F9 fun _ _ _ _ _ _ us hl => match us, hl with | [_], _ => rfl
    pr_Survey_told := propB_ok (C := fun K => He.ga K "Survey") (c.fact 61 (f := propB (fun K => He.ga K "Survey") "told") rfl)
    fd_Survey_len := fd10
    F_Survey_len := F10
    b_Survey_len := FunD.bindsN F10 fun _ _ _ _ _ _ us hl => match us, hl with | [_], _ => rfl
    fd_Survey_eq := fd11
    F_Survey_eq := F11
    b_Survey_eq := FunD.bindsN F11 fun _ _ _ _ _ _ us hl => match us, hl with | [_, _], _ => rfl
    fd_Survey_known := fd12
    F_Survey_known := F12
    b_Survey_known := FunD.bindsN F12 fun _ _ _ _ _ _ us hl => match us, hl with | [_], _ => rfl
    fd_Survey_floor_of := fd13
    F_Survey_floor_of := F13
    b_Survey_floor_of := FunD.bindsN F13 fun _ _ _ _ _ _ us hl => match us, hl with | [_, _], _ => rfl
    fd_BadAnswer_init := fd14
    F_BadAnswer_init := F14
    b_BadAnswer_init := FunD.bindsN F14 fun _ _ _ _ _ _ us hl => match us, hl with | [_, _], _ => rfl
    fd_Survey_holds := fd15
    F_Survey_holds := F15
    b_Survey_holds := FunD.bindsN F15 fun _ _ _ _ _ _ us hl => match us, hl with | [_], _ => rfl
    fd_Survey_tell := fd16
    F_Survey_tell := F16
    b_Survey_tell := FunD.bindsN F16 fun _ _ _ _ _ _ us hl => match us, hl with | [_, _, _, _], _ => rfl
    fd_NothingDone_init := fd17
    F_NothingDone_init := F17
    b_NothingDone_init := FunD.bindsN F17 fun _ _ _ _ _ _ us hl => match us, hl with | [_], _ => rfl
    fd_Survey_back := fd18
    F_Survey_back := F18
    b_Survey_back := FunD.bindsN F18 fun _ _ _ _ _ _ us hl => match us, hl with | [_], _ => rfl
    fd_Survey_twin := fd19
    F_Survey_twin := F19
    b_Survey_twin := FunD.bindsN F19 fun _ _ _ _ _ _ us hl => match us, hl with | [_], _ => rfl
    fd_law_box := fd20
    F_law_box := F20
    g_law_box := He.glo_ok X G (c.fact 62 (f := gloB "_law_box") rfl)
    b_law_box := FunD.bindsN F20 fun _ _ _ _ _ _ us hl => match us, hl with | [_, _], _ => rfl
    fd_law_take := fd21
    F_law_take := F21
    g_law_take := He.glo_ok X G (c.fact 63 (f := gloB "_law_take") rfl)
    b_law_take := FunD.bindsN F21 fun _ _ _ _ _ _ us hl => match us, hl with | [_, _], _ => rfl
    fd_law_cells := fd22
    F_law_cells := F22
    g_law_cells := He.glo_ok X G (c.fact 64 (f := gloB "_law_cells") rfl)
    b_law_cells := FunD.bindsN F22 fun _ _ _ _ _ _ us hl => match us, hl with | [_, _], _ => rfl
    fd_law_same := fd23
    F_law_same := F23
    g_law_same := He.glo_ok X G (c.fact 65 (f := gloB "_law_same") rfl)
    b_law_same := FunD.bindsN F23 fun _ _ _ _ _ _ us hl => match us, hl with | [_, _], _ => rfl
    fd_law_pick := fd24
    F_law_pick := F24
    g_law_pick := He.glo_ok X G (c.fact 66 (f := gloB "_law_pick") rfl)
    b_law_pick := FunD.bindsN F24 fun _ _ _ _ _ _ us hl => match us, hl with | [_, _, _], _ => rfl
    fd_law_part := fd25
    F_law_part := F25
    g_law_part := He.glo_ok X G (c.fact 67 (f := gloB "_law_part") rfl)
    b_law_part := FunD.bindsN F25 fun _ _ _ _ _ _ us hl => match us, hl with | [_, _], _ => rfl
    fd_law_ratio := fd26
    F_law_ratio := F26
    g_law_ratio := He.glo_ok X G (c.fact 68 (f := gloB "_law_ratio") rfl)
    b_law_ratio := FunD.bindsN F26 fun _ _ _ _ _ _ us hl => match us, hl with | [_, _], _ => rfl
    fd_law_less := fd27
    F_law_less := F27
    g_law_less := He.glo_ok X G (c.fact 69 (f := gloB "_law_less") rfl)
    b_law_less := FunD.bindsN F27 fun _ _ _ _ _ _ us hl => match us, hl with | [_, _], _ => rfl
    fd_law_most := fd28
    F_law_most := F28
    g_law_most := He.glo_ok X G (c.fact 70 (f := gloB "_law_most") rfl)
    b_law_most := FunD.bindsN F28 fun _ _ _ _ _ _ us hl => match us, hl with | [_], _ => rfl
    fd_law_houses := fd29
    F_law_houses := F29
    g_law_houses := He.glo_ok X G (c.fact 71 (f := gloB "_law_houses") rfl)
    b_law_houses := FunD.bindsN F29 fun _ _ _ _ _ _ us hl => match us, hl with | [_, _], _ => rfl
    fd_law_all_cuts := fd30
    F_law_all_cuts := F30
    g_law_all_cuts := He.glo_ok X G (c.fact 72 (f := gloB "_law_all_cuts") rfl)
    b_law_all_cuts := FunD.bindsN F30 fun _ _ _ _ _ _ us hl => match us, hl with | [_], _ => rfl
    fd_law_on := fd31
    F_law_on := F31
    g_law_on := He.glo_ok X G (c.fact 73 (f := gloB "_law_on") rfl)
    b_law_on := FunD.bindsN F31 fun _ _ _ _ _ _ us hl => match us, hl with | [_, _, _], _ => rfl
    fd_law_floor := fd32
    F_law_floor := F32
    g_law_floor := He.glo_ok X G (c.fact 74 (f := gloB "_law_floor") rfl)
    b_law_floor := FunD.bindsN F32 fun _ _ _ _ _ _ us hl => match us, hl with | [_, _, _], _ => rfl
    fd_law_known := fd33
    F_law_known := F33
    g_law_known := He.glo_ok X G (c.fact 75 (f := gloB "_law_known") rfl)
    b_law_known := FunD.bindsN F33 fun _ _ _ _ _ _ us hl => match us, hl with | [_, _], _ => rfl
    fd_law_speeds := fd34
    F_law_speeds := F34
    g_law_speeds := He.glo_ok X G (c.fact 76 (f := gloB "_law_speeds") rfl)
    b_law_speeds := FunD.bindsN F34 fun _ _ _ _ _ _ us hl => match us, hl with | [_, _], _ => rfl
    fd_law_answer := fd35
    F_law_answer := F35
    g_law_answer := He.glo_ok X G (c.fact 77 (f := gloB "_law_answer") rfl)
    b_law_answer := FunD.bindsN F35 fun _ _ _ _ _ _ us hl => match us, hl with | [_, _, _], _ => rfl
    fd_law_told := fd36
    F_law_told := F36
    g_law_told := He.glo_ok X G (c.fact 78 (f := gloB "_law_told") rfl)
    b_law_told := FunD.bindsN F36 fun _ _ _ _ _ _ us hl => match us, hl with | [_, _, _, _], _ => rfl
    fd_law_back := fd37
    F_law_back := F37
    g_law_back := He.glo_ok X G (c.fact 79 (f := gloB "_law_back") rfl)
    b_law_back := FunD.bindsN F37 fun _ _ _ _ _ _ us hl => match us, hl with | [_], _ => rfl
    fd_law_fits := fd38
    F_law_fits := F38
    g_law_fits := He.glo_ok X G (c.fact 80 (f := gloB "_law_fits") rfl)
    b_law_fits := FunD.bindsN F38 fun _ _ _ _ _ _ us hl => match us, hl with | [_, _], _ => rfl
    fd_law_state := fd39
    F_law_state := F39
    g_law_state := He.glo_ok X G (c.fact 81 (f := gloB "_law_state") rfl)
    b_law_state := FunD.bindsN F39 fun _ _ _ _ _ _ us hl => match us, hl with | [_], _ => rfl
    fd_law_due := fd40
    F_law_due := F40
    g_law_due := He.glo_ok X G (c.fact 82 (f := gloB "_law_due") rfl)
    b_law_due := FunD.bindsN F40 fun _ _ _ _ _ _ us hl => match us, hl with | [_, _], _ => rfl
    fd_law_tries := fd41
    F_law_tries := F41
    g_law_tries := He.glo_ok X G (c.fact 83 (f := gloB "_law_tries") rfl)
    b_law_tries := FunD.bindsN F41 fun _ _ _ _ _ _ us hl => match us, hl with | [_, _, _], _ => rfl
    fd_law_by_hand_right := fd42
    F_law_by_hand_right := F42
    g_law_by_hand_right := He.glo_ok X G (c.fact 84 (f := gloB "_law_by_hand_right") rfl)
    b_law_by_hand_right := FunD.bindsN F42 fun _ _ _ _ _ _ us hl => match us, hl with | [], _ => rfl
    fd_law_right := fd43
    F_law_right := F43
    g_law_right := He.glo_ok X G (c.fact 85 (f := gloB "_law_right") rfl)
    b_law_right := FunD.bindsN F43 fun _ _ _ _ _ _ us hl => match us, hl with | [_], _ => rfl
    fd_law := fd44
    F_law := F44
    g_law := He.glo_ok X G (c.fact 86 (f := gloB "law") rfl)
    b_law := FunD.bindsN F44 fun _ _ _ _ _ _ us hl => match us, hl with | [_], _ => rfl
  }⟩
def mLaw : List D → Rs D := fun ds => match ds with | [x] => m_law x | _ => .no
theorem fin {P : Program} {w : World} {K : PySem.W.Frag} {mg : Str → Option Value} {h : Heap} {fa : Addr} (X : K.In h) (G : h.Ns mainGlobals mg) (hmg : mg "law" = some (.ref fa)) (c : SaysV fac fns K) :
    ∃ (fd : FuncData) (sp : Sp), (∀ (s : Shared) (v : Value), BindsTo s fd ⟨[v], []⟩ [("_law_script", v)]) ∧ (∀ (H : Hp) (a : Addr) (ns : List Int), ns.length ≤ 63 → (∀ i ∈ ns, Builtin.Int.intBits i ≤ 1048576) → Only H → SqL K H a (ns.map V.int) → sp [.ref a] H (fun v _ => v = .bl true) fun _ _ _ => False) ∧ ∀ base : Heap, FnOk P w K mg base (L2N.CX P w) 26 fa fd ["_law_script"] sp := by
  obtain ⟨T⟩ := mkTxt X G c
  obtain rfl : fa = He.ga K "law" := by
    have e := hmg.symm.trans T.g_law
    injection e with e
    injection e
  exact ⟨T.fd_law, spM K 1 mLaw, fun s v => FunD.bindsA (ps := ["_law_script"]) T.F_law (fun _ _ _ _ _ _ us hl => match us, hl with | [_], _ => rfl) s [v] rfl, fun H a ns hl hb _ hS => end_ok hl hS (plain ns hl hb), fun base => k_law T⟩
end LW
open PySem PySem.W PySem.Calls PyProof.Rows
theorem PySem.Challenge.cw_allgather_k38_surveys_that_are_told_holds : PySem.Challenge.rw_allgather_k38_surveys_that_are_told.Holds := by
  refine LW.law_of fun said => ?_
  w_on
  refine HandSHeadRun.head_any (r := LW.R) (q := view LW.R.prog [42]) (H := LW.hk) (ob := LW.ob) (M := 20000) (loose := LW.lo) (d := HandSHeadRun.topDef LW.R.prog 42) (kwd := []) LW.ob_eq
    (by kernel_rfl) (fun s => by kernel_rfl) LW.run (by kernel_rfl) (by kernel_rfl) (by kernel_rfl) (by rfl) said LW.good_ LW.bare_ ?hw ?hc
  case hw => w_witness2
  case hc =>
    refine VL.walk_ofV (l := PySem.Challenge.rw_allgather_k38_surveys_that_are_told) (n := 63) (k := 26) (x := "_law_script") (CX := fun w => L2N.CX LW.R.prog w) rfl (by decide) (by kernel_rfl) ⟨rfl, by decide, by decide⟩ ?F VL.cx_no
    intro w mg fa h Y G hmg0
    obtain ⟨K, KX, c⟩ := Y
    have hmg : mg ("law" : PySem.Str) = some (.ref fa) := by
      have e : (HandSHeadRun.topDef LW.R.prog 42).name = ("law" : PySem.Str) := by kernel_rfl
      rw [← e]
      exact hmg0
    obtain ⟨fd, sp, h1, h2, h3⟩ := LW.fin (P := (PySem.Challenge.rw_allgather_k38_surveys_that_are_told).prog) (w := w) KX G hmg c
    exact ⟨K, fd, sp, KX, h1, h2, fun base _ _ => h3 base⟩
