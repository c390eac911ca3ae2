import PyProof.Rows.All
import Wide.All
import OpenK.AllK
import Wide.FinOn
import HandS.ForMost
import HandS.Exc
import HandS.ExcOwn
import HandS.TryOnly
import HandS.WordsExc
import HandS.CallSlots
import HandS.Flow
import HandS.Deep
import HandS.TupAny
import HandS.TupMul
import HandS.Wide
import HandS.Slots
import HandS.SlotsOwn
import HandS.IsInst
import HandS.Zip
import HandS.Conv
import HandS.Star
import HandS.Defaults
import HandS.Head0
import HandS.Head1
import HandS.Head2
import HandS.HeadEnd
import HandS.HeadHook1
import HandS.HeadHook2
import KE.KTupSum
import HandS.TupLe
import KE.GoesNew
import PyProof.EnumMake
import HandS.ClsMeth
import HandS.HeadNt
import KE.SortCalls
import HandS.ExcValue
import HandS.Text
import HandS.Style
import HandS.Codes
import PyProof.ListStr
import PyProof.CollectStr
import PyProof.TupleCall
import KE.KRevSl
import HandS.TryMany
import HandS.ExcInit
import HandS.ExcField
import KE.KExcIs
import KE.KDictZip
import HandS.EndBits
import HandS.Dict
import HandS.More
import HandS.DictTup
import HandS.Iter
import HandS.DictComp
import PySem.Challenge.RW_allgather_k00_errors
set_option Elab.async false
set_option linter.all false
set_option maxRecDepth 100000
set_option autoImplicit false
namespace VL
open PySem PySem.Spec L2
open PyProof.Rows hiding St

/-! ### data as trees -/
inductive D where
  | non | bl (b : Bool) | int (i : Int) | str (x : Str) | tup (xs : List D) | lst (xs : List D) | scr (xs : List D)
  | obj (c : Str) (xs : List D) | dT (kvs : List (List Key × D)) | dK (kvs : List (Key × D)) | exn (c : Str) (fs : List (Str × D))

/-- how a step ends: a value, an error of the program (class name, fields), or nothing that is told -/
inductive Rs (α : Type) where
  | ok (a : α) | ex (c : Str) (fs : List (Str × D)) | no
def Rs.bind {α β : Type} (m : Rs α) (f : α → Rs β) : Rs β := match m with
  | .ok a => f a
  | .ex c fs => .ex c fs
  | .no => .no
instance : Monad Rs where
  pure := Rs.ok
  bind := Rs.bind
@[simp] theorem bind_ok {α β : Type} (a : α) (f : α → Rs β) : (Rs.ok a >>= f) = f a := rfl
@[simp] theorem bind_ex {α β : Type} (c : Str) (fs : List (Str × D)) (f : α → Rs β) : ((Rs.ex c fs : Rs α) >>= f) = .ex c fs := rfl
@[simp] theorem bind_no {α β : Type} (f : α → Rs β) : ((Rs.no : Rs α) >>= f) = .no := rfl
@[simp] theorem pure_ok {α : Type} (a : α) : (pure a : Rs α) = .ok a := rfl
@[simp] theorem Rs.bind_ok {α β : Type} (a : α) (f : α → Rs β) : (Rs.ok a).bind f = f a := rfl
@[simp] theorem Rs.bind_ex {α β : Type} (c : Str) (fs : List (Str × D)) (f : α → Rs β) : (Rs.ex c fs : Rs α).bind f = .ex c fs := rfl
@[simp] theorem Rs.bind_no {α β : Type} (f : α → Rs β) : (Rs.no : Rs α).bind f = .no := rfl

/-! ### a heap holds data -/
/-- a caught error, kept as a thing of the heap: its class, its own dict -/
def xO (cls : Value) (d : Option Addr) (a : Addr) : HO := .ext fun h => ∃ (oe : Obj) (vs : Array Value), h.get? a = some oe ∧ Zc cls d oe ∧ oe.data = .fields vs
/-- a tuple that is tracked, or a written tuple of ints -/
def TupR (K : PySem.W.Frag) (F : Hp) (a : Addr) (xs : List V) : Prop := F a = some (.tup xs) ∨ (SqT K (fun _ => none) a xs ∧ ∀ x ∈ xs, ∃ i : Int, x = .int i)
theorem TupR.sq {K : PySem.W.Frag} {F : Hp} {a : Addr} {xs : List V} (h : TupR K F a xs) : SqT K F a xs := by
  rcases h with h | ⟨(h | ⟨o, h⟩) | h, _⟩
  · exact .inl (.inl h)
  · cases h
  · cases h
  · exact .inr h
theorem TupR.same {K : PySem.W.Frag} {F F' : Hp} {a : Addr} {xs : List V} (e : Same F F') (h : TupR K F a xs) : TupR K F' a xs := by
  rcases h with h | h
  · exact .inl (e _ _ h)
  · exact .inr h
mutual
inductive Rep (K : PySem.W.Frag) (F : Hp) : V → D → Prop
  | non : Rep K F .non .non
  | bl (b : Bool) : Rep K F (.bl b) (.bl b)
  | int (i : Int) : Rep K F (.int i) (.int i)
  | str (x : Str) : Rep K F (.str x) (.str x)
  | lst {a : Addr} {xs : List V} {ds : List D} : F a = some (.lst xs) → xs.length ≤ sizeLine → Reps K F xs ds → Rep K F (.ref a) (.lst ds)
  | scr {a : Addr} {xs : List V} {ds : List D} : SqL K F a xs → xs.length ≤ sizeLine → Reps K F xs ds → Rep K F (.ref a) (.scr ds)
  | tup {a : Addr} {xs : List V} {ds : List D} : TupR K F a xs → xs.length ≤ sizeLine → Reps K F xs ds → Rep K F (.ref a) (.tup ds)
  | obj {a dx : Addr} {c : Str} {xs : List V} {ds : List D} : F a = some (SlX.SlO a (He.ga K c) dx (xs.map some)) → F dx = some (.xd []) → Reps K F xs ds → Rep K F (.ref a) (.obj c ds)
  | dT {a : Addr} {o : Obj} {kvs : List (List Key × V)} {es : List (List Key × D)} : F a = some (.frz o (.dT kvs)) → kvs.map (·.1) = es.map (·.1) → Reps K F (kvs.map (·.2)) (es.map (·.2)) → Rep K F (.ref a) (.dT es)
  | dK {a : Addr} {o : Obj} {kvs : List (Key × V)} {es : List (Key × D)} : F a = some (.frz o (.dK kvs)) → kvs.map (·.1) = es.map (·.1) → Reps K F (kvs.map (·.2)) (es.map (·.2)) → Rep K F (.ref a) (.dK es)
  | exn {a dd : Addr} {c : Str} {vs : List (Str × V)} {fs : List (Str × D)} : F a = some (xO (.ref (He.ga K c)) (some dd) a) → F dd = some (.xd vs) → vs.map (·.1) = fs.map (·.1) → Reps K F (vs.map (·.2)) (fs.map (·.2)) → Rep K F (.ref a) (.exn c fs)
inductive Reps (K : PySem.W.Frag) (F : Hp) : List V → List D → Prop
  | nil : Reps K F [] []
  | cons {v : V} {vs : List V} {d : D} {ds : List D} : Rep K F v d → Reps K F vs ds → Reps K F (v :: vs) (d :: ds)
end
theorem SqL.same {K : PySem.W.Frag} {H H' : Hp} {a : Addr} {xs : List V} (e : Same H H') (h : SqL K H a xs) : SqL K H' a xs := by
  rcases h with (h | ⟨o, h⟩) | h
  · exact .inl (.inl (e _ _ h))
  · exact .inl (.inr ⟨o, e _ _ h⟩)
  · exact .inr h
theorem SqT.same {K : PySem.W.Frag} {H H' : Hp} {a : Addr} {xs : List V} (e : Same H H') (h : SqT K H a xs) : SqT K H' a xs := by
  rcases h with (h | ⟨o, h⟩) | h
  · exact .inl (.inl (e _ _ h))
  · exact .inl (.inr ⟨o, e _ _ h⟩)
  · exact .inr h
mutual
theorem Rep.mono {K : PySem.W.Frag} {F F' : Hp} (e : Same F F') : ∀ {v : V} {d : D}, Rep K F v d → Rep K F' v d
  | _, _, .non => .non
  | _, _, .bl b => .bl b
  | _, _, .int i => .int i
  | _, _, .str x => .str x
  | _, _, .lst h l r => .lst (e _ _ h) l (Reps.mono e r)
  | _, _, .scr h l r => .scr (SqL.same e h) l (Reps.mono e r)
  | _, _, .tup h l r => .tup (TupR.same e h) l (Reps.mono e r)
  | _, _, .obj h h2 r => .obj (e _ _ h) (e _ _ h2) (Reps.mono e r)
  | _, _, .dT h h2 r => .dT (e _ _ h) h2 (Reps.mono e r)
  | _, _, .dK h h2 r => .dK (e _ _ h) h2 (Reps.mono e r)
  | _, _, .exn h h1 h2 r => .exn (e _ _ h) (e _ _ h1) h2 (Reps.mono e r)
theorem Reps.mono {K : PySem.W.Frag} {F F' : Hp} (e : Same F F') : ∀ {v : List V} {d : List D}, Reps K F v d → Reps K F' v d
  | _, _, .nil => .nil
  | _, _, .cons h r => .cons (Rep.mono e h) (Reps.mono e r)
end
section
variable {K : PySem.W.Frag} {F : Hp}
theorem Reps.length : ∀ {vs : List V} {ds : List D}, Reps K F vs ds → vs.length = ds.length
  | _, _, .nil => rfl
  | _, _, .cons _ r => congrArg (· + 1) (Reps.length r)
theorem Reps.get : ∀ {vs : List V} {ds : List D} {i : Nat} {d : D}, Reps K F vs ds → ds[i]? = some d → ∃ v, vs[i]? = some v ∧ Rep K F v d
  | _, _, _, _, .nil, h => by simp at h
  | _, _, 0, _, .cons h _, e => ⟨_, rfl, by simp at e; exact e ▸ h⟩
  | _, _, i + 1, _, .cons _ r, e => by
    obtain ⟨v, h1, h2⟩ := Reps.get (i := i) r (by simpa using e)
    exact ⟨v, by simpa using h1, h2⟩
theorem Reps.getV : ∀ {vs : List V} {ds : List D} {i : Nat} {v : V}, Reps K F vs ds → vs[i]? = some v → ∃ d, ds[i]? = some d ∧ Rep K F v d
  | _, _, _, _, .nil, h => by simp at h
  | _, _, 0, _, .cons h _, e => ⟨_, rfl, by simp at e; exact e ▸ h⟩
  | _, _, i + 1, _, .cons _ r, e => by
    obtain ⟨v, h1, h2⟩ := Reps.getV (i := i) r (by simpa using e)
    exact ⟨v, by simpa using h1, h2⟩
theorem Reps.append : ∀ {vs ws : List V} {ds es : List D}, Reps K F vs ds → Reps K F ws es → Reps K F (vs ++ ws) (ds ++ es)
  | _, _, _, _, .nil, s => s
  | _, _, _, _, .cons h r, s => .cons h (r.append s)
theorem Reps.take : ∀ {vs : List V} {ds : List D} (n : Nat), Reps K F vs ds → Reps K F (vs.take n) (ds.take n)
  | _, _, 0, _ => .nil
  | _, _, _ + 1, .nil => .nil
  | _, _, n + 1, .cons h r => .cons h (r.take n)
theorem Reps.drop : ∀ {vs : List V} {ds : List D} (n : Nat), Reps K F vs ds → Reps K F (vs.drop n) (ds.drop n)
  | _, _, 0, r => r
  | _, _, _ + 1, .nil => .nil
  | _, _, n + 1, .cons _ r => r.drop n
theorem Reps.set : ∀ {vs : List V} {ds : List D} {v : V} {d : D} (i : Nat), Rep K F v d → Reps K F vs ds → Reps K F (vs.set i v) (ds.set i d)
  | _, _, _, _, _, _, .nil => .nil
  | _, _, _, _, 0, h, .cons _ r => .cons h r
  | _, _, _, _, i + 1, h, .cons q r => .cons q (r.set i h)
theorem Reps.one {v : V} {d : D} (h : Rep K F v d) : Reps K F [v] [d] := .cons h .nil
theorem Reps.eraseIdx : ∀ {vs : List V} {ds : List D} (i : Nat), Reps K F vs ds → Reps K F (vs.eraseIdx i) (ds.eraseIdx i)
  | _, _, _, .nil => by simp only [List.eraseIdx_nil]; exact .nil
  | _, _, 0, .cons _ r => r
  | _, _, i + 1, .cons q r => .cons q (r.eraseIdx i)
end

/-! ### growth -/
/-- a tuple of flat keys -/
def Tpl (o : HO) : Prop := ∃ ks : List Key, o = .tup (ks.map kV)
def nT (o : HO) : Prop := ∀ xs, o ≠ .tup xs
/-- free so far, or a tuple of flat keys that stood there -/
def Nw (H : Hp) (a : Addr) (o : HO) : Prop := H a = none ∨ (Tpl o ∧ H a = some o)
theorem Nw.not {H : Hp} {a : Addr} {o o' : HO} (n : Nw H a o) (h : H a = some o') (t : nT o') : False := by
  rcases n with n | ⟨⟨ks, rfl⟩, n⟩
  · rw [n] at h; cases h
  · rw [n] at h; cases h; exact t _ rfl
theorem Nw.back {H H' : Hp} {a : Addr} {o : HO} (n : Nw H' a o) (s : ∀ o', H a = some o' → H' a = some o') : Nw H a o := by
  cases q : H a with
  | none => exact .inl q
  | some o' =>
    rcases n with n | ⟨t, n⟩
    · rw [s _ q] at n; cases n
    · have n2 := n
      rw [s _ q] at n2; cases n2; exact .inr ⟨t, q⟩
/-- F: what is frozen, H: what is tracked; all that stood stands, what is newly frozen was free -/
structure Ext (F H F' H' : Hp) : Prop where
  same : Same H H'
  sub : Same F' H'
  ext : Same F F'
  new : ∀ a o, F' a = some o → F a = some o ∨ Nw H a o
theorem Ext.refl {F H : Hp} (s : Same F H) : Ext F H F H := ⟨Same.refl H, s, Same.refl F, fun _ _ h => .inl h⟩
theorem Ext.trans {F H F1 H1 F2 H2 : Hp} (a : Ext F H F1 H1) (b : Ext F1 H1 F2 H2) : Ext F H F2 H2 :=
  ⟨a.same.trans b.same, b.sub, a.ext.trans b.ext, fun x o h => by
    rcases b.new x o h with h | h
    · exact a.new x o h
    · exact .inr (h.back fun o' q => a.same _ _ q)⟩
theorem same_upd {H : Hp} {p : Addr} {o : HO} (h : H p = none) : Same H (upd H p o) := fun b x e => by
  rw [upd_ne (ne_of_none e h)]
  exact e
theorem sub_none {F H : Hp} (s : Same F H) {p : Addr} (h : H p = none) : F p = none := s.free h
theorem sub_upd {F H : Hp} (s : Same F H) (p : Addr) (o : HO) : Same (upd F p o) (upd H p o) := fun b x e => by
  by_cases hb : b = p
  · subst hb
    rw [upd_same] at e
    rw [upd_same]
    exact e
  · rw [upd_ne hb] at e
    rw [upd_ne hb]
    exact s _ _ e
/-- a new frozen object -/
theorem Ext.fresh {F H : Hp} (s : Same F H) {p : Addr} (o : HO) (h : H p = none) : Ext F H (upd F p o) (upd H p o) :=
  ⟨same_upd h, sub_upd s p o, same_upd (sub_none s h), fun b x e => by
    by_cases hb : b = p
    · subst hb
      exact .inr (.inl h)
    · rw [upd_ne hb] at e
      exact .inl e⟩
/-- a new object that is not frozen -/
theorem Ext.loose {F H : Hp} (s : Same F H) {p : Addr} (o : HO) (h : H p = none) : Ext F H F (upd H p o) :=
  ⟨same_upd h, fun b x e => same_upd h b x (s b x e), Same.refl F, fun _ _ e => .inl e⟩
end VL
set_option Elab.async false
set_option linter.all false
set_option maxRecDepth 100000
set_option autoImplicit false
namespace VL
open PySem PySem.Spec L2
open PyProof.Rows hiding St

/-! ### owned cells, environments -/
inductive Own (K : PySem.W.Frag) (F H : Hp) (a : Addr) : D → Prop
  | lst {xs : List V} {ds : List D} : H a = some (.lst xs) → xs.length ≤ sizeLine → Reps K F xs ds → Own K F H a (.lst ds)
  | dT {kvs : List (List Key × V)} {es : List (List Key × D)} : H a = some (.dT kvs) → kvs.map (·.1) = es.map (·.1) → Reps K F (kvs.map (·.2)) (es.map (·.2)) → Own K F H a (.dT es)
  | dK {kvs : List (Key × V)} {es : List (Key × D)} : H a = some (.dK kvs) → kvs.map (·.1) = es.map (·.1) → Reps K F (kvs.map (·.2)) (es.map (·.2)) → Own K F H a (.dK es)
  | obj {dx : Addr} {c : Str} {xs : List V} {ds : List D} : H a = some (SlX.SlO a (He.ga K c) dx (xs.map some)) → F dx = some (.xd []) → Reps K F xs ds → Own K F H a (.obj c ds)
theorem Own.there {K : PySem.W.Frag} {F H : Hp} {a : Addr} {d : D} (h : Own K F H a d) : ∃ o, H a = some o ∧ nT o := by
  cases h with
  | lst h _ _ => exact ⟨_, h, fun _ z => nomatch z⟩
  | dT h _ _ => exact ⟨_, h, fun _ z => nomatch z⟩
  | dK h _ _ => exact ⟨_, h, fun _ z => nomatch z⟩
  | obj h _ _ => exact ⟨_, h, fun _ z => nomatch z⟩
theorem Own.move {K : PySem.W.Frag} {F H F' H' : Hp} {a : Addr} {d : D} (e : Same F F') (hs : H' a = H a) (h : Own K F H a d) : Own K F' H' a d := by
  cases h with
  | lst h l r => exact .lst (hs.trans h) l (r.mono e)
  | dT h l r => exact .dT (hs.trans h) l (r.mono e)
  | dK h l r => exact .dK (hs.trans h) l (r.mono e)
  | obj h l r => exact .obj (hs.trans h) (e _ _ l) (r.mono e)
theorem Own.ext {K : PySem.W.Frag} {F H F' H' : Hp} {a : Addr} {d : D} (e : Ext F H F' H') (h : Own K F H a d) : Own K F' H' a d := by
  obtain ⟨o, q, _⟩ := h.there
  exact h.move e.ext ((e.same _ _ q).trans q.symm)
/-- data that can be frozen as it stands: no dict -/
def D.frzd : D → Bool
  | .dT _ => false
  | .dK _ => false
  | _ => true
theorem Own.rep {K : PySem.W.Frag} {F H : Hp} {a : Addr} {d : D} (h : Own K F H a d) (hd : d.frzd = true) (s : Same F H) (hn : F a = none) : ∃ o, H a = some o ∧ Rep K (upd F a o) (.ref a) d := by
  cases h with
  | lst h l r => exact ⟨_, h, .lst upd_same l (r.mono (same_upd hn))⟩
  | dT h l r => cases hd
  | dK h l r => cases hd
  | obj h l r => exact ⟨_, h, .obj upd_same (same_upd hn _ _ l) (r.mono (same_upd hn))⟩

inductive Cl where
  | val (d : D) | own (l : Bool) (d : D)
abbrev Rho := List (Option Cl)
/-- the ground of a def: what was frozen and tracked at its entry, the cells handed in to be changed -/
structure Gd where
  F0 : Hp
  H0 : Hp
  bs : List Addr
/-- the same def, another look at what was frozen -/
def Gd.at (G : Gd) (F : Hp) : Gd := { G with F0 := F }
/-- made in the def (true), handed in (false) -/
def OwnAt (G : Gd) (a : Addr) : Bool → Prop
  | true => G.H0 a = none ∧ a ∉ G.bs
  | false => a ∈ G.bs
/-- free at the entry, or a tuple of flat keys that stood there -/
def NwG (G : Gd) (a : Addr) (o : HO) : Prop := (G.H0 a = none ∧ a ∉ G.bs) ∨ (Tpl o ∧ G.H0 a = some o ∧ a ∉ G.bs)
structure Gnd (K : PySem.W.Frag) (G : Gd) (F H : Hp) : Prop where
  sub : Same F H
  base : ∀ a o, G.H0 a = some o → a ∉ G.bs → H a = some o
  bsT : ∀ a, a ∈ G.bs → ∃ o, H a = some o ∧ nT o
  ext : Same G.F0 F
  new : ∀ a o, F a = some o → G.F0 a = some o ∨ NwG G a o
structure Holds (K : PySem.W.Frag) (G : Gd) (ρ : Rho) (σ : St) (F H : Hp) : Prop extends Gnd K G F H where
  val : ∀ (i : Nat) (d : D), ρ[i]? = some (some (Cl.val d)) → ∃ v, σ[i]? = some (some v) ∧ Rep K F v d
  own : ∀ (i : Nat) (l : Bool) (d : D), ρ[i]? = some (some (Cl.own l d)) → ∃ a, σ[i]? = some (some (V.ref a)) ∧ F a = none ∧ OwnAt G a l ∧ Own K F H a d
  sep : ∀ (i j : Nat) (l m : Bool) (d e : D) (a : Addr), i ≠ j → ρ[i]? = some (some (Cl.own l d)) → ρ[j]? = some (some (Cl.own m e)) → σ[i]? = some (some (V.ref a)) → σ[j]? = some (some (V.ref a)) → False
  len : ρ.length ≤ σ.length
section
variable {K : PySem.W.Frag} {G : Gd} {ρ : Rho} {σ : St} {F H F' H' : Hp}
theorem Gnd.nwG {a : Addr} {o : HO} (g : Gnd K G F H) (h : Nw H a o) : NwG G a o := by
  have nb : a ∉ G.bs := fun hb => by
    obtain ⟨o2, q2, t⟩ := g.bsT a hb
    exact h.not q2 t
  cases q : G.H0 a with
  | none => exact .inl ⟨q, nb⟩
  | some o' =>
    rcases h with h | ⟨t, h⟩
    · rw [g.base a o' q nb] at h
      cases h
    · rw [g.base a o' q nb] at h
      cases h
      exact .inr ⟨t, q, nb⟩
theorem Gnd.more (g : Gnd K G F H) (e : Ext F H F' H') : Gnd K G F' H' where
  sub := e.sub
  base := fun a o h hb => e.same _ _ (g.base a o h hb)
  bsT := fun a hb => by
    obtain ⟨o, q, t⟩ := g.bsT a hb
    exact ⟨o, e.same _ _ q, t⟩
  ext := g.ext.trans e.ext
  new := fun a o h => by
    rcases e.new a o h with h | h
    · exact g.new a o h
    · exact .inr (g.nwG h)
theorem Holds.more (h : Holds K G ρ σ F H) (e : Ext F H F' H') : Holds K G ρ σ F' H' where
  toGnd := h.toGnd.more e
  val := fun i d q => by
    obtain ⟨v, h1, h2⟩ := h.val i d q
    exact ⟨v, h1, h2.mono e.ext⟩
  own := fun i l d q => by
    obtain ⟨a, h1, h2, h3, h4⟩ := h.own i l d q
    refine ⟨a, h1, ?_, h3, h4.ext e⟩
    cases q2 : F' a with
    | none => rfl
    | some o =>
      rcases e.new a o q2 with z | z
      · rw [h2] at z
        cases z
      · obtain ⟨o2, z2, t⟩ := h4.there
        exact (z.not z2 t).elim
  sep := h.sep
  len := h.len
end

/-! ### what is wanted of an outcome -/
/-- an error's own dict, frozen -/
def XRep (K : PySem.W.Frag) (F : Hp) (dd : Addr) (fs : List (Str × D)) : Prop := ∃ vs : List (Str × V), F dd = some (.xd vs) ∧ vs.map (·.1) = fs.map (·.1) ∧ Reps K F (vs.map (·.2)) (fs.map (·.2))
def Post {α β : Type} (K : PySem.W.Frag) (Rl : Hp → Hp → α → β → Prop) (W : XK) (F H : Hp) (Q : α → Hp → Prop) : Rs β → Prop
  | .ok d => ∀ v F' H', Ext F H F' H' → Rl F' H' v d → Q v H'
  | .ex c fs => ∀ dd F' H', Ext F H F' H' → XRep K F' dd fs → W (.ref (He.ga K c)) (some dd) H'
  | .no => False
theorem Post.more {α β : Type} {K : PySem.W.Frag} {Rl : Hp → Hp → α → β → Prop} {W : XK} {F H F' H' : Hp} {Q : α → Hp → Prop} {m : Rs β} (h : Post K Rl W F H Q m) (e : Ext F H F' H') : Post K Rl W F' H' Q m := by
  cases m with
  | ok d => exact fun v F2 H2 e2 r => h v F2 H2 (e.trans e2) r
  | ex c fs => exact fun dd F2 H2 e2 r => h dd F2 H2 (e.trans e2) r
  | no => exact h
theorem Post.bind {α β γ δ : Type} {K : PySem.W.Frag} {R1 : Hp → Hp → α → β → Prop} {R2 : Hp → Hp → γ → δ → Prop} {W : XK} {F H : Hp} {Q1 : α → Hp → Prop} {Q : γ → Hp → Prop} {m : Rs β} {f : β → Rs δ}
    (h : Post K R2 W F H Q (m.bind f)) (k : ∀ d v F' H', Ext F H F' H' → R1 F' H' v d → Post K R2 W F' H' Q (f d) → Q1 v H') : Post K R1 W F H Q1 m := by
  cases m with
  | ok d => exact fun v F2 H2 e2 r => k d v F2 H2 e2 r (Post.more h e2)
  | ex c fs => exact h
  | no => exact h
/-- the last step gives just what is wanted -/
theorem Post.imp {α β γ : Type} {K : PySem.W.Frag} {R1 : Hp → Hp → α → β → Prop} {R2 : Hp → Hp → γ → β → Prop} {W : XK} {F H : Hp} {Q1 : α → Hp → Prop} {Q : γ → Hp → Prop} {m : Rs β}
    (h : Post K R2 W F H Q m) (k : ∀ d v F' H', Ext F H F' H' → R1 F' H' v d → (∀ u F2 H2, Ext F' H' F2 H2 → R2 F2 H2 u d → Q u H2) → Q1 v H') : Post K R1 W F H Q1 m := by
  cases m with
  | ok d => exact fun v F2 H2 e2 r => k d v F2 H2 e2 r fun u F3 H3 e3 r3 => h u F3 H3 (e2.trans e3) r3
  | ex c fs => exact h
  | no => exact h
def Rs.of {α : Type} : Option α → Rs α
  | some a => .ok a
  | none => .no
@[simp] theorem Rs.of_some {α : Type} (a : α) : Rs.of (some a) = .ok a := rfl
@[simp] theorem Rs.of_none {α : Type} : (Rs.of (none : Option α)) = .no := rfl
theorem Post.of {α β : Type} {K : PySem.W.Frag} {Rl : Hp → Hp → α → β → Prop} {W : XK} {F H : Hp} {Q : α → Hp → Prop} {o : Option β} (h : Post K Rl W F H Q (Rs.of o)) : ∃ d, o = some d ∧ ∀ v F' H', Ext F H F' H' → Rl F' H' v d → Q v H' := by
  cases o with
  | none => exact h.elim
  | some d => exact ⟨d, rfl, h⟩

/-- data that is frozen, or an owned cell -/
def RepH (K : PySem.W.Frag) (F H : Hp) (v : V) (d : D) : Prop := Rep K F v d ∨ ∃ a, v = .ref a ∧ Own K F H a d
theorem RepH.more {K : PySem.W.Frag} {F H F' H' : Hp} {v : V} {d : D} (h : RepH K F H v d) (e : Ext F H F' H') : RepH K F' H' v d := by
  rcases h with h | ⟨a, h, q⟩
  · exact .inl (h.mono e.ext)
  · exact .inr ⟨a, h, q.ext e⟩
abbrev RF (K : PySem.W.Frag) : Hp → Hp → V → D → Prop := fun F _ v d => Rep K F v d
abbrev RL (K : PySem.W.Frag) : Hp → Hp → List V → List D → Prop := fun F _ v d => Reps K F v d
abbrev RB : Hp → Hp → Bool → Bool → Prop := fun _ _ b c => b = c

/-! ### judgements -/
/-- an expression gives what m tells: frozen data -/
def EV (X : Cx) (G : Gd) (W : WX) (ρ : Rho) (e : Expr) (m : Rs D) : Prop :=
  ∃ t, PE X e t ∧ ∀ F0 σ F H Q, Holds X.K (G.at F0) ρ σ F H → Post X.K (RF X.K) (fun c d H => W c d σ H) F H Q m → t σ H Q
/-- .. frozen data or an owned cell -/
def EO (X : Cx) (G : Gd) (W : WX) (ρ : Rho) (e : Expr) (m : Rs D) : Prop :=
  ∃ t, PE X e t ∧ ∀ F0 σ F H Q, Holds X.K (G.at F0) ρ σ F H → Post X.K (RepH X.K) (fun c d H => W c d σ H) F H Q m → t σ H Q
/-- a new list that nobody else has -/
abbrev RN (K : PySem.W.Frag) (H : Hp) : Hp → Hp → V → List D → Prop := fun F' H' v ds => ∃ a, v = .ref a ∧ H a = none ∧ F' a = none ∧ Own K F' H' a (.lst ds)
def EF (X : Cx) (G : Gd) (W : WX) (ρ : Rho) (e : Expr) (m : Rs (List D)) : Prop :=
  ∃ t, PE X e t ∧ ∀ F0 σ F H Q, Holds X.K (G.at F0) ρ σ F H → Post X.K (RN X.K H) (fun c d H => W c d σ H) F H Q m → t σ H Q
def AV (X : Cx) (G : Gd) (W : WX) (ρ : Rho) (es : List Expr) (m : Rs (List D)) : Prop :=
  (∀ ds, m = .ok ds → ds.length = es.length) ∧ ∃ t, PA X es t ∧ ∀ F0 σ F H Q, Holds X.K (G.at F0) ρ σ F H → Post X.K (RL X.K) (fun c d H => W c d σ H) F H Q m → t σ H Q
def TV (X : Cx) (G : Gd) (W : WX) (ρ : Rho) (e : Expr) (m : Rs Bool) : Prop :=
  ∃ t, PT X e t ∧ ∀ F0 σ F H Q, Holds X.K (G.at F0) ρ σ F H → Post X.K RB (fun c d H => W c d σ H) F H Q m → t σ H Q
section
variable {X : Cx} {G : Gd} {W : WX} {ρ : Rho} {e : Expr} {m : Rs D}
theorem EV.o (h : EV X G W ρ e m) : EO X G W ρ e m := by
  obtain ⟨t, p, q⟩ := h
  refine ⟨t, p, fun F0 σ F H Q hh hp => q F0 σ F H Q hh ?_⟩
  exact hp.imp fun d v F' H' e1 r k => k v F' H' (Ext.refl e1.sub) (.inl r)
theorem ev_var {i : Nat} {x : Str} {pos : Pos} {d : D} (hi : ρ[i]? = some (some (.val d))) (h : PE X (.Name x pos) (tVar i)) : EV X G W ρ (.Name x pos) (.ok d) :=
  ⟨_, h, fun F0 σ F H Q hh hp => by
    obtain ⟨v, h1, h2⟩ := hh.val i d hi
    exact ⟨v, h1, hp v F H (Ext.refl hh.sub) h2⟩⟩
theorem eo_var {i : Nat} {x : Str} {pos : Pos} {l : Bool} {d : D} (hi : ρ[i]? = some (some (.own l d))) (h : PE X (.Name x pos) (tVar i)) : EO X G W ρ (.Name x pos) (.ok d) :=
  ⟨_, h, fun F0 σ F H Q hh hp => by
    obtain ⟨a, h1, h2, h3, h4⟩ := hh.own i l d hi
    exact ⟨_, h1, hp _ F H (Ext.refl hh.sub) (.inr ⟨a, rfl, h4⟩)⟩⟩
theorem ev_c {v : V} {d : D} (h : PE X e (tC v)) (r : ∀ F, Rep X.K F v d) : EV X G W ρ e (.ok d) :=
  ⟨_, h, fun F0 σ F H Q hh hp => hp v F H (Ext.refl hh.sub) (r F)⟩
theorem ev_int {i : Int} {j pos} : EV X G W ρ (.Constant (.int i) j pos) (.ok (.int i)) := ev_c pe_int fun _ => .int i
theorem ev_bl {b : Bool} {j pos} : EV X G W ρ (.Constant (.bool b) j pos) (.ok (.bl b)) := ev_c pe_bl fun _ => .bl b
theorem ev_non {j pos} : EV X G W ρ (.Constant .none j pos) (.ok .non) := ev_c pe_non fun _ => .non
theorem ev_str {x : Str} {j pos} : EV X G W ρ (.Constant (.str x) j pos) (.ok (.str x)) := ev_c pe_str fun _ => .str x

/-- operators by data -/
def R2ok (K : PySem.W.Frag) (r : R2) (f : D → D → Option D) : Prop := ∀ {x y : V} {dx dy : D} {F H : Hp} {Q : VK} {d : D}, Same F H → RepH K F H x dx → RepH K F H y dy → f dx dy = some d →
  (∀ v F' H', Ext F H F' H' → Rep K F' v d → Q v H') → r x y H Q
def R1ok (K : PySem.W.Frag) (r : V → Hp → VK → Prop) (f : D → Option D) : Prop := ∀ {x : V} {dx : D} {F H : Hp} {Q : VK} {d : D}, Same F H → RepH K F H x dx → f dx = some d →
  (∀ v F' H', Ext F H F' H' → Rep K F' v d → Q v H') → r x H Q
variable {a b c : Expr} {ma mb mc : Rs D} {pos : Pos}
theorem bin_ok {r : R2} {f : D → D → Option D} {ta tb : TE} (hf : R2ok X.K r f)
    (qa : ∀ F0 σ F H Q, Holds X.K (G.at F0) ρ σ F H → Post X.K (RepH X.K) (fun c d H => W c d σ H) F H Q ma → ta σ H Q) (qb : ∀ F0 σ F H Q, Holds X.K (G.at F0) ρ σ F H → Post X.K (RepH X.K) (fun c d H => W c d σ H) F H Q mb → tb σ H Q)
    {F0 : Hp} {σ : St} {F H : Hp} {Q : VK} (hh : Holds X.K (G.at F0) ρ σ F H) (hp : Post X.K (RF X.K) (fun c d H => W c d σ H) F H Q (ma.bind fun x => mb.bind fun y => Rs.of (f x y))) : ta σ H fun x H1 => tb σ H1 fun y H2 => r x y H2 Q := by
  refine qa F0 σ F H _ hh (hp.bind fun dx x F1 H1 e1 r1 hp1 => ?_)
  refine qb F0 σ F1 H1 _ (hh.more e1) (hp1.bind fun dy y F2 H2 e2 r2 hp2 => ?_)
  obtain ⟨d, hd, k⟩ := hp2.of
  exact hf e2.sub (r1.more e2) r2 hd k
theorem ev_bin {op : Operator} {r : R2} {f : D → D → Option D} (ho : OpR X (binaryOp op) r) (hf : R2ok X.K r f) (ha : EO X G W ρ a ma) (hb : EO X G W ρ b mb) : EV X G W ρ (.BinOp a op b pos) (ma.bind fun x => mb.bind fun y => Rs.of (f x y)) := by
  obtain ⟨ta, pa, qa⟩ := ha
  obtain ⟨tb, pb, qb⟩ := hb
  exact ⟨_, pe_op ho pa pb, fun F0 σ F H Q hh hp => bin_ok hf qa qb hh hp⟩
theorem ev_cmp {op : CmpOp} {r : R2} {f : D → D → Option D} (ho : OpR X (compareOp op) r) (hf : R2ok X.K r f) (ha : EO X G W ρ a ma) (hb : EO X G W ρ b mb) (hm : behindInMarks op b = false) : EV X G W ρ (.Compare a [op] [b] pos) (ma.bind fun x => mb.bind fun y => Rs.of (f x y)) := by
  obtain ⟨ta, pa, qa⟩ := ha
  obtain ⟨tb, pb, qb⟩ := hb
  exact ⟨_, pe_cmpR ho pa pb hm, fun F0 σ F H Q hh hp => bin_ok hf qa qb hh hp⟩
theorem ev_ix {r : R2} {f : D → D → Option D} (ho : IxR X r) (hf : R2ok X.K r f) (ha : EO X G W ρ a ma) (hb : EO X G W ρ b mb) (hm : PlainIx b) : EV X G W ρ (.Subscript a b pos) (ma.bind fun x => mb.bind fun y => Rs.of (f x y)) := by
  obtain ⟨ta, pa, qa⟩ := ha
  obtain ⟨tb, pb, qb⟩ := hb
  exact ⟨_, pe_ix ho pa pb hm, fun F0 σ F H Q hh hp => bin_ok hf qa qb hh hp⟩
theorem ev_un {op : UnaryOp} {r : V → Hp → VK → Prop} {f : D → Option D} (ho : UnR X (unaryOp op) r) (hf : R1ok X.K r f) (ha : EO X G W ρ a ma) : EV X G W ρ (.UnaryOp op a pos) (ma.bind fun x => Rs.of (f x)) := by
  obtain ⟨ta, pa, qa⟩ := ha
  refine ⟨_, pe_un ho pa, fun F0 σ F H Q hh hp => ?_⟩
  refine qa F0 σ F H _ hh (hp.bind fun dx x F1 H1 e1 r1 hp1 => ?_)
  obtain ⟨d, hd, k⟩ := hp1.of
  exact hf e1.sub r1 hd k
end

/-! ### tests -/
def asB : D → Option Bool
  | .bl b => some b
  | _ => none
section
variable {X : Cx} {G : Gd} {W : WX} {ρ : Rho} {a b c : Expr} {ma mb mc : Rs D} {pos : Pos} {tb tc : Rs Bool}
theorem tv_val (ha : EV X G W ρ a ma) (he : ∀ whole, isTrue a X.env whole = (do let v ← whole; standAt a.pos; holding [v] (truthy v)) := by intro _; rfl) : TV X G W ρ a (ma.bind fun x => Rs.of (asB x)) := by
  obtain ⟨ta, pa, qa⟩ := ha
  refine ⟨_, pt_val pa he, fun F0 σ F H Q hh hp => ?_⟩
  refine qa F0 σ F H _ hh (hp.bind fun dx x F1 H1 e1 r1 hp1 => ?_)
  obtain ⟨d, hd, k⟩ := hp1.of
  cases r1 with
  | bl b =>
    cases hd
    exact ⟨_, rfl, k _ _ _ (Ext.refl e1.sub) rfl⟩
  | _ => cases hd
theorem tv_not (ha : TV X G W ρ a tb) : TV X G W ρ (.UnaryOp .Not a pos) (tb.bind fun x => .ok (!x)) := by
  obtain ⟨ta, pa, qa⟩ := ha
  refine ⟨_, pt_not pa, fun F0 σ F H Q hh hp => ?_⟩
  refine qa F0 σ F H _ hh (hp.bind fun dx x F1 H1 e1 r1 hp1 => ?_)
  cases r1
  exact hp1 _ _ _ (Ext.refl e1.sub) rfl
def TW (X : Cx) (G : Gd) (W : WX) (ρ : Rho) (e : Expr) (m : Rs Bool) : Prop :=
  ∃ t, PW X e t ∧ ∀ F0 σ F H Q, Holds X.K (G.at F0) ρ σ F H → Post X.K RB (fun c d H => W c d σ H) F H Q m → t σ H Q
theorem TW.tv (h : TW X G W ρ a tb) : TV X G W ρ a tb := by
  obtain ⟨t, p, q⟩ := h
  exact ⟨t, p.pt, q⟩
theorem tw_and1 (ha : TV X G W ρ a tb) : TW X G W ρ (.BoolOp .And [a] pos) tb := by
  obtain ⟨t, p, q⟩ := ha
  exact ⟨t, pw_and1 p, q⟩
theorem tw_or1 (ha : TV X G W ρ a tb) : TW X G W ρ (.BoolOp .Or [a] pos) tb := by
  obtain ⟨t, p, q⟩ := ha
  exact ⟨t, pw_or1 p, q⟩
theorem tw_and {rest : List Expr} (ha : TV X G W ρ a tb) (hb : TW X G W ρ (.BoolOp .And (b :: rest) pos) tc) : TW X G W ρ (.BoolOp .And (a :: b :: rest) pos) (tb.bind fun x => if x then tc else .ok false) := by
  obtain ⟨t, p, q⟩ := ha
  obtain ⟨u, p2, q2⟩ := hb
  refine ⟨_, pw_and p p2, fun F0 σ F H Q hh hp => ?_⟩
  refine q F0 σ F H _ hh (hp.bind fun dx x F1 H1 e1 r1 hp1 => ?_)
  cases r1
  cases dx with
  | true => exact iteT (q2 F0 σ F1 H1 Q (hh.more e1) hp1)
  | false => exact iteF (hp1 _ _ _ (Ext.refl e1.sub) rfl)
theorem tw_or {rest : List Expr} (ha : TV X G W ρ a tb) (hb : TW X G W ρ (.BoolOp .Or (b :: rest) pos) tc) : TW X G W ρ (.BoolOp .Or (a :: b :: rest) pos) (tb.bind fun x => if x then .ok true else tc) := by
  obtain ⟨t, p, q⟩ := ha
  obtain ⟨u, p2, q2⟩ := hb
  refine ⟨_, pw_or p p2, fun F0 σ F H Q hh hp => ?_⟩
  refine q F0 σ F H _ hh (hp.bind fun dx x F1 H1 e1 r1 hp1 => ?_)
  cases r1
  cases dx with
  | true => exact iteT (hp1 _ _ _ (Ext.refl e1.sub) rfl)
  | false => exact iteF (q2 F0 σ F1 H1 Q (hh.more e1) hp1)
/-- values: and, or, not of bools -/
theorem ev_one {op} (ha : EV X G W ρ a ma) : EV X G W ρ (.BoolOp op [a] pos) ma := by
  obtain ⟨t, p, q⟩ := ha
  exact ⟨t, pe_one p, q⟩
theorem ev_and {rest : List Expr} (ha : EV X G W ρ a ma) (hb : EV X G W ρ (.BoolOp .And (b :: rest) pos) mb) : EV X G W ρ (.BoolOp .And (a :: b :: rest) pos) (ma.bind fun x => (Rs.of (asB x)).bind fun k => if k then mb else .ok (.bl false)) := by
  obtain ⟨t, p, q⟩ := ha
  obtain ⟨u, p2, q2⟩ := hb
  refine ⟨_, pe_and p p2, fun F0 σ F H Q hh hp => ?_⟩
  refine q F0 σ F H _ hh (hp.bind fun dx x F1 H1 e1 r1 hp1 => ?_)
  cases r1 with
  | bl k =>
    refine ⟨k, rfl, ?_⟩
    cases k with
    | true => exact iteT (q2 F0 σ F1 H1 Q (hh.more e1) hp1)
    | false => exact iteF (hp1 _ _ _ (Ext.refl e1.sub) (.bl false))
  | _ => exact hp1.elim
theorem ev_or {rest : List Expr} (ha : EV X G W ρ a ma) (hb : EV X G W ρ (.BoolOp .Or (b :: rest) pos) mb) : EV X G W ρ (.BoolOp .Or (a :: b :: rest) pos) (ma.bind fun x => (Rs.of (asB x)).bind fun k => if k then .ok (.bl true) else mb) := by
  obtain ⟨t, p, q⟩ := ha
  obtain ⟨u, p2, q2⟩ := hb
  refine ⟨_, pe_or p p2, fun F0 σ F H Q hh hp => ?_⟩
  refine q F0 σ F H _ hh (hp.bind fun dx x F1 H1 e1 r1 hp1 => ?_)
  cases r1 with
  | bl k =>
    refine ⟨k, rfl, ?_⟩
    cases k with
    | true => exact iteT (hp1 _ _ _ (Ext.refl e1.sub) (.bl true))
    | false => exact iteF (q2 F0 σ F1 H1 Q (hh.more e1) hp1)
  | _ => exact hp1.elim
theorem ev_not (ha : EV X G W ρ a ma) : EV X G W ρ (.UnaryOp .Not a pos) (ma.bind fun x => (Rs.of (asB x)).bind fun k => .ok (.bl (!k))) := by
  obtain ⟨t, p, q⟩ := ha
  refine ⟨_, pe_not p, fun F0 σ F H Q hh hp => ?_⟩
  refine q F0 σ F H _ hh (hp.bind fun dx x F1 H1 e1 r1 hp1 => ?_)
  cases r1 with
  | bl k => exact ⟨k, rfl, hp1 _ _ _ (Ext.refl e1.sub) (.bl _)⟩
  | _ => exact hp1.elim
theorem ev_if (hc : TV X G W ρ c tc) (ha : EV X G W ρ a ma) (hb : EV X G W ρ b mb) : EV X G W ρ (.IfExp c a b pos) (tc.bind fun k => if k then ma else mb) := by
  obtain ⟨t, p, q⟩ := hc
  obtain ⟨u, p2, q2⟩ := ha
  obtain ⟨u3, p3, q3⟩ := hb
  refine ⟨_, pe_ifExp p p2 p3, fun F0 σ F H Q hh hp => ?_⟩
  refine q F0 σ F H _ hh (hp.bind fun dx x F1 H1 e1 r1 hp1 => ?_)
  cases r1
  cases dx with
  | true => exact iteT (q2 F0 σ F1 H1 Q (hh.more e1) hp1)
  | false => exact iteF (q3 F0 σ F1 H1 Q (hh.more e1) hp1)
end

/-! ### arguments, displays -/
section
variable {X : Cx} {G : Gd} {W : WX} {ρ : Rho} {e : Expr} {es : List Expr} {m : Rs D} {ms : Rs (List D)} {pos : Pos}
theorem av_nil : AV X G W ρ [] (.ok []) := ⟨fun ds h => by cases h; rfl, _, pa_nil, fun F0 σ F H Q hh hp => hp [] F H (Ext.refl hh.sub) .nil⟩
theorem av_cons (ha : EV X G W ρ e m) (hr : AV X G W ρ es ms) (hs : starEach (e :: es) X.env = (false, eval e X.env) :: starEach es X.env := by rfl) : AV X G W ρ (e :: es) (m.bind fun x => ms.bind fun xs => .ok (x :: xs)) := by
  obtain ⟨ta, pa, qa⟩ := ha
  obtain ⟨ln, tb, pb, qb⟩ := hr
  refine ⟨fun ds h => ?_, _, pa_cons pa pb hs, fun F0 σ F H Q hh hp => ?_⟩
  · cases m with
    | ok x =>
      cases ms with
      | ok xs =>
        cases h
        exact congrArg (· + 1) (ln xs rfl)
      | ex c fs => cases h
      | no => cases h
    | ex c fs => cases h
    | no => cases h
  refine qa F0 σ F H _ hh (hp.bind fun dx x F1 H1 e1 r1 hp1 => ?_)
  refine qb F0 σ F1 H1 _ (hh.more e1) (hp1.bind fun dy y F2 H2 e2 r2 hp2 => ?_)
  exact hp2 _ F2 H2 (Ext.refl e2.sub) (.cons (r1.mono e2.ext) r2)
def tupR (ds : List D) : Option D := if ds.length ≤ sizeLine then some (.tup ds) else none
def lstR (ds : List D) : Option D := if ds.length ≤ sizeLine then some (.lst ds) else none
theorem tupR_some {ds : List D} {d : D} (h : tupR ds = some d) : ds.length ≤ sizeLine ∧ d = .tup ds := by
  unfold tupR at h
  split at h
  · exact ⟨by assumption, by cases h; rfl⟩
  · cases h
theorem lstR_some {ds : List D} {d : D} (h : lstR ds = some d) : ds.length ≤ sizeLine ∧ d = .lst ds := by
  unfold lstR at h
  split at h
  · exact ⟨by assumption, by cases h; rfl⟩
  · cases h
theorem new_tup {K : PySem.W.Frag} {F H : Hp} {p : Addr} {xs : List V} {ds : List D} (s : Same F H) (h : H p = none) (l : xs.length ≤ sizeLine) (r : Reps K F xs ds) : Rep K (upd F p (.tup xs)) (.ref p) (.tup ds) :=
  .tup (.inl upd_same) l (r.mono (same_upd (sub_none s h)))
theorem new_lst {K : PySem.W.Frag} {F H : Hp} {p : Addr} {xs : List V} {ds : List D} (s : Same F H) (h : H p = none) (l : xs.length ≤ sizeLine) (r : Reps K F xs ds) : Rep K (upd F p (.lst xs)) (.ref p) (.lst ds) :=
  .lst upd_same l (r.mono (same_upd (sub_none s h)))
theorem ev_tup {x1} (h : AV X G W ρ es ms) : EV X G W ρ (.Tuple es x1 pos) (ms.bind fun xs => Rs.of (tupR xs)) := by
  obtain ⟨ln, ta, pa, qa⟩ := h
  refine ⟨_, pe_tup pa, fun F0 σ F H Q hh hp => ?_⟩
  refine qa F0 σ F H _ hh (hp.bind fun ds xs F1 H1 e1 r1 hp1 => ?_)
  obtain ⟨d, hd, k⟩ := hp1.of
  obtain ⟨l, rfl⟩ := tupR_some hd
  have l2 : xs.length ≤ sizeLine := by
    rw [r1.length]
    exact l
  exact ⟨l2, fun p hn => k _ _ _ (Ext.fresh e1.sub _ hn) (new_tup e1.sub hn l2 r1)⟩
theorem ev_lst (h : AV X G W ρ es ms) : EV X G W ρ (.List es pos) (ms.bind fun xs => Rs.of (lstR xs)) := by
  obtain ⟨ln, ta, pa, qa⟩ := h
  refine ⟨_, pe_lst pa, fun F0 σ F H Q hh hp => ?_⟩
  refine qa F0 σ F H _ hh (hp.bind fun ds xs F1 H1 e1 r1 hp1 => ?_)
  obtain ⟨d, hd, k⟩ := hp1.of
  obtain ⟨l, rfl⟩ := lstR_some hd
  have l2 : xs.length ≤ sizeLine := by
    rw [r1.length]
    exact l
  exact ⟨l2, fun p hn => k _ _ _ (Ext.fresh e1.sub _ hn) (new_lst e1.sub hn l2 r1)⟩
def lenR (ds : List D) : Option (List D) := if ds.length ≤ sizeLine then some ds else none
theorem lenR_some {ds es : List D} (h : lenR ds = some es) : ds.length ≤ sizeLine ∧ es = ds := by
  unfold lenR at h
  split at h
  · exact ⟨by assumption, by cases h; rfl⟩
  · cases h
theorem ef_lst (h : AV X G W ρ es ms) : EF X G W ρ (.List es pos) (ms.bind fun xs => Rs.of (lenR xs)) := by
  obtain ⟨ln, ta, pa, qa⟩ := h
  refine ⟨_, pe_lst pa, fun F0 σ F H Q hh hp => ?_⟩
  refine qa F0 σ F H _ hh (hp.bind fun ds xs F1 H1 e1 r1 hp1 => ?_)
  obtain ⟨d, hd, k⟩ := hp1.of
  obtain ⟨l, rfl⟩ := lenR_some hd
  have l2 : xs.length ≤ sizeLine := by
    rw [r1.length]
    exact l
  exact ⟨l2, fun p hn => k _ F1 _ (Ext.loose e1.sub _ hn) ⟨p, rfl, e1.same.free hn, sub_none e1.sub hn, .lst upd_same l2 r1⟩⟩
/-- a display of a written number of items -/
theorem ev_tupM {x1} (h : AV X G W ρ es ms) (hl : es.length ≤ sizeLine := by decide) : EV X G W ρ (.Tuple es x1 pos) (ms.bind fun xs => .ok (.tup xs)) := by
  obtain ⟨ln, ta, pa, qa⟩ := h
  refine ⟨_, pe_tup pa, fun F0 σ F H Q hh hp => ?_⟩
  refine qa F0 σ F H _ hh ?_
  cases ms with
  | ex c fs => exact hp
  | no => exact hp
  | ok ds =>
    intro xs F1 H1 e1 r1
    have l2 : xs.length ≤ sizeLine := by
      rw [r1.length, ln ds rfl]
      exact hl
    exact ⟨l2, fun p hn => hp _ _ _ (e1.trans (Ext.fresh e1.sub _ hn)) (new_tup e1.sub hn l2 r1)⟩
theorem ev_lstM (h : AV X G W ρ es ms) (hl : es.length ≤ sizeLine := by decide) : EV X G W ρ (.List es pos) (ms.bind fun xs => .ok (.lst xs)) := by
  obtain ⟨ln, ta, pa, qa⟩ := h
  refine ⟨_, pe_lst pa, fun F0 σ F H Q hh hp => ?_⟩
  refine qa F0 σ F H _ hh ?_
  cases ms with
  | ex c fs => exact hp
  | no => exact hp
  | ok ds =>
    intro xs F1 H1 e1 r1
    have l2 : xs.length ≤ sizeLine := by
      rw [r1.length, ln ds rfl]
      exact hl
    exact ⟨l2, fun p hn => hp _ _ _ (e1.trans (Ext.fresh e1.sub _ hn)) (new_lst e1.sub hn l2 r1)⟩
theorem ef_lstM (h : AV X G W ρ es ms) (hl : es.length ≤ sizeLine := by decide) : EF X G W ρ (.List es pos) ms := by
  obtain ⟨ln, ta, pa, qa⟩ := h
  refine ⟨_, pe_lst pa, fun F0 σ F H Q hh hp => ?_⟩
  refine qa F0 σ F H _ hh ?_
  cases ms with
  | ex c fs => exact hp
  | no => exact hp
  | ok ds =>
    intro xs F1 H1 e1 r1
    have l2 : xs.length ≤ sizeLine := by
      rw [r1.length, ln ds rfl]
      exact hl
    exact ⟨l2, fun p hn => hp _ F1 _ (e1.trans (Ext.loose e1.sub _ hn)) ⟨p, rfl, e1.same.free hn, sub_none e1.sub hn, .lst upd_same l2 r1⟩⟩
end
end VL
set_option Elab.async false
set_option linter.all false
set_option maxRecDepth 100000
set_option autoImplicit false
namespace VL
open PySem PySem.Spec L2
open PyProof.Rows hiding St

theorem RepH.int {K : PySem.W.Frag} {F H : Hp} {v : V} {i : Int} (h : RepH K F H v (.int i)) : v = .int i := by
  rcases h with h | ⟨a, rfl, h⟩
  · cases h; rfl
  · cases h
theorem RepH.bl {K : PySem.W.Frag} {F H : Hp} {v : V} {b : Bool} (h : RepH K F H v (.bl b)) : v = .bl b := by
  rcases h with h | ⟨a, rfl, h⟩
  · cases h; rfl
  · cases h
theorem RepH.str {K : PySem.W.Frag} {F H : Hp} {v : V} {x : Str} (h : RepH K F H v (.str x)) : v = .str x := by
  rcases h with h | ⟨a, rfl, h⟩
  · cases h; rfl
  · cases h
theorem RepH.non {K : PySem.W.Frag} {F H : Hp} {v : V} (h : RepH K F H v .non) : v = .non := by
  rcases h with h | ⟨a, rfl, h⟩
  · cases h; rfl
  · cases h
theorem RepH.lst {K : PySem.W.Frag} {F H : Hp} {v : V} {ds : List D} (s : Same F H) (h : RepH K F H v (.lst ds)) : ∃ a xs, v = .ref a ∧ H a = some (.lst xs) ∧ xs.length ≤ sizeLine ∧ Reps K F xs ds := by
  rcases h with h | ⟨a, rfl, h⟩
  · cases h with
    | lst h l r => exact ⟨_, _, rfl, s _ _ h, l, r⟩
  · cases h with
    | lst h l r => exact ⟨_, _, rfl, h, l, r⟩
theorem RepH.scr {K : PySem.W.Frag} {F H : Hp} {v : V} {ds : List D} (s : Same F H) (h : RepH K F H v (.scr ds)) : ∃ a xs, v = .ref a ∧ SqL K H a xs ∧ xs.length ≤ sizeLine ∧ Reps K F xs ds := by
  rcases h with h | ⟨a, rfl, h⟩
  · cases h with
    | scr h l r => exact ⟨_, _, rfl, SqL.same s h, l, r⟩
  · cases h
theorem RepH.tup {K : PySem.W.Frag} {F H : Hp} {v : V} {ds : List D} (s : Same F H) (h : RepH K F H v (.tup ds)) : ∃ a xs, v = .ref a ∧ SqT K H a xs ∧ xs.length ≤ sizeLine ∧ Reps K F xs ds ∧ Rep K F v (.tup ds) := by
  rcases h with h | ⟨a, rfl, h⟩
  · cases h with
    | tup h l r => exact ⟨_, _, rfl, SqT.same s h.sq, l, r, .tup h l r⟩
  · cases h

/-! ### arithmetic -/
def CMulB (i j : Int) : Prop := i.natAbs.log2 + j.natAbs.log2 < 134000000
theorem CMulB.ok {i j : Int} (h : CMulB i j) : IntMulOk i j := by
  have b : ∀ x : Int, Builtin.Int.intBits x ≤ x.natAbs.log2 + 1 := fun x => by
    unfold Builtin.Int.intBits
    split <;> omega
  have h1 := b i
  have h2 := b j
  have h3 : i.natAbs.log2 + j.natAbs.log2 < 134000000 := h
  have e : bitsLine = 134217728 := by decide
  unfold IntMulOk
  intro z
  rw [Bool.and_eq_true] at z
  have z2 := z.2
  unfold Builtin.Int.intTooBig at z2
  have z3 := of_decide_eq_true z2
  rw [e] at z3
  omega
def CDivB (_ j : Int) : Prop := j ≠ 0 ∧ j.natAbs.log2 < 9000
section
variable {X : Cx}
theorem op_mulB : OpR X (binaryOp .Mult) (rI CMulB fun i j => .int (i * j)) := opI fun _ _ _ _ _ _ _ hc q => mul_int q hc.ok
theorem op_fdivB : OpR X (binaryOp .FloorDiv) (rI CDivB fun i j => .int (i.fdiv j)) := opI fun _ _ _ _ _ _ _ hc q => floordiv_int hc.1 q (.inl (PyProof.noPylong_of_log2 hc.2))
end
def catR (ds es : List D) : Bool := decide (ds.length + es.length ≤ sizeLine)
/-- x + y -/
def addD : D → D → Option D
  | .int i, .int j => some (.int (i + j))
  | .str i, .str j => if i.length + j.length ≤ sizeLine then some (.str (i ++ j)) else none
  | .lst xs, .lst ys => if xs.length + ys.length ≤ sizeLine then some (.lst (xs ++ ys)) else none
  | .tup xs, .tup ys => if xs.length + ys.length ≤ sizeLine then some (.tup (xs ++ ys)) else none
  | _, _ => none
def rAddD (K : PySem.W.Frag) : R2 := fun x y H Q => (rI0 (fun i j => .int (i + j)) x y H Q) ∨ (∃ i j, x = .str i ∧ y = .str j ∧ i.length + j.length ≤ sizeLine ∧ Q (.str (i ++ j)) H) ∨ rCat x y H Q ∨ rCatA K x y H Q
theorem op_addD {X : Cx} : OpR X (binaryOp .Add) (rAddD X.K) := OpR.or op_add (OpR.or op_add_str (OpR.or op_cat op_catA))
theorem addD_ok {K : PySem.W.Frag} : R2ok K (rAddD K) addD := by
  intro x y dx dy F H Q d s hx hy hd k
  unfold addD at hd
  split at hd
  · cases hd
    exact .inl ⟨_, _, hx.int, hy.int, k _ F H (Ext.refl s) (.int _)⟩
  · split at hd
    · cases hd
      exact .inr (.inl ⟨_, _, hx.str, hy.str, by assumption, k _ F H (Ext.refl s) (.str _)⟩)
    · cases hd
  · split at hd
    · cases hd
      obtain ⟨a, xs, rfl, ha, la, ra⟩ := hx.lst s
      obtain ⟨b, ys, rfl, hb, lb, rb⟩ := hy.lst s
      have l2 : xs.length + ys.length ≤ sizeLine := by rw [ra.length, rb.length]; assumption
      exact .inr (.inr (.inl ⟨a, b, xs, ys, rfl, rfl, ha, hb, l2, fun p hp => k _ _ _ (Ext.fresh s _ hp) (new_lst s hp (by rw [List.length_append]; exact l2) (ra.append rb))⟩))
    · cases hd
  · split at hd
    · cases hd
      obtain ⟨a, xs, rfl, ha, la, ra, wa⟩ := hx.tup s
      obtain ⟨b, ys, rfl, hb, lb, rb, wb⟩ := hy.tup s
      have l2 : xs.length + ys.length ≤ sizeLine := by rw [ra.length, rb.length]; assumption
      refine .inr (.inr (.inr ⟨a, b, xs, ys, rfl, rfl, ha, hb, l2, fun e => ?_, fun _ e => ?_, fun _ _ p hp => ?_⟩))
      · subst e
        cases ra
        exact k _ F H (Ext.refl s) wb
      · subst e
        cases rb
        rw [List.append_nil] at k
        exact k _ F H (Ext.refl s) wa
      · exact k _ _ _ (Ext.fresh s _ hp) (new_tup s hp (by rw [List.length_append]; exact l2) (ra.append rb))
    · cases hd
  · cases hd
def subD : D → D → Option D
  | .int i, .int j => some (.int (i - j))
  | _, _ => none
theorem subD_ok {K : PySem.W.Frag} : R2ok K (rI0 fun i j => .int (i - j)) subD := by
  intro x y dx dy F H Q d s hx hy hd k
  unfold subD at hd
  split at hd
  · cases hd
    exact ⟨_, _, hx.int, hy.int, k _ F H (Ext.refl s) (.int _)⟩
  · cases hd
/-- x * y: ints; a list or a tuple so many times -/
def mulD : D → D → Option D
  | .int i, .int j => if i.natAbs.log2 + j.natAbs.log2 < 134000000 then some (.int (i * j)) else none
  | .lst xs, .int k => if 0 ≤ k ∧ k < 1000000 ∧ xs.length * k.toNat ≤ sizeLine then some (.lst (List.replicate k.toNat xs).flatten) else none
  | .tup xs, .int k => if xs ≠ [] ∧ 2 ≤ k ∧ k ≤ 1000 ∧ xs.length ≤ 1000 then some (.tup (List.replicate k.toNat xs).flatten) else none
  | _, _ => none
def rMulD (K : PySem.W.Frag) : R2 := fun x y H Q => (rI CMulB (fun i j => .int (i * j)) x y H Q) ∨ rRep x y H Q ∨ rRepT K x y H Q
theorem op_mulD {X : Cx} : OpR X (binaryOp .Mult) (rMulD X.K) := OpR.or op_mulB (OpR.or op_rep op_repT)
theorem Reps.repl {K : PySem.W.Frag} {F : Hp} {xs : List V} {ds : List D} (h : Reps K F xs ds) : ∀ n : Nat, Reps K F (List.replicate n xs).flatten (List.replicate n ds).flatten
  | 0 => .nil
  | n + 1 => by
    rw [List.replicate_succ, List.replicate_succ, List.flatten_cons, List.flatten_cons]
    exact h.append (h.repl n)
theorem len_repl {α : Type} (xs : List α) : ∀ n : Nat, (List.replicate n xs).flatten.length = xs.length * n
  | 0 => rfl
  | n + 1 => by
    rw [List.replicate_succ, List.flatten_cons, List.length_append, len_repl xs n, Nat.mul_succ]
    omega
theorem mulD_ok {K : PySem.W.Frag} : R2ok K (rMulD K) mulD := by
  intro x y dx dy F H Q d s hx hy hd k
  unfold mulD at hd
  split at hd
  · split at hd
    · cases hd
      exact .inl ⟨_, _, hx.int, hy.int, by assumption, k _ F H (Ext.refl s) (.int _)⟩
    · cases hd
  · split at hd
    · rename_i ds m hc
      cases hd
      obtain ⟨a, xs, rfl, ha, la, ra⟩ := hx.lst s
      obtain ⟨c1, c2, c3⟩ := hc
      rw [← ra.length] at c3
      exact .inr (.inl ⟨a, m, xs, rfl, hy.int, ha, by omega, by omega, c3, fun p hp => k _ _ _ (Ext.fresh s _ hp) (new_lst s hp (by rw [len_repl]; exact c3) (ra.repl _))⟩)
    · cases hd
  · split at hd
    · rename_i ds m hc
      cases hd
      obtain ⟨a, xs, rfl, ha, la, ra, wa⟩ := hx.tup s
      obtain ⟨c0, c1, c2, c3⟩ := hc
      rw [← ra.length] at c3
      refine .inr (.inr ⟨a, m, xs, rfl, hy.int, ha, fun e => ?_, c1, c2, c3, fun p hp => k _ _ _ (Ext.fresh s _ hp) (new_tup s hp ?_ (ra.repl _))⟩)
      · subst e
        cases ra
        exact c0 rfl
      · rw [len_repl]
        have h1 : xs.length * m.toNat ≤ 1000 * 1000 := Nat.mul_le_mul c3 (by omega)
        exact Nat.le_trans h1 (by decide)
    · cases hd
  · cases hd
def fdivD : D → D → Option D
  | .int i, .int j => if j ≠ 0 ∧ j.natAbs.log2 < 9000 then some (.int (i.fdiv j)) else none
  | _, _ => none
theorem fdivD_ok {K : PySem.W.Frag} : R2ok K (rI CDivB fun i j => .int (i.fdiv j)) fdivD := by
  intro x y dx dy F H Q d s hx hy hd k
  unfold fdivD at hd
  split at hd
  · split at hd
    · cases hd
      exact ⟨_, _, hx.int, hy.int, by assumption, k _ F H (Ext.refl s) (.int _)⟩
    · cases hd
  · cases hd
def modD : D → D → Option D
  | .int i, .int j => if j ≠ 0 then some (.int (i.fmod j)) else none
  | _, _ => none
theorem modD_ok {K : PySem.W.Frag} : R2ok K (rI (fun _ j => j ≠ 0) fun i j => .int (i.fmod j)) modD := by
  intro x y dx dy F H Q d s hx hy hd k
  unfold modD at hd
  split at hd
  · split at hd
    · cases hd
      exact ⟨_, _, hx.int, hy.int, by assumption, k _ F H (Ext.refl s) (.int _)⟩
    · cases hd
  · cases hd
def powD : D → D → Option D
  | .int i, .int j => if 0 ≤ j ∧ j.natAbs ≤ 1000000 ∧ i.natAbs < 2 ^ 64 then some (.int (i ^ j.toNat)) else none
  | _, _ => none
theorem powD_ok {K : PySem.W.Frag} : R2ok K (rI CPow fun i j => .int (i ^ j.toNat)) powD := by
  intro x y dx dy F H Q d s hx hy hd k
  unfold powD at hd
  split at hd
  · split at hd
    · cases hd
      rename_i hc
      exact ⟨_, _, hx.int, hy.int, ⟨hc.1, by omega, hc.2.2⟩, k _ F H (Ext.refl s) (.int _)⟩
    · cases hd
  · cases hd
def negD : D → Option D
  | .int i => some (.int (-i))
  | _ => none
theorem negD_ok {K : PySem.W.Frag} : R1ok K (rU fun i => .int (-i)) negD := by
  intro x dx F H Q d s hx hd k
  unfold negD at hd
  split at hd
  · cases hd
    exact ⟨_, hx.int, k _ F H (Ext.refl s) (.int _)⟩
  · cases hd

/-! ### data without objects -/
mutual
def D.py : D → PyData
  | .non => .none
  | .bl b => .bool b
  | .int i => .int i
  | .str x => .str x
  | .tup xs => .tuple (pys xs)
  | .lst xs => .list (pys xs)
  | .scr _ => .none
  | .obj _ _ => .none
  | .dT _ => .none
  | .dK _ => .none
  | .exn _ _ => .none
def pys : List D → List PyData
  | [] => []
  | d :: ds => d.py :: pys ds
end
mutual
def D.isData : D → Bool
  | .non => true
  | .bl _ => true
  | .int _ => true
  | .str _ => true
  | .tup xs => areData xs
  | .lst xs => areData xs
  | .scr _ => false
  | .obj _ _ => false
  | .dT _ => false
  | .dK _ => false
  | .exn _ _ => false
def areData : List D → Bool
  | [] => true
  | d :: ds => d.isData && areData ds
end
mutual
theorem Rep.dp {K : PySem.W.Frag} {F H : Hp} (s : Same F H) : ∀ {v : V} {d : D}, Rep K F v d → d.isData = true → Dp K H v d.py
  | _, _, .non, _ => by simp only [D.py]; exact .non
  | _, _, .bl b, _ => by simp only [D.py]; exact .bl b
  | _, _, .int i, _ => by simp only [D.py]; exact .int i
  | _, _, .str x, _ => by simp only [D.py]; exact .str x
  | _, _, .lst h l r, e => by simp only [D.py]; exact .lst (.inl (.inl (s _ _ h))) (Reps.dp s r (by simpa only [D.isData] using e))
  | _, _, .tup h l r, e => by simp only [D.py]; exact .tup (SqT.same s h.sq) (Reps.dp s r (by simpa only [D.isData] using e))
  | _, _, .scr _ _ _, e => by simp only [D.isData] at e; cases e
  | _, _, .obj _ _ _, e => by simp only [D.isData] at e; cases e
  | _, _, .dT _ _ _, e => by simp only [D.isData] at e; cases e
  | _, _, .dK _ _ _, e => by simp only [D.isData] at e; cases e
  | _, _, .exn _ _ _ _, e => by simp only [D.isData] at e; cases e
theorem Reps.dp {K : PySem.W.Frag} {F H : Hp} (s : Same F H) : ∀ {vs : List V} {ds : List D}, Reps K F vs ds → areData ds = true → DpAll K H vs (pys ds)
  | _, _, .nil, _ => by simp only [pys]; exact .nil
  | _, _, .cons h r, e => by
    simp only [areData, Bool.and_eq_true] at e
    simp only [pys]
    exact .cons (Rep.dp s h e.1) (Reps.dp s r e.2)
end
theorem RepH.dp {K : PySem.W.Frag} {F H : Hp} (s : Same F H) {v : V} {d : D} (h : RepH K F H v d) (e : d.isData = true) : Dp K H v d.py := by
  rcases h with h | ⟨a, rfl, h⟩
  · exact h.dp s e
  · cases h with
    | lst h l r =>
      simp only [D.py]
      exact .lst (.inl (.inl h)) (Reps.dp s r (by simpa only [D.isData] using e))
    | dT _ _ _ => simp only [D.isData] at e; cases e
    | dK _ _ _ => simp only [D.isData] at e; cases e
    | obj _ _ _ => simp only [D.isData] at e; cases e
def D.okD (d : D) : Bool := d.isData && SeqAt.shaped d.py
/-- x == y of data -/
def eqB (a b : D) : Option Bool := match a, b with
  | .str x, .str y => some (decide (x = y))
  | _, _ => if a.okD && b.okD then some (PyData.eqv a.py b.py) else none
def eqD (a b : D) : Option D := (eqB a b).map .bl
def neD (a b : D) : Option D := (eqB a b).map fun k => .bl (!k)
def rEqA (K : PySem.W.Frag) : R2 := fun x y H Q => rEq x y H Q ∨ rEqD K x y H Q
def rNeA (K : PySem.W.Frag) : R2 := fun x y H Q => rNe x y H Q ∨ rNeD K x y H Q
theorem op_eqA {X : Cx} (hu : X.A.units + 64 < cLine) : OpR X (compareOp .Eq) (rEqA X.K) := OpR.or op_eq (op_eqD hu)
theorem op_neA {X : Cx} (hu : X.A.units + 64 < cLine) : OpR X (compareOp .NotEq) (rNeA X.K) := OpR.or op_ne (op_neD hu)
theorem str_eq {x y : Str} : decide (V.str x = V.str y) = decide (x = y) := by
  by_cases h : x = y
  · subst h; simp
  · rw [decide_eq_false h, decide_eq_false fun e => h (V.str.inj e)]
theorem eqD_ok {K : PySem.W.Frag} : R2ok K (rEqA K) eqD := by
  intro x y dx dy F H Q d s hx hy hd k
  unfold eqD eqB at hd
  split at hd
  · cases hd
    obtain rfl := hx.str
    obtain rfl := hy.str
    refine .inl ⟨rfl, ?_⟩
    rw [str_eq]
    exact k _ F H (Ext.refl s) (.bl _)
  · split at hd
    · rename_i hc
      cases hd
      rw [Bool.and_eq_true] at hc
      obtain ⟨c1, c2⟩ := Bool.and_eq_true_iff.mp hc.1
      obtain ⟨c3, c4⟩ := Bool.and_eq_true_iff.mp hc.2
      exact .inr ⟨_, _, hx.dp s c1, hy.dp s c3, c2, c4, k _ F H (Ext.refl s) (.bl _)⟩
    · cases hd
theorem neD_ok {K : PySem.W.Frag} : R2ok K (rNeA K) neD := by
  intro x y dx dy F H Q d s hx hy hd k
  unfold neD eqB at hd
  split at hd
  · cases hd
    obtain rfl := hx.str
    obtain rfl := hy.str
    refine .inl ⟨rfl, ?_⟩
    rw [str_eq]
    exact k _ F H (Ext.refl s) (.bl _)
  · split at hd
    · rename_i hc
      cases hd
      rw [Bool.and_eq_true] at hc
      obtain ⟨c1, c2⟩ := Bool.and_eq_true_iff.mp hc.1
      obtain ⟨c3, c4⟩ := Bool.and_eq_true_iff.mp hc.2
      exact .inr ⟨_, _, hx.dp s c1, hy.dp s c3, c2, c4, k _ F H (Ext.refl s) (.bl _)⟩
    · cases hd
def D.isNon : D → Bool
  | .non => true
  | _ => false
def isND : D → D → Option D
  | x, .non => some (.bl x.isNon)
  | _, _ => none
def notND : D → D → Option D
  | x, .non => some (.bl (!x.isNon))
  | _, _ => none
theorem RepH.isN {K : PySem.W.Frag} {F H : Hp} {v : V} {d : D} (h : RepH K F H v d) : decide (v = .non) = d.isNon := by
  rcases h with h | ⟨a, rfl, h⟩
  · cases h <;> simp [D.isNon]
  · cases h <;> simp [D.isNon]
theorem isND_ok {K : PySem.W.Frag} : R2ok K (fun x y H Q => y = .non ∧ Q (.bl (decide (x = .non))) H) isND := by
  intro x y dx dy F H Q d s hx hy hd k
  unfold isND at hd
  split at hd
  · cases hd
    refine ⟨hy.non, ?_⟩
    rw [hx.isN]
    exact k _ F H (Ext.refl s) (.bl _)
  · cases hd
theorem notND_ok {K : PySem.W.Frag} : R2ok K (fun x y H Q => y = .non ∧ Q (.bl (!decide (x = .non))) H) notND := by
  intro x y dx dy F H Q d s hx hy hd k
  unfold notND at hd
  split at hd
  · cases hd
    refine ⟨hy.non, ?_⟩
    rw [hx.isN]
    exact k _ F H (Ext.refl s) (.bl _)
  · cases hd
end VL
set_option Elab.async false
set_option linter.all false
set_option maxRecDepth 100000
set_option autoImplicit false
namespace VL
open PySem PySem.Spec L2
open PyProof.Rows hiding St

/-! ### environments: weaker, stored into -/
def Wk (ρ ρ' : Rho) : Prop := (∀ (i : Nat) (c : Cl), ρ'[i]? = some (some c) → ρ[i]? = some (some c)) ∧ ρ'.length ≤ ρ.length
theorem Wk.nil {ρ : Rho} : Wk ρ [] := ⟨fun i c h => by simp at h, Nat.zero_le _⟩
theorem Wk.refl {ρ : Rho} : Wk ρ ρ := ⟨fun _ _ h => h, Nat.le_refl _⟩
theorem Wk.keep {c : Option Cl} {ρ ρ' : Rho} (h : Wk ρ ρ') : Wk (c :: ρ) (c :: ρ') := ⟨fun i d q => by
    cases i with
    | zero => exact q
    | succ i => exact h.1 i d (by simpa using q), by simp only [List.length_cons]; have := h.2; omega⟩
theorem Wk.drop {c : Option Cl} {ρ ρ' : Rho} (h : Wk ρ ρ') : Wk (c :: ρ) (none :: ρ') := ⟨fun i d q => by
    cases i with
    | zero => simp at q
    | succ i => exact h.1 i d (by simpa using q), by simp only [List.length_cons]; have := h.2; omega⟩
section
variable {K : PySem.W.Frag} {G : Gd} {ρ ρ' : Rho} {σ : St} {F H : Hp}
theorem Holds.weak (h : Holds K G ρ σ F H) (w : Wk ρ ρ') : Holds K G ρ' σ F H where
  toGnd := h.toGnd
  val := fun i d q => h.val i d (w.1 i _ q)
  own := fun i l d q => h.own i l d (w.1 i _ q)
  sep := fun i j l m d e a n q1 q2 => h.sep i j l m d e a n (w.1 i _ q1) (w.1 j _ q2)
  len := Nat.le_trans w.2 h.len
theorem set_at {α : Type} {l : List (Option α)} {i j : Nat} {x : Option α} {c : α} (h : (l.set i x)[j]? = some (some c)) : (i = j ∧ x = some c) ∨ (i ≠ j ∧ l[j]? = some (some c)) := by
  by_cases e : i = j
  · subst e
    by_cases hl : i < l.length
    · rw [List.getElem?_set_self hl] at h
      exact .inl ⟨rfl, Option.some.inj h⟩
    · rw [List.getElem?_eq_none (by simpa using hl)] at h
      cases h
  · rw [List.getElem?_set_ne e] at h
    exact .inr ⟨e, h⟩
theorem Holds.setV {i : Nat} {v : V} {d : D} (h : Holds K G ρ σ F H) (r : Rep K F v d) (hi : i < ρ.length) : Holds K G (ρ.set i (some (.val d))) (σ.set i (some v)) F H where
  toGnd := h.toGnd
  val := fun j e q => by
    rcases set_at q with ⟨rfl, z⟩ | ⟨n, z⟩
    · cases z
      exact ⟨v, List.getElem?_set_self (Nat.lt_of_lt_of_le hi h.len), r⟩
    · obtain ⟨u, h1, h2⟩ := h.val j e z
      exact ⟨u, by rw [List.getElem?_set_ne n]; exact h1, h2⟩
  own := fun j l e q => by
    rcases set_at q with ⟨rfl, z⟩ | ⟨n, z⟩
    · cases z
    · obtain ⟨u, h1, h2⟩ := h.own j l e z
      exact ⟨u, by rw [List.getElem?_set_ne n]; exact h1, h2⟩
  sep := fun j k l1 l2 d1 d2 a n q1 q2 s1 s2 => by
    rcases set_at q1 with ⟨rfl, z⟩ | ⟨n1, z1⟩
    · cases z
    · rcases set_at q2 with ⟨rfl, z⟩ | ⟨n2, z2⟩
      · cases z
      · rw [List.getElem?_set_ne n1] at s1
        rw [List.getElem?_set_ne n2] at s2
        exact h.sep j k l1 l2 d1 d2 a n z1 z2 s1 s2
  len := by simpa using h.len
/-- a new cell at slot i -/
theorem Holds.setO {i : Nat} {a : Addr} {l : Bool} {d : D} (h : Holds K G ρ σ F H) (r : Own K F H a d) (hf : F a = none) (h0 : OwnAt G a l) (hn : ∀ (j : Nat) (m : Bool) (e : D), ρ[j]? = some (some (.own m e)) → σ[j]? ≠ some (some (.ref a))) (hi : i < ρ.length) :
    Holds K G (ρ.set i (some (.own l d))) (σ.set i (some (.ref a))) F H where
  toGnd := h.toGnd
  val := fun j e q => by
    rcases set_at q with ⟨rfl, z⟩ | ⟨n, z⟩
    · cases z
    · obtain ⟨u, h1, h2⟩ := h.val j e z
      exact ⟨u, by rw [List.getElem?_set_ne n]; exact h1, h2⟩
  own := fun j l e q => by
    rcases set_at q with ⟨rfl, z⟩ | ⟨n, z⟩
    · cases z
      exact ⟨a, List.getElem?_set_self (Nat.lt_of_lt_of_le hi h.len), hf, h0, r⟩
    · obtain ⟨u, h1, h2⟩ := h.own j l e z
      exact ⟨u, by rw [List.getElem?_set_ne n]; exact h1, h2⟩
  sep := fun j k l1 l2 d1 d2 b n q1 q2 s1 s2 => by
    rcases set_at q1 with ⟨rfl, z⟩ | ⟨n1, z1⟩
    · rcases set_at q2 with ⟨rfl, z2⟩ | ⟨n2, z2⟩
      · exact n rfl
      · rw [List.getElem?_set_self (Nat.lt_of_lt_of_le hi h.len)] at s1
        cases s1
        rw [List.getElem?_set_ne n2] at s2
        exact hn _ _ _ z2 s2
    · rcases set_at q2 with ⟨rfl, z2⟩ | ⟨n2, z2⟩
      · rw [List.getElem?_set_self (Nat.lt_of_lt_of_le hi h.len)] at s2
        cases s2
        rw [List.getElem?_set_ne n1] at s1
        exact hn _ _ _ z1 s1
      · rw [List.getElem?_set_ne n1] at s1
        rw [List.getElem?_set_ne n2] at s2
        exact h.sep j k l1 l2 d1 d2 b n z1 z2 s1 s2
  len := by simpa using h.len
/-- the owned cell of slot i is changed -/
theorem Holds.write {i : Nat} {a : Addr} {l : Bool} {d d' : D} {o : HO} (h : Holds K G ρ σ F H) (hi : ρ[i]? = some (some (.own l d))) (ha : σ[i]? = some (some (.ref a))) (r : Own K F (upd H a o) a d') :
    Holds K G (ρ.set i (some (.own l d'))) σ F (upd H a o) := by
  obtain ⟨a', h1, hf, h0, hw⟩ := h.own i l d hi
  rw [ha] at h1
  cases h1
  have il : i < ρ.length := by
    rcases Nat.lt_or_ge i ρ.length with z | z
    · exact z
    · rw [List.getElem?_eq_none z] at hi
      cases hi
  have sub' : Same F (upd H a o) := fun b x q => by
    have e : b ≠ a := fun e => by
      subst e
      rw [hf] at q
      cases q
    rw [upd_ne e]
    exact h.sub _ _ q
  refine ⟨⟨sub', fun b x q nb => ?_, fun b hb => ?_, h.ext, h.new⟩, fun j e q => ?_, fun j m e q => ?_, fun j k l1 l2 d1 d2 b n q1 q2 s1 s2 => ?_, by simpa using h.len⟩
  · have e : b ≠ a := fun e => by
      subst e
      cases l with
      | true =>
        rw [h0.1] at q
        cases q
      | false => exact nb h0
    rw [upd_ne e]
    exact h.base _ _ q nb
  · by_cases e : b = a
    · subst e
      obtain ⟨o2, q2, t2⟩ := r.there
      exact ⟨_, q2, t2⟩
    · rw [upd_ne e]
      exact h.bsT b hb
  · rcases set_at q with ⟨rfl, z⟩ | ⟨n, z⟩
    · cases z
    · exact h.val j e z
  · rcases set_at q with ⟨rfl, z⟩ | ⟨n, z⟩
    · cases z
      exact ⟨a, ha, hf, h0, r⟩
    · obtain ⟨b, h1, h2, h3, h4⟩ := h.own j m e z
      have e : b ≠ a := fun e => by
        subst e
        exact h.sep i j _ _ _ _ b n hi z ha h1
      exact ⟨b, h1, h2, h3, h4.move (Same.refl F) (upd_ne e)⟩
  · rcases set_at q1 with ⟨rfl, z⟩ | ⟨n1, z1⟩
    · rcases set_at q2 with ⟨rfl, z2⟩ | ⟨n2, z2⟩
      · exact n rfl
      · exact h.sep _ _ _ _ _ _ b n hi z2 s1 s2
    · rcases set_at q2 with ⟨rfl, z2⟩ | ⟨n2, z2⟩
      · exact h.sep _ _ _ _ _ _ b n z1 hi s1 s2
      · exact h.sep j k l1 l2 d1 d2 b n z1 z2 s1 s2
/-- the owned cell of slot i is data from now on (it was made in this def) -/
theorem Holds.freeze {i : Nat} {d : D} (h : Holds K G ρ σ F H) (hi : ρ[i]? = some (some (.own true d))) (hd : d.frzd = true) : ∃ F', Holds K G (ρ.set i (some (.val d))) σ F' H := by
  obtain ⟨a, h1, hf, h0, hw⟩ := h.own i true d hi
  obtain ⟨o, ho, hr⟩ := hw.rep hd h.sub hf
  have ex : Same F (upd F a o) := same_upd hf
  have sub' : Same (upd F a o) H := fun b x q => by
    by_cases e : b = a
    · subst e
      rw [upd_same] at q
      cases q
      exact ho
    · rw [upd_ne e] at q
      exact h.sub _ _ q
  have il : i < ρ.length := by
    rcases Nat.lt_or_ge i ρ.length with z | z
    · exact z
    · rw [List.getElem?_eq_none z] at hi
      cases hi
  refine ⟨upd F a o, ⟨⟨sub', h.base, h.bsT, h.ext.trans ex, fun b x q => ?_⟩, fun j e q => ?_, fun j m e q => ?_, fun j k l1 l2 d1 d2 b n q1 q2 s1 s2 => ?_, by simpa using h.len⟩⟩
  · by_cases e : b = a
    · subst e
      exact .inr (.inl h0)
    · rw [upd_ne e] at q
      exact h.new _ _ q
  · rcases set_at q with ⟨rfl, z⟩ | ⟨n, z⟩
    · cases z
      exact ⟨_, h1, hr⟩
    · obtain ⟨u, h1, h2⟩ := h.val j e z
      exact ⟨u, h1, h2.mono ex⟩
  · rcases set_at q with ⟨rfl, z⟩ | ⟨n, z⟩
    · cases z
    · obtain ⟨b, g1, g2, g3, g4⟩ := h.own j m e z
      have ne : b ≠ a := fun e => by
        subst e
        exact h.sep i j _ _ _ _ b n hi z h1 g1
      exact ⟨b, g1, by rw [upd_ne ne]; exact g2, g3, g4.move ex rfl⟩
  · rcases set_at q1 with ⟨rfl, z⟩ | ⟨n1, z1⟩
    · cases z
    · rcases set_at q2 with ⟨rfl, z2⟩ | ⟨n2, z2⟩
      · cases z2
      · exact h.sep j k l1 l2 d1 d2 b n z1 z2 s1 s2
/-- an owned dict is locked, and data from now on -/
theorem Holds.lock {i : Nat} {d : D} (h : Holds K G ρ σ F H) (hi : ρ[i]? = some (some (.own true d))) (hd : d.frzd = false) : ∃ a u, H a = some u ∧ Mut (some u) ∧ ∀ od, ∃ F', Holds K G (ρ.set i (some (.val d))) σ F' (upd H a (.frz od u)) := by
  obtain ⟨a, h1, hf, h0, hw⟩ := h.own i true d hi
  have key : ∃ u, H a = some u ∧ Mut (some u) ∧ ∀ od, Rep K (upd F a (.frz od u)) (.ref a) d := by
    cases hw with
    | lst _ _ _ => cases hd
    | obj _ _ _ => cases hd
    | dT h l r => exact ⟨_, h, True.intro, fun od => .dT upd_same l (r.mono (same_upd hf))⟩
    | dK h l r => exact ⟨_, h, True.intro, fun od => .dK upd_same l (r.mono (same_upd hf))⟩
  obtain ⟨u, hu, mu, hr⟩ := key
  refine ⟨a, u, hu, mu, fun od => ⟨upd F a (.frz od u), ?_⟩⟩
  have ex : Same F (upd F a (.frz od u)) := same_upd hf
  have sub' : Same (upd F a (.frz od u)) (upd H a (.frz od u)) := fun b x q => by
    by_cases e : b = a
    · subst e
      rw [upd_same] at q ⊢
      exact q
    · rw [upd_ne e] at q ⊢
      exact h.sub _ _ q
  have il : i < ρ.length := by
    rcases Nat.lt_or_ge i ρ.length with z | z
    · exact z
    · rw [List.getElem?_eq_none z] at hi
      cases hi
  refine ⟨⟨sub', fun b x q nb => ?_, fun b hb => ?_, h.ext.trans ex, fun b x q => ?_⟩, fun j e q => ?_, fun j m e q => ?_, fun j k l1 l2 d1 d2 b n q1 q2 s1 s2 => ?_, by simpa using h.len⟩
  · have e : b ≠ a := fun e => by
      subst e
      rw [h0.1] at q
      cases q
    rw [upd_ne e]
    exact h.base _ _ q nb
  · have e : b ≠ a := fun e => by
      subst e
      exact h0.2 hb
    rw [upd_ne e]
    exact h.bsT b hb
  · by_cases e : b = a
    · subst e
      exact .inr (.inl h0)
    · rw [upd_ne e] at q
      exact h.new _ _ q
  · rcases set_at q with ⟨rfl, z⟩ | ⟨n, z⟩
    · cases z
      exact ⟨_, h1, hr od⟩
    · obtain ⟨v, g1, g2⟩ := h.val j e z
      exact ⟨v, g1, g2.mono ex⟩
  · rcases set_at q with ⟨rfl, z⟩ | ⟨n, z⟩
    · cases z
    · obtain ⟨b, g1, g2, g3, g4⟩ := h.own j m e z
      have ne : b ≠ a := fun e => by
        subst e
        exact h.sep i j _ _ _ _ b n hi z h1 g1
      exact ⟨b, g1, by rw [upd_ne ne]; exact g2, g3, g4.move ex (upd_ne ne)⟩
  · rcases set_at q1 with ⟨rfl, z⟩ | ⟨n1, z1⟩
    · cases z
    · rcases set_at q2 with ⟨rfl, z2⟩ | ⟨n2, z2⟩
      · cases z2
      · exact h.sep j k l1 l2 d1 d2 b n z1 z2 s1 s2
end
end VL
set_option Elab.async false
set_option linter.all false
set_option maxRecDepth 100000
set_option autoImplicit false
namespace VL
open PySem PySem.Spec L2
open PyProof.Rows hiding St

/-! ### blocks -/
inductive Fl (α β : Type) where
  | nx (z : α) | rt (d : D) (s : List D) | bk (y : β) | ct (y : β)
def OwnsL (K : PySem.W.Frag) (F H : Hp) (bs : List Addr) (s : List D) : Prop := bs.length = s.length ∧ ∀ (i : Nat) (a : Addr), bs[i]? = some a → F a = none ∧ ∃ d, s[i]? = some d ∧ Own K F H a d
def PostS {α β : Type} (K : PySem.W.Frag) (G : Gd) (W : WX) (ρx : Rho) (pn : α → Rho) (pl : β → Rho) (E : Ends) : Rs (Fl α β) → Prop
  | .ok (.nx z) => ∀ σ F H, Holds K G (pn z) σ F H → E.nx σ H
  | .ok (.bk y) => ∀ σ F H, Holds K G (pl y) σ F H → E.bk σ H
  | .ok (.ct y) => ∀ σ F H, Holds K G (pl y) σ F H → E.ct σ H
  | .ok (.rt d s) => ∀ v F H, Gnd K G F H → Rep K F v d → OwnsL K F H G.bs s → E.rt v H
  | .ex c fs => ∀ dd σ F H, Holds K G ρx σ F H → XRep K F dd fs → W (.ref (He.ga K c)) (some dd) σ H
  | .no => False
/-- the widest reading of a block -/
def tAny (X : Cx) (sts : List Stmt) : TS := fun E σ H => ∃ t, PSs X sts t ∧ t E σ H
theorem pss_any {X : Cx} {sts : List Stmt} : PSs X sts (tAny X sts) := ⟨fun pins s σ H E I ⟨_, p, h⟩ => p.run pins s σ H E I h⟩
def BK (X : Cx) (G : Gd) (W : WX) (ρx ρ : Rho) (sts : List Stmt) {α β : Type} (pn : α → Rho) (pl : β → Rho) (m : Rs (Fl α β)) : Prop :=
  ∀ F0 σ F H E, Holds X.K (G.at F0) ρ σ F H → PostS X.K (G.at F0) W ρx pn pl E m → tAny X sts E σ H
/-- an assignment of slot i by what m tells -/
def AS (X : Cx) (G : Gd) (W : WX) (ρ : Rho) (st : Stmt) (i : Nat) (m : Rs D) : Prop :=
  ∃ te, PS X st (tAsg te (gName i)) ∧ ∀ F0 σ F H Q, Holds X.K (G.at F0) ρ σ F H → Post X.K (RF X.K) (fun c d H => W c d σ H) F H Q m → te σ H Q
def AF (X : Cx) (G : Gd) (W : WX) (ρ : Rho) (st : Stmt) (i : Nat) (m : Rs (List D)) : Prop :=
  ∃ te, PS X st (tAsg te (gName i)) ∧ ∀ F0 σ F H Q, Holds X.K (G.at F0) ρ σ F H → Post X.K (RN X.K H) (fun c d H => W c d σ H) F H Q m → te σ H Q
section
variable {X : Cx} {G : Gd} {W : WX} {ρx ρ : Rho} {rest : List Stmt} {α β : Type} {pn : α → Rho} {pl : β → Rho}
/-- an expression's outcome, then the rest -/
theorem post_seq {γ δ : Type} {Rl : Hp → Hp → γ → δ → Prop} {F0 : Hp} {σ : St} {F H : Hp} {E : Ends} {m : Rs δ} {f : δ → Rs (Fl α β)} {Q1 : γ → Hp → Prop} (hh : Holds X.K (G.at F0) ρ σ F H) (wx : Wk ρ ρx) (hp : PostS X.K (G.at F0) W ρx pn pl E (m.bind f))
    (k : ∀ d v F' H', Ext F H F' H' → Rl F' H' v d → PostS X.K (G.at F0) W ρx pn pl E (f d) → Q1 v H') : Post X.K Rl (fun c d H => W c d σ H) F H Q1 m := by
  cases m with
  | ok d => exact fun v F2 H2 e2 r => k d v F2 H2 e2 r hp
  | ex c fs => exact fun dd F2 H2 e2 r => hp dd σ F2 H2 ((hh.more e2).weak wx) r
  | no => exact hp
theorem as_ev {i : Nat} {x : Str} {e : Expr} {pos pos' : Pos} {m : Rs D} (nd : X.N.Nodup) (h : EV X G W ρ e m) (hi : X.N[i]? = some x := by rfl) (hx : Loc X.env.scope x := by first | exact Or.inl rfl | exact Or.inr rfl) (hs : swapsWith e (some (.Name x pos')) pos.line X.env = pure false := by rfl)
    (hf : X.fn x = true ∨ X.env.scope.names.lookup x = some .local := by first | exact .inl rfl | exact .inr rfl) : AS X G W ρ (.Assign [.Name x pos'] e pos) i m := by
  obtain ⟨t, p, q⟩ := h
  exact ⟨t, ps_set nd hi hx p hs hf, q⟩
theorem af_ef {i : Nat} {x : Str} {e : Expr} {pos pos' : Pos} {m : Rs (List D)} (nd : X.N.Nodup) (h : EF X G W ρ e m) (hi : X.N[i]? = some x := by rfl) (hx : Loc X.env.scope x := by first | exact Or.inl rfl | exact Or.inr rfl) (hs : swapsWith e (some (.Name x pos')) pos.line X.env = pure false := by rfl)
    (hf : X.fn x = true ∨ X.env.scope.names.lookup x = some .local := by first | exact .inl rfl | exact .inr rfl) : AF X G W ρ (.Assign [.Name x pos'] e pos) i m := by
  obtain ⟨t, p, q⟩ := h
  exact ⟨t, ps_set nd hi hx p hs hf, q⟩
theorem any_cons {st : Stmt} {t : TS} {E : Ends} {σ : St} {H : Hp} (p : PS X st t) (h : t { E with nx := tAny X rest E } σ H) : tAny X (st :: rest) E σ H := ⟨_, pss_cons p pss_any, h⟩
theorem bk_nil {z : α} (w : Wk ρ (pn z)) : BK X G W ρx ρ [] pn pl (.ok (.nx z) : Rs (Fl α β)) := fun F0 σ F H E hh hp => ⟨_, pss_nil, hp σ F H (hh.weak w)⟩
theorem bk_set {i : Nat} {st : Stmt} {m : Rs D} {f : D → Rs (Fl α β)} (ha : AS X G W ρ st i m) (hr : ∀ d, BK X G W ρx (ρ.set i (some (.val d))) rest pn pl (f d)) (hi : i < ρ.length := by exact Nat.le_of_ble_eq_true rfl) (wx : Wk ρ ρx := by first | exact Wk.nil | exact Wk.refl | (repeat (first | exact Wk.nil | apply Wk.keep | apply Wk.drop))) :
    BK X G W ρx ρ (st :: rest) pn pl (m.bind f) := by
  obtain ⟨te, p, q⟩ := ha
  intro F0 σ F H E hh hp
  refine any_cons p (q F0 σ F H _ hh (post_seq hh wx hp fun d v F' H' e1 r1 hp1 => ?_))
  exact hr d F0 _ F' H' E ((hh.more e1).setV r1 hi) hp1
theorem bk_own {i : Nat} {st : Stmt} {m : Rs (List D)} {f : List D → Rs (Fl α β)} (ha : AF X G W ρ st i m) (hr : ∀ d, BK X G W ρx (ρ.set i (some (.own true (.lst d)))) rest pn pl (f d)) (hi : i < ρ.length := by exact Nat.le_of_ble_eq_true rfl) (wx : Wk ρ ρx := by first | exact Wk.nil | exact Wk.refl | (repeat (first | exact Wk.nil | apply Wk.keep | apply Wk.drop))) :
    BK X G W ρx ρ (st :: rest) pn pl (m.bind f) := by
  obtain ⟨te, p, q⟩ := ha
  intro F0 σ F H E hh hp
  refine any_cons p (q F0 σ F H _ hh (post_seq hh wx hp fun d v F' H' e1 r1 hp1 => ?_))
  obtain ⟨a, rfl, hn, hf, ho⟩ := r1
  refine hr d F0 _ F' H' E ((hh.more e1).setO ho hf ?_ ?_ hi) hp1
  · refine ⟨?_, fun hb => ?_⟩
    · cases q0 : G.H0 a with
      | none => exact q0
      | some o =>
        by_cases hb : a ∈ G.bs
        · obtain ⟨o2, q2, _⟩ := hh.bsT a hb
          rw [hn] at q2
          cases q2
        · rw [hh.base a o q0 hb] at hn
          cases hn
    · obtain ⟨o2, q2, _⟩ := hh.bsT a hb
      rw [hn] at q2
      cases q2
  · intro j l e qj sj
    obtain ⟨b, h1, h2, h3, h4⟩ := hh.own j l e qj
    rw [h1] at sj
    cases sj
    obtain ⟨o, ho, nt_⟩ := h4.there
    rw [hn] at ho
    cases ho
theorem any_lock {sts : List Stmt} {E : Ends} {σ : L2.St} {H : Hp} {a : Addr} {u : HO} (h : H a = some u) (mu : Mut (some u)) (k : ∀ od, tAny X sts E σ (upd H a (.frz od u))) : tAny X sts E σ H := by
  refine ⟨fun E σ H => ∃ a u, H a = some u ∧ Mut (some u) ∧ ∀ od, tAny X sts E σ (upd H a (.frz od u)), ⟨fun pins s σ H E I hw => ?_⟩, a, u, h, mu, k⟩
  obtain ⟨a, u, h, mu, k⟩ := hw
  obtain ⟨od, I1⟩ := I.lock h mu
  obtain ⟨t, p, q⟩ := k od
  exact p.run pins s σ _ E I1 q
/-- the cell of slot i is frozen -/
theorem bk_frz {i : Nat} {d : D} {sts : List Stmt} {m : Rs (Fl α β)} (hi : ρ[i]? = some (some (.own true d)) := by rfl) (hr : BK X G W ρx (ρ.set i (some (.val d))) sts pn pl m) : BK X G W ρx ρ sts pn pl m := by
  intro F0 σ F H E hh hp
  cases hd : d.frzd with
  | true =>
    obtain ⟨F', hh'⟩ := hh.freeze hi hd
    exact hr F0 σ F' H E hh' hp
  | false =>
    obtain ⟨a, u, h1, mu, k⟩ := hh.lock hi hd
    refine any_lock h1 mu fun od => ?_
    obtain ⟨F', hh'⟩ := k od
    exact hr F0 σ F' _ E hh' hp
theorem bk_weak {ρ' : Rho} {sts : List Stmt} {m : Rs (Fl α β)} (w : Wk ρ ρ') (hr : BK X G W ρx ρ' sts pn pl m) : BK X G W ρx ρ sts pn pl m := fun F0 σ F H E hh hp => hr F0 σ F H E (hh.weak w) hp
theorem bk_expr {e : Expr} {pos : Pos} {m : Rs D} {f : Rs (Fl α β)} (he : EV X G W ρ e m) (hr : BK X G W ρx ρ rest pn pl f) (hs : swapsWith e none pos.line X.env = pure false := by rfl) (wx : Wk ρ ρx := by first | exact Wk.nil | exact Wk.refl | (repeat (first | exact Wk.nil | apply Wk.keep | apply Wk.drop))) :
    BK X G W ρx ρ (.Expr e pos :: rest) pn pl (m.bind fun _ => f) := by
  obtain ⟨te, p, q⟩ := he
  intro F0 σ F H E hh hp
  refine any_cons (ps_expr p hs) (q F0 σ F H _ hh (post_seq hh wx hp fun d v F' H' e1 r1 hp1 => ?_))
  exact hr F0 _ F' H' E (hh.more e1) hp1
/-! ### changing owned lists -/
def appL (ds : List D) (d : D) : Option (List D) := if ds.length < sizeLine then some (ds ++ [d]) else none
theorem Own.asL {K : PySem.W.Frag} {F H : Hp} {a : Addr} {ds : List D} (h : Own K F H a (.lst ds)) : ∃ xs, H a = some (.lst xs) ∧ xs.length ≤ sizeLine ∧ Reps K F xs ds := by
  cases h with
  | lst h l r => exact ⟨_, h, l, r⟩
theorem bk_append {i : Nat} {x : Str} {e : Expr} {xpos apos cpos pos : Pos} {l : Bool} {c : List D} {m : Rs D} {f : List D → Rs (Fl α β)} (hv : PE X (.Name x xpos) (tVar i)) (he : EV X G W ρ e m)
    (hr : ∀ c', BK X G W ρx (ρ.set i (some (.own l (.lst c')))) rest pn pl (f c')) (hi : ρ[i]? = some (some (.own l (.lst c))) := by rfl)
    (hbase : attributeBase (.Name x xpos) "append" X.env (eval (.Name x xpos) X.env) = eval (.Name x xpos) X.env := by rfl)
    (hfew : ((backTo cpos (starEach [e] X.env)).all (fun x => !x.1) && (backToKw cpos (keywordEach [] X.env)).all (fun x => x.1.isSome) && decide ([e].length + ([] : List Keyword).length + (if ([] : List Keyword).isEmpty then 0 else 1) < 30)) = true := by rfl)
    (hst : starEach [e] X.env = (false, eval e X.env) :: starEach [] X.env := by rfl)
    (hline : (apos.endLine == cpos.line) = true := by rfl) (hs : swapsWith (.Call (.Attribute (.Name x xpos) "append" apos) [e] [] cpos) none pos.line X.env = pure false := by rfl) (wx : Wk ρ ρx := by first | exact Wk.nil | exact Wk.refl | (repeat (first | exact Wk.nil | apply Wk.keep | apply Wk.drop))) :
    BK X G W ρx ρ (.Expr (.Call (.Attribute (.Name x xpos) "append" apos) [e] [] cpos) pos :: rest) pn pl (m.bind fun d => (Rs.of (appL c d)).bind f) := by
  obtain ⟨te, p, q⟩ := he
  intro F0 σ F H E hh hp
  refine any_cons (ps_expr (pe_bm PySem.F.plainAttrs_list PySem.F.slot_list_append PySem.F.type_list_append mt_append hv (pa_cons p pa_nil hst) hbase hfew hline hst rfl) hs) ?_
  obtain ⟨a, h1, h2, h3, h4⟩ := hh.own i l _ hi
  obtain ⟨xs, h5, l5, r5⟩ := h4.asL
  refine ⟨.ref a, h1, .inl ⟨rfl, _, SqL.of h5⟩, ?_⟩
  refine q F0 σ F H _ hh (post_seq hh wx hp fun d v F' H' e1 r1 hp1 => ?_)
  have h6 := e1.same _ _ h5
  unfold appL at hp1
  split at hp1
  · rename_i hlt
    have l6 : xs.length < sizeLine := by rw [r5.length]; exact hlt
    refine ⟨a, xs, v, rfl, rfl, h6, l6, ?_⟩
    refine hr _ F0 σ F' _ E ((hh.more e1).write hi h1 (.lst upd_same ?_ ((r5.mono e1.ext).append (.one r1)))) hp1
    rw [List.length_append, List.length_singleton]
    exact l6
  · exact hp1.elim
/-- x[k] = e -/
def setL (ds : List D) (k d : D) : Option (List D) := match k with
  | .int i => (ixN ds.length i).map fun j => ds.set j d
  | _ => none
theorem bk_setix {i : Nat} {x : Str} {e k : Expr} {xpos spos pos : Pos} {l : Bool} {c : List D} {m mk : Rs D} {f : List D → Rs (Fl α β)} (hv : PE X (.Name x xpos) (tVar i)) (he : EV X G W ρ e m) (hk : EV X G W ρ k mk)
    (hr : ∀ c', BK X G W ρx (ρ.set i (some (.own l (.lst c')))) rest pn pl (f c')) (hi : ρ[i]? = some (some (.own l (.lst c))) := by rfl)
    (hs : swapsWithSole [.Subscript (.Name x xpos) k spos] e pos.line X.env = pure false := by rfl) (hw : swappedStores [.Subscript (.Name x xpos) k spos] e X.env = pure none := by rfl)
    (h1 : (assignEach [.Subscript (.Name x xpos) k spos] X.env).map (·.2) = [assign (.Subscript (.Name x xpos) k spos) X.env] := by rfl)
    (hA : ∀ v, assign (.Subscript (.Name x xpos) k spos) X.env v = (do
      let ov ← holding [v] (eval (.Name x xpos) X.env); let iv ← holding [v, ov] (eval k X.env); standAt spos; holding [v, ov, iv] (setItem ov iv v); release [v, ov, iv] []) := by intro _; rfl) (wx : Wk ρ ρx := by first | exact Wk.nil | exact Wk.refl | (repeat (first | exact Wk.nil | apply Wk.keep | apply Wk.drop))) :
    BK X G W ρx ρ (.Assign [.Subscript (.Name x xpos) k spos] e pos :: rest) pn pl (m.bind fun d => mk.bind fun j => (Rs.of (setL c j d)).bind f) := by
  obtain ⟨te, p, q⟩ := he
  obtain ⟨tk, pk, qk⟩ := hk
  intro F0 σ F H E hh hp
  refine any_cons (ps_asg p (pg_sub hv pk set_list hA) hs hw h1) ?_
  refine q F0 σ F H _ hh (post_seq hh wx hp fun d v F' H' e1 r1 hp1 => ?_)
  have hh1 := hh.more e1
  obtain ⟨a, g1, g2, g3, g4⟩ := hh1.own i l _ hi
  refine ⟨.ref a, g1, ?_⟩
  refine qk F0 σ F' H' _ hh1 (post_seq hh1 wx hp1 fun dk vk F2 H2 e2 r2 hp2 => ?_)
  have hh2 := hh1.more e2
  obtain ⟨xs, h5, l5, r5⟩ := (g4.ext e2).asL
  cases dk with
  | int n =>
    cases r2
    cases q3 : ixN c.length n with
    | none =>
      simp only [setL, q3] at hp2
      exact hp2.elim
    | some j =>
      simp only [setL, q3, Option.map] at hp2
      refine ⟨a, xs, n, j, rfl, rfl, h5, by rw [r5.length]; exact q3, ?_⟩
      exact hr _ F0 σ F2 _ E (hh2.write hi g1 (.lst upd_same (by rw [List.length_set]; exact l5) (r5.set j (r1.mono e2.ext)))) hp2
  | _ => exact hp2.elim
end
end VL
set_option Elab.async false
set_option linter.all false
set_option maxRecDepth 100000
set_option autoImplicit false
namespace VL
open PySem PySem.Spec L2
open PyProof.Rows hiding St
section
variable {X : Cx} {G : Gd} {W : WX} {ρx ρ : Rho} {rest : List Stmt} {α β : Type} {pn : α → Rho} {pl : β → Rho}
theorem owns0 {K : PySem.W.Frag} {F H : Hp} {bs : List Addr} (h : bs = []) : OwnsL K F H bs [] := by
  subst h
  exact ⟨rfl, fun i a q => by simp at q⟩
theorem any_one {st : Stmt} {t : TS} {E : Ends} {σ : St} {H : Hp} (p : PS X st t) (h : t E σ H) : tAny X [st] E σ H := ⟨_, pss_one p, h⟩
theorem bk_ret {e : Expr} {pos : Pos} {m : Rs D} (he : EV X G W ρ e m) (hb : G.bs = [] := by rfl) (wx : Wk ρ ρx := by first | exact Wk.nil | exact Wk.refl | (repeat (first | exact Wk.nil | apply Wk.keep | apply Wk.drop))) : BK X G W ρx ρ (.Return (some e) pos :: rest) pn pl (m.bind fun d => (.ok (.rt d []) : Rs (Fl α β))) := by
  obtain ⟨te, p, q⟩ := he
  intro F0 σ F H E hh hp
  refine any_cons (ps_ret p) (q F0 σ F H _ hh (post_seq hh wx hp fun d v F' H' e1 r1 hp1 => ?_))
  exact hp1 v F' H' (hh.toGnd.more e1) r1 (owns0 hb)
theorem bk_retN {pos : Pos} (hb : G.bs = [] := by rfl) : BK X G W ρx ρ (.Return none pos :: rest) pn pl (.ok (.rt .non []) : Rs (Fl α β)) := by
  intro F0 σ F H E hh hp
  exact any_cons ps_retN (hp .non F H hh.toGnd .non (owns0 hb))
/-- handed in: one cell, in slot i -/
theorem bk_retIO {i : Nat} {b : Addr} {s : D} {e : Expr} {pos : Pos} {m : Rs D} (he : EV X G W ρ e m) (hi : ρ[i]? = some (some (.own false s)) := by rfl) (hb : G.bs = [b] := by rfl) (wx : Wk ρ ρx := by first | exact Wk.nil | exact Wk.refl | (repeat (first | exact Wk.nil | apply Wk.keep | apply Wk.drop))) :
    BK X G W ρx ρ (.Return (some e) pos :: rest) pn pl (m.bind fun d => (.ok (.rt d [s]) : Rs (Fl α β))) := by
  obtain ⟨te, p, q⟩ := he
  intro F0 σ F H E hh hp
  refine any_cons (ps_ret p) (q F0 σ F H _ hh (post_seq hh wx hp fun d v F' H' e1 r1 hp1 => ?_))
  have hh1 := hh.more e1
  obtain ⟨a, g1, g2, g3, g4⟩ := hh1.own i false s hi
  refine hp1 v F' H' hh1.toGnd r1 ?_
  have g3' : a ∈ G.bs := g3
  show OwnsL X.K F' H' G.bs [s]
  rw [hb] at g3' ⊢
  cases List.mem_singleton.mp g3'
  refine ⟨rfl, fun j a' q' => ?_⟩
  cases j with
  | zero =>
    cases q'
    exact ⟨g2, s, rfl, g4⟩
  | succ j => simp at q'
theorem bk_pass {pos : Pos} {m : Rs (Fl α β)} (hr : BK X G W ρx ρ rest pn pl m) : BK X G W ρx ρ (.Pass pos :: rest) pn pl m := fun F0 σ F H E hh hp => any_cons ps_pass (hr F0 σ F H E hh hp)
theorem bk_brk {pos : Pos} {y : β} (w : Wk ρ (pl y)) : BK X G W ρx ρ (.Break pos :: rest) pn pl (.ok (.bk y) : Rs (Fl α β)) := fun F0 σ F H E hh hp => any_cons ps_break (hp σ F H (hh.weak w))
theorem bk_cnt {pos : Pos} {y : β} (w : Wk ρ (pl y)) : BK X G W ρx ρ (.Continue pos :: rest) pn pl (.ok (.ct y) : Rs (Fl α β)) := fun F0 σ F H E hh hp => any_cons ps_continue (hp σ F H (hh.weak w))

/-! ### if -/
def Fl.lift {α β : Type} : Fl Empty β → Fl α β
  | .nx z => nomatch z
  | .rt d s => .rt d s
  | .bk y => .bk y
  | .ct y => .ct y
/-- a block that never falls through -/
def liftF {α β : Type} (m : Rs (Fl Empty β)) : Rs (Fl α β) := m.bind fun f => .ok f.lift
def pEmp : Empty → Rho := fun z => nomatch z
theorem postS_lift {F0 : Hp} {E : Ends} {N : St → Hp → Prop} {m : Rs (Fl Empty β)} (h : PostS X.K (G.at F0) W ρx pn pl E (liftF m : Rs (Fl α β))) : PostS X.K (G.at F0) W ρx pEmp pl { E with nx := N } m := by
  cases m with
  | ok f =>
    cases f with
    | nx z => exact nomatch z
    | rt d s => exact h
    | bk y => exact h
    | ct y => exact h
  | ex c fs => exact h
  | no => exact h
theorem tAny_mono {sts : List Stmt} {E E' : Ends} {σ : St} {H : Hp} (h : tAny X sts E σ H) (e : E = E') : tAny X sts E' σ H := e ▸ h
/-- if t: (leaves) .. rest -/
theorem bk_ifr {c : Expr} {a : List Stmt} {pos : Pos} {tc : Rs Bool} {ma : Rs (Fl Empty β)} {mr : Rs (Fl α β)} (hc : TV X G W ρ c tc) (ha : BK X G W ρx ρ a pEmp pl ma) (hr : BK X G W ρx ρ rest pn pl mr) (wx : Wk ρ ρx := by first | exact Wk.nil | exact Wk.refl | (repeat (first | exact Wk.nil | apply Wk.keep | apply Wk.drop))) :
    BK X G W ρx ρ (.If c a [] pos :: rest) pn pl (tc.bind fun k => if k then liftF ma else mr) := by
  obtain ⟨t, p, q⟩ := hc
  intro F0 σ F H E hh hp
  refine any_cons (ps_if p pss_any pss_nil) (q F0 σ F H _ hh (post_seq hh wx hp fun d v F' H' e1 r1 hp1 => ?_))
  cases r1
  cases d with
  | true => exact iteT (ha F0 σ F' H' _ (hh.more e1) (postS_lift hp1))
  | false => exact iteF (hr F0 σ F' H' E (hh.more e1) hp1)
/-- if t: (leaves) else: b, nothing behind -/
theorem bk_if2 {c : Expr} {a b : List Stmt} {pos : Pos} {tc : Rs Bool} {ma mb : Rs (Fl α β)} (hc : TV X G W ρ c tc) (ha : BK X G W ρx ρ a pn pl ma) (hb : BK X G W ρx ρ b pn pl mb) (wx : Wk ρ ρx := by first | exact Wk.nil | exact Wk.refl | (repeat (first | exact Wk.nil | apply Wk.keep | apply Wk.drop))) :
    BK X G W ρx ρ [.If c a b pos] pn pl (tc.bind fun k => if k then ma else mb) := by
  obtain ⟨t, p, q⟩ := hc
  intro F0 σ F H E hh hp
  refine any_one (ps_if p pss_any pss_any) (q F0 σ F H _ hh (post_seq hh wx hp fun d v F' H' e1 r1 hp1 => ?_))
  cases r1
  cases d with
  | true => exact iteT (ha F0 σ F' H' _ (hh.more e1) hp1)
  | false => exact iteF (hb F0 σ F' H' E (hh.more e1) hp1)
def Fl.andThen {α γ β : Type} (f : γ → Rs (Fl α β)) : Fl γ β → Rs (Fl α β)
  | .nx z => f z
  | .rt d s => .ok (.rt d s)
  | .bk y => .ok (.bk y)
  | .ct y => .ok (.ct y)
/-- what stands behind a statement with ways of its own -/
theorem postS_then {γ : Type} {F0 : Hp} {p1 : γ → Rho} {E : Ends} {m : Rs (Fl γ β)} {f : γ → Rs (Fl α β)} (hr : ∀ z, BK X G W ρx (p1 z) rest pn pl (f z)) (h : PostS X.K (G.at F0) W ρx pn pl E (m.bind (Fl.andThen f))) :
    PostS X.K (G.at F0) W ρx p1 pl { E with nx := tAny X rest E } m := by
  cases m with
  | ok fl =>
    cases fl with
    | nx z => exact fun σ F H hh => hr z F0 σ F H E hh h
    | rt d s => exact h
    | bk y => exact h
    | ct y => exact h
  | ex c fs => exact h
  | no => exact h
theorem bk_if {γ : Type} {p1 : γ → Rho} {c : Expr} {a b : List Stmt} {pos : Pos} {tc : Rs Bool} {ma mb : Rs (Fl γ β)} {f : γ → Rs (Fl α β)} (hc : TV X G W ρ c tc) (ha : BK X G W ρx ρ a p1 pl ma) (hb : BK X G W ρx ρ b p1 pl mb)
    (hr : ∀ z, BK X G W ρx (p1 z) rest pn pl (f z)) (wx : Wk ρ ρx := by first | exact Wk.nil | exact Wk.refl | (repeat (first | exact Wk.nil | apply Wk.keep | apply Wk.drop))) :
    BK X G W ρx ρ (.If c a b pos :: rest) pn pl ((tc.bind fun k => if k then ma else mb).bind (Fl.andThen f)) := by
  obtain ⟨t, p, q⟩ := hc
  intro F0 σ F H E hh hp
  refine any_cons (ps_if p pss_any pss_any) (q F0 σ F H _ hh ?_)
  cases tc with
  | ok k =>
    intro v F' H' e1 r1
    cases r1
    cases k with
    | true => exact iteT (ha F0 σ F' H' _ (hh.more e1) (postS_then hr hp))
    | false => exact iteF (hb F0 σ F' H' _ (hh.more e1) (postS_then hr hp))
  | ex cc fs => exact fun dd F2 H2 e2 r => hp dd σ F2 H2 ((hh.more e2).weak wx) r
  | no => exact hp

/-! ### what is walked -/
def Walks (K : PySem.W.Frag) (J : It) (F0 : Hp) (items : List D) : Prop := items.length ≤ sizeLine ∧ ∀ F H, Same F0 F → Same F H →
  (∀ (i : Nat) (d : D), items[i]? = some d → J.go i H ∧ ∀ x H', J.yld i H x H' → ∃ F', Ext F H F' H' ∧ Rep K F' x d) ∧ J.stop items.length H
def IT (X : Cx) (G : Gd) (W : WX) (ρ : Rho) (tg iter : Expr) (m : Rs (List D)) : Prop :=
  ∃ wi, PI X tg iter wi ∧ ∀ F0 σ F H R, Holds X.K (G.at F0) ρ σ F H → Post X.K (fun F' _ J ds => Walks X.K J F' ds) (fun c d H => W c d σ H) F H R m → wi σ H R
theorem PI.or {tg iter : Expr} {w1 w2 : TI} (h1 : PI X tg iter w1) (h2 : PI X tg iter w2) : PI X tg iter (fun σ H R => w1 σ H R ∨ w2 σ H R) := ⟨fun pins s σ H R I h => by
  rcases h with h | h
  · exact h1.run pins s σ H R I h
  · exact h2.run pins s σ H R I h⟩
def itemsD : D → Option (List D)
  | .lst ds => some ds
  | .tup ds => some ds
  | .scr ds => some ds
  | .str x => if x.cps.size ≤ sizeLine then some (x.cps.toList.map fun c => .str ⟨#[c]⟩) else none
  | _ => none
theorem walks_list {K : PySem.W.Frag} {F : Hp} {a : Addr} {xs : List V} {ds : List D} (h : SqL K F a xs) (hl : xs.length ≤ sizeLine) (r : Reps K F xs ds) : Walks K (Itl K a) F ds := by
  refine ⟨by rw [← r.length]; exact hl, ?_⟩
  intro F1 H1 e1 e2
  have h1 : SqL K H1 a xs := SqL.same e2 (SqL.same e1 h)
  refine ⟨fun i d q => ?_, ⟨xs, h1, Nat.le_of_eq r.length⟩⟩
  obtain ⟨v, hv, rv⟩ := r.get q
  refine ⟨⟨xs, v, h1, hv⟩, fun x H' y => ?_⟩
  obtain ⟨rfl, y⟩ := y
  have e3 := y xs h1
  rw [hv] at e3
  cases e3
  exact ⟨F1, Ext.refl e2, rv.mono e1⟩
theorem walks_tup {K : PySem.W.Frag} {F : Hp} {a : Addr} {xs : List V} {ds : List D} (h : SqT K F a xs) (hl : xs.length ≤ sizeLine) (r : Reps K F xs ds) : Walks K (Itt K a) F ds := by
  refine ⟨by rw [← r.length]; exact hl, ?_⟩
  intro F1 H1 e1 e2
  have h1 : SqT K H1 a xs := SqT.same e2 (SqT.same e1 h)
  refine ⟨fun i d q => ?_, ⟨xs, h1, Nat.le_of_eq r.length⟩⟩
  obtain ⟨v, hv, rv⟩ := r.get q
  refine ⟨⟨xs, v, h1, hv⟩, fun x H' y => ?_⟩
  obtain ⟨rfl, y⟩ := y
  have e3 := y xs h1
  rw [hv] at e3
  cases e3
  exact ⟨F1, Ext.refl e2, rv.mono e1⟩
theorem walks_str {K : PySem.W.Frag} {F : Hp} {z : Str} (hl : z.cps.size ≤ sizeLine) : Walks K (Its z) F (z.cps.toList.map fun c => .str ⟨#[c]⟩) := by
  refine ⟨by simpa using hl, ?_⟩
  intro F1 H1 e1 e2
  refine ⟨fun i d q => ?_, ?_⟩
  · rw [List.getElem?_map] at q
    cases hc : z.cps.toList[i]? with
    | none => rw [hc] at q; cases q
    | some c =>
      rw [hc] at q
      cases q
      have hc' : z.cps[i]? = some c := by simpa using hc
      have hl : i < z.cps.size := by
        rcases Nat.lt_or_ge i z.cps.size with h | h
        · exact h
        · rw [Array.getElem?_eq_none h] at hc'; cases hc'
      refine ⟨hl, fun x H' y => ?_⟩
      obtain ⟨rfl, c2, h2, rfl⟩ := y
      rw [hc'] at h2
      cases h2
      exact ⟨F1, Ext.refl e2, .str _⟩
  · show z.cps.size ≤ _
    simp
/-- for x in e: a list, a tuple, a text -/
theorem it_seq {tg e : Expr} {m : Rs D} (h : EV X G W ρ e m) : IT X G W ρ tg e (m.bind fun d => Rs.of (itemsD d)) := by
  obtain ⟨t, p, q⟩ := h
  refine ⟨_, PI.or (pi_list p) (PI.or (pi_tup p) (pi_str p)), fun F0 σ F H R hh hp => ?_⟩
  cases m with
  | ok d =>
    obtain ⟨ds, hd, k⟩ := Post.of (o := itemsD d) hp
    cases d with
    | lst es =>
      cases hd
      refine .inl (q F0 σ F H _ hh fun v F' H' e1 r1 => ?_)
      cases r1 with
      | lst h1 l1 r1 => exact ⟨_, rfl, ⟨_, SqL.of (e1.sub _ _ h1)⟩, k _ F' H' e1 (walks_list (SqL.of h1) l1 r1)⟩
    | scr es =>
      cases hd
      refine .inl (q F0 σ F H _ hh fun v F' H' e1 r1 => ?_)
      cases r1 with
      | scr h1 l1 r1 => exact ⟨_, rfl, ⟨_, SqL.same e1.sub h1⟩, k _ F' H' e1 (walks_list h1 l1 r1)⟩
    | tup es =>
      cases hd
      refine .inr (.inl (q F0 σ F H _ hh fun v F' H' e1 r1 => ?_))
      cases r1 with
      | tup h1 l1 r1 => exact ⟨_, rfl, ⟨_, SqT.same e1.sub h1.sq⟩, k _ F' H' e1 (walks_tup h1.sq l1 r1)⟩
    | str z =>
      simp only [itemsD] at hd
      split at hd
      · rename_i hl
        cases hd
        refine .inr (.inr (q F0 σ F H _ hh fun v F' H' e1 r1 => ?_))
        cases r1 with
        | str _ => exact ⟨z, rfl, k _ F' H' e1 (walks_str hl)⟩
      · cases hd
    | _ => cases hd
  | ex c fs => exact .inl (q F0 σ F H _ hh hp)
  | no => exact hp.elim
theorem walks_range {K : PySem.W.Frag} {F : Hp} {lo : Int} {n : Nat} (hl : n ≤ sizeLine) : Walks K (Itr lo n) F ((List.range n).map fun (i : Nat) => D.int (lo + (i : Int))) := by
  refine ⟨by simpa using hl, ?_⟩
  intro F1 H1 e1 e2
  refine ⟨fun i d q => ?_, ?_⟩
  · rw [List.getElem?_map] at q
    have hi : i < n := by
      rcases Nat.lt_or_ge i n with h | h
      · exact h
      · rw [List.getElem?_eq_none (by simpa using h)] at q; cases q
    rw [List.getElem?_range hi] at q
    cases q
    refine ⟨hi, fun x H' y => ?_⟩
    obtain ⟨rfl, rfl⟩ := y
    exact ⟨F1, Ext.refl e2, .int _⟩
  · show n ≤ _
    simp
def rangeL (lo : Int) (n : Nat) : List D := (List.range n).map fun (i : Nat) => D.int (lo + (i : Int))
def rangeD : D → Option (List D)
  | .int n => if n.natAbs < 16000000 then some (rangeL 0 n.toNat) else none
  | _ => none
def rangeD2 : D → D → Option (List D)
  | .int i, .int j => if i.natAbs < 8000000 ∧ j.natAbs < 8000000 then some (rangeL i (j - i).toNat) else none
  | _, _ => none
theorem it_range {tg e : Expr} {p pos : Pos} {m : Rs D} (hg : Gl X "range") (hm : X.mg "range" = none) (h : EV X G W ρ e m) (hs : starEach [e] X.env = (false, eval e X.env) :: starEach [] X.env := by rfl) (hs2 : starEach [] X.env = [] := by rfl) :
    IT X G W ρ tg (.Call (.Name "range" p) [e] [] pos) (m.bind fun d => Rs.of (rangeD d)) := by
  obtain ⟨t, pe, q⟩ := h
  refine ⟨_, pi_range1 hg hm (pa_cons pe pa_nil hs) (hs.trans (by rw [hs2])), fun F0 σ F H R hh hp => ?_⟩
  refine q F0 σ F H _ hh (hp.bind fun d v F' H' e1 r1 hp1 => ?_)
  obtain ⟨ds, hd, k⟩ := hp1.of
  cases d with
  | int n =>
    cases r1
    simp only [rangeD] at hd
    split at hd
    · rename_i hn
      cases hd
      exact ⟨n, rfl, by omega, by omega, k _ F' H' (Ext.refl e1.sub) (walks_range (Nat.le_trans (by omega : n.toNat ≤ 16000000) (by decide)))⟩
    · cases hd
  | _ => cases hd
theorem it_range2 {tg a b : Expr} {p pos : Pos} {ma mb : Rs D} (hg : Gl X "range") (hm : X.mg "range" = none) (ha : EV X G W ρ a ma) (hb : EV X G W ρ b mb) (hs : starEach [a, b] X.env = (false, eval a X.env) :: starEach [b] X.env := by rfl) (hs2 : starEach [b] X.env = (false, eval b X.env) :: starEach [] X.env := by rfl)
    (hw : ∀ {ta : TA}, PA X [a, b] ta → PI X tg (.Call (.Name "range" p) [a, b] [] pos) (iRng2 ta)) : IT X G W ρ tg (.Call (.Name "range" p) [a, b] [] pos) (ma.bind fun x => mb.bind fun y => Rs.of (rangeD2 x y)) := by
  obtain ⟨t, pe, q⟩ := ha
  obtain ⟨t2, pe2, q2⟩ := hb
  refine ⟨_, hw (pa_cons pe (pa_cons pe2 pa_nil hs2) hs), fun F0 σ F H R hh hp => ?_⟩
  refine q F0 σ F H _ hh (hp.bind fun d v F' H' e1 r1 hp1 => ?_)
  refine q2 F0 σ F' H' _ (hh.more e1) (hp1.bind fun d2 v2 F2 H2 e2 r2 hp2 => ?_)
  obtain ⟨ds, hd, k⟩ := hp2.of
  cases d with
  | int n =>
    cases d2 with
    | int j =>
      cases r1
      cases r2
      simp only [rangeD2] at hd
      split at hd
      · rename_i hn
        cases hd
        exact ⟨n, j, rfl, by omega, k _ F2 H2 (Ext.refl e2.sub) (walks_range (Nat.le_trans (by omega : (j - n).toNat ≤ 16000000) (by decide)))⟩
      · cases hd
    | _ => cases hd
  | _ => cases hd

/-! ### targets -/
theorem set_none_set {σ : List (Option V)} {i : Nat} {x : Option V} : (σ.set i x).set i none = σ.set i none := by simp
theorem wipe_set {i : Nat} {x : Option V} : ∀ {vs : List Nat} {σ : St}, i ∈ vs → wipe (σ.set i x) vs = wipe σ vs
  | [], _, h => by cases h
  | v :: vs, σ, h => by
    simp only [wipe]
    by_cases e : i ∈ vs
    · rw [wipe_set e]
    · have ev : i = v := by
        rcases List.mem_cons.mp h with z | z
        · exact z
        · exact absurd z e
      subst ev
      rw [wipe_comm e]
      simp
where wipe_comm {i : Nat} {x : Option V} : ∀ {vs : List Nat} {σ : St}, i ∉ vs → wipe (σ.set i x) vs = (wipe σ vs).set i x
  | [], _, _ => rfl
  | v :: vs, σ, h => by
    simp only [List.mem_cons, not_or] at h
    simp only [wipe]
    rw [wipe_comm h.2]
    exact List.set_comm _ _ h.1
def tAnyG (X : Cx) (tg : Expr) : TG := fun v σ H Q => ∃ g, PG X tg g ∧ g v σ H Q
theorem pg_any {tg : Expr} : PG X tg (tAnyG X tg) := ⟨fun pins s σ H v u Q I r ⟨_, p, h⟩ => p.run pins s σ H v u Q I r h⟩
/-- the target takes d apart by u, what is known then is p -/
def TT1 (X : Cx) (G : Gd) (tg : Expr) (ρ : Rho) (is : List Nat) {γ : Type} (u : D → Option γ) (p : γ → Rho) : Prop :=
  ∀ F0 σ F H v d z Q, Holds X.K (G.at F0) ρ σ F H → Rep X.K F v d → u d = some z → (∀ σ', (∀ vs : List Nat, (∀ i ∈ is, i ∈ vs) → wipe σ' vs = wipe σ vs) → Holds X.K (G.at F0) (p z) σ' F H → Q σ' H) → tAnyG X tg v σ H Q
theorem tt_name {i : Nat} {x : Str} {pos : Pos} (nd : X.N.Nodup) (hi : X.N[i]? = some x := by rfl) (hx : Loc X.env.scope x := by first | exact Or.inl rfl | exact Or.inr rfl) (hf : X.fn x = true ∨ X.env.scope.names.lookup x = some .local := by first | exact .inl rfl | exact .inr rfl)
    (hl : i < ρ.length := by exact Nat.le_of_ble_eq_true rfl) : TT1 X G (.Name x pos) ρ [i] some (fun d => ρ.set i (some (.val d))) := by
  intro F0 σ F H v d z Q hh r e k
  cases e
  exact ⟨_, pg_name nd hi hx hf, k _ (fun vs hv => wipe_set (hv i (by simp))) (hh.setV r hl)⟩
def un2 : D → Option (D × D)
  | .tup [a, b] => some (a, b)
  | _ => none
def un3 : D → Option (D × D × D)
  | .tup [a, b, c] => some (a, b, c)
  | _ => none
theorem tt_2 {i j k : Nat} {a b : Expr} {pos : Pos} (hc : X.calm = true) (ha : PG X a (gName i)) (hb : PG X b (gName j)) (hl : i < ρ.length := by exact Nat.le_of_ble_eq_true rfl) (hl2 : j < ρ.length := by exact Nat.le_of_ble_eq_true rfl)
    (h1 : (assignEach [a, b] X.env).map (·.2) = assign a X.env :: (assignEach [b] X.env).map (·.2) := by rfl) (h2 : (assignEach [b] X.env).map (·.2) = assign b X.env :: (assignEach [] X.env).map (·.2) := by rfl)
    (hn : (assignEach [a, b] X.env).length = 2 := by rfl) (hst : (assignEach [a, b] X.env).findIdx? (·.1) = none := by rfl) :
    TT1 X G (.Tuple [a, b] k pos) ρ [i, j] un2 (fun z => (ρ.set i (some (.val z.1))).set j (some (.val z.2))) := by
  intro F0 σ F H v d z Q hh r e kk
  refine ⟨_, pg_tup hc (pgs_cons ha (pgs_cons hb pgs_nil h2) h1) hn hst, ?_⟩
  unfold un2 at e
  split at e
  · cases e
    cases r with
    | tup h l r =>
      cases r with
      | cons r1 r =>
        cases r with
        | cons r2 r =>
          cases r
          refine ⟨_, _, rfl, SqT.same hh.sub h.sq, rfl, _, _, rfl, _, _, rfl, rfl, ?_⟩
          exact kk _ (fun vs hv => (wipe_set (hv j (by simp))).trans (wipe_set (hv i (by simp)))) ((hh.setV r1 hl).setV r2 (by simpa using hl2))
  · cases e
theorem tt_3 {i j k n : Nat} {a b c : Expr} {pos : Pos} (hc : X.calm = true) (ha : PG X a (gName i)) (hb : PG X b (gName j)) (hcc : PG X c (gName k)) (hl : i < ρ.length := by exact Nat.le_of_ble_eq_true rfl) (hl2 : j < ρ.length := by exact Nat.le_of_ble_eq_true rfl) (hl3 : k < ρ.length := by exact Nat.le_of_ble_eq_true rfl)
    (h1 : (assignEach [a, b, c] X.env).map (·.2) = assign a X.env :: (assignEach [b, c] X.env).map (·.2) := by rfl) (h2 : (assignEach [b, c] X.env).map (·.2) = assign b X.env :: (assignEach [c] X.env).map (·.2) := by rfl)
    (h3 : (assignEach [c] X.env).map (·.2) = assign c X.env :: (assignEach [] X.env).map (·.2) := by rfl)
    (hn : (assignEach [a, b, c] X.env).length = 3 := by rfl) (hst : (assignEach [a, b, c] X.env).findIdx? (·.1) = none := by rfl) :
    TT1 X G (.Tuple [a, b, c] n pos) ρ [i, j, k] un3 (fun z => ((ρ.set i (some (.val z.1))).set j (some (.val z.2.1))).set k (some (.val z.2.2))) := by
  intro F0 σ F H v d z Q hh r e kk
  refine ⟨_, pg_tup hc (pgs_cons ha (pgs_cons hb (pgs_cons hcc pgs_nil h3) h2) h1) hn hst, ?_⟩
  unfold un3 at e
  split at e
  · cases e
    cases r with
    | tup h l r =>
      cases r with
      | cons r1 r =>
        cases r with
        | cons r2 r =>
          cases r with
          | cons r3 r =>
            cases r
            refine ⟨_, _, rfl, SqT.same hh.sub h.sq, rfl, _, _, rfl, _, _, rfl, _, _, rfl, rfl, ?_⟩
            exact kk _ (fun vs hv => ((wipe_set (hv k (by simp))).trans (wipe_set (hv j (by simp)))).trans (wipe_set (hv i (by simp)))) (((hh.setV r1 hl).setV r2 (by simpa using hl2)).setV r3 (by simpa using hl3))
  · cases e

/-! ### a fresh look -/
theorem Gnd.rebase {K : PySem.W.Frag} {F0 F H : Hp} (g : Gnd K (G.at F0) F H) : Gnd K (G.at F) F H := ⟨g.sub, g.base, g.bsT, Same.refl F, fun _ _ h => .inl h⟩
theorem Holds.rebase {K : PySem.W.Frag} {F0 F H : Hp} {σ : St} (h : Holds K (G.at F0) ρ σ F H) : Holds K (G.at F) ρ σ F H := ⟨h.toGnd.rebase, h.val, h.own, h.sep, h.len⟩
theorem Gnd.unbase {K : PySem.W.Frag} {F0 F1 H1 F H : Hp} (g : Gnd K (G.at F0) F1 H1) (h : Gnd K (G.at F1) F H) : Gnd K (G.at F0) F H :=
  ⟨h.sub, h.base, h.bsT, g.ext.trans h.ext, fun a o q => by
    rcases h.new a o q with z | z
    · exact g.new a o z
    · exact .inr z⟩
theorem Holds.unbase {K : PySem.W.Frag} {F0 F1 H1 F H : Hp} {σ : St} (g : Gnd K (G.at F0) F1 H1) (h : Holds K (G.at F1) ρ σ F H) : Holds K (G.at F0) ρ σ F H := ⟨g.unbase h.toGnd, h.val, h.own, h.sep, h.len⟩
theorem PostS.rebase {K : PySem.W.Frag} {F0 F1 H1 : Hp} {E : Ends} {m : Rs (Fl α β)} (g : Gnd K (G.at F0) F1 H1) (h : PostS K (G.at F0) W ρx pn pl E m) : PostS K (G.at F1) W ρx pn pl E m := by
  cases m with
  | ok f =>
    cases f with
    | nx z => exact fun σ F H hh => h σ F H (hh.unbase g)
    | bk z => exact fun σ F H hh => h σ F H (hh.unbase g)
    | ct z => exact fun σ F H hh => h σ F H (hh.unbase g)
    | rt d s => exact fun v F H hh => h v F H (g.unbase hh)
  | ex c fs => exact fun dd σ F H hh => h dd σ F H (hh.unbase g)
  | no => exact h

/-! ### for -/
def loopM {ε β : Type} (f : ε → D → Rs (Fl ε ε)) : List D → ε → Rs (Fl ε β)
  | [], z => .ok (.nx z)
  | d :: ds, z => (f z d).bind fun r => match r with
    | .nx z' => loopM f ds z'
    | .ct z' => loopM f ds z'
    | .bk z' => .ok (.nx z')
    | .rt v s => .ok (.rt v s)
theorem bk_for {ε γ : Type} {post : ε → Rho} {u : D → Option γ} {p : ε → γ → Rho} {tg iter : Expr} {body : List Stmt} {pos : Pos} {mi : Rs (List D)} {fb : ε → γ → Rs (Fl ε ε)} {z0 : ε} {f : ε → Rs (Fl α β)}
    (po : PassesOwn (model X.prog X.w) X.A X.env X.xe) (calm : X.calm = true) (hi : IT X G W ρ tg iter mi) (h0 : Wk ρ (post z0)) {is : List Nat} (ht : ∀ z, TT1 X G tg (post z) is u (p z)) (hb : ∀ z y, BK X G W ρx (p z y) body post post (fb z y))
    (hr : ∀ z, BK X G W ρx (post z) rest pn pl (f z)) (wx : Wk ρ ρx := by first | exact Wk.nil | exact Wk.refl | (repeat (first | exact Wk.nil | apply Wk.keep | apply Wk.drop))) (hs : ∀ x, foldedSetIterable iter X.env x = pure x := by intro _; rfl) :
    BK X G W ρx ρ (.For tg iter body [] pos :: rest) pn pl (mi.bind fun items => (loopM (fun z d => (Rs.of (u d)).bind (fb z)) items z0).bind (Fl.andThen f)) := by
  obtain ⟨wi, pI, qI⟩ := hi
  intro F0 σ F H E hh hp
  refine any_cons (ps_for po calm pI pg_any pss_any hs) ?_
  refine qI F0 σ F H _ hh (post_seq hh wx hp fun items J F1 H1 e1 hw hp1 => ?_)
  have hh1 := (hh.more e1).weak h0
  refine ⟨fun i m σ H => m = items.length - i ∧ i ≤ items.length ∧ ∃ z F, Holds X.K (G.at F0) (post z) σ F H ∧ Same F1 F ∧ PostS X.K (G.at F0) W ρx pn pl E ((loopM (fun z d => (Rs.of (u d)).bind (fb z)) (items.drop i) z).bind (Fl.andThen f)),
    ⟨items.length, by simp, Nat.zero_le _, z0, F1, hh1, Same.refl F1, hp1⟩, ?_⟩
  rintro i m σ2 H2 ⟨rfl, hil, z, F2, hh2, s2, hp2⟩
  obtain ⟨wgo, wstop⟩ := hw.2 F2 H2 s2 hh2.sub
  by_cases hlt : i < items.length
  · have hg : items[i]? = some items[i] := List.getElem?_eq_getElem hlt
    obtain ⟨g1, g2⟩ := wgo i _ hg
    rw [List.drop_eq_getElem_cons hlt] at hp2
    refine .inr ⟨g1, fun σ' H' => ∃ z' F', Holds X.K (G.at F0) (post z') σ' F' H' ∧ Same F1 F' ∧ PostS X.K (G.at F0) W ρx pn pl E ((loopM (fun z d => (Rs.of (u d)).bind (fb z)) (items.drop (i + 1)) z').bind (Fl.andThen f)), fun σ' H' ⟨z', F', q1, q2, q3⟩ => ⟨items.length - (i + 1), by omega, rfl, hlt, z', F', q1, q2, q3⟩, fun x H' y => ?_⟩
    obtain ⟨F3, e3, r3⟩ := g2 x H' y
    have hh3 := hh2.more e3
    simp only [loopM] at hp2
    cases hu : u items[i] with
    | none =>
      rw [hu] at hp2
      exact hp2.elim
    | some y =>
      rw [hu] at hp2
      simp only [Rs.of_some, Rs.bind_ok] at hp2
      refine ht z F0 σ2 F3 H' x _ y _ hh3 r3 hu fun σ4 _ hh4 => ?_
      refine hb z y F3 σ4 F3 H' _ hh4.rebase ?_
      cases hfb : fb z y with
      | no =>
        rw [hfb] at hp2
        exact hp2
      | ex c fs =>
        rw [hfb] at hp2
        exact PostS.rebase (W := W) (m := (Rs.ex c fs : Rs (Fl α β))) (pn := pn) (pl := pl) (E := E) hh4.toGnd hp2
      | ok fl =>
        rw [hfb] at hp2
        simp only [Rs.bind_ok] at hp2
        cases fl with
        | nx z' => exact fun σ5 F5 H5 hh5 => ⟨z', F5, hh5.unbase hh4.toGnd, (s2.trans e3.ext).trans hh5.ext, hp2⟩
        | ct z' => exact fun σ5 F5 H5 hh5 => ⟨z', F5, hh5.unbase hh4.toGnd, (s2.trans e3.ext).trans hh5.ext, hp2⟩
        | bk z' => exact fun σ5 F5 H5 hh5 => hr z' F0 σ5 F5 H5 E (hh5.unbase hh4.toGnd) hp2
        | rt v s => exact fun v2 F5 H5 hh5 => hp2 v2 F5 H5 (hh4.toGnd.unbase hh5)
  · have ei : i = items.length := by omega
    subst ei
    rw [List.drop_length] at hp2
    exact .inl ⟨wstop, hr z F0 σ2 F2 H2 E hh2 hp2⟩

/-! ### while -/
def whileM {ε β : Type} (c : ε → Rs Bool) (f : ε → Rs (Fl ε ε)) : Nat → ε → Rs (Fl ε β)
  | 0, _ => .no
  | n + 1, z => (c z).bind fun k => if k then (f z).bind fun r => (match r with
    | .nx z' => whileM c f n z'
    | .ct z' => whileM c f n z'
    | .bk z' => .ok (.nx z')
    | .rt v s => .ok (.rt v s)) else .ok (.nx z)
theorem bk_while {ε : Type} {post : ε → Rho} {c : Expr} {body : List Stmt} {pos : Pos} {fc : ε → Rs Bool} {fb : ε → Rs (Fl ε ε)} {z0 : ε} {f : ε → Rs (Fl α β)} {n : Nat}
    (po : PassesOwn (model X.prog X.w) X.A X.env X.xe) (h0 : Wk ρ (post z0)) (hc : ∀ z, TV X G W (post z) c (fc z)) (hb : ∀ z, BK X G W ρx (post z) body post post (fb z))
    (hr : ∀ z, BK X G W ρx (post z) rest pn pl (f z)) (wx : ∀ z, Wk (post z) ρx := by exact fun _ => Wk.nil) :
    BK X G W ρx ρ (.While c body [] pos :: rest) pn pl ((whileM fc fb n z0).bind (Fl.andThen f)) := by
  intro F0 σ F H E hh hp
  refine any_cons (ps_while (tc := fun σ H Q => ∃ t, PT X c t ∧ t σ H Q) po ⟨fun pins s σ H Q I ⟨_, p, h⟩ => p.run pins s σ H Q I h⟩ pss_any) ?_
  refine ⟨fun m σ H => ∃ z F, Holds X.K (G.at F0) (post z) σ F H ∧ PostS X.K (G.at F0) W ρx pn pl E ((whileM fc fb m z).bind (Fl.andThen f)), ⟨n, z0, F, hh.weak h0, hp⟩, ?_⟩
  rintro m σ1 H1 ⟨z, F1, hh1, hp1⟩
  cases m with
  | zero => exact hp1.elim
  | succ m =>
    obtain ⟨t, pt, qt⟩ := hc z
    refine ⟨t, pt, qt F0 σ1 F1 H1 _ hh1 ?_⟩
    simp only [whileM] at hp1
    cases hfc : fc z with
    | no => rw [hfc] at hp1; exact hp1
    | ex cc fs =>
      rw [hfc] at hp1
      exact fun dd F2 H2 e2 r => hp1 dd σ1 F2 H2 ((hh1.more e2).weak (wx z)) r
    | ok k =>
      rw [hfc] at hp1
      intro v F2 H2 e2 r2
      cases r2
      have hh2 := hh1.more e2
      cases k with
      | false => exact iteF (hr z F0 σ1 F2 H2 E hh2 hp1)
      | true =>
        refine iteT ⟨fun σ' H' => ∃ z' F', Holds X.K (G.at F0) (post z') σ' F' H' ∧ PostS X.K (G.at F0) W ρx pn pl E ((whileM fc fb m z').bind (Fl.andThen f)), fun σ' H' ⟨z', F', q1, q2⟩ => ⟨m, Nat.lt_succ_self m, z', F', q1, q2⟩, ?_⟩
        refine hb z F0 σ1 F2 H2 _ hh2 ?_
        simp only [Rs.bind_ok, if_true] at hp1
        cases hfb : fb z with
        | no => rw [hfb] at hp1; exact hp1
        | ex cc fs => rw [hfb] at hp1; exact hp1
        | ok fl =>
          rw [hfb] at hp1
          simp only [Rs.bind_ok] at hp1
          cases fl with
          | nx z' => exact fun σ5 F5 H5 hh5 => ⟨z', F5, hh5, hp1⟩
          | ct z' => exact fun σ5 F5 H5 hh5 => ⟨z', F5, hh5, hp1⟩
          | bk z' => exact fun σ5 F5 H5 hh5 => hr z' F0 σ5 F5 H5 E hh5 hp1
          | rt v s => exact fun v2 F5 H5 hh5 => hp1 v2 F5 H5 hh5
end
end VL
set_option Elab.async false
set_option linter.all false
set_option maxRecDepth 100000
set_option autoImplicit false
namespace VL
open PySem PySem.Spec L2
open PyProof.Rows hiding St

/-! ### comprehensions -/
def Rs.noX {α : Type} : Rs α → Rs α
  | .ex _ _ => .no
  | m => m
@[simp] theorem Rs.noX_ok {α : Type} (a : α) : (Rs.ok a).noX = .ok a := rfl
@[simp] theorem Rs.noX_ex {α : Type} (c : Str) (fs : List (Str × D)) : (Rs.ex c fs : Rs α).noX = .no := rfl
@[simp] theorem Rs.noX_no {α : Type} : (Rs.no : Rs α).noX = .no := rfl
def compM {γ : Type} (u : D → Option γ) (fc : γ → Rs Bool) (fe : γ → Rs D) : List D → Rs (List D)
  | [] => .ok []
  | d :: ds => (Rs.of (u d)).bind fun y => (fc y).noX.bind fun b => if b then (fe y).noX.bind fun e => (compM u fc fe ds).bind fun es => .ok (e :: es) else compM u fc fe ds
def rWipe (ρ : Rho) : List Nat → Rho
  | [] => ρ
  | v :: vs => (rWipe ρ vs).set v none
theorem rWipe_at {ρ : Rho} {i : Nat} {c : Cl} : ∀ {vs : List Nat}, (rWipe ρ vs)[i]? = some (some c) → i ∉ vs ∧ ρ[i]? = some (some c)
  | [], h => ⟨by simp, h⟩
  | v :: vs, h => by
    rcases set_at h with ⟨rfl, z⟩ | ⟨n, z⟩
    · cases z
    · obtain ⟨h1, h2⟩ := rWipe_at z
      exact ⟨by simp only [List.mem_cons, not_or]; exact ⟨fun e => n e.symm, h1⟩, h2⟩
theorem rWipe_len {ρ : Rho} : ∀ {vs : List Nat}, (rWipe ρ vs).length = ρ.length
  | [] => rfl
  | v :: vs => by simp only [rWipe, List.length_set]; exact rWipe_len
theorem wipe_get {σ : St} {i : Nat} : ∀ {vs : List Nat}, i ∉ vs → (wipe σ vs)[i]? = σ[i]?
  | [], _ => rfl
  | v :: vs, h => by
    simp only [List.mem_cons, not_or] at h
    simp only [wipe]
    rw [List.getElem?_set_ne (fun e => h.1 e.symm)]
    exact wipe_get h.2
theorem wipe_wipe {σ : St} : ∀ {vs ws : List Nat}, (∀ i ∈ ws, i ∈ vs) → wipe (wipe σ ws) vs = wipe σ vs
  | vs, [], _ => rfl
  | vs, v :: ws, h => by
    show wipe ((wipe σ ws).set v none) vs = wipe σ vs
    rw [wipe_set (h v (by simp))]
    exact wipe_wipe fun i hi => h i (by simp [hi])
section
variable {K : PySem.W.Frag} {G : Gd} {ρ : Rho} {σ : St} {F H : Hp}
theorem Holds.wipe (h : Holds K G ρ σ F H) (vs : List Nat) : Holds K G (rWipe ρ vs) (L2.wipe σ vs) F H where
  toGnd := h.toGnd
  val := fun i d q => by
    obtain ⟨h1, h2⟩ := rWipe_at q
    rw [wipe_get h1]
    exact h.val i d h2
  own := fun i l d q => by
    obtain ⟨h1, h2⟩ := rWipe_at q
    rw [wipe_get h1]
    exact h.own i l d h2
  sep := fun i j l m d e a n q1 q2 => by
    obtain ⟨h1, h2⟩ := rWipe_at q1
    obtain ⟨h3, h4⟩ := rWipe_at q2
    rw [wipe_get h1, wipe_get h3]
    exact h.sep i j l m d e a n h2 h4
  len := by rw [rWipe_len, wipe_length]; exact h.len
/-- a free cell of no one is written -/
theorem Holds.free {p : Addr} {o : HO} (h : Holds K G ρ σ F H) (hf : F p = none) (h0 : G.H0 p = none ∧ p ∉ G.bs) (hn : ∀ (j : Nat) (l : Bool) (e : D), ρ[j]? = some (some (.own l e)) → σ[j]? ≠ some (some (.ref p))) : Holds K G ρ σ F (upd H p o) where
  sub := fun b x q => by
    have e : b ≠ p := fun e => by
      subst e
      rw [hf] at q
      cases q
    rw [upd_ne e]
    exact h.sub _ _ q
  base := fun b x q nb => by
    have e : b ≠ p := fun e => by
      subst e
      rw [h0.1] at q
      cases q
    rw [upd_ne e]
    exact h.base _ _ q nb
  bsT := fun b hb => by
    have e : b ≠ p := fun e => by
      subst e
      exact h0.2 hb
    rw [upd_ne e]
    exact h.bsT b hb
  ext := h.ext
  new := h.new
  val := h.val
  own := fun i l d q => by
    obtain ⟨a, h1, h2, h3, h4⟩ := h.own i l d q
    have e : a ≠ p := fun e => by
      subst e
      exact hn i l d q h1
    exact ⟨a, h1, h2, h3, h4.move (Same.refl F) (upd_ne e)⟩
  sep := h.sep
  len := h.len
theorem Gnd.free0 {p : Addr} (g : Gnd K G F H) (h : H p = none) : G.H0 p = none ∧ p ∉ G.bs := by
  refine ⟨?_, fun hb => ?_⟩
  · cases q0 : G.H0 p with
    | none => rfl
    | some o =>
      by_cases hb : p ∈ G.bs
      · obtain ⟨o2, q2, _⟩ := g.bsT p hb
        rw [h] at q2
        cases q2
      · rw [g.base p o q0 hb] at h
        cases h
  · obtain ⟨o2, q2, _⟩ := g.bsT p hb
    rw [h] at q2
    cases q2
theorem Holds.notOwn {p : Addr} (hh : Holds K G ρ σ F H) (h : H p = none) (j : Nat) (l : Bool) (e : D) (q : ρ[j]? = some (some (.own l e))) : σ[j]? ≠ some (some (.ref p)) := fun s => by
  obtain ⟨b, h1, h2, h3, h4⟩ := hh.own j l e q
  rw [h1] at s
  cases s
  obtain ⟨o, ho, nt_⟩ := h4.there
  rw [h] at ho
  cases ho
end
/-- growth beside a cell p that is not frozen -/
theorem Ext.beside {F1 H1 F H : Hp} {p : Addr} {o : HO} (e : Ext F1 H1 F H) (h1 : H1 p = none) (hf : F p = none) : Ext F1 H1 F (upd H p o) :=
  ⟨fun b x q => by
    rw [upd_ne (ne_of_none q h1)]
    exact e.same _ _ q, fun b x q => by
    have n : b ≠ p := fun n => by
      subst n
      rw [hf] at q
      cases q
    rw [upd_ne n]
    exact e.sub _ _ q, e.ext, e.new⟩
theorem Ext.stays {F H F' H' : Hp} {p : Addr} {o : HO} (e : Ext F H F' H') (hf : F p = none) (h : H p = some o) (t : nT o) : F' p = none := by
  cases q : F' p with
  | none => rfl
  | some u =>
    rcases e.new p u q with z | z
    · rw [hf] at z
      cases z
    · exact (z.not h t).elim
abbrev W0 : WX := fun _ _ _ _ => False
section
variable {X : Cx} {G : Gd} {W : WX} {ρ : Rho}
/-- the block's context -/
abbrev XB (X : Cx) (scope : Scope) (s : Shared) (H : Hp) (C : Addr) (cl : List (Str × Addr)) (fp : List Addr) : Cx := X.blk s H scope (compEnvC scope cl C X.env) fp
abbrev gAll (X : Cx) (scope : Scope) (tg : Expr) : TG := fun v σ H Q => ∀ s H0 C cl fp, tAnyG (XB X scope s H0 C cl fp) tg v σ H Q
abbrev ttAll (X : Cx) (scope : Scope) (ifs : List Expr) : TT := fun σ H Q => ∀ s H0 C cl fp, ∃ t, PTs (XB X scope s H0 C cl fp) ifs t ∧ t σ H Q
abbrev teAll (X : Cx) (scope : Scope) (e : Expr) : TE := fun σ H Q => ∀ s H0 C cl fp, ∃ t, PE (XB X scope s H0 C cl fp) e t ∧ t σ H Q
theorem hgAll {scope : Scope} {tg : Expr} (s : Shared) (H : Hp) (C : Addr) (cl : List (Str × Addr)) (fp : List Addr) : PG (XB X scope s H C cl fp) tg (gAll X scope tg) :=
  ⟨fun pins s1 σ H1 v u Q I r h => by
    obtain ⟨g, p, q⟩ := h s H C cl fp
    exact p.run pins s1 σ H1 v u Q I r q⟩
theorem htAll {scope : Scope} {ifs : List Expr} (s : Shared) (H : Hp) (C : Addr) (cl : List (Str × Addr)) (fp : List Addr) : PTs (XB X scope s H C cl fp) ifs (ttAll X scope ifs) :=
  ⟨fun pins s1 σ H1 Q I h => by
    obtain ⟨g, p, q⟩ := h s H C cl fp
    exact p.run pins s1 σ H1 Q I q⟩
theorem heAll {scope : Scope} {e : Expr} (s : Shared) (H : Hp) (C : Addr) (cl : List (Str × Addr)) (fp : List Addr) : PE (XB X scope s H C cl fp) e (teAll X scope e) :=
  ⟨fun pins s1 σ H1 Q I h => by
    obtain ⟨g, p, q⟩ := h s H C cl fp
    exact p.run pins s1 σ H1 Q I q⟩
/-- a clause's tests, none or one -/
def TVs (X : Cx) (G : Gd) (W : WX) (ρ : Rho) (ifs : List Expr) (m : Rs Bool) : Prop :=
  ∃ t, PTs X ifs t ∧ ∀ F0 σ F H Q, Holds X.K (G.at F0) ρ σ F H → Post X.K RB (fun c d H => W c d σ H) F H Q m → t σ H Q
theorem tvs_nil : TVs X G W ρ [] (.ok true) := ⟨_, pts_nil, fun F0 σ F H Q hh hp => hp true F H (Ext.refl hh.sub) rfl⟩
theorem tvs_one {c : Expr} {m : Rs Bool} (h : TV X G W ρ c m) : TVs X G W ρ [c] m := by
  obtain ⟨t, p, q⟩ := h
  exact ⟨t, pts_one p, q⟩
theorem post_noX {α β : Type} {K : PySem.W.Frag} {Rl : Hp → Hp → α → β → Prop} {E : XK} {F H : Hp} {Q : α → Hp → Prop} {m : Rs β} (h : ∀ d, m = .ok d → ∀ v F' H', Ext F H F' H' → Rl F' H' v d → Q v H') (hn : m.noX ≠ .no) : Post K Rl E F H Q m := by
  cases m with
  | ok d => exact h d rfl
  | ex c fs => exact absurd rfl hn
  | no => exact absurd rfl hn
/-- the reading of a comprehension -/
theorem lc_read {γ : Type} {u : D → Option γ} {p : γ → Rho} {is vs : List Nat} {tg elt : Expr} {ifs : List Expr} {scope : Scope} {wi : TI} {mi : Rs (List D)} {fc : γ → Rs Bool} {fe : γ → Rs D}
    (qI : ∀ F0 σ F H R, Holds X.K (G.at F0) ρ σ F H → Post X.K (fun F' _ J ds => Walks X.K J F' ds) (fun c d H => W c d σ H) F H R mi → wi σ H R) (his : ∀ i ∈ is, i ∈ vs)
    (ht : ∀ s H C cl fp, TT1 (XB X scope s H C cl fp) G tg (rWipe ρ vs) is u p) (hc : ∀ s H C cl fp y, TVs (XB X scope s H C cl fp) G W0 (p y) ifs (fc y)) (he : ∀ s H C cl fp y, EV (XB X scope s H C cl fp) G W0 (p y) elt (fe y))
    {F0 : Hp} {σ : St} {F H : Hp} {Q : VK} (hh : Holds X.K (G.at F0) ρ σ F H) (hp : Post X.K (RN X.K H) (fun c d H => W c d σ H) F H Q (mi.bind fun items => compM u fc fe items)) :
    tLc wi (gAll X scope tg) (ttAll X scope ifs) (teAll X scope elt) vs σ H Q := by
  refine qI F0 σ F H _ hh ?_
  cases mi with
  | ex c fs => exact hp
  | no => exact hp
  | ok items =>
  intro J F1 H1 e1 hw D0 hD
  have hh1 := hh.more e1
  have hDH : H D0 = none := e1.same.free hD
  have h0 := hh1.toGnd.free0 hD
  have hno := fun j l e q => hh1.notOwn hD j l e q
  have hFD : F1 D0 = none := sub_none e1.sub hD
  refine ⟨fun i m H2 => m = items.length - i ∧ i ≤ items.length ∧ ∃ F2 acc, Holds X.K (G.at F0) ρ σ F2 H2 ∧ Ext F1 H1 F2 H2 ∧ F2 D0 = none ∧ Own X.K F2 H2 D0 (.lst acc) ∧ acc.length ≤ i ∧
      Post X.K (RN X.K H) (fun c d H => W c d σ H) F H Q ((compM u fc fe (items.drop i)).bind fun es => .ok (acc ++ es)), ⟨items.length, by simp, Nat.zero_le _, F1, [], hh1.free hFD h0 hno, Ext.beside (Ext.refl e1.sub) hD hFD, hFD, .lst upd_same (Nat.zero_le _) .nil, Nat.zero_le _, ?_⟩, ?_⟩
  · show Post X.K (RN X.K H) _ F H Q ((compM u fc fe (items.drop 0)).bind fun es => .ok ([] ++ es))
    have e : ((compM u fc fe (items.drop 0)).bind fun es => (.ok ([] ++ es) : Rs (List D))) = compM u fc fe items := by
      rw [List.drop_zero]
      cases compM u fc fe items <;> rfl
    rw [e]
    exact hp
  · rintro i m H2 ⟨rfl, hil, F2, acc, hh2, x2, f2, o2, la, hp2⟩
    obtain ⟨wgo, wstop⟩ := hw.2 F2 H2 x2.ext hh2.sub
    by_cases hlt : i < items.length
    · have hg : items[i]? = some items[i] := List.getElem?_eq_getElem hlt
      obtain ⟨g1, g2⟩ := wgo i _ hg
      rw [List.drop_eq_getElem_cons hlt] at hp2
      refine .inr ⟨g1, fun H' => ∃ F' acc', Holds X.K (G.at F0) ρ σ F' H' ∧ Ext F1 H1 F' H' ∧ F' D0 = none ∧ Own X.K F' H' D0 (.lst acc') ∧ acc'.length ≤ i + 1 ∧ Post X.K (RN X.K H) (fun c d H => W c d σ H) F H Q ((compM u fc fe (items.drop (i + 1))).bind fun es => .ok (acc' ++ es)),
        fun H' ⟨F', acc', q1, q2, q3, q4, q5, q6⟩ => ⟨items.length - (i + 1), by omega, rfl, hlt, F', acc', q1, q2, q3, q4, q5, q6⟩, fun x H' y => ?_⟩
      obtain ⟨F3, e3, r3⟩ := g2 x H' y
      have hh3 := hh2.more e3
      have o3 := o2.ext e3
      obtain ⟨xs2, q2', _, _⟩ := o2.asL
      have f3 := e3.stays f2 q2' (fun _ z => nomatch z)
      simp only [compM] at hp2
      cases hu : u items[i] with
      | none =>
        rw [hu] at hp2
        exact hp2.elim
      | some y =>
        rw [hu] at hp2
        simp only [Rs.of_some, Rs.bind_ok] at hp2
        intro s' H0' C' cl' fp'
        refine ht s' H0' C' cl' fp' F0 _ F3 H' x _ y _ (hh3.wipe vs) r3 hu fun σ4 w4 hh4 => ⟨?_, ?_⟩
        · rw [w4 vs his]
          exact wipe_wipe fun i hi => hi
        intro s5 H05 C5 cl5 fp5
        obtain ⟨t5, p5, q5⟩ := hc s5 H05 C5 cl5 fp5 y
        refine ⟨t5, p5, q5 F0 σ4 F3 H' _ hh4 (post_noX (fun b hb v F4 H4 e4 rb => ?_) fun hn => ?_)⟩
        · cases rb
          rw [hb] at hp2
          simp only [Rs.noX_ok, Rs.bind_ok] at hp2
          have hh4' := hh3.more e4
          have o4 := o3.ext e4
          obtain ⟨xs3, q3', _, _⟩ := o3.asL
          have f4 := e4.stays f3 q3' (fun _ z => nomatch z)
          cases b with
          | true =>
            refine iteT ?_
            intro s6 H06 C6 cl6 fp6
            obtain ⟨t6, p6, q6⟩ := he s6 H06 C6 cl6 fp6 y
            refine ⟨t6, p6, q6 F0 σ4 F4 H4 _ (hh4.more e4) (post_noX (fun d hd v F5 H5 e5 r5 => ?_) fun hn => ?_)⟩
            · simp only [if_true] at hp2
              rw [hd] at hp2
              simp only [Rs.noX_ok, Rs.bind_ok] at hp2
              have hh5 := hh4'.more e5
              have o5 := o4.ext e5
              obtain ⟨xs4, q4', _, _⟩ := o4.asL
              have f5 := e5.stays f4 q4' (fun _ z => nomatch z)
              obtain ⟨xs5, q5', l5, r5'⟩ := o5.asL
              have lx : xs5.length < sizeLine := by
                rw [r5'.length]
                have := hw.1
                omega
              refine ⟨xs5, q5', lx, F5, acc ++ [d], hh5.free f5 h0 hno, Ext.beside (x2.trans (e3.trans (e4.trans e5))) hD f5, f5, .lst upd_same ?_ (r5'.append (.one r5)), ?_, ?_⟩
              · rw [List.length_append, List.length_singleton]
                exact lx
              · rw [List.length_append, List.length_singleton]
                omega
              · have e : ((compM u fc fe (items.drop (i + 1))).bind fun es => (.ok (acc ++ [d] ++ es) : Rs (List D))) = (((compM u fc fe (items.drop (i + 1))).bind fun es => (.ok (d :: es) : Rs (List D))).bind fun es => .ok (acc ++ es)) := by
                  cases compM u fc fe (items.drop (i + 1)) with
                  | ok es => simp
                  | ex _ _ => rfl
                  | no => rfl
                rw [e]
                exact hp2
            · simp only [if_true] at hp2
              rw [hn] at hp2
              exact hp2.elim
          | false =>
            refine iteF ⟨F4, acc, hh4', x2.trans (e3.trans e4), f4, o4, by omega, ?_⟩
            simpa using hp2
        · rw [hn] at hp2
          exact hp2.elim
    · have ei : i = items.length := by omega
      subst ei
      rw [List.drop_length] at hp2
      simp only [compM, Rs.bind_ok, List.append_nil] at hp2
      exact .inl ⟨wstop, hp2 (.ref D0) F2 H2 (e1.trans x2) ⟨D0, rfl, hDH, f2, o2⟩⟩
theorem ef_comp {γ : Type} {u : D → Option γ} {p : γ → Rho} {is : List Nat} {own : List (Str × Nat)} {tg iter elt : Expr} {ifs : List Expr} {scope : Scope} {pos : Pos} {mi : Rs (List D)} {fc : γ → Rs Bool} {fe : γ → Rs D}
    (calm : X.calm = true) (nd : X.N.Nodup) (hi : IT X G W ρ tg iter mi) (ok : BlkOk X.N X.env.scope scope own) (his : ∀ i ∈ is, i ∈ own.map (·.2))
    (ht : ∀ s H C cl fp, TT1 (XB X scope s H C cl fp) G tg (rWipe ρ (own.map (·.2))) is u p) (hc : ∀ s H C cl fp y, TVs (XB X scope s H C cl fp) G W0 (p y) ifs (fc y)) (he : ∀ s H C cl fp y, EV (XB X scope s H C cl fp) G W0 (p y) elt (fe y))
    (hs : ∀ x, foldedSetIterable iter X.env x = pure x := by intro _; rfl) : EF X G W ρ (.ListComp elt [⟨tg, iter, ifs, 0⟩] scope pos) (mi.bind fun items => compM u fc fe items) := by
  obtain ⟨wi, pI, qI⟩ := hi
  exact ⟨_, pe_lc calm nd pI ok hgAll htAll heAll hs, fun F0 σ F H Q hh hp => lc_read qI his ht hc he hh hp⟩
theorem af_comp {γ : Type} {i : Nat} {y : Str} {py spos : Pos} {u : D → Option γ} {p : γ → Rho} {is : List Nat} {own : List (Str × Nat)} {tg iter elt : Expr} {ifs : List Expr} {scope : Scope} {pos : Pos} {mi : Rs (List D)} {fc : γ → Rs Bool} {fe : γ → Rs D}
    (calm : X.calm = true) (nd : X.N.Nodup) (hi : IT X G W ρ tg iter mi) (ok : BlkOk X.N X.env.scope scope own) (his : ∀ i ∈ is, i ∈ own.map (·.2))
    (ht : ∀ s H C cl fp, TT1 (XB X scope s H C cl fp) G tg (rWipe ρ (own.map (·.2))) is u p) (hc : ∀ s H C cl fp y, TVs (XB X scope s H C cl fp) G W0 (p y) ifs (fc y)) (he : ∀ s H C cl fp y, EV (XB X scope s H C cl fp) G W0 (p y) elt (fe y))
    (hy : X.N[i]? = some y := by rfl) (hyl : X.env.scope.names.lookup y = some .local := by rfl) (hsw : swapsWith (.ListComp elt [⟨tg, iter, ifs, 0⟩] scope pos) (some (.Name y py)) spos.line X.env = pure true := by exact sw_true rfl rfl rfl (by decide +kernel))
    (hs : ∀ x, foldedSetIterable iter X.env x = pure x := by intro _; rfl) : AF X G W ρ (.Assign [.Name y py] (.ListComp elt [⟨tg, iter, ifs, 0⟩] scope pos) spos) i (mi.bind fun items => compM u fc fe items) := by
  obtain ⟨wi, pI, qI⟩ := hi
  exact ⟨_, ps_setLc calm nd hy hyl hsw pI ok hgAll htAll heAll hs, fun F0 σ F H Q hh hp => lc_read qI his ht hc he hh hp⟩
/-- a new list is data -/
theorem EF.ev {e : Expr} {m : Rs (List D)} (h : EF X G W ρ e m) : EV X G W ρ e (m.bind fun ds => .ok (.lst ds)) := by
  obtain ⟨t, p, q⟩ := h
  refine ⟨t, p, fun F0 σ F H Q hh hp => q F0 σ F H Q hh ?_⟩
  cases m with
  | ex c fs => exact hp
  | no => exact hp
  | ok ds =>
    intro v F' H' e1 r1
    obtain ⟨a, rfl, hn, hf, ho⟩ := r1
    obtain ⟨o, ha, hr⟩ := ho.rep rfl e1.sub hf
    refine hp _ (upd F' a o) H' ⟨e1.same, fun b x q => ?_, e1.ext.trans (same_upd hf), fun b x q => ?_⟩ hr
    · by_cases e : b = a
      · subst e
        rw [upd_same] at q
        cases q
        exact ha
      · rw [upd_ne e] at q
        exact e1.sub _ _ q
    · by_cases e : b = a
      · subst e
        exact .inr (.inl hn)
      · rw [upd_ne e] at q
        exact e1.new _ _ q
theorem AF.as {st : Stmt} {i : Nat} {m : Rs (List D)} (h : AF X G W ρ st i m) : AS X G W ρ st i (m.bind fun ds => .ok (.lst ds)) := by
  obtain ⟨t, p, q⟩ := h
  refine ⟨t, p, fun F0 σ F H Q hh hp => q F0 σ F H Q hh ?_⟩
  cases m with
  | ex c fs => exact hp
  | no => exact hp
  | ok ds =>
    intro v F' H' e1 r1
    obtain ⟨a, rfl, hn, hf, ho⟩ := r1
    obtain ⟨o, ha, hr⟩ := ho.rep rfl e1.sub hf
    refine hp _ (upd F' a o) H' ⟨e1.same, fun b x q => ?_, e1.ext.trans (same_upd hf), fun b x q => ?_⟩ hr
    · by_cases e : b = a
      · subst e
        rw [upd_same] at q
        cases q
        exact ha
      · rw [upd_ne e] at q
        exact e1.sub _ _ q
    · by_cases e : b = a
      · subst e
        exact .inr (.inl hn)
      · rw [upd_ne e] at q
        exact e1.new _ _ q

/-! ### calls of the program's own defs -/
/-- the promise of a def: what m tells of its arguments -/
def spM (K : PySem.W.Frag) (n : Nat) (m : List D → Rs D) : Sp := fun vs H Q E => vs.length = n ∧ ∃ F ds, Same F H ∧ Reps K F vs ds ∧ Post K (RF K) E F H Q (m ds)
/-- f keeps m -/
abbrev Keeps (P : Program) (w : World) (K : PySem.W.Frag) (mg : Str → Option Value) (base : Heap) (k : Nat) (f : Addr) (fd : FuncData) (ps : List Str) (m : List D → Rs D) : Prop := FnOk P w K mg base (L2.CX P w) k f fd ps (spM K ps.length m)
theorem ev_call {k : Nat} {f : Addr} {fd : FuncData} {ps : List Str} {m : List D → Rs D} {x : Str} {p pos : Pos} {e : Expr} {es : List Expr} {ms : Rs (List D)} (tk : Takes X W) (Fk : Keeps X.prog X.w X.K X.mg X.base k f fd ps m) (hr : Room k X.A) (hm : X.mg x = some (.ref f)) (hk : PySem.W.keepIn X.K (.ref f) = true)
    (hb : Binds X.K fd ps []) (ha : AV X G W ρ (e :: es) ms) (hln : (e :: es).length = ps.length := by rfl) (hg : Gl X x := by rfl) (hdb : (x == ("__debug__" : Str)) = false := by decide) (he : starEach (e :: es) X.env = (false, eval e X.env) :: starEach es X.env := by rfl)
    (hpl : (backTo pos (starEach es X.env)).any (·.1) = false := by rfl) : EV X G W ρ (.Call (.Name x p) (e :: es) [] pos) (ms.bind m) := by
  obtain ⟨ln, t, pa, qa⟩ := ha
  refine ⟨_, pe_callSD (E := WE W) Fk hr hg hm hk hb .nil (fun σ => passAt tk σ) pa hdb he hpl, fun F0 σ F H Q hh hp => ?_⟩
  refine qa F0 σ F H _ hh ?_
  cases ms with
  | ex c fs => exact hp
  | no => exact hp
  | ok ds =>
    intro vs F' H' e1 r1
    show spM X.K ps.length m (vs ++ []) H' Q _
    rw [List.append_nil]
    exact ⟨r1.length.trans ((ln ds rfl).trans hln), F', ds, e1.sub, r1, Post.more (m := m ds) hp e1⟩
theorem ev_call0 {k : Nat} {f : Addr} {fd : FuncData} {m : List D → Rs D} {x : Str} {p pos : Pos} (Fk : Keeps X.prog X.w X.K X.mg X.base k f fd [] m) (hr : Room k X.A) (hm : X.mg x = some (.ref f)) (hk : PySem.W.keepIn X.K (.ref f) = true)
    (hb : Binds X.K fd [] []) (hg : Gl X x := by rfl) (hdb : (x == ("__debug__" : Str)) = false := by decide) : EV X G W ρ (.Call (.Name x p) [] [] pos) ((m []).noX) := by
  refine ⟨_, pe_call0 (E := E0) Fk hr hg hm hk hb .nil passL hdb, fun F0 σ F H Q hh hp => ?_⟩
  refine ⟨rfl, F, [], hh.sub, .nil, ?_⟩
  cases e : m [] with
  | ok d =>
    rw [e] at hp
    exact hp
  | ex c fs =>
    rw [e] at hp
    exact hp.elim
  | no =>
    rw [e] at hp
    exact hp.elim

/-! ### a def -/
theorem rho_start {ds : List D} {n i : Nat} {c : Cl} (h : (ds.map (fun d => some (Cl.val d)) ++ List.replicate n none)[i]? = some (some c)) : ∃ d, ds[i]? = some d ∧ c = .val d := by
  by_cases hl : i < ds.length
  · rw [List.getElem?_append_left (by simpa using hl), List.getElem?_map, List.getElem?_eq_getElem hl] at h
    cases h
    exact ⟨_, List.getElem?_eq_getElem hl, rfl⟩
  · rw [List.getElem?_append_right (by simpa using hl), List.getElem?_replicate] at h
    split at h <;> cases h
theorem gnd_ext {K : PySem.W.Frag} {F H F' H' : Hp} {F0 : Hp} (g : Gnd K (Gd.at ⟨F0, H, []⟩ F) F' H') : Ext F H F' H' :=
  ⟨fun a o q => g.base a o q (by simp [Gd.at]), g.sub, g.ext, fun a o q => by
    rcases g.new a o q with z | z
    · exact .inl z
    · rcases z with z | z
      · exact .inr (.inl z.1)
      · exact .inr (.inr ⟨z.1, z.2.1⟩)⟩
def Rs.ret (m : Rs (Fl Unit Unit)) : Rs D := m.bind fun f => match f with
  | .rt d _ => .ok d
  | .nx _ => .ok .non
  | _ => .no
theorem keeps_of {P : Program} {w : World} {K : PySem.W.Frag} {mg : Str → Option Value} {base : Heap} {x qual : Str} {params : Arguments} {body : List Stmt} {scope : Scope} {dvs : List V} {kws : List (Str × V)} {f : Addr} {fd : FuncData} {N ps : List Str} {k : Nat} {m : List D → Rs D}
    (Fd : FunD K x qual params body scope dvs kws f fd) (S : FnScope N ps scope)
    (hb : ∀ (cdv : Value) (A : Around) (outer : List Env) (s : Shared) (H : Hp) (E : XK) (F : Hp) (ds : List D), ds.length = ps.length → Room k (A.deeper (envOfC qual scope s.heap.objs.size f cdv)) → ∃ mb : Rs (Fl Unit Unit), m ds = mb.ret ∧
      BK (cxOf (L2.CX P w) P w K mg base N qual scope f cdv A outer s H E) ⟨F, H, []⟩ (fun c d _ H => E c d H) [] (ds.map (fun d => some (Cl.val d)) ++ List.replicate (N.length - ds.length) none) body (fun _ : Unit => []) (fun _ : Unit => []) mb) :
    Keeps P w K mg base (k + 1) f fd ps m := by
  refine Fd.ok S (fun vs H Q E h => h.1) (fun cdv A outer s H vs Q E hr h => ?_)
  obtain ⟨hl, F, ds, hs, hr1, hp⟩ := h
  obtain ⟨mb, em, hbk⟩ := hb cdv A outer s H E F ds (hr1.length.symm.trans hl) hr
  rw [em] at hp
  refine hbk F (start N vs) F H _ ⟨⟨hs, fun a o q _ => q, fun a q => by simp [Gd.at] at q, Same.refl F, fun a o q => .inl q⟩, fun i d q => ?_, fun i l d q => ?_, fun i j l m' d e a n q => ?_, ?_⟩ ?_
  · obtain ⟨d', h1, h2⟩ := rho_start q
    cases h2
    obtain ⟨v, g1, g2⟩ := hr1.get h1
    refine ⟨v, ?_, g2⟩
    unfold L2.start
    rw [List.getElem?_append_left (by
      rw [List.length_map]
      rcases Nat.lt_or_ge i vs.length with z | z
      · exact z
      · rw [List.getElem?_eq_none z] at g1; cases g1), List.getElem?_map, g1]
    rfl
  · obtain ⟨d', h1, h2⟩ := rho_start q
    cases h2
  · obtain ⟨d', h1, h2⟩ := rho_start q
    cases h2
  · unfold L2.start
    rw [List.length_append, List.length_append, List.length_map, List.length_map, List.length_replicate, List.length_replicate, hr1.length]
    exact Nat.le_refl _
  · cases mb with
    | ex c fs => exact fun dd σ F' H' hh r => hp dd F' H' (gnd_ext hh.toGnd) r
    | no => exact hp
    | ok fl =>
      cases fl with
      | nx z => exact fun σ F' H' hh => hp .non F' H' (gnd_ext hh.toGnd) .non
      | rt d s => exact fun v F' H' g r _ => hp v F' H' (gnd_ext g) r
      | bk y => exact hp.elim
      | ct y => exact hp.elim
end
end VL
set_option Elab.async false
set_option linter.all false
set_option maxRecDepth 100000
set_option autoImplicit false
namespace VL
open PySem PySem.Spec L2
open PyProof.Rows hiding St

/-! ### built-in calls by data -/
inductive RepHs (K : PySem.W.Frag) (F H : Hp) : List V → List D → Prop
  | nil : RepHs K F H [] []
  | cons {v : V} {vs : List V} {d : D} {ds : List D} : RepH K F H v d → RepHs K F H vs ds → RepHs K F H (v :: vs) (d :: ds)
theorem RepHs.more {K : PySem.W.Frag} {F H F' H' : Hp} (e : Ext F H F' H') : ∀ {vs : List V} {ds : List D}, RepHs K F H vs ds → RepHs K F' H' vs ds
  | _, _, .nil => .nil
  | _, _, .cons h r => .cons (h.more e) (RepHs.more e r)
/-- arguments, owned cells too -/
def AO (X : Cx) (G : Gd) (W : WX) (ρ : Rho) (es : List Expr) (m : Rs (List D)) : Prop :=
  ∃ t, PA X es t ∧ ∀ F0 σ F H Q, Holds X.K (G.at F0) ρ σ F H → Post X.K (RepHs X.K) (fun c d H => W c d σ H) F H Q m → t σ H Q
def RCok (K : PySem.W.Frag) (r : List V → Hp → VK → Prop) (f : List D → Option D) : Prop := ∀ {xs : List V} {ds : List D} {F H : Hp} {Q : VK} {d : D}, Same F H → RepHs K F H xs ds → f ds = some d →
  (∀ v F' H', Ext F H F' H' → Rep K F' v d → Q v H') → r xs H Q
section
variable {X : Cx} {G : Gd} {W : WX} {ρ : Rho} {e : Expr} {es : List Expr} {m : Rs D} {ms : Rs (List D)} {pos p : Pos}
theorem ao_nil : AO X G W ρ [] (.ok []) := ⟨_, pa_nil, fun F0 σ F H Q hh hp => hp [] F H (Ext.refl hh.sub) .nil⟩
theorem ao_cons (ha : EO X G W ρ e m) (hr : AO X G W ρ es ms) (hs : starEach (e :: es) X.env = (false, eval e X.env) :: starEach es X.env := by rfl) : AO X G W ρ (e :: es) (m.bind fun x => ms.bind fun xs => .ok (x :: xs)) := by
  obtain ⟨ta, pa, qa⟩ := ha
  obtain ⟨tb, pb, qb⟩ := hr
  refine ⟨_, pa_cons pa pb hs, fun F0 σ F H Q hh hp => ?_⟩
  refine qa F0 σ F H _ hh (hp.bind fun dx x F1 H1 e1 r1 hp1 => ?_)
  refine qb F0 σ F1 H1 _ (hh.more e1) (hp1.bind fun dy y F2 H2 e2 r2 hp2 => ?_)
  exact hp2 _ F2 H2 (Ext.refl e2.sub) (.cons (r1.more e2) r2)
theorem ev_callB {id : String} {x : Str} {r : List V → Hp → VK → Prop} {f : List D → Option D} (hc : CallR X (.builtin id) r) (hf : RCok X.K r f) (hm : X.mg x = none) (hv : bootBuiltins x = some (.builtin id)) (ha : AO X G W ρ (e :: es) ms) (hg : Gl X x := by rfl) (hn : x ≠ "__name__" := by decide)
    (hdb : (x == ("__debug__" : Str)) = false := by decide) (he : starEach (e :: es) X.env = (false, eval e X.env) :: starEach es X.env := by rfl) (hpl : (backTo pos (starEach es X.env)).any (·.1) = false := by rfl) : EV X G W ρ (.Call (.Name x p) (e :: es) [] pos) (ms.bind fun ds => Rs.of (f ds)) := by
  obtain ⟨t, pa, qa⟩ := ha
  refine ⟨_, pe_callB hc hg hm hv pa hn hdb he hpl, fun F0 σ F H Q hh hp => ?_⟩
  refine qa F0 σ F H _ hh (hp.bind fun ds xs F1 H1 e1 r1 hp1 => ?_)
  obtain ⟨d, hd, k⟩ := hp1.of
  exact hf e1.sub r1 hd k
theorem ev_callTy {id : String} {x : Str} {r : List V → Hp → VK → Prop} {f : List D → Option D} (hc : CallR X (.type id) r) (hf : RCok X.K r f) (hm : X.mg x = none) (hv : bootBuiltins x = some (.type id)) (ha : AO X G W ρ (e :: es) ms) (hg : Gl X x := by rfl) (hn : x ≠ "__name__" := by decide)
    (hdb : (x == ("__debug__" : Str)) = false := by decide) (he : starEach (e :: es) X.env = (false, eval e X.env) :: starEach es X.env := by rfl) (hpl : (backTo pos (starEach es X.env)).any (·.1) = false := by rfl) : EV X G W ρ (.Call (.Name x p) (e :: es) [] pos) (ms.bind fun ds => Rs.of (f ds)) := by
  obtain ⟨t, pa, qa⟩ := ha
  refine ⟨_, pe_callTy hc hg hm hv pa hn hdb he hpl, fun F0 σ F H Q hh hp => ?_⟩
  refine qa F0 σ F H _ hh (hp.bind fun ds xs F1 H1 e1 r1 hp1 => ?_)
  obtain ⟨d, hd, k⟩ := hp1.of
  exact hf e1.sub r1 hd k
theorem CallR.or {v : Value} {r r' : List V → Hp → VK → Prop} (h : CallR X v r) (h' : CallR X v r') : CallR X v (fun xs H Q => r xs H Q ∨ r' xs H Q) := by
  intro pins s σ H xs us Q I rr hq
  rcases hq with hq | hq
  · exact h pins s σ H xs us Q I rr hq
  · exact h' pins s σ H xs us Q I rr hq
end
section
variable {K : PySem.W.Frag}
def absD : List D → Option D
  | [.int i] => some (.int (if i < 0 then -i else i))
  | _ => none
theorem absD_ok : RCok K (fun xs H Q => ∃ i, xs = [.int i] ∧ Q (.int (if i < 0 then -i else i)) H) absD := by
  intro xs ds F H Q d s r hd k
  unfold absD at hd
  split at hd
  · cases hd
    cases r with
    | cons r1 r2 =>
      cases r2
      obtain rfl := r1.int
      exact ⟨_, rfl, k _ F H (Ext.refl s) (.int _)⟩
  · cases hd
def intD : List D → Option D
  | [.int i] => some (.int i)
  | [.bl b] => some (.int (if b then 1 else 0))
  | [.str x] => if x.length ≤ 640 then (PySem.intText? x).map .int else none
  | _ => none
def rIntD : List V → Hp → VK → Prop := fun xs H Q => ((∃ i, xs = [.int i] ∧ Q (.int i) H) ∨ ∃ k, xs = [.bl k] ∧ Q (.int (if k then 1 else 0)) H) ∨ ∃ a n, xs = [.str a] ∧ PySem.intText? a = some n ∧ a.length ≤ 640 ∧ Q (.int n) H
theorem call_intD {X : Cx} : CallR X (.type "int") rIntD := CallR.or call_int1 call_int_str
theorem intD_ok : RCok K rIntD intD := by
  intro xs ds F H Q d s r hd k
  unfold intD at hd
  split at hd
  · cases hd
    cases r with
    | cons r1 r2 =>
      cases r2
      obtain rfl := r1.int
      exact .inl (.inl ⟨_, rfl, k _ F H (Ext.refl s) (.int _)⟩)
  · cases hd
    cases r with
    | cons r1 r2 =>
      cases r2
      obtain rfl := r1.bl
      exact .inl (.inr ⟨_, rfl, k _ F H (Ext.refl s) (.int _)⟩)
  · split at hd
    · rename_i x hl
      cases hi : PySem.intText? x with
      | none => rw [hi] at hd; cases hd
      | some n =>
        rw [hi] at hd
        cases hd
        cases r with
        | cons r1 r2 =>
          cases r2
          obtain rfl := r1.str
          exact .inr ⟨_, _, rfl, hi, hl, k _ F H (Ext.refl s) (.int _)⟩
    · cases hd
  · cases hd
def strD : List D → Option D
  | [.int i] => if i.natAbs.log2 < 1920 then some (.str (toString i)) else none
  | _ => none
theorem strD_ok : RCok K (fun xs H Q => ∃ i, xs = [.int i] ∧ i.natAbs.log2 < 1920 ∧ Q (.str (toString i)) H) strD := by
  intro xs ds F H Q d s r hd k
  unfold strD at hd
  split at hd
  · split at hd
    · rename_i hl
      cases hd
      cases r with
      | cons r1 r2 =>
        cases r2
        obtain rfl := r1.int
        exact ⟨_, rfl, hl, k _ F H (Ext.refl s) (.str _)⟩
    · cases hd
  · cases hd
/-- len: lists, tuples, texts, dicts -/
def lenD : List D → Option D
  | [.lst xs] => some (.int xs.length)
  | [.tup xs] => some (.int xs.length)
  | [.scr xs] => some (.int xs.length)
  | [.str x] => if x.length ≤ sizeLine then some (.int x.length) else none
  | _ => none
theorem lenD_ok : RCok K (fun xs H Q => ∃ x n, xs = [x] ∧ LenV K x H n ∧ Q (.int n) H) lenD := by
  intro xs ds F H Q d s r hd k
  unfold lenD at hd
  split at hd
  · cases hd
    cases r with
    | cons r1 r2 =>
      cases r2
      obtain ⟨a, ys, rfl, ha, la, ra⟩ := r1.lst s
      refine ⟨_, _, rfl, .inl ⟨_, SqL.of ha, rfl⟩, ?_⟩
      rw [ra.length]
      exact k _ F H (Ext.refl s) (.int _)
  · cases hd
    cases r with
    | cons r1 r2 =>
      cases r2
      obtain ⟨a, ys, rfl, ha, la, ra, wa⟩ := r1.tup s
      refine ⟨_, _, rfl, .inr ⟨_, ha, rfl⟩, ?_⟩
      rw [ra.length]
      exact k _ F H (Ext.refl s) (.int _)
  · cases hd
    cases r with
    | cons r1 r2 =>
      cases r2
      obtain ⟨a, ys, rfl, ha, la, ra⟩ := r1.scr s
      refine ⟨_, _, rfl, .inl ⟨_, ha, rfl⟩, ?_⟩
      rw [ra.length]
      exact k _ F H (Ext.refl s) (.int _)
  · split at hd
    · rename_i hl
      cases hd
      cases r with
      | cons r1 r2 =>
        cases r2
        obtain rfl := r1.str
        exact ⟨_, _, rfl, ⟨hl, rfl⟩, k _ F H (Ext.refl s) (.int _)⟩
    · cases hd
  · cases hd
/-- tuple(x), list(x) -/
def tupleD : List D → Option D
  | [.lst xs] => some (.tup xs)
  | [.scr xs] => some (.tup xs)
  | [.tup xs] => some (.tup xs)
  | _ => none
theorem tupleD_ok : RCok K (fun xs H Q => ∃ p ys, xs = [.ref p] ∧ ((SqL K H p ys ∧ ∀ l, H l = none → Q (.ref l) (upd H l (.tup ys))) ∨ (SqT K H p ys ∧ Q (.ref p) H))) tupleD := by
  intro xs ds F H Q d s r hd k
  unfold tupleD at hd
  split at hd
  · cases hd
    cases r with
    | cons r1 r2 =>
      cases r2
      obtain ⟨a, ys, rfl, ha, la, ra⟩ := r1.lst s
      exact ⟨_, _, rfl, .inl ⟨SqL.of ha, fun l hl => k _ _ _ (Ext.fresh s _ hl) (new_tup s hl la ra)⟩⟩
  · cases hd
    cases r with
    | cons r1 r2 =>
      cases r2
      obtain ⟨a, ys, rfl, ha, la, ra⟩ := r1.scr s
      exact ⟨_, _, rfl, .inl ⟨ha, fun l hl => k _ _ _ (Ext.fresh s _ hl) (new_tup s hl la ra)⟩⟩
  · cases hd
    cases r with
    | cons r1 r2 =>
      cases r2
      obtain ⟨a, ys, rfl, ha, la, ra, wa⟩ := r1.tup s
      exact ⟨_, _, rfl, .inr ⟨ha, k _ F H (Ext.refl s) wa⟩⟩
  · cases hd
def listD : List D → Option D
  | [.lst xs] => some (.lst xs)
  | [.scr xs] => some (.lst xs)
  | [.tup xs] => some (.lst xs)
  | _ => none
theorem listD_ok : RCok K (fun xs H Q => ∃ p ys, xs = [.ref p] ∧ (SqL K H p ys ∨ SqT K H p ys) ∧ ∀ l, H l = none → Q (.ref l) (upd H l (.lst ys))) listD := by
  intro xs ds F H Q d s r hd k
  unfold listD at hd
  split at hd
  · cases hd
    cases r with
    | cons r1 r2 =>
      cases r2
      obtain ⟨a, ys, rfl, ha, la, ra⟩ := r1.lst s
      exact ⟨_, _, rfl, .inl (SqL.of ha), fun l hl => k _ _ _ (Ext.fresh s _ hl) (new_lst s hl la ra)⟩
  · cases hd
    cases r with
    | cons r1 r2 =>
      cases r2
      obtain ⟨a, ys, rfl, ha, la, ra⟩ := r1.scr s
      exact ⟨_, _, rfl, .inl ha, fun l hl => k _ _ _ (Ext.fresh s _ hl) (new_lst s hl la ra)⟩
  · cases hd
    cases r with
    | cons r1 r2 =>
      cases r2
      obtain ⟨a, ys, rfl, ha, la, ra, wa⟩ := r1.tup s
      exact ⟨_, _, rfl, .inr ha, fun l hl => k _ _ _ (Ext.fresh s _ hl) (new_lst s hl la ra)⟩
  · cases hd
/-! ### lists of ints, of truth values -/
def intsD : List D → Option (List Int)
  | [] => some []
  | .int i :: r => (intsD r).map (i :: ·)
  | _ => none
def boolsD : List D → Option (List Bool)
  | [] => some []
  | .bl i :: r => (boolsD r).map (i :: ·)
  | _ => none
theorem intsD_vals {F : Hp} : ∀ {ds : List D} {ns : List Int} {xs : List V}, intsD ds = some ns → Reps K F xs ds → xs = ns.map V.int
  | [], ns, xs, h, r => by
    cases h
    cases r
    rfl
  | d :: ds, ns, xs, h, r => by
    cases d with
    | int i =>
      simp only [intsD] at h
      cases e : intsD ds with
      | none => rw [e] at h; cases h
      | some ms =>
        rw [e] at h
        cases h
        cases r with
        | cons r1 r2 =>
          cases r1
          rw [intsD_vals e r2]
          rfl
    | _ => simp only [intsD] at h; cases h
theorem boolsD_vals {F : Hp} : ∀ {ds : List D} {ns : List Bool} {xs : List V}, boolsD ds = some ns → Reps K F xs ds → xs = ns.map V.bl
  | [], ns, xs, h, r => by
    cases h
    cases r
    rfl
  | d :: ds, ns, xs, h, r => by
    cases d with
    | bl i =>
      simp only [boolsD] at h
      cases e : boolsD ds with
      | none => rw [e] at h; cases h
      | some ms =>
        rw [e] at h
        cases h
        cases r with
        | cons r1 r2 =>
          cases r1
          rw [boolsD_vals e r2]
          rfl
    | _ => simp only [boolsD] at h; cases h
def sumD : List D → Option D
  | [.lst xs] => (intsD xs).map fun ns => .int ns.sum
  | [.tup xs] => (intsD xs).map fun ns => .int ns.sum
  | _ => none
def rSumT (K : PySem.W.Frag) : List V → Hp → VK → Prop := fun vs H Q => ∃ (a : Addr) (ns : List Int), vs = [V.ref a] ∧ SqT K H a (ns.map V.int) ∧ Q (.int ns.sum) H
def rSumA (K : PySem.W.Frag) : List V → Hp → VK → Prop := fun vs H Q => rSum K vs H Q ∨ rSumT K vs H Q
theorem call_sumT {X : Cx} (hc : X.calm = true) : CallR X (.builtin "sum") (rSumT X.K) := by
  intro pins s σ H vs us Q I r ⟨a, ns, e0, hs, q⟩
  subst e0
  obtain ⟨its, rv, hl, _⟩ := I.tuple hs
  rw [Vals.ref1 r]
  obtain ⟨o, ho, hcl, n, hd⟩ := hl
  obtain ⟨xs, e⟩ := rv.ints.allInts.items
  have hn : numsOf (intItems xs).toList = ns := e ▸ rv.ints.numsOf
  rw [nums_intItems] at hn
  refine PySem.W.ktm_sumG (xs := xs) (I.ok.hd hc) ⟨o, ho, hcl, n, by rw [← e]; exact hd⟩ fun h' tk t' hk => ?_
  rw [preSum_eq, List.take_of_length_le (by simp), hn]
  exact ⟨.int _, H, I.kept hk, ⟨_, rfl⟩, q⟩
theorem call_sumA {X : Cx} (hc : X.calm = true) : CallR X (.builtin "sum") (rSumA X.K) := fun pins s σ H vs us Q I r h => h.elim (cr_sum hc pins s σ H vs us Q I r) (call_sumT hc pins s σ H vs us Q I r)
theorem sumD_ok : RCok K (rSumA K) sumD := by
  intro xs ds F H Q d s r hd k
  unfold sumD at hd
  split at hd
  · rename_i es
    cases e : intsD es with
    | none => rw [e] at hd; cases hd
    | some ns =>
      rw [e] at hd
      cases hd
      cases r with
      | cons r1 r2 =>
        cases r2
        obtain ⟨a, ys, rfl, ha, la, ra⟩ := r1.lst s
        have ey := intsD_vals e ra
        subst ey
        exact .inl ⟨a, ns, rfl, SqL.of ha, k _ F H (Ext.refl s) (.int _)⟩
  · rename_i es
    cases e : intsD es with
    | none => rw [e] at hd; cases hd
    | some ns =>
      rw [e] at hd
      cases hd
      cases r with
      | cons r1 r2 =>
        cases r2
        obtain ⟨a, ys, rfl, ha, la, ra, wa⟩ := r1.tup s
        have ey := intsD_vals e ra
        subst ey
        exact .inr ⟨a, ns, rfl, ha, k _ F H (Ext.refl s) (.int _)⟩
  · cases hd
def allD : List D → Option D
  | [.lst xs] => (boolsD xs).map fun ns => .bl (ns.all id)
  | _ => none
theorem allD_ok : RCok K (rAll K) allD := by
  intro xs ds F H Q d s r hd k
  unfold allD at hd
  split at hd
  · rename_i es
    cases e : boolsD es with
    | none => rw [e] at hd; cases hd
    | some ns =>
      rw [e] at hd
      cases hd
      cases r with
      | cons r1 r2 =>
        cases r2
        obtain ⟨a, ys, rfl, ha, la, ra⟩ := r1.lst s
        have ey := boolsD_vals e ra
        subst ey
        exact ⟨a, ns, rfl, SqL.of ha, k _ F H (Ext.refl s) (.bl _)⟩
  · cases hd
def anyD : List D → Option D
  | [.lst xs] => (boolsD xs).map fun ns => .bl (ns.any id)
  | _ => none
theorem anyD_ok : RCok K (rAny K) anyD := by
  intro xs ds F H Q d s r hd k
  unfold anyD at hd
  split at hd
  · rename_i es
    cases e : boolsD es with
    | none => rw [e] at hd; cases hd
    | some ns =>
      rw [e] at hd
      cases hd
      cases r with
      | cons r1 r2 =>
        cases r2
        obtain ⟨a, ys, rfl, ha, la, ra⟩ := r1.lst s
        have ey := boolsD_vals e ra
        subst ey
        exact ⟨a, ns, rfl, SqL.of ha, k _ F H (Ext.refl s) (.bl _)⟩
  · cases hd
end

/-! ### subscripts, slices -/
def idxD : D → D → Option D
  | .lst xs, .int i => atI xs i
  | .tup xs, .int i => atI xs i
  | .scr xs, .int i => atI xs i
  | .str z, .int i => if z.length ≤ sizeLine then (atI z.cps.toList i).map fun c => .str ⟨#[c]⟩ else none
  | _, _ => none
def rIdxD (K : PySem.W.Frag) : R2 := fun x y H Q => rIxL K x y H Q ∨ rIxT K x y H Q ∨ rIxS x y H Q
theorem ix_D {X : Cx} : IxR X (rIdxD X.K) := IxR.or ix_list (IxR.or ix_tup ix_str)
theorem Reps.atI {K : PySem.W.Frag} {F : Hp} {xs : List V} {ds : List D} {i : Int} {d : D} (r : Reps K F xs ds) (h : L2.atI ds i = some d) : ∃ v, L2.atI xs i = some v ∧ Rep K F v d := by
  unfold L2.atI at h ⊢
  rw [r.length]
  cases e : ixN ds.length i with
  | none => rw [e] at h; cases h
  | some j =>
    rw [e] at h
    exact r.get h
theorem idxD_ok {K : PySem.W.Frag} : R2ok K (rIdxD K) idxD := by
  intro x y dx dy F H Q d s hx hy hd k
  unfold idxD at hd
  split at hd
  · obtain ⟨a, xs, rfl, ha, la, ra⟩ := hx.lst s
    obtain ⟨v, h1, h2⟩ := ra.atI hd
    exact .inl ⟨_, _, _, v, rfl, hy.int, SqL.of ha, h1, k _ F H (Ext.refl s) h2⟩
  · obtain ⟨a, xs, rfl, ha, la, ra, wa⟩ := hx.tup s
    obtain ⟨v, h1, h2⟩ := ra.atI hd
    exact .inr (.inl ⟨_, _, _, v, rfl, hy.int, ha, h1, k _ F H (Ext.refl s) h2⟩)
  · obtain ⟨a, xs, rfl, ha, la, ra⟩ := hx.scr s
    obtain ⟨v, h1, h2⟩ := ra.atI hd
    exact .inl ⟨_, _, _, v, rfl, hy.int, ha, h1, k _ F H (Ext.refl s) h2⟩
  · split at hd
    · rename_i z i hl
      cases e : L2.atI z.cps.toList i with
      | none => rw [e] at hd; cases hd
      | some c =>
        rw [e] at hd
        cases hd
        exact .inr (.inr ⟨z, i, c, hx.str, hy.int, hl, e, k _ F H (Ext.refl s) (.str _)⟩)
    · cases hd
  · cases hd
def cutD (xs : List D) (lo hi : Option Int) : List D := (xs.drop (HT.sIx xs.length 0 lo)).take (HT.sIx xs.length xs.length hi - HT.sIx xs.length 0 lo)
/-- x[lo:hi] -/
def sliceD : D → Option Int → Option Int → Option D
  | .lst xs, lo, hi => some (.lst (cutD xs lo hi))
  | .scr xs, lo, hi => some (.lst (cutD xs lo hi))
  | .tup xs, lo, hi => some (.tup (cutD xs lo hi))
  | .str z, lo, hi => if z.length ≤ sizeLine then some (.str (cutS z lo hi)) else none
  | _, _, _ => none
def rSliceD (K : PySem.W.Frag) : V → Option Int → Option Int → Hp → VK → Prop := fun x lo hi H Q => rSlL K x lo hi H Q ∨ rSlA K x lo hi H Q ∨ rSlS x lo hi H Q
theorem sl_D {X : Cx} : L2.SlR X (rSliceD X.K) := L2.SlR.or sl_list (L2.SlR.or sl_tupA sl_str)
theorem Reps.cut {K : PySem.W.Frag} {F : Hp} {xs : List V} {ds : List D} {lo hi : Option Int} (r : Reps K F xs ds) : Reps K F (cutV xs lo hi) (cutD ds lo hi) := by
  unfold cutV cutD
  rw [r.length]
  exact (r.drop _).take _
def optI : Option D → Option (Option Int)
  | none => some none
  | some (.int i) => some (some i)
  | _ => none
def PV (X : Cx) (G : Gd) (W : WX) (ρ : Rho) (e : Option Expr) (m : Rs (Option Int)) : Prop :=
  ∃ t, PO X e t ∧ ∀ F0 σ F H Q, Holds X.K (G.at F0) ρ σ F H → Post X.K (fun _ _ x y => x = y) (fun c d H => W c d σ H) F H Q m → t σ H Q
def asI : D → Option (Option Int)
  | .int i => some (some i)
  | _ => none
section
variable {X : Cx} {G : Gd} {W : WX} {ρ : Rho} {e : Expr} {lo hi : Option Expr} {m : Rs D} {ml mh : Rs (Option Int)} {pos p : Pos}
theorem pv_none : PV X G W ρ none (.ok none) := ⟨_, po_none, fun F0 σ F H Q hh hp => hp none F H (Ext.refl hh.sub) rfl⟩
theorem pv_some (h : EV X G W ρ e m) : PV X G W ρ (some e) (m.bind fun d => Rs.of (asI d)) := by
  obtain ⟨t, pe, q⟩ := h
  refine ⟨_, po_some pe, fun F0 σ F H Q hh hp => ?_⟩
  refine q F0 σ F H _ hh (hp.bind fun dx x F1 H1 e1 r1 hp1 => ?_)
  obtain ⟨d, hd, k⟩ := hp1.of
  cases dx with
  | int i =>
    cases hd
    cases r1
    exact ⟨i, rfl, k _ F1 H1 (Ext.refl e1.sub) rfl⟩
  | _ => cases hd
theorem ev_slice (h : EO X G W ρ e m) (hl : PV X G W ρ lo ml) (hh' : PV X G W ρ hi mh) : EV X G W ρ (.Subscript e (.Slice lo hi none p) pos) (m.bind fun x => ml.bind fun i => mh.bind fun j => Rs.of (sliceD x i j)) := by
  obtain ⟨t, pe, q⟩ := h
  obtain ⟨tl, pl, ql⟩ := hl
  obtain ⟨th, ph, qh⟩ := hh'
  refine ⟨_, pe_slice sl_D pe pl ph, fun F0 σ F H Q hh hp => ?_⟩
  refine q F0 σ F H _ hh (hp.bind fun dx x F1 H1 e1 r1 hp1 => ?_)
  refine ql F0 σ F1 H1 _ (hh.more e1) (hp1.bind fun i i' F2 H2 e2 r2 hp2 => ?_)
  refine qh F0 σ F2 H2 _ ((hh.more e1).more e2) (hp2.bind fun j j' F3 H3 e3 r3 hp3 => ?_)
  cases r2
  cases r3
  obtain ⟨d, hd, k⟩ := hp3.of
  have s := e3.sub
  have hx := (r1.more e2).more e3
  unfold sliceD at hd
  split at hd
  · cases hd
    obtain ⟨a, xs, rfl, ha, la, ra⟩ := hx.lst s
    exact .inl ⟨a, xs, rfl, SqL.of ha, fun p hp => k _ _ _ (Ext.fresh s _ hp) (new_lst s hp (Nat.le_trans (cutV_length _ _ _) la) ra.cut)⟩
  · cases hd
    obtain ⟨a, xs, rfl, ha, la, ra⟩ := hx.scr s
    exact .inl ⟨a, xs, rfl, ha, fun p hp => k _ _ _ (Ext.fresh s _ hp) (new_lst s hp (Nat.le_trans (cutV_length _ _ _) la) ra.cut)⟩
  · cases hd
    obtain ⟨a, xs, rfl, ha, la, ra, wa⟩ := hx.tup s
    refine .inr (.inl ⟨a, xs, rfl, ha, fun hw => ?_, fun _ p hp => k _ _ _ (Ext.fresh s _ hp) (new_tup s hp (Nat.le_trans (cutV_length _ _ _) la) ra.cut)⟩)
    refine k _ _ _ (Ext.refl s) ?_
    unfold cutD
    rw [ra.length] at hw
    rw [hw.1, hw.2, List.drop_zero, Nat.sub_zero, List.take_length]
    exact wa
  · split at hd
    · rename_i hl
      cases hd
      exact .inr (.inr ⟨_, hx.str, hl, k _ _ _ (Ext.refl s) (.str _)⟩)
    · cases hd
  · cases hd
end
end VL
set_option Elab.async false
set_option linter.all false
set_option maxRecDepth 100000
set_option autoImplicit false
namespace VL
open PySem PySem.Spec L2
open PyProof.Rows hiding St
theorem Rs.assoc {α β γ : Type} (m : Rs α) (f : α → Rs β) (g : β → Rs γ) : (m.bind f).bind g = m.bind fun x => (f x).bind g := by cases m <;> rfl
theorem Rs.bind_id {α : Type} (m : Rs α) : (m.bind fun x => .ok x) = m := by cases m <;> rfl
/-- a block whose ends are all of the form ι -/
def BI (X : Cx) (G : Gd) (W : WX) (ρx ρ : Rho) (sts : List Stmt) {α β R : Type} (pn : α → Rho) (pl : β → Rho) (ι : R → Fl α β) (m : Rs R) : Prop := BK X G W ρx ρ sts pn pl (m.bind fun r => .ok (ι r))
/-- it always returns -/
abbrev rtI {α β : Type} : D → Fl α β := fun d => .rt d []
section
variable {X : Cx} {G : Gd} {W : WX} {ρx ρ : Rho} {rest sts : List Stmt} {α β R : Type} {pn : α → Rho} {pl : β → Rho} {ι : R → Fl α β}
theorem bi_set {i : Nat} {st : Stmt} {m : Rs D} {f : D → Rs R} (ha : AS X G W ρ st i m) (hr : ∀ d, BI X G W ρx (ρ.set i (some (.val d))) rest pn pl ι (f d)) (hi : i < ρ.length := by exact Nat.le_of_ble_eq_true rfl) (wx : Wk ρ ρx := by first | exact Wk.nil | exact Wk.refl | (repeat (first | exact Wk.nil | apply Wk.keep | apply Wk.drop))) :
    BI X G W ρx ρ (st :: rest) pn pl ι (m.bind f) := by
  unfold BI
  rw [Rs.assoc]
  exact bk_set ha hr hi wx
theorem bi_own {i : Nat} {st : Stmt} {m : Rs (List D)} {f : List D → Rs R} (ha : AF X G W ρ st i m) (hr : ∀ d, BI X G W ρx (ρ.set i (some (.own true (.lst d)))) rest pn pl ι (f d)) (hi : i < ρ.length := by exact Nat.le_of_ble_eq_true rfl) (wx : Wk ρ ρx := by first | exact Wk.nil | exact Wk.refl | (repeat (first | exact Wk.nil | apply Wk.keep | apply Wk.drop))) :
    BI X G W ρx ρ (st :: rest) pn pl ι (m.bind f) := by
  unfold BI
  rw [Rs.assoc]
  exact bk_own ha hr hi wx
theorem bi_frz (i : Nat) {d : D} {m : Rs R} (hr : BI X G W ρx (ρ.set i (some (.val d))) sts pn pl ι m) (hi : ρ[i]? = some (some (.own true d)) := by rfl) : BI X G W ρx ρ sts pn pl ι m := bk_frz hi hr
theorem bi_weak {ρ' : Rho} {m : Rs R} (w : Wk ρ ρ') (hr : BI X G W ρx ρ' sts pn pl ι m) : BI X G W ρx ρ sts pn pl ι m := bk_weak w hr
theorem bi_expr {e : Expr} {pos : Pos} {m : Rs D} {f : Rs R} (he : EV X G W ρ e m) (hr : BI X G W ρx ρ rest pn pl ι f) (hs : swapsWith e none pos.line X.env = pure false := by rfl) (wx : Wk ρ ρx := by first | exact Wk.nil | exact Wk.refl | (repeat (first | exact Wk.nil | apply Wk.keep | apply Wk.drop))) :
    BI X G W ρx ρ (.Expr e pos :: rest) pn pl ι (m.bind fun _ => f) := by
  unfold BI
  rw [Rs.assoc]
  exact bk_expr he hr hs wx
theorem bi_append {i : Nat} {x : Str} {e : Expr} {xpos apos cpos pos : Pos} {l : Bool} {c : List D} {m : Rs D} {f : List D → Rs R} (hv : PE X (.Name x xpos) (tVar i)) (he : EV X G W ρ e m)
    (hr : ∀ c', BI X G W ρx (ρ.set i (some (.own l (.lst c')))) rest pn pl ι (f c')) (hi : ρ[i]? = some (some (.own l (.lst c))) := by rfl)
    (hbase : attributeBase (.Name x xpos) "append" X.env (eval (.Name x xpos) X.env) = eval (.Name x xpos) X.env := by rfl)
    (hfew : ((backTo cpos (starEach [e] X.env)).all (fun x => !x.1) && (backToKw cpos (keywordEach [] X.env)).all (fun x => x.1.isSome) && decide ([e].length + ([] : List Keyword).length + (if ([] : List Keyword).isEmpty then 0 else 1) < 30)) = true := by rfl)
    (hst : starEach [e] X.env = (false, eval e X.env) :: starEach [] X.env := by rfl)
    (hline : (apos.endLine == cpos.line) = true := by rfl) (hs : swapsWith (.Call (.Attribute (.Name x xpos) "append" apos) [e] [] cpos) none pos.line X.env = pure false := by rfl) (wx : Wk ρ ρx := by first | exact Wk.nil | exact Wk.refl | (repeat (first | exact Wk.nil | apply Wk.keep | apply Wk.drop))) :
    BI X G W ρx ρ (.Expr (.Call (.Attribute (.Name x xpos) "append" apos) [e] [] cpos) pos :: rest) pn pl ι (m.bind fun d => (Rs.of (appL c d)).bind f) := by
  unfold BI
  have z := bk_append (ρx := ρx) (rest := rest) (pn := pn) (pl := pl) (f := fun c' => (f c').bind fun r => .ok (ι r)) hv he hr hi hbase hfew hst hline hs wx
  have e2 : ((m.bind fun d => (Rs.of (appL c d)).bind f).bind fun r => (.ok (ι r) : Rs (Fl α β))) = m.bind fun d => (Rs.of (appL c d)).bind fun c' => (f c').bind fun r => .ok (ι r) := by
    cases m <;> simp only [Rs.bind_ok, Rs.bind_ex, Rs.bind_no, Rs.assoc]
  rw [e2]
  exact z
theorem bi_setix {i : Nat} {x : Str} {e k : Expr} {xpos spos pos : Pos} {l : Bool} {c : List D} {m mk : Rs D} {f : List D → Rs R} (hv : PE X (.Name x xpos) (tVar i)) (he : EV X G W ρ e m) (hk : EV X G W ρ k mk)
    (hr : ∀ c', BI X G W ρx (ρ.set i (some (.own l (.lst c')))) rest pn pl ι (f c')) (hi : ρ[i]? = some (some (.own l (.lst c))) := by rfl)
    (hs : swapsWithSole [.Subscript (.Name x xpos) k spos] e pos.line X.env = pure false := by rfl) (hw : swappedStores [.Subscript (.Name x xpos) k spos] e X.env = pure none := by rfl)
    (h1 : (assignEach [.Subscript (.Name x xpos) k spos] X.env).map (·.2) = [assign (.Subscript (.Name x xpos) k spos) X.env] := by rfl)
    (hA : ∀ v, assign (.Subscript (.Name x xpos) k spos) X.env v = (do
      let ov ← holding [v] (eval (.Name x xpos) X.env); let iv ← holding [v, ov] (eval k X.env); standAt spos; holding [v, ov, iv] (setItem ov iv v); release [v, ov, iv] []) := by intro _; rfl) (wx : Wk ρ ρx := by first | exact Wk.nil | exact Wk.refl | (repeat (first | exact Wk.nil | apply Wk.keep | apply Wk.drop))) :
    BI X G W ρx ρ (.Assign [.Subscript (.Name x xpos) k spos] e pos :: rest) pn pl ι (m.bind fun d => mk.bind fun j => (Rs.of (setL c j d)).bind f) := by
  unfold BI
  have z := bk_setix (ρx := ρx) (rest := rest) (pn := pn) (pl := pl) (f := fun c' => (f c').bind fun r => .ok (ι r)) hv he hk hr hi hs hw h1 hA wx
  have e2 : ((m.bind fun d => mk.bind fun j => (Rs.of (setL c j d)).bind f).bind fun r => (.ok (ι r) : Rs (Fl α β))) = m.bind fun d => mk.bind fun j => (Rs.of (setL c j d)).bind fun c' => (f c').bind fun r => .ok (ι r) := by
    cases m <;> simp only [Rs.bind_ok, Rs.bind_ex, Rs.bind_no]
    cases mk <;> simp only [Rs.bind_ok, Rs.bind_ex, Rs.bind_no, Rs.assoc]
  rw [e2]
  exact z
/-- the end of a block that falls through -/
theorem bi_nil {z : α} (w : Wk ρ (pn z)) : BI X G W ρx ρ [] pn pl Fl.nx (.ok z) := bk_nil w
theorem bi_ret {e : Expr} {pos : Pos} {m : Rs D} (he : EV X G W ρ e m) (hb : G.bs = [] := by rfl) (wx : Wk ρ ρx := by first | exact Wk.nil | exact Wk.refl | (repeat (first | exact Wk.nil | apply Wk.keep | apply Wk.drop))) : BI X G W ρx ρ (.Return (some e) pos :: rest) pn pl rtI m := bk_ret he hb wx
theorem bi_retN {pos : Pos} (hb : G.bs = [] := by rfl) : BI X G W ρx ρ (.Return none pos :: rest) pn pl rtI (.ok .non) := bk_retN hb
/-- a block of one mode from the general one -/
theorem bi_gen {m : Rs (Fl α β)} (h : BK X G W ρx ρ sts pn pl m) : BI X G W ρx ρ sts pn pl (fun r => r) m := by
  unfold BI
  rw [Rs.bind_id]
  exact h
theorem bi_ifr {c : Expr} {a : List Stmt} {pos : Pos} {tc : Rs Bool} {ma mr : Rs D} (hc : TV X G W ρ c tc) (ha : BI X G W ρx ρ a pEmp pl rtI ma) (hr : BI X G W ρx ρ rest pn pl rtI mr) (wx : Wk ρ ρx := by first | exact Wk.nil | exact Wk.refl | (repeat (first | exact Wk.nil | apply Wk.keep | apply Wk.drop))) :
    BI X G W ρx ρ (.If c a [] pos :: rest) pn pl rtI (tc.bind fun k => if k then ma else mr) := by
  unfold BI
  have z := bk_ifr hc ha hr wx (pos := pos)
  have e2 : ((tc.bind fun k => if k then ma else mr).bind fun r => (.ok (rtI r) : Rs (Fl α β))) = tc.bind fun k => if k then liftF (ma.bind fun r => .ok (rtI r)) else (mr.bind fun r => .ok (rtI r)) := by
    cases tc with
    | ok k =>
      cases k with
      | true => cases ma <;> rfl
      | false => rfl
    | ex c fs => rfl
    | no => rfl
  rw [e2]
  exact z
theorem bi_if2 {c : Expr} {a b : List Stmt} {pos : Pos} {tc : Rs Bool} {ma mb : Rs R} (hc : TV X G W ρ c tc) (ha : BI X G W ρx ρ a pn pl ι ma) (hb : BI X G W ρx ρ b pn pl ι mb) (wx : Wk ρ ρx := by first | exact Wk.nil | exact Wk.refl | (repeat (first | exact Wk.nil | apply Wk.keep | apply Wk.drop))) :
    BI X G W ρx ρ [.If c a b pos] pn pl ι (tc.bind fun k => if k then ma else mb) := by
  unfold BI
  have z := bk_if2 hc ha hb wx (pos := pos)
  have e2 : ((tc.bind fun k => if k then ma else mb).bind fun r => (.ok (ι r) : Rs (Fl α β))) = tc.bind fun k => if k then (ma.bind fun r => .ok (ι r)) else (mb.bind fun r => .ok (ι r)) := by
    cases tc with
    | ok k => cases k <;> rfl
    | ex c fs => rfl
    | no => rfl
  rw [e2]
  exact z
theorem bi_if {γ : Type} {p1 : γ → Rho} {c : Expr} {a b : List Stmt} {pos : Pos} {tc : Rs Bool} {ma mb : Rs γ} {f : γ → Rs R} (hc : TV X G W ρ c tc) (ha : BI X G W ρx ρ a p1 pl Fl.nx ma) (hb : BI X G W ρx ρ b p1 pl Fl.nx mb)
    (hr : ∀ z, BI X G W ρx (p1 z) rest pn pl ι (f z)) (wx : Wk ρ ρx := by first | exact Wk.nil | exact Wk.refl | (repeat (first | exact Wk.nil | apply Wk.keep | apply Wk.drop))) : BI X G W ρx ρ (.If c a b pos :: rest) pn pl ι ((tc.bind fun k => if k then ma else mb).bind f) := by
  unfold BI
  have z := bk_if hc ha hb hr wx (pos := pos)
  have e2 : (((tc.bind fun k => if k then ma else mb).bind f).bind fun r => (.ok (ι r) : Rs (Fl α β))) = (tc.bind fun k => if k then (ma.bind fun r => .ok (Fl.nx r)) else (mb.bind fun r => .ok (Fl.nx r))).bind (Fl.andThen fun z => (f z).bind fun r => .ok (ι r)) := by
    cases tc with
    | ok k => cases k <;> (first | cases ma <;> rfl | cases mb <;> rfl)
    | ex c fs => rfl
    | no => rfl
  rw [e2]
  exact z
def foldM {ε : Type} (f : ε → D → Rs ε) : List D → ε → Rs ε
  | [], z => .ok z
  | d :: ds, z => (f z d).bind fun z' => foldM f ds z'
theorem loop_fold {ε β' : Type} (f : ε → D → Rs ε) : ∀ (ds : List D) (z : ε), loopM (β := β') (fun z d => (f z d).bind fun z => .ok (.nx z)) ds z = (foldM f ds z).bind fun z => .ok (.nx z)
  | [], z => rfl
  | d :: ds, z => by
    simp only [loopM, foldM]
    cases f z d with
    | ok z' => exact loop_fold f ds z'
    | ex c fs => rfl
    | no => rfl
theorem bi_for {ε γ : Type} {post : ε → Rho} {u : D → Option γ} {p : ε → γ → Rho} {is : List Nat} {tg iter : Expr} {body : List Stmt} {pos : Pos} {mi : Rs (List D)} {fb : ε → γ → Rs ε} {z0 : ε} {f : ε → Rs R}
    (po : PassesOwn (model X.prog X.w) X.A X.env X.xe) (calm : X.calm = true) (hi : IT X G W ρ tg iter mi) (h0 : Wk ρ (post z0)) (ht : ∀ z, TT1 X G tg (post z) is u (p z)) (hb : ∀ z y, BI X G W ρx (p z y) body post post Fl.nx (fb z y))
    (hr : ∀ z, BI X G W ρx (post z) rest pn pl ι (f z)) (wx : Wk ρ ρx := by first | exact Wk.nil | exact Wk.refl | (repeat (first | exact Wk.nil | apply Wk.keep | apply Wk.drop))) (hs : ∀ x, foldedSetIterable iter X.env x = pure x := by intro _; rfl) :
    BI X G W ρx ρ (.For tg iter body [] pos :: rest) pn pl ι (mi.bind fun items => (foldM (fun z d => (Rs.of (u d)).bind (fb z)) items z0).bind f) := by
  unfold BI
  have z := bk_for (pos := pos) po calm hi h0 ht hb hr wx hs
  have e0 : (fun (z : ε) (d : D) => (Rs.of (u d)).bind fun y => ((fb z y).bind fun z => (.ok (.nx z) : Rs (Fl ε ε)))) = fun z d => ((Rs.of (u d)).bind (fb z)).bind fun z => .ok (.nx z) := by
    funext z d
    rw [Rs.assoc]
  have e2 : ((mi.bind fun items => (foldM (fun z d => (Rs.of (u d)).bind (fb z)) items z0).bind f).bind fun r => (.ok (ι r) : Rs (Fl α β))) =
      mi.bind fun items => (loopM (fun z d => (Rs.of (u d)).bind fun y => ((fb z y).bind fun z => .ok (.nx z))) items z0).bind (Fl.andThen fun z => (f z).bind fun r => .ok (ι r)) := by
    cases mi with
    | ok items =>
      simp only [Rs.bind_ok]
      rw [e0, loop_fold]
      cases foldM (fun z d => (Rs.of (u d)).bind (fb z)) items z0 <;> rfl
    | ex c fs => rfl
    | no => rfl
  rw [e2]
  exact z
/-- for with ways out of it, in a block that always returns -/
def Fl.toX {ε β' : Type} (f : ε → Rs D) : Fl ε β' → Rs D
  | .nx z => f z
  | .rt d _ => .ok d
  | _ => .no
theorem bi_forX {ε γ : Type} {post : ε → Rho} {u : D → Option γ} {p : ε → γ → Rho} {is : List Nat} {tg iter : Expr} {body : List Stmt} {pos : Pos} {mi : Rs (List D)} {fb : ε → γ → Rs (Fl ε ε)} {z0 : ε} {f : ε → Rs D}
    (po : PassesOwn (model X.prog X.w) X.A X.env X.xe) (calm : X.calm = true) (hbs : G.bs = []) (hi : IT X G W ρ tg iter mi) (h0 : Wk ρ (post z0)) (ht : ∀ z, TT1 X G tg (post z) is u (p z)) (hb : ∀ z y, BK X G W ρx (p z y) body post post (fb z y))
    (hr : ∀ z, BI X G W ρx (post z) rest pn pl rtI (f z)) (wx : Wk ρ ρx := by first | exact Wk.nil | exact Wk.refl | (repeat (first | exact Wk.nil | apply Wk.keep | apply Wk.drop))) (hs : ∀ x, foldedSetIterable iter X.env x = pure x := by intro _; rfl) :
    BI X G W ρx ρ (.For tg iter body [] pos :: rest) pn pl rtI (mi.bind fun items => (loopM (β := β) (fun z d => (Rs.of (u d)).bind (fb z)) items z0).bind (Fl.toX f)) := by
  unfold BI
  have z := bk_for (pos := pos) po calm hi h0 ht hb hr wx hs
  intro F0 σ F H E hh hp
  refine z F0 σ F H E hh ?_
  cases mi with
  | ex c fs => exact hp
  | no => exact hp
  | ok items =>
    simp only [Rs.bind_ok] at hp ⊢
    cases hl : loopM (β := β) (fun z d => (Rs.of (u d)).bind (fb z)) items z0 with
    | ex c fs => rw [hl] at hp; exact hp
    | no => rw [hl] at hp; exact hp
    | ok fl =>
      rw [hl] at hp
      cases fl with
      | nx z => exact hp
      | rt d s =>
        refine fun v F' H' g r ow => hp v F' H' g r ?_
        have e : G.bs = [] := hbs
        exact owns0 e
      | bk y => exact hp.elim
      | ct y => exact hp.elim
def whileN {ε : Type} (c : ε → Rs Bool) (f : ε → Rs ε) : Nat → ε → Rs ε
  | 0, _ => .no
  | n + 1, z => (c z).bind fun k => if k then (f z).bind fun z' => whileN c f n z' else .ok z
theorem while_N {ε β' : Type} (c : ε → Rs Bool) (f : ε → Rs ε) : ∀ (n : Nat) (z : ε), whileM (β := β') c (fun z => (f z).bind fun z => .ok (.nx z)) n z = (whileN c f n z).bind fun z => .ok (.nx z)
  | 0, z => rfl
  | n + 1, z => by
    simp only [whileM, whileN]
    cases c z with
    | ok k =>
      cases k with
      | false => rfl
      | true =>
        simp only [Rs.bind_ok, if_true]
        cases f z with
        | ok z' => exact while_N c f n z'
        | ex c fs => rfl
        | no => rfl
    | ex c fs => rfl
    | no => rfl
theorem bi_while {ε : Type} {post : ε → Rho} {c : Expr} {body : List Stmt} {pos : Pos} {fc : ε → Rs Bool} {fb : ε → Rs ε} {z0 : ε} {f : ε → Rs R} (n : Nat)
    (po : PassesOwn (model X.prog X.w) X.A X.env X.xe) (h0 : Wk ρ (post z0)) (hc : ∀ z, TV X G W (post z) c (fc z)) (hb : ∀ z, BI X G W ρx (post z) body post post Fl.nx (fb z))
    (hr : ∀ z, BI X G W ρx (post z) rest pn pl ι (f z)) (wx : ∀ z, Wk (post z) ρx := by exact fun _ => Wk.nil) : BI X G W ρx ρ (.While c body [] pos :: rest) pn pl ι ((whileN fc fb n z0).bind f) := by
  unfold BI
  have z := bk_while (n := n) (pos := pos) po h0 hc hb hr wx
  rw [while_N] at z
  have e2 : (((whileN fc fb n z0).bind f).bind fun r => (.ok (ι r) : Rs (Fl α β))) = ((whileN fc fb n z0).bind fun z => (.ok (.nx z) : Rs (Fl ε β))).bind (Fl.andThen fun z => (f z).bind fun r => .ok (ι r)) := by
    cases whileN fc fb n z0 <;> rfl
  rw [e2]
  exact z
end
/-! ### a def -/
theorem keeps_ret {P : Program} {w : World} {K : PySem.W.Frag} {mg : Str → Option Value} {base : Heap} {x qual : Str} {params : Arguments} {body : List Stmt} {scope : Scope} {dvs : List V} {kws : List (Str × V)} {f : Addr} {fd : FuncData} {N ps : List Str} {k : Nat} {m : List D → Rs D}
    (Fd : FunD K x qual params body scope dvs kws f fd) (S : FnScope N ps scope)
    (hb : ∀ (cdv : Value) (A : Around) (outer : List Env) (s : Shared) (H : Hp) (E : XK) (F : Hp) (ds : List D), ds.length = ps.length → Room k (A.deeper (envOfC qual scope s.heap.objs.size f cdv)) →
      BI (cxOf (L2.CX P w) P w K mg base N qual scope f cdv A outer s H E) ⟨F, H, []⟩ (fun c d _ H => E c d H) [] (ds.map (fun d => some (Cl.val d)) ++ List.replicate (N.length - ds.length) none) body (fun _ : Unit => []) (fun _ : Unit => []) rtI (m ds)) :
    Keeps P w K mg base (k + 1) f fd ps m := by
  refine keeps_of Fd S fun cdv A outer s H E F ds hl hr => ⟨_, ?_, hb cdv A outer s H E F ds hl hr⟩
  cases m ds <;> rfl
end VL
set_option Elab.async false
set_option linter.all false
set_option maxRecDepth 100000
set_option autoImplicit false
namespace VL
open PySem PySem.Spec L2
open PyProof.Rows hiding St

/-! ### the order of data -/
mutual
def ltP : PyData → PyData → Bool
  | .int i, .int j => decide (i < j)
  | .str x, .str y => decide (x.cps.toList < y.cps.toList)
  | .tuple xs, .tuple ys => ltPs xs ys
  | _, _ => false
def ltPs : List PyData → List PyData → Bool
  | [], [] => false
  | [], _ :: _ => true
  | _ :: _, [] => false
  | x :: xs, y :: ys => if PyData.eqv x y then ltPs xs ys else ltP x y
end
mutual
def leP : PyData → PyData → Bool
  | .int i, .int j => decide (i ≤ j)
  | .str x, .str y => !decide (y.cps.toList < x.cps.toList)
  | .tuple xs, .tuple ys => lePs xs ys
  | _, _ => false
def lePs : List PyData → List PyData → Bool
  | [], _ => true
  | _ :: _, [] => false
  | x :: xs, y :: ys => if PyData.eqv x y then lePs xs ys else leP x y
end
mutual
def cmpP : PyData → PyData → Bool
  | .int _, .int _ => true
  | .str _, .str _ => true
  | .tuple xs, .tuple ys => cmpPs xs ys
  | _, _ => false
def cmpPs : List PyData → List PyData → Bool
  | x :: xs, y :: ys => (PyData.eqv x y || cmpP x y) && cmpPs xs ys
  | _, _ => true
end
theorem lexAt_drop {f : PyData → PyData → Bool} {g : List PyData → List PyData → Bool} {z : Bool} {xs ys : List PyData} (h0 : ∀ as bs, as = xs.drop (min xs.length ys.length) → bs = ys.drop (min xs.length ys.length) → g as bs = z)
    (h1 : ∀ x as y bs, g (x :: as) (y :: bs) = if PyData.eqv x y then g as bs else f x y) : ∀ (k i : Nat), i + k = min xs.length ys.length →
      Ob.lexAt (fun j => match xs[j]?, ys[j]? with | some x, some y => PyData.eqv x y | _, _ => false) (fun j => match xs[j]?, ys[j]? with | some x, some y => f x y | _, _ => false) z i k = g (xs.drop i) (ys.drop i)
  | 0, i, e => by
    rw [Ob.lexAt_zero, h0 _ _ (by rw [← e, Nat.add_zero]) (by rw [← e, Nat.add_zero])]
  | k + 1, i, e => by
    have hx : i < xs.length := by omega
    have hy : i < ys.length := by omega
    rw [Ob.lexAt_succ, List.drop_eq_getElem_cons hx, List.drop_eq_getElem_cons hy, h1, List.getElem?_eq_getElem hx, List.getElem?_eq_getElem hy]
    simp only
    rw [lexAt_drop h0 h1 k (i + 1) (by omega)]
theorem cmpPs_at : ∀ {xs ys : List PyData} {j : Nat} {x y : PyData}, cmpPs xs ys = true → xs[j]? = some x → ys[j]? = some y → PyData.eqv x y = false → cmpP x y = true
  | [], _, _, _, _, _, h, _, _ => by simp at h
  | _ :: _, [], _, _, _, _, _, h, _ => by simp at h
  | a :: as, b :: bs, 0, x, y, h, e1, e2, q => by
    simp only [cmpPs, Bool.and_eq_true, Bool.or_eq_true] at h
    simp at e1 e2
    subst e1 e2
    rcases h.1 with z | z
    · rw [q] at z; cases z
    · exact z
  | a :: as, b :: bs, j + 1, x, y, h, e1, e2, q => by
    simp only [cmpPs, Bool.and_eq_true] at h
    exact cmpPs_at h.2 (by simpa using e1) (by simpa using e2) q
theorem ReadsAll.at {h : Heap} : ∀ {vs : List Value} {ds : List PyData} {as : List Addr} {j : Nat} {d : PyData}, ReadsAll h vs ds as → ds[j]? = some d → ∃ v bs, vs[j]? = some v ∧ Reads h v d bs
  | _, _, _, _, _, .nil, e => by simp at e
  | _, _, _, 0, _, .cons r _, e => by simp at e; subst e; exact ⟨_, _, rfl, r⟩
  | _, _, _, j + 1, _, .cons _ r, e => by
    obtain ⟨v, bs, h1, h2⟩ := ReadsAll.at (j := j) r (by simpa using e)
    exact ⟨v, bs, by simpa using h1, h2⟩
theorem ReadsAll.len {h : Heap} : ∀ {vs : List Value} {ds : List PyData} {as : List Addr}, ReadsAll h vs ds as → vs.length = ds.length
  | _, _, _, .nil => rfl
  | _, _, _, .cons _ r => congrArg (· + 1) (ReadsAll.len r)
theorem canLay_at : ∀ {ds : List PyData} {j : Nat} {d : PyData}, PyData.canLayAll0 ds = true → ds[j]? = some d → d.canLay0 = true
  | [], _, _, _, e => by simp at e
  | x :: xs, 0, d, h, e => by
    simp only [PyData.canLayAll0, Bool.and_eq_true] at h
    simp at e; subst e; exact h.1
  | x :: xs, j + 1, d, h, e => by
    simp only [PyData.canLayAll0, Bool.and_eq_true] at h
    exact canLay_at h.2 (by simpa using e)
theorem depth_at : ∀ {ds : List PyData} {j : Nat} {d : PyData}, ds[j]? = some d → d.depth ≤ PyData.depthAll ds
  | [], _, _, e => by simp at e
  | x :: xs, 0, d, e => by
    simp at e; subst e
    simp only [PyData.depthAll]
    omega
  | x :: xs, j + 1, d, e => by
    have := depth_at (ds := xs) (j := j) (d := d) (by simpa using e)
    simp only [PyData.depthAll]
    omega
theorem rc_lt : ∀ (n : Nat) (da db : PyData) (A : Around) (s : Shared) (a b : Value) (as bs : List Addr), da.depth ≤ n → Reads s.heap a da as → Reads s.heap b db bs → da.canLay0 = true → db.canLay0 = true → cmpP da db = true →
    A.units + da.depth < cLine → Ob.RcOp .Lt A s a b (ltP da db)
  | n, .int i, db, A, s, a, b, as, bs, hn, ra, rb, ca, cb, hc, hu => by
    cases db with
    | int j =>
      cases ra; cases rb
      simp only [ltP]
      exact Ob.RcOp.lt_int _ _ _ _
    | _ => simp only [cmpP] at hc; cases hc
  | n, .str x, db, A, s, a, b, as, bs, hn, ra, rb, ca, cb, hc, hu => by
    cases db with
    | str y =>
      cases ra; cases rb
      simp only [ltP]
      exact fun _ _ _ _ h => PyProof.Rows.lt_str h
    | _ => simp only [cmpP] at hc; cases hc
  | 0, .tuple xs, db, A, s, a, b, as, bs, hn, ra, rb, ca, cb, hc, hu => by
    simp only [PyData.depth] at hn
    omega
  | n + 1, .tuple xs, db, A, s, a, b, as, bs, hn, ra, rb, ca, cb, hc, hu => by
    cases db with
    | tuple ys =>
      cases ra with
      | tuple h1 h2 h3 h4 =>
        cases rb with
        | tuple g1 g2 g3 g4 =>
          rename_i la o vs n1 lb ob ws n2
          simp only [cmpP] at hc
          simp only [PyData.canLay0] at ca cb
          simp only [PyData.depth] at hn hu
          have l1 : vs.size = xs.length := by have := ReadsAll.len h4; simpa using this
          have l2 : ws.size = ys.length := by have := ReadsAll.len g4; simpa using this
          have at1 : ∀ j (hj : j < vs.size), ∃ d bs, xs[j]? = some d ∧ Reads s.heap vs[j] d bs := fun j hj => by
            have hj' : j < xs.length := by omega
            obtain ⟨v, cs, e1, e2⟩ := ReadsAll.at h4 (List.getElem?_eq_getElem hj')
            have : v = vs[j] := by simpa [hj] using e1.symm
            exact ⟨_, cs, List.getElem?_eq_getElem hj', this ▸ e2⟩
          have at2 : ∀ j (hj : j < ws.size), ∃ d bs, ys[j]? = some d ∧ Reads s.heap ws[j] d bs := fun j hj => by
            have hj' : j < ys.length := by omega
            obtain ⟨v, cs, e1, e2⟩ := ReadsAll.at g4 (List.getElem?_eq_getElem hj')
            have : v = ws[j] := by simpa [hj] using e1.symm
            exact ⟨_, cs, List.getElem?_eq_getElem hj', this ▸ e2⟩
          have R := Ob.RcOp.tuples_lt (A := A) (s := s) (e := fun j => match xs[j]?, ys[j]? with | some x, some y => PyData.eqv x y | _, _ => false) (r := fun j => match xs[j]?, ys[j]? with | some x, some y => ltP x y | _, _ => false) ⟨o, h1, h2, n1, h3⟩ ⟨ob, g1, g2, n2, g3⟩ (by omega)
            (fun j hj1 hj2 => by
              obtain ⟨d1, b1, e1, r1⟩ := at1 j hj1
              obtain ⟨d2, b2, e2, r2⟩ := at2 j hj2
              simp only [e1, e2]
              refine SeqAt.eqAt_reads d1 d2 _ s _ _ b1 b2 r1 r2 (canLay_at ca e1) (canLay_at cb e2) ?_
              have := depth_at e1
              have hu2 : A.in1.units = A.units + 1 := rfl
              have : min d1.depth d2.depth ≤ d1.depth := Nat.min_le_left _ _
              omega)
            (fun j hj1 hj2 he => by
              obtain ⟨d1, b1, e1, r1⟩ := at1 j hj1
              obtain ⟨d2, b2, e2, r2⟩ := at2 j hj2
              simp only [e1, e2] at he ⊢
              have hd := depth_at e1
              have hu2 : A.in1.units = A.units + 1 := rfl
              exact rc_lt n d1 d2 _ s _ _ b1 b2 (by omega) r1 r2 (canLay_at ca e1) (canLay_at cb e2) (cmpPs_at hc e1 e2 he) (by omega))
          rw [l1, l2, lexAt_drop (g := ltPs) (fun as bs ea eb => ?_) (fun x as y bs => by simp only [ltPs]) (min xs.length ys.length) 0 (by omega)] at R
          · simpa only [ltP, List.drop_zero] using R
          · subst ea eb
            rcases Nat.lt_trichotomy xs.length ys.length with z | z | z
            · rw [Nat.min_eq_left (by omega), List.drop_length, List.drop_eq_getElem_cons z]
              simp only [ltPs, z, decide_true]
            · rw [z, Nat.min_self, ← z, List.drop_length, z, List.drop_length]
              simp [ltPs]
            · rw [Nat.min_eq_right (by omega), List.drop_length, List.drop_eq_getElem_cons z]
              simp only [ltPs]
              exact (decide_eq_false (by omega)).symm
    | _ => simp only [cmpP] at hc; cases hc
  | n, .none, db, A, s, a, b, as, bs, hn, ra, rb, ca, cb, hc, hu => by simp only [cmpP] at hc; cases hc
  | n, .bool _, db, A, s, a, b, as, bs, hn, ra, rb, ca, cb, hc, hu => by simp only [cmpP] at hc; cases hc
  | n, .list _, db, A, s, a, b, as, bs, hn, ra, rb, ca, cb, hc, hu => by simp only [cmpP] at hc; cases hc
  | n, .dict _, db, A, s, a, b, as, bs, hn, ra, rb, ca, cb, hc, hu => by simp only [cmpP] at hc; cases hc
theorem rc_le : ∀ (n : Nat) (da db : PyData) (A : Around) (s : Shared) (a b : Value) (as bs : List Addr), da.depth ≤ n → Reads s.heap a da as → Reads s.heap b db bs → da.canLay0 = true → db.canLay0 = true → cmpP da db = true →
    A.units + da.depth < cLine → Ob.RcOp .LtE A s a b (leP da db)
  | n, .int i, db, A, s, a, b, as, bs, hn, ra, rb, ca, cb, hc, hu => by
    cases db with
    | int j =>
      cases ra; cases rb
      simp only [leP]
      exact Ob.RcOp.le_int _ _ _ _
    | _ => simp only [cmpP] at hc; cases hc
  | n, .str x, db, A, s, a, b, as, bs, hn, ra, rb, ca, cb, hc, hu => by
    cases db with
    | str y =>
      cases ra; cases rb
      simp only [leP]
      exact fun _ _ _ _ h => PySem.P.le_str h
    | _ => simp only [cmpP] at hc; cases hc
  | 0, .tuple xs, db, A, s, a, b, as, bs, hn, ra, rb, ca, cb, hc, hu => by
    simp only [PyData.depth] at hn
    omega
  | n + 1, .tuple xs, db, A, s, a, b, as, bs, hn, ra, rb, ca, cb, hc, hu => by
    cases db with
    | tuple ys =>
      cases ra with
      | tuple h1 h2 h3 h4 =>
        cases rb with
        | tuple g1 g2 g3 g4 =>
          rename_i la o vs n1 lb ob ws n2
          simp only [cmpP] at hc
          simp only [PyData.canLay0] at ca cb
          simp only [PyData.depth] at hn hu
          have l1 : vs.size = xs.length := by have := ReadsAll.len h4; simpa using this
          have l2 : ws.size = ys.length := by have := ReadsAll.len g4; simpa using this
          have at1 : ∀ j (hj : j < vs.size), ∃ d bs, xs[j]? = some d ∧ Reads s.heap vs[j] d bs := fun j hj => by
            have hj' : j < xs.length := by omega
            obtain ⟨v, cs, e1, e2⟩ := ReadsAll.at h4 (List.getElem?_eq_getElem hj')
            have : v = vs[j] := by simpa [hj] using e1.symm
            exact ⟨_, cs, List.getElem?_eq_getElem hj', this ▸ e2⟩
          have at2 : ∀ j (hj : j < ws.size), ∃ d bs, ys[j]? = some d ∧ Reads s.heap ws[j] d bs := fun j hj => by
            have hj' : j < ys.length := by omega
            obtain ⟨v, cs, e1, e2⟩ := ReadsAll.at g4 (List.getElem?_eq_getElem hj')
            have : v = ws[j] := by simpa [hj] using e1.symm
            exact ⟨_, cs, List.getElem?_eq_getElem hj', this ▸ e2⟩
          have R := Ob.RcOp.tuples_le (A := A) (s := s) (e := fun j => match xs[j]?, ys[j]? with | some x, some y => PyData.eqv x y | _, _ => false) (r := fun j => match xs[j]?, ys[j]? with | some x, some y => leP x y | _, _ => false) ⟨o, h1, h2, n1, h3⟩ ⟨ob, g1, g2, n2, g3⟩ (by omega)
            (fun j hj1 hj2 => by
              obtain ⟨d1, b1, e1, r1⟩ := at1 j hj1
              obtain ⟨d2, b2, e2, r2⟩ := at2 j hj2
              simp only [e1, e2]
              refine SeqAt.eqAt_reads d1 d2 _ s _ _ b1 b2 r1 r2 (canLay_at ca e1) (canLay_at cb e2) ?_
              have := depth_at e1
              have hu2 : A.in1.units = A.units + 1 := rfl
              have : min d1.depth d2.depth ≤ d1.depth := Nat.min_le_left _ _
              omega)
            (fun j hj1 hj2 he => by
              obtain ⟨d1, b1, e1, r1⟩ := at1 j hj1
              obtain ⟨d2, b2, e2, r2⟩ := at2 j hj2
              simp only [e1, e2] at he ⊢
              have hd := depth_at e1
              have hu2 : A.in1.units = A.units + 1 := rfl
              exact rc_le n d1 d2 _ s _ _ b1 b2 (by omega) r1 r2 (canLay_at ca e1) (canLay_at cb e2) (cmpPs_at hc e1 e2 he) (by omega))
          rw [l1, l2, lexAt_drop (g := lePs) (fun as bs ea eb => ?_) (fun x as y bs => by simp only [lePs]) (min xs.length ys.length) 0 (by omega)] at R
          · simpa only [leP, List.drop_zero] using R
          · subst ea eb
            rcases Nat.lt_or_ge ys.length xs.length with z | z
            · rw [Nat.min_eq_right (by omega), List.drop_length, List.drop_eq_getElem_cons z]
              simp only [lePs]
              exact (decide_eq_false (by omega)).symm
            · rw [Nat.min_eq_left z, List.drop_length]
              simp only [lePs]
              exact (decide_eq_true z).symm
    | _ => simp only [cmpP] at hc; cases hc
  | n, .none, db, A, s, a, b, as, bs, hn, ra, rb, ca, cb, hc, hu => by simp only [cmpP] at hc; cases hc
  | n, .bool _, db, A, s, a, b, as, bs, hn, ra, rb, ca, cb, hc, hu => by simp only [cmpP] at hc; cases hc
  | n, .list _, db, A, s, a, b, as, bs, hn, ra, rb, ca, cb, hc, hu => by simp only [cmpP] at hc; cases hc
  | n, .dict _, db, A, s, a, b, as, bs, hn, ra, rb, ca, cb, hc, hu => by simp only [cmpP] at hc; cases hc

/-- x < y: ints, texts, tuples of data -/
def ordB (f : PyData → PyData → Bool) (g : Int → Int → Bool) (h : Str → Str → Bool) : D → D → Option Bool
  | .int i, .int j => some (g i j)
  | .str x, .str y => some (h x y)
  | .tup xs, .tup ys => if (D.tup xs).okD && (D.tup ys).okD && cmpP (D.tup xs).py (D.tup ys).py then some (f (D.tup xs).py (D.tup ys).py) else none
  | _, _ => none
def ltB : D → D → Option Bool := ordB ltP (fun i j => decide (i < j)) (fun x y => decide (x.cps.toList < y.cps.toList))
def leB : D → D → Option Bool := ordB leP (fun i j => decide (i ≤ j)) (fun x y => !decide (y.cps.toList < x.cps.toList))
def gtB : D → D → Option Bool
  | .int i, .int j => some (decide (j < i))
  | .str x, .str y => some (decide (y.cps.toList < x.cps.toList))
  | _, _ => none
def geB : D → D → Option Bool
  | .int i, .int j => some (decide (j ≤ i))
  | .str x, .str y => some (!decide (x.cps.toList < y.cps.toList))
  | _, _ => none
def neB (a b : D) : Option Bool := (eqB a b).map (!·)
def isNB : D → D → Option Bool
  | x, .non => some x.isNon
  | _, _ => none
def notNB : D → D → Option Bool
  | x, .non => some (!x.isNon)
  | _, _ => none
def ltD (a b : D) : Option D := (ltB a b).map .bl
def leD (a b : D) : Option D := (leB a b).map .bl
def gtD (a b : D) : Option D := (gtB a b).map .bl
def geD (a b : D) : Option D := (geB a b).map .bl
/-- the value's truth is the test's -/
abbrev Isb (f : D → D → Option D) (g : D → D → Option Bool) : Prop := ∀ a b, f a b = (g a b).map .bl
theorem ltD_is : Isb ltD ltB := fun _ _ => rfl
theorem leD_is : Isb leD leB := fun _ _ => rfl
theorem gtD_is : Isb gtD gtB := fun _ _ => rfl
theorem geD_is : Isb geD geB := fun _ _ => rfl
theorem eqD_is : Isb eqD eqB := fun _ _ => rfl
theorem neD_is : Isb neD neB := fun a b => by
  show (eqB a b).map (fun k => D.bl (!k)) = ((eqB a b).map (!·)).map .bl
  cases eqB a b <;> rfl
theorem isND_is : Isb isND isNB := fun a b => by cases b <;> rfl
theorem notND_is : Isb notND notNB := fun a b => by cases b <;> rfl
def rOrdP (K : PySem.W.Frag) (f : PyData → PyData → Bool) : R2 := fun x y H Q => ∃ d e, Dp K H x d ∧ Dp K H y e ∧ SeqAt.shaped d = true ∧ SeqAt.shaped e = true ∧ cmpP d e = true ∧ Q (.bl (f d e)) H
def rLtA (K : PySem.W.Frag) : R2 := fun x y H Q => rI0 (fun i j => .bl (decide (i < j))) x y H Q ∨ (∃ i j, x = .str i ∧ y = .str j ∧ Q (.bl (decide (i.cps.toList < j.cps.toList))) H) ∨ rOrdP K ltP x y H Q
def rLeA (K : PySem.W.Frag) : R2 := fun x y H Q => rI0 (fun i j => .bl (decide (i ≤ j))) x y H Q ∨ (∃ i j, x = .str i ∧ y = .str j ∧ Q (.bl (!decide (j.cps.toList < i.cps.toList))) H) ∨ rOrdP K leP x y H Q
def rGtA : R2 := fun x y H Q => rI0 (fun i j => .bl (decide (j < i))) x y H Q ∨ (∃ i j, x = .str i ∧ y = .str j ∧ Q (.bl (decide (j.cps.toList < i.cps.toList))) H)
def rGeA : R2 := fun x y H Q => rI0 (fun i j => .bl (decide (j ≤ i))) x y H Q ∨ (∃ i j, x = .str i ∧ y = .str j ∧ Q (.bl (!decide (i.cps.toList < j.cps.toList))) H)
section
variable {X : Cx}
theorem op_ltP (hu : X.A.units + 64 < cLine) : OpR X (compareOp .Lt) (rOrdP X.K ltP) := by
  intro pins s σ H x y v u Q I rx ry h
  obtain ⟨d, e, hd, he, sd, se, hc, q⟩ := h
  obtain ⟨as, r1⟩ := Dp.reads I d x v hd rx
  obtain ⟨bs, r2⟩ := Dp.reads I e y u he ry
  have := SeqAt.depth_of_shaped sd
  exact rc_lt _ d e X.A s v u as bs (Nat.le_refl _) r1 r2 (SeqAt.canLay_of_shaped sd) (SeqAt.canLay_of_shaped se) hc (by omega) X.prog X.w _ _ ⟨.bl _, H, I, rfl, q⟩
theorem op_leP (hu : X.A.units + 64 < cLine) : OpR X (compareOp .LtE) (rOrdP X.K leP) := by
  intro pins s σ H x y v u Q I rx ry h
  obtain ⟨d, e, hd, he, sd, se, hc, q⟩ := h
  obtain ⟨as, r1⟩ := Dp.reads I d x v hd rx
  obtain ⟨bs, r2⟩ := Dp.reads I e y u he ry
  have := SeqAt.depth_of_shaped sd
  exact rc_le _ d e X.A s v u as bs (Nat.le_refl _) r1 r2 (SeqAt.canLay_of_shaped sd) (SeqAt.canLay_of_shaped se) hc (by omega) X.prog X.w _ _ ⟨.bl _, H, I, rfl, q⟩
theorem op_ltA (hu : X.A.units + 64 < cLine) : OpR X (compareOp .Lt) (rLtA X.K) := OpR.or op_lt (OpR.or op_lt_str (op_ltP hu))
theorem op_leA (hu : X.A.units + 64 < cLine) : OpR X (compareOp .LtE) (rLeA X.K) := OpR.or op_le (OpR.or op_le_str (op_leP hu))
theorem op_gtA (hu : X.A.units + 64 < cLine) : OpR X (compareOp .Gt) rGtA := OpR.or op_gt op_gt_str
theorem op_geA (hu : X.A.units + 64 < cLine) : OpR X (compareOp .GtE) rGeA := OpR.or op_ge op_ge_str
end
section
variable {K : PySem.W.Frag}
theorem ord_tup {f : PyData → PyData → Bool} {x y : V} {xs ys : List D} {F H : Hp} {Q : VK} (s : Same F H) (hx : RepH K F H x (.tup xs)) (hy : RepH K F H y (.tup ys)) (hc : ((D.tup xs).okD && (D.tup ys).okD && cmpP (D.tup xs).py (D.tup ys).py) = true) (q : Q (.bl (f (D.tup xs).py (D.tup ys).py)) H) : rOrdP K f x y H Q := by
  rw [Bool.and_eq_true, Bool.and_eq_true] at hc
  obtain ⟨c1, c2⟩ := Bool.and_eq_true_iff.mp hc.1.1
  obtain ⟨c3, c4⟩ := Bool.and_eq_true_iff.mp hc.1.2
  exact ⟨_, _, hx.dp s c1, hy.dp s c3, c2, c4, hc.2, q⟩
theorem ltD_ok : R2ok K (rLtA K) ltD := by
  intro x y dx dy F H Q d s hx hy hd k
  unfold ltD ltB ordB at hd
  split at hd
  · cases hd
    exact .inl ⟨_, _, hx.int, hy.int, k _ F H (Ext.refl s) (.bl _)⟩
  · cases hd
    exact .inr (.inl ⟨_, _, hx.str, hy.str, k _ F H (Ext.refl s) (.bl _)⟩)
  · split at hd
    · cases hd
      exact .inr (.inr (ord_tup s hx hy (by assumption) (k _ F H (Ext.refl s) (.bl _))))
    · cases hd
  · cases hd
theorem leD_ok : R2ok K (rLeA K) leD := by
  intro x y dx dy F H Q d s hx hy hd k
  unfold leD leB ordB at hd
  split at hd
  · cases hd
    exact .inl ⟨_, _, hx.int, hy.int, k _ F H (Ext.refl s) (.bl _)⟩
  · cases hd
    exact .inr (.inl ⟨_, _, hx.str, hy.str, k _ F H (Ext.refl s) (.bl _)⟩)
  · split at hd
    · cases hd
      exact .inr (.inr (ord_tup s hx hy (by assumption) (k _ F H (Ext.refl s) (.bl _))))
    · cases hd
  · cases hd
theorem gtD_ok : R2ok K rGtA gtD := by
  intro x y dx dy F H Q d s hx hy hd k
  unfold gtD gtB at hd
  split at hd
  · cases hd
    exact .inl ⟨_, _, hx.int, hy.int, k _ F H (Ext.refl s) (.bl _)⟩
  · cases hd
    exact .inr ⟨_, _, hx.str, hy.str, k _ F H (Ext.refl s) (.bl _)⟩
  · cases hd
theorem geD_ok : R2ok K rGeA geD := by
  intro x y dx dy F H Q d s hx hy hd k
  unfold geD geB at hd
  split at hd
  · cases hd
    exact .inl ⟨_, _, hx.int, hy.int, k _ F H (Ext.refl s) (.bl _)⟩
  · cases hd
    exact .inr ⟨_, _, hx.str, hy.str, k _ F H (Ext.refl s) (.bl _)⟩
  · cases hd
end

/-! ### in -/
def flatD : D → Bool
  | .non => true
  | .bl _ => true
  | .int _ => true
  | .str _ => true
  | _ => false
def eqF : D → D → Bool
  | .non, .non => true
  | .bl a, .bl b => a == b
  | .bl a, .int b => (if a then 1 else 0) == b
  | .int a, .bl b => a == (if b then 1 else 0)
  | .int a, .int b => a == b
  | .str a, .str b => a == b
  | _, _ => false
/-- x in c: flat data in a list or a tuple; any data in a list; a text in a text -/
def inB (x : D) : D → Option Bool
  | .lst ds => if flatD x && ds.all flatD then some (ds.any fun y => eqF y x) else if x.okD && (D.lst ds).okD then some ((pys ds).any fun z => PyData.eqv z x.py) else none
  | .tup ds => if flatD x && ds.all flatD then some (ds.any fun y => eqF y x) else if x.okD && (D.tup ds).okD then some ((pys ds).any fun z => PyData.eqv z x.py) else none
  | .str z => match x with
    | .str w => some (!(Builtin.Str.occurrences z w 0 z.length 1).isEmpty)
    | _ => none
  | _ => none
def inD (x c : D) : Option D := (inB x c).map .bl
def notInB (x c : D) : Option Bool := (inB x c).map (!·)
def notInD (x c : D) : Option D := (inB x c).map fun k => .bl (!k)
theorem inD_is : Isb inD inB := fun _ _ => rfl
theorem notInD_is : Isb notInD notInB := fun a b => by
  show (inB a b).map (fun k => D.bl (!k)) = ((inB a b).map (!·)).map .bl
  cases inB a b <;> rfl
section
variable {K : PySem.W.Frag} {F H : Hp}
theorem flat_rep {v : V} {d : D} (r : Rep K F v d) (h : flatD d = true) : flatV v = true := by
  cases r <;> first | rfl | cases h
theorem eqF_rep {v w : V} {d e : D} (r : Rep K F v d) (q : Rep K F w e) (h : flatD d = true) (h' : flatD e = true) : eqV v w = eqF d e := by
  cases r <;> first | (cases q <;> first | rfl | cases h') | cases h
theorem any_rep {w : V} {e : D} (q : Rep K F w e) (h' : flatD e = true) : ∀ {vs : List V} {ds : List D}, Reps K F vs ds → ds.all flatD = true → vs.all flatV = true ∧ (vs.any fun y => eqV y w) = ds.any fun y => eqF y e
  | _, _, .nil, _ => ⟨rfl, rfl⟩
  | _, _, .cons r rs, h => by
    simp only [List.all_cons, Bool.and_eq_true] at h
    obtain ⟨h1, h2⟩ := any_rep q h' rs h.2
    simp only [List.all_cons, List.any_cons, Bool.and_eq_true]
    exact ⟨⟨flat_rep r h.1, h1⟩, by rw [eqF_rep r q h.1 h', h2]⟩
theorem RepH.flat {v : V} {d : D} (r : RepH K F H v d) (h : flatD d = true) : Rep K F v d := by
  rcases r with r | ⟨a, rfl, r⟩
  · exact r
  · cases r <;> cases h
end
def rInT (K : PySem.W.Frag) : R2 := fun x y H Q => ∃ d ds, Dp K H x d ∧ Dp K H y (.tuple ds) ∧ SeqAt.shaped d = true ∧ SeqAt.shaped (.tuple ds) = true ∧ Q (.bl (ds.any fun z => PyData.eqv z d)) H
def rNotInT (K : PySem.W.Frag) : R2 := fun x y H Q => ∃ d ds, Dp K H x d ∧ Dp K H y (.tuple ds) ∧ SeqAt.shaped d = true ∧ SeqAt.shaped (.tuple ds) = true ∧ Q (.bl (!ds.any fun z => PyData.eqv z d)) H
theorem op_inT {X : Cx} (hu : X.A.units + 65 < cLine) : OpR X (compareOp .In) (rInT X.K) := by
  intro pins s σ H x y v u Q I rx ry ⟨d, ds, g1, g2, k1, k2, q⟩
  obtain ⟨as, r1⟩ := Dp.reads I d x v g1 rx
  obtain ⟨bs, r2⟩ := Dp.reads I (.tuple ds) y u g2 ry
  exact SeqAt.in_tuple_reads r2 r1 (SeqAt.canLay_of_shaped k2) (SeqAt.canLay_of_shaped k1) (room_in_shaped k1 hu) ⟨.bl _, H, I, rfl, q⟩
theorem op_notInT {X : Cx} (hu : X.A.units + 65 < cLine) : OpR X (compareOp .NotIn) (rNotInT X.K) := by
  intro pins s σ H x y v u Q I rx ry ⟨d, ds, g1, g2, k1, k2, q⟩
  obtain ⟨as, r1⟩ := Dp.reads I d x v g1 rx
  obtain ⟨bs, r2⟩ := Dp.reads I (.tuple ds) y u g2 ry
  exact SeqAt.notIn_tuple_reads r2 r1 (SeqAt.canLay_of_shaped k2) (SeqAt.canLay_of_shaped k1) (room_in_shaped k1 hu) ⟨.bl _, H, I, rfl, q⟩
def rInA (K : PySem.W.Frag) : R2 := fun x y H Q => rIn K false x y H Q ∨ (rInD K x y H Q ∨ rInT K x y H Q) ∨ (∃ i j, x = .str i ∧ y = .str j ∧ Q (.bl (!(Builtin.Str.occurrences j i 0 j.length 1).isEmpty)) H)
def rNotInA (K : PySem.W.Frag) : R2 := fun x y H Q => rIn K true x y H Q ∨ (rNotInD K x y H Q ∨ rNotInT K x y H Q) ∨ (∃ i j, x = .str i ∧ y = .str j ∧ Q (.bl (!(!(Builtin.Str.occurrences j i 0 j.length 1).isEmpty))) H)
theorem room65 {A : Around} {k : Nat} (h : Room k A) : A.units + 65 < cLine := by
  have := h.un
  omega
theorem op_inA {X : Cx} {k : Nat} (hr : Room k X.A) : OpR X (compareOp .In) (rInA X.K) := OpR.or op_in_seq (OpR.or (OpR.or (op_inD (room65 hr)) (op_inT (room65 hr))) op_in_str)
theorem op_notInA {X : Cx} {k : Nat} (hr : Room k X.A) : OpR X (compareOp .NotIn) (rNotInA X.K) := OpR.or op_notIn_seq (OpR.or (OpR.or (op_notInD (room65 hr)) (op_notInT (room65 hr))) op_notin_str)
theorem inD_ok {K : PySem.W.Frag} : R2ok K (rInA K) inD := by
  intro x y dx dy F H Q d s hx hy hd k
  unfold inD inB at hd
  split at hd
  · obtain ⟨a, xs, rfl, ha, la, ra⟩ := hy.lst s
    split at hd
    · rename_i hc
      cases hd
      rw [Bool.and_eq_true] at hc
      have rx := hx.flat hc.1
      obtain ⟨h1, h2⟩ := any_rep rx hc.1 ra hc.2
      refine .inl ⟨a, xs, rfl, .inl (SqL.of ha), flat_rep rx hc.1, h1, ?_⟩
      show Q (.bl (xs.any fun y => eqV y x)) H
      rw [h2]
      exact k _ F H (Ext.refl s) (.bl _)
    · split at hd
      · rename_i ds _ hc
        cases hd
        rw [Bool.and_eq_true] at hc
        obtain ⟨c1, c2⟩ := Bool.and_eq_true_iff.mp hc.1
        obtain ⟨c3, c4⟩ := Bool.and_eq_true_iff.mp hc.2
        have hd2 := hy.dp s c3
        simp only [D.py] at hd2 c4
        exact .inr (.inl (.inl ⟨_, _, hx.dp s c1, hd2, c2, c4, k _ F H (Ext.refl s) (.bl _)⟩))
      · cases hd
  · obtain ⟨a, xs, rfl, ha, la, ra, wa⟩ := hy.tup s
    split at hd
    · rename_i hc
      cases hd
      rw [Bool.and_eq_true] at hc
      have rx := hx.flat hc.1
      obtain ⟨h1, h2⟩ := any_rep rx hc.1 ra hc.2
      refine .inl ⟨a, xs, rfl, .inr ha, flat_rep rx hc.1, h1, ?_⟩
      show Q (.bl (xs.any fun y => eqV y x)) H
      rw [h2]
      exact k _ F H (Ext.refl s) (.bl _)
    · split at hd
      · rename_i ds _ hc
        cases hd
        rw [Bool.and_eq_true] at hc
        obtain ⟨c1, c2⟩ := Bool.and_eq_true_iff.mp hc.1
        obtain ⟨c3, c4⟩ := Bool.and_eq_true_iff.mp hc.2
        have hd2 := hy.dp s c3
        simp only [D.py] at hd2 c4
        exact .inr (.inl (.inr ⟨_, _, hx.dp s c1, hd2, c2, c4, k _ F H (Ext.refl s) (.bl _)⟩))
      · cases hd
  · split at hd
    · cases hd
      exact .inr (.inr ⟨_, _, hx.str, hy.str, k _ F H (Ext.refl s) (.bl _)⟩)
    · cases hd
  · cases hd
theorem notInD_ok {K : PySem.W.Frag} : R2ok K (rNotInA K) notInD := by
  intro x y dx dy F H Q d s hx hy hd k
  unfold notInD inB at hd
  split at hd
  · obtain ⟨a, xs, rfl, ha, la, ra⟩ := hy.lst s
    split at hd
    · rename_i hc
      cases hd
      rw [Bool.and_eq_true] at hc
      have rx := hx.flat hc.1
      obtain ⟨h1, h2⟩ := any_rep rx hc.1 ra hc.2
      refine .inl ⟨a, xs, rfl, .inl (SqL.of ha), flat_rep rx hc.1, h1, ?_⟩
      show Q (.bl (!xs.any fun y => eqV y x)) H
      rw [h2]
      exact k _ F H (Ext.refl s) (.bl _)
    · split at hd
      · rename_i ds _ hc
        cases hd
        rw [Bool.and_eq_true] at hc
        obtain ⟨c1, c2⟩ := Bool.and_eq_true_iff.mp hc.1
        obtain ⟨c3, c4⟩ := Bool.and_eq_true_iff.mp hc.2
        have hd2 := hy.dp s c3
        simp only [D.py] at hd2 c4
        exact .inr (.inl (.inl ⟨_, _, hx.dp s c1, hd2, c2, c4, k _ F H (Ext.refl s) (.bl _)⟩))
      · cases hd
  · obtain ⟨a, xs, rfl, ha, la, ra, wa⟩ := hy.tup s
    split at hd
    · rename_i hc
      cases hd
      rw [Bool.and_eq_true] at hc
      have rx := hx.flat hc.1
      obtain ⟨h1, h2⟩ := any_rep rx hc.1 ra hc.2
      refine .inl ⟨a, xs, rfl, .inr ha, flat_rep rx hc.1, h1, ?_⟩
      show Q (.bl (!xs.any fun y => eqV y x)) H
      rw [h2]
      exact k _ F H (Ext.refl s) (.bl _)
    · split at hd
      · rename_i ds _ hc
        cases hd
        rw [Bool.and_eq_true] at hc
        obtain ⟨c1, c2⟩ := Bool.and_eq_true_iff.mp hc.1
        obtain ⟨c3, c4⟩ := Bool.and_eq_true_iff.mp hc.2
        have hd2 := hy.dp s c3
        simp only [D.py] at hd2 c4
        exact .inr (.inl (.inr ⟨_, _, hx.dp s c1, hd2, c2, c4, k _ F H (Ext.refl s) (.bl _)⟩))
      · cases hd
  · split at hd
    · cases hd
      exact .inr (.inr ⟨_, _, hx.str, hy.str, k _ F H (Ext.refl s) (.bl _)⟩)
    · cases hd
  · cases hd
end VL
set_option Elab.async false
set_option linter.all false
set_option maxRecDepth 100000
set_option autoImplicit false
namespace VL
open PySem PySem.Spec L2
open PyProof.Rows hiding St

/-! ### zip and enumerate over lists and tuples, in any mix -/
inductive Kd where
  | l | t
def KIter (h : Heap) (it a : Addr) (i : Nat) : Kd → Prop
  | .l => h.IsListIter it a i
  | .t => h.IsTupleIter it a i
def KIs (h : Heap) (a : Addr) (items : Array Value) : Kd → Prop
  | .l => h.IsList a items
  | .t => h.IsTuple a items
def KSq (K : PySem.W.Frag) (H : Hp) (a : Addr) (xs : List V) : Kd → Prop
  | .l => SqL K H a xs
  | .t => SqT K H a xs
def kObj (a : Addr) : Kd → Obj
  | .l => { cls := .type "list_iterator", data := .fields #[.ref a, .int 0 0] }
  | .t => { cls := .type "tuple_iterator", data := .fields #[.ref a, .int 0 0] }
theorem KIter.keep {h h' : Heap} {it a : Addr} {i : Nat} {k : Kd} (x : KIter h it a i k) (q : ∀ o, h.get? it = some o → h'.get? it = some o) : KIter h' it a i k := by
  cases k with
  | l => exact Heap.IsListIter.at x q
  | t => exact Heap.IsTupleIter.at x q
theorem KIter.there {h : Heap} {it a : Addr} {i : Nat} {k : Kd} (x : KIter h it a i k) : ∃ o, h.get? it = some o ∧ ∀ v, o.data ≠ .cell v := by
  cases k with
  | l =>
    obtain ⟨o, e, _, d⟩ := x
    exact ⟨o, e, fun v z => by rw [d] at z; cases z⟩
  | t =>
    obtain ⟨o, e, _, d⟩ := x
    exact ⟨o, e, fun v z => by rw [d] at z; cases z⟩
theorem KIter.of_new {h : Heap} {it a : Addr} {k : Kd} (e : h.get? it = some (kObj a k)) : KIter h it a 0 k := by
  cases k with
  | l => exact ⟨_, e, rfl, rfl⟩
  | t => exact ⟨_, e, rfl, rfl⟩
theorem kDraws {prog : Program} {w : World} {A : Around} (hh : A.handled = none) (it a : Addr) (hne : a ≠ it) (items : Array Value) : ∀ k : Kd, Draws prog w A it [it, a] items.size (fun i v => items[i]? = some v) (fun i h => KIter h it a i k ∧ KIs h a items k)
  | .l => Draws.list hh it a hne items
  | .t => Draws.tuple hh it a hne items
theorem kBegins (a : Addr) (items : Array Value) : ∀ k : Kd, Begins (.ref a) (kObj a k) fun h => KIs h a items k
  | .l => begins_list a items
  | .t => begins_tuple a items
section
variable {X : Cx} {pins : List (Addr × Obj)} {σ : St} {H : Hp} {s : Shared} {a : Addr} {xs ys : List V}
theorem inv_sq {k : Kd} (I : Inv X pins σ H s) (h : KSq X.K H a xs k) : ∃ its : List Value, Vals xs its ∧ KIs s.heap a its.toArray k ∧ a < s.heap.objs.size := by
  cases k with
  | l =>
    obtain ⟨its, r, p, _⟩ := I.list h
    exact ⟨its, r, p.isList, p.lt⟩
  | t =>
    obtain ⟨its, r, p, _⟩ := I.tuple h
    obtain ⟨o, e, _⟩ := id p
    exact ⟨its, r, p, Heap.lt_size e⟩
theorem inv_sq_inj {k : Kd} (I : Inv X pins σ H s) (h : KSq X.K H a xs k) (h' : KSq X.K H a ys k) : xs = ys := by
  cases k with
  | l => exact I.list_inj h h'
  | t => exact I.tuple_inj h h'
end
theorem KSq.same {K : PySem.W.Frag} {H H' : Hp} {a : Addr} {xs : List V} {k : Kd} (e : Same H H') (h : KSq K H a xs k) : KSq K H' a xs k := by
  cases k with
  | l => exact SqL.same e h
  | t => exact SqT.same e h
def Itz2 (K : PySem.W.Frag) (k1 k2 : Kd) (a b : Addr) : It :=
  ⟨fun i H => ∃ (xs ys : List V) (x y : V), KSq K H a xs k1 ∧ KSq K H b ys k2 ∧ xs[i]? = some x ∧ ys[i]? = some y,
    fun i H v H' => ∃ T x y, v = .ref T ∧ H T = none ∧ H' = upd H T (.tup [x, y]) ∧ (∀ xs, KSq K H a xs k1 → xs[i]? = some x) ∧ ∀ ys, KSq K H b ys k2 → ys[i]? = some y,
    fun i H => ∃ xs ys : List V, KSq K H a xs k1 ∧ KSq K H b ys k2 ∧ i = min xs.length ys.length⟩
def zTn (k1 k2 : Kd) (z TI TO i1 i2 a b : Addr) (i : Nat) (h : Heap) : Prop := IsZip h z TI TO .none ∧ IsTupOf2 h TI (.ref i1) (.ref i2) ∧ (∃ a1 a2, IsTupOf2 h TO a1 a2) ∧ KIter h i1 a i k1 ∧ KIter h i2 b i k2
theorem turn_zip2 {P : Program} {w : World} {K : PySem.W.Frag} {elts : List Expr} {kk : Nat} {tpos : Pos} {k1 k2 : Kd} {a b : Addr} {N : Nat} (ha : a < N) (hb : b < N) :
    Turn P w K (.Tuple elts kk tpos) (Itz2 K k1 k2 a b) [N + 4, N + 2, N + 3, N, N + 1] (N + 4) (zTn k1 k2 (N + 4) (N + 2) (N + 3) N (N + 1) a b) where
  mem := by simp
  obj := fun i h st c hc => by
    obtain ⟨hz, hTI, ⟨x, y, hTO⟩, h1, h2⟩ := st
    simp only [List.mem_cons, List.not_mem_nil, or_false] at hc
    rcases hc with q | q | q | q | q
    · subst q; exact ⟨_, hz, fun v z => nomatch z⟩
    · subst q; exact ⟨_, hTI, fun v z => nomatch z⟩
    · subst q; exact ⟨_, hTO, fun v z => nomatch z⟩
    · exact q ▸ h1.there
    · exact q ▸ h2.there
  keep := fun i h h' st k => by
    obtain ⟨hz, hTI, ⟨x, y, hTO⟩, h1, h2⟩ := st
    exact ⟨k _ (by simp) _ hz, k _ (by simp) _ hTI, ⟨x, y, k _ (by simp) _ hTO⟩, h1.keep fun o q => k _ (by simp) o q, h2.keep fun o q => k _ (by simp) o q⟩
  item := by
    intro X hP hw hK hc i pins s σ H E I hf st hg
    subst hP hw hK
    obtain ⟨hz, hTI, hTO, h1, h2⟩ := st
    obtain ⟨xs, ys, x, y, hqx, hqy, hx, hy⟩ := hg
    obtain ⟨its, rv, p1, _⟩ := inv_sq I hqx
    obtain ⟨its2, rv2, p2, _⟩ := inv_sq I hqy
    obtain ⟨u, hu, ru⟩ := rv.get hx
    obtain ⟨u2, hu2, ru2⟩ := rv2.get hy
    have hne1 : a ≠ N := Nat.ne_of_lt ha
    have hne2 : b ≠ N + 1 := Nat.ne_of_lt (Nat.lt_succ_of_lt hb)
    have GN := GoesN.zip2 (prog := X.prog) (w := X.w) (A := X.A) (elts := elts) (x1 := kk) (pos := tpos) (zip_sep2 (N := N) (fp1 := [a]) (fp2 := [b]) (by simpa using ha) (by simpa using hb))
      (kDraws (prog := X.prog) (w := X.w) (A := X.A.in1) (I.ok.hd hc) N a hne1 its.toArray k1) (kDraws (prog := X.prog) (w := X.w) (A := X.A.in1) (I.ok.hd hc) (N + 1) b hne2 its2.toArray k2)
    have il1 : i < its.length := by
      rcases Nat.lt_or_ge i its.length with z | z
      · exact z
      · rw [List.getElem?_eq_none z] at hu; cases hu
    have il2 : i < its2.length := by
      rcases Nat.lt_or_ge i its2.length with z | z
      · exact z
      · rw [List.getElem?_eq_none z] at hu2; cases hu2
    refine GN.goes i s (fun v s2 => ∃ x H', Inv X pins σ H' s2 ∧ RelV x v ∧ (Itz2 X.K k1 k2 a b).yld i H x H' ∧ zTn k1 k2 (N + 4) (N + 2) (N + 3) N (N + 1) a b (i + 1) s2.heap ∧ ∀ b ∈ [N + 4, N + 2, N + 3, N, N + 1], H' b = none) E (by simp only [List.size_toArray]; omega) ⟨hz, hTI, hTO, ⟨h1, p1⟩, ⟨h2, p2⟩⟩ fun v h' tk hY st' hk htk => ?_
    obtain ⟨T, w1, w2, rfl, hT, e1, e2, hTt⟩ := hY
    have ew1 : w1 = u := by
      have : its[i]? = some w1 := by simpa using e1
      rw [hu] at this
      exact (Option.some.inj this).symm
    have ew2 : w2 = u2 := by
      have : its2[i]? = some w2 := by simpa using e2
      rw [hu2] at this
      exact (Option.some.inj this).symm
    subst ew1 ew2
    obtain ⟨hz', hTI', hTO', ⟨h1', _⟩, ⟨h2', _⟩⟩ := st'
    have new : ObjOk X.prog X.w (upd H T (.tup [x, y])) h' T (.tup [x, y]) := ⟨by show 2 ≤ sizeLine; decide, [w1, w2], .cons ru (.cons ru2 .nil), hTt⟩
    have I1 : Inv X pins σ (upd H T (.tup [x, y])) { s with heap := h', toks := tk } :=
      I.turnedNew (ch := [N + 4, N + 2, N + 3, N, N + 1]) (fun c o hb q => hk c o (fun z => hb (by
        simp only [List.mem_cons, List.not_mem_nil, or_false] at z ⊢
        rcases z with z | z | z | z
        · exact .inl z
        · exact .inr (.inr (.inl z))
        · exact .inr (.inr (.inr (.inl z)))
        · exact .inr (.inr (.inr (.inr z))))) q) hf hT new
    refine ⟨.ref T, _, I1, rfl, ⟨T, x, y, rfl, I.hok.fresh hT, rfl, fun l hl => by rw [inv_sq_inj I hl hqx]; exact hx, fun l hl => by rw [inv_sq_inj I hl hqy]; exact hy⟩, ⟨hz', hTI', hTO', h1', h2'⟩, fun c hcm => ?_⟩
    have hc1 := (hf c hcm).1
    by_cases e : c = T
    · subst e
      exfalso
      have : ∃ o, s.heap.get? c = some o := by
        simp only [List.mem_cons, List.not_mem_nil, or_false] at hcm
        rcases hcm with q | q | q | q | q
        · exact ⟨_, q ▸ hz⟩
        · exact ⟨_, q ▸ hTI⟩
        · obtain ⟨_, _, hTO⟩ := hTO; exact ⟨_, q ▸ hTO⟩
        · obtain ⟨o, z, _⟩ := h1.there; exact ⟨o, q ▸ z⟩
        · obtain ⟨o, z, _⟩ := h2.there; exact ⟨o, q ▸ z⟩
      obtain ⟨o, z⟩ := this
      exact absurd (Heap.lt_size z) (Nat.not_lt.mpr hT)
    · rw [upd_ne e]
      exact hc1
  done := by
    intro X hP hw hK hc i pins s σ H E I hf st hg
    subst hP hw hK
    obtain ⟨hz, hTI, hTO, h1, h2⟩ := st
    obtain ⟨xs, ys, hqx, hqy, hend⟩ := hg
    obtain ⟨its, rv, p1, _⟩ := inv_sq I hqx
    obtain ⟨its2, rv2, p2, _⟩ := inv_sq I hqy
    have hne1 : a ≠ N := Nat.ne_of_lt ha
    have hne2 : b ≠ N + 1 := Nat.ne_of_lt (Nat.lt_succ_of_lt hb)
    have GN := GoesN.zip2 (prog := X.prog) (w := X.w) (A := X.A) (elts := elts) (x1 := kk) (pos := tpos) (zip_sep2 (N := N) (fp1 := [a]) (fp2 := [b]) (by simpa using ha) (by simpa using hb))
      (kDraws (prog := X.prog) (w := X.w) (A := X.A.in1) (I.ok.hd hc) N a hne1 its.toArray k1) (kDraws (prog := X.prog) (w := X.w) (A := X.A.in1) (I.ok.hd hc) (N + 1) b hne2 its2.toArray k2)
    have ei : i = min its.toArray.size its2.toArray.size := by
      rw [List.size_toArray, List.size_toArray, ← rv.length, ← rv2.length]
      exact hend
    refine GN.stops s _ E (by rw [← ei]; exact ⟨hz, hTI, hTO, ⟨h1, p1⟩, ⟨h2, p2⟩⟩) fun h' tk hk htk => ?_
    exact I.turnedL (ch := [N + 4, N + 2, N + 3, N, N + 1]) (fun c o hb q => hk c o (fun z => hb (by
        simp only [List.mem_cons, List.not_mem_nil, or_false] at z ⊢
        rcases z with z | z | z | z
        · exact .inl z
        · exact .inr (.inr (.inl z))
        · exact .inr (.inr (.inr (.inl z)))
        · exact .inr (.inr (.inr (.inr z))))) q) hf
  self := fun A i s Q E st h => wpAny_pyIter_zip st.1 h
def iZip2 (K : PySem.W.Frag) (ta : TA) : TI := fun σ H R => ta σ H fun vs H1 => ∃ k1 k2 a b xs ys, vs = [.ref a, .ref b] ∧ KSq K H1 a xs k1 ∧ KSq K H1 b ys k2 ∧ R (Itz2 K k1 k2 a b) H1
theorem pi_zip2 {X : Cx} {e e2 : Expr} {ta : TA} {p pos tpos : Pos} {elts : List Expr} {kk : Nat} (hg : Gl X "zip") (hm : X.mg "zip" = none) (ha : PA X [e, e2] ta)
    (hs : starEach [e, e2] X.env = (false, eval e X.env) :: starEach [e2] X.env := by rfl) (hpl : (backTo pos (starEach [e2] X.env)).any (·.1) = false := by rfl) :
    PI X (.Tuple elts kk tpos) (.Call (.Name "zip" p) [e, e2] [] pos) (iZip2 X.K ta) := by
  refine ⟨fun pins s σ H R I h => Call_ (ld_blt I hg hm PyProof.Rows.boot_zip (PyProof.Rows.callWith_type1 (thn (ha.run pos pins s σ H _ I h) fun us s1 ⟨vs, H1, I1, r1, q1⟩ => ?_) hs hpl))⟩
  obtain ⟨k1, k2, a, b, xs, ys, rfl, hqx, hqy, q⟩ := q1
  obtain ⟨u1, u2, rfl, r, r'⟩ := vals2 r1
  cases r
  cases r'
  obtain ⟨its, rv, p1, la⟩ := inv_sq I1 hqx
  obtain ⟨its2, rv2, p2, lb⟩ := inv_sq I1 hqy
  refine zip_begins2 (kBegins a its.toArray k1) (kBegins b its2.toArray k2) p1 p2 fun h' hz hTI hTO g1 g2 hsz hk => wpAny_pyIter_zip hz ?_
  have I2 : Inv X pins σ H1 { s1 with heap := h' } := I1.kept (t' := s1.toks) hk
  refine ⟨_, _, _, Itz2 X.K k1 k2 a b, H1, rfl, I2, turn_zip2 (N := s1.heap.objs.size) la lb, ⟨hz, hTI, ⟨_, _, hTO⟩, KIter.of_new g1, KIter.of_new g2⟩, fun c hcm => ?_, q⟩
  have hle : s1.heap.objs.size ≤ c := by
    simp only [List.mem_cons, List.not_mem_nil, or_false] at hcm
    rcases hcm with z | z | z | z | z <;> rw [z] <;> first | exact Nat.le_refl _ | exact Nat.le_add_right _ _
  exact I1.fpOk hle (I1.hok.fresh hle)
/-- the items of zip(x, y) -/
def zipL : List D → List D → List D
  | x :: xs, y :: ys => .tup [x, y] :: zipL xs ys
  | _, _ => []
def seqD : D → Option (List D)
  | .lst ds => some ds
  | .tup ds => some ds
  | _ => none
def zipD (x y : D) : Option (List D) := match seqD x, seqD y with
  | some xs, some ys => some (zipL xs ys)
  | _, _ => none
theorem zipL_len : ∀ (xs ys : List D), (zipL xs ys).length = min xs.length ys.length
  | [], _ => by simp [zipL]
  | _ :: _, [] => by simp [zipL]
  | x :: xs, y :: ys => by simp only [zipL, List.length_cons, zipL_len xs ys]; omega
theorem zipL_at : ∀ {xs ys : List D} {i : Nat} {d : D}, (zipL xs ys)[i]? = some d → ∃ x y, xs[i]? = some x ∧ ys[i]? = some y ∧ d = .tup [x, y]
  | [], _, _, _, h => by simp [zipL] at h
  | _ :: _, [], _, _, h => by simp [zipL] at h
  | x :: xs, y :: ys, 0, d, h => by simp [zipL] at h; exact ⟨x, y, rfl, rfl, h.symm⟩
  | x :: xs, y :: ys, i + 1, d, h => zipL_at (xs := xs) (ys := ys) (by simpa [zipL] using h)
theorem rep_seq {K : PySem.W.Frag} {F : Hp} {v : V} {d : D} {ds : List D} (r : Rep K F v d) (h : seqD d = some ds) : ∃ k a xs, v = .ref a ∧ KSq K F a xs k ∧ xs.length ≤ sizeLine ∧ Reps K F xs ds := by
  cases r with
  | lst h1 l1 r1 => cases h; exact ⟨.l, _, _, rfl, SqL.of h1, l1, r1⟩
  | tup h1 l1 r1 => cases h; exact ⟨.t, _, _, rfl, h1.sq, l1, r1⟩
  | _ => cases h
theorem walks_zip {K : PySem.W.Frag} {F : Hp} {a b : Addr} {xs ys : List V} {ds es : List D} {k1 k2 : Kd} (h1 : KSq K F a xs k1) (h2 : KSq K F b ys k2) (l1 : xs.length ≤ sizeLine) (r1 : Reps K F xs ds) (r2 : Reps K F ys es) : Walks K (Itz2 K k1 k2 a b) F (zipL ds es) := by
  refine ⟨by rw [zipL_len, ← r1.length]; omega, fun F1 H1 e1 e2 => ⟨fun i d q => ?_, ?_⟩⟩
  · obtain ⟨dx, dy, hx, hy, rfl⟩ := zipL_at q
    obtain ⟨v, hv, rv⟩ := r1.get hx
    obtain ⟨u, hu, ru⟩ := r2.get hy
    refine ⟨⟨xs, ys, v, u, (h1.same e1).same e2, (h2.same e1).same e2, hv, hu⟩, fun x H' y => ?_⟩
    obtain ⟨T, x1, x2, rfl, nT, rfl, f1, f2⟩ := y
    have ex1 := f1 xs ((h1.same e1).same e2)
    have ex2 := f2 ys ((h2.same e1).same e2)
    rw [hv] at ex1
    rw [hu] at ex2
    cases ex1
    cases ex2
    exact ⟨_, Ext.fresh e2 _ nT, new_tup e2 nT (by show 2 ≤ sizeLine; decide) (.cons (rv.mono e1) (.cons (ru.mono e1) .nil))⟩
  · refine ⟨xs, ys, (h1.same e1).same e2, (h2.same e1).same e2, ?_⟩
    rw [zipL_len, r1.length, r2.length]
theorem it_zip {X : Cx} {G : Gd} {W : WX} {ρ : Rho} {elts : List Expr} {kk : Nat} {tpos p pos : Pos} {a b : Expr} {ma mb : Rs D} (hg : Gl X "zip") (hm : X.mg "zip" = none) (ha : EV X G W ρ a ma) (hb : EV X G W ρ b mb)
    (hs : starEach [a, b] X.env = (false, eval a X.env) :: starEach [b] X.env := by rfl) (hs2 : starEach [b] X.env = (false, eval b X.env) :: starEach [] X.env := by rfl) (hpl : (backTo pos (starEach [b] X.env)).any (·.1) = false := by rfl) :
    IT X G W ρ (.Tuple elts kk tpos) (.Call (.Name "zip" p) [a, b] [] pos) (ma.bind fun x => mb.bind fun y => Rs.of (zipD x y)) := by
  obtain ⟨t, pe, q⟩ := ha
  obtain ⟨t2, pe2, q2⟩ := hb
  refine ⟨_, pi_zip2 hg hm (pa_cons pe (pa_cons pe2 pa_nil hs2) hs) hs hpl, fun F0 σ F H R hh hp => ?_⟩
  refine q F0 σ F H _ hh (hp.bind fun d v F' H' e1 r1 hp1 => ?_)
  refine q2 F0 σ F' H' _ (hh.more e1) (hp1.bind fun d2 v2 F2 H2 e2 r2 hp2 => ?_)
  obtain ⟨ds, hd, k⟩ := hp2.of
  unfold zipD at hd
  split at hd
  · rename_i xs ys hx hy
    cases hd
    obtain ⟨k1, a1, vs1, rfl, g1, l1, w1⟩ := rep_seq (r1.mono e2.ext) hx
    obtain ⟨k2, a2, vs2, rfl, g2, l2, w2⟩ := rep_seq r2 hy
    exact ⟨k1, k2, a1, a2, vs1, vs2, rfl, g1.same e2.sub, g2.same e2.sub, k _ F2 H2 (Ext.refl e2.sub) (walks_zip g1 g2 l1 w1 w2)⟩
  · cases hd

/-! ### enumerate -/
set_option maxHeartbeats 1000000 in
theorem meets_enumK {v : Value} {o : Obj} {Hp0 : Heap → Prop} (B : Begins v o Hp0) :
    Meets (Builtin.«enumerate.__new__» ⟨[.type "enumerate", v], []⟩) (fun _ R s => Hp0 s.heap ∧ R (.ok (.ret (.ref (s.heap.push o).objs.size))) { s with heap := (s.heap.push o).push { cls := .type "enumerate", data := .fields #[.none, .bool false, .ref s.heap.objs.size, rawInt 0, .none, .none] } }) :=
  .of_wp fun prog w A R s h => by
    obtain ⟨hp, g, d, tk, os⟩ := s
    obtain ⟨h1, h⟩ := h
    have hsub := sub_enumerate
    have q1 : ∀ {A' : Around} {E : Value → Shared → Prop} {Q : Value → Shared → Prop}, Q (.ref hp.objs.size) ⟨hp.push o, g, d, tk, os⟩ → wpAny (model prog w) A' (pyIter v) Q E ⟨hp, g, d, tk, os⟩ := fun q => B.iter prog w _ _ ⟨hp, g, d, tk, os⟩ _ h1 q
    wp_walk using q1
    refine wpAny_stack_any fun st => wpAny_pure ?_
    split
    · rename_i c _ _ _ _ _
      cases (c == Value.type "enumerate") <;> (wp_walk using q1; exact ⟨_, rfl, h⟩)
    · wp_walk using q1
      exact ⟨_, rfl, h⟩
theorem call_enumK {prog : Program} {w : World} {A : Around} {E : Value → Shared → Prop} {s : Shared} {v : Value} {o : Obj} {Hp0 : Heap → Prop} {Q : Value → Shared → Prop} (B : Begins v o Hp0) (h1 : Hp0 s.heap)
    (h : ∀ h', IsEnum h' (s.heap.objs.size + 1) s.heap.objs.size 0 .none → h'.get? s.heap.objs.size = some o → h'.objs.size = s.heap.objs.size + 2 → (∀ b o, s.heap.get? b = some o → h'.get? b = some o) → Q (.ref (s.heap.objs.size + 1)) { s with heap := h' }) :
    wpAny (model prog w) A (call (.type "enumerate") [v]) Q E s := by
  refine callType_new F.called_enumerate (by decide) (F.typeCall_enumerate_1 _) (F.newCall_enumerate_1 _) (fun obj => F.args_object_init_2 obj _) F.entry_enumerate_new (meets_enumK B) ⟨h1, ?_⟩
  have hz : (s.heap.push o).objs.size = s.heap.objs.size + 1 := Heap.size_push ..
  show _ ∧ _
  rw [hz]
  have g0 : ((s.heap.push o).push { cls := .type "enumerate", data := .fields #[.none, .bool false, .ref s.heap.objs.size, rawInt 0, .none, .none] }).get? (s.heap.objs.size + 1) = some { cls := .type "enumerate", data := .fields #[.none, .bool false, .ref s.heap.objs.size, rawInt 0, .none, .none] } := by
    rw [← hz]
    exact Heap.get?_push_size _ rfl
  refine ⟨⟨_, g0, rfl⟩, h _ g0 ?_ ?_ ?_⟩
  · exact Heap.get?_push_of_some _ (Heap.get?_push_size _ B.free)
  · rw [Heap.size_push, hz]
  · exact fun b o' e => Heap.get?_push_of_some _ (Heap.get?_push_of_some _ e)
def Ite2 (K : PySem.W.Frag) (k1 : Kd) (a : Addr) : It :=
  ⟨fun i H => ∃ (xs : List V) (x : V), KSq K H a xs k1 ∧ xs[i]? = some x,
    fun i H v H' => ∃ T x, v = .ref T ∧ H T = none ∧ H' = upd H T (.tup [.int (0 + (i : Int)), x]) ∧ ∀ xs, KSq K H a xs k1 → xs[i]? = some x,
    fun i H => ∃ xs : List V, KSq K H a xs k1 ∧ i = xs.length⟩
def eTn (k1 : Kd) (e it a : Addr) (i : Nat) (h : Heap) : Prop := (∃ old, IsEnum h e it (0 + (i : Int)) old) ∧ KIter h it a i k1
theorem turn_enum2 {P : Program} {w : World} {K : PySem.W.Frag} {elts : List Expr} {kk : Nat} {tpos : Pos} {k1 : Kd} {a : Addr} {N : Nat} (ha : a < N) :
    Turn P w K (.Tuple elts kk tpos) (Ite2 K k1 a) [N + 1, N] (N + 1) (eTn k1 (N + 1) N a) where
  mem := by simp
  obj := fun i h st c hc => by
    obtain ⟨⟨old, hz⟩, h1⟩ := st
    simp only [List.mem_cons, List.not_mem_nil, or_false] at hc
    rcases hc with q | q
    · subst q; exact ⟨_, hz, fun v z => nomatch z⟩
    · exact q ▸ h1.there
  keep := fun i h h' st k => by
    obtain ⟨⟨old, hz⟩, h1⟩ := st
    exact ⟨⟨old, k _ (by simp) _ hz⟩, h1.keep fun o q => k _ (by simp) o q⟩
  item := by
    intro X hP hw hK hc i pins s σ H E I hf st hg
    subst hP hw hK
    obtain ⟨hz, h1⟩ := st
    obtain ⟨xs, x, hqx, hx⟩ := hg
    obtain ⟨its, rv, p1, _⟩ := inv_sq I hqx
    obtain ⟨u, hu, ru⟩ := rv.get hx
    have hne1 : a ≠ N := Nat.ne_of_lt ha
    have hne2 : N + 1 ≠ a := fun z => by
      have : a < N := ha
      rw [← z] at this
      exact absurd this (Nat.not_lt.mpr (Nat.le_succ N))
    have GN := GoesN.enumFrom (prog := X.prog) (w := X.w) (A := X.A) (elts := elts) (x1 := kk) (pos := tpos) 0 (kDraws (prog := X.prog) (w := X.w) (A := X.A.in1) (I.ok.hd hc) N a hne1 its.toArray k1) (N + 1) (Nat.succ_ne_self N) (by
      simp only [List.mem_cons, List.not_mem_nil, or_false, not_or]
      exact ⟨Nat.succ_ne_self N, hne2⟩) (by simp)
    have il1 : i < its.length := by
      rcases Nat.lt_or_ge i its.length with z | z
      · exact z
      · rw [List.getElem?_eq_none z] at hu; cases hu
    refine GN.goes i s (fun v s2 => ∃ x H', Inv X pins σ H' s2 ∧ RelV x v ∧ (Ite2 X.K k1 a).yld i H x H' ∧ eTn k1 (N + 1) N a (i + 1) s2.heap ∧ ∀ b ∈ [N + 1, N], H' b = none) E (by simp only [List.size_toArray]; omega) ⟨hz, ⟨h1, p1⟩⟩ fun v h' tk hY st' hk htk => ?_
    obtain ⟨T, t0, w1, rfl, hT, e1, hTt⟩ := hY
    have ew1 : w1 = u := by
      have : its[i]? = some w1 := by simpa using e1
      rw [hu] at this
      exact (Option.some.inj this).symm
    subst ew1
    obtain ⟨hz', ⟨h1', _⟩⟩ := st'
    have new : ObjOk X.prog X.w (upd H T (.tup [.int (0 + (i : Int)), x])) h' T (.tup [.int (0 + (i : Int)), x]) := ⟨by show 2 ≤ sizeLine; decide, [.int (0 + (i : Int)) t0, w1], .cons ⟨t0, rfl⟩ (.cons ru .nil), hTt⟩
    have I1 : Inv X pins σ (upd H T (.tup [.int (0 + (i : Int)), x])) { s with heap := h', toks := tk } := I.turnedNew (ch := [N + 1, N]) (fun c o hb q => hk c o hb q) hf hT new
    refine ⟨.ref T, _, I1, rfl, ⟨T, x, rfl, I.hok.fresh hT, rfl, fun l hl => by rw [inv_sq_inj I hl hqx]; exact hx⟩, ⟨hz', h1'⟩, fun c hcm => ?_⟩
    have hc1 := (hf c hcm).1
    by_cases e : c = T
    · subst e
      exfalso
      have : ∃ o, s.heap.get? c = some o := by
        simp only [List.mem_cons, List.not_mem_nil, or_false] at hcm
        rcases hcm with q | q
        · obtain ⟨_, hz⟩ := hz; exact ⟨_, q ▸ hz⟩
        · obtain ⟨o, z, _⟩ := h1.there; exact ⟨o, q ▸ z⟩
      obtain ⟨o, z⟩ := this
      exact absurd (Heap.lt_size z) (Nat.not_lt.mpr hT)
    · rw [upd_ne e]
      exact hc1
  done := by
    intro X hP hw hK hc i pins s σ H E I hf st hg
    subst hP hw hK
    obtain ⟨hz, h1⟩ := st
    obtain ⟨xs, hqx, hend⟩ := hg
    obtain ⟨its, rv, p1, _⟩ := inv_sq I hqx
    have hne1 : a ≠ N := Nat.ne_of_lt ha
    have hne2 : N + 1 ≠ a := fun z => by
      have : a < N := ha
      rw [← z] at this
      exact absurd this (Nat.not_lt.mpr (Nat.le_succ N))
    have GN := GoesN.enumFrom (prog := X.prog) (w := X.w) (A := X.A) (elts := elts) (x1 := kk) (pos := tpos) 0 (kDraws (prog := X.prog) (w := X.w) (A := X.A.in1) (I.ok.hd hc) N a hne1 its.toArray k1) (N + 1) (Nat.succ_ne_self N) (by
      simp only [List.mem_cons, List.not_mem_nil, or_false, not_or]
      exact ⟨Nat.succ_ne_self N, hne2⟩) (by simp)
    have ei : i = its.toArray.size := by
      rw [List.size_toArray, ← rv.length]
      exact hend
    refine GN.stops s _ E (by rw [← ei]; exact ⟨hz, ⟨h1, p1⟩⟩) fun h' tk hk htk => I.turnedL (ch := [N + 1, N]) (fun c o hb q => hk c o hb q) hf
  self := fun A i s Q E st h => by
    obtain ⟨⟨old, hz⟩, _⟩ := st
    exact wpAny_pyIter_enum hz h
def iEnum2 (K : PySem.W.Frag) (ta : TA) : TI := fun σ H R => ta σ H fun vs H1 => ∃ k1 a xs, vs = [.ref a] ∧ KSq K H1 a xs k1 ∧ R (Ite2 K k1 a) H1
theorem pi_enum2 {X : Cx} {e : Expr} {ta : TA} {p pos tpos : Pos} {elts : List Expr} {kk : Nat} (hg : Gl X "enumerate") (hm : X.mg "enumerate" = none) (ha : PA X [e] ta)
    (hs : starEach [e] X.env = (false, eval e X.env) :: starEach [] X.env := by rfl) (hpl : (backTo pos (starEach [] X.env)).any (·.1) = false := by rfl) :
    PI X (.Tuple elts kk tpos) (.Call (.Name "enumerate" p) [e] [] pos) (iEnum2 X.K ta) := by
  refine ⟨fun pins s σ H R I h => Call_ (ld_blt I hg hm boot_enumerate (PyProof.Rows.callWith_type1 (thn (ha.run pos pins s σ H _ I h) fun us s1 ⟨vs, H1, I1, r1, q1⟩ => ?_) hs hpl))⟩
  obtain ⟨k1, a, xs, rfl, hqx, q⟩ := q1
  obtain ⟨u1, rfl, r⟩ := vals1 r1
  cases r
  obtain ⟨its, rv, p1, la⟩ := inv_sq I1 hqx
  refine call_enumK (kBegins a its.toArray k1) p1 fun h' hz g1 hsz hk => wpAny_pyIter_enum hz ?_
  have I2 : Inv X pins σ H1 { s1 with heap := h' } := I1.kept (t' := s1.toks) hk
  refine ⟨_, _, _, Ite2 X.K k1 a, H1, rfl, I2, turn_enum2 (N := s1.heap.objs.size) la, ⟨⟨_, hz⟩, KIter.of_new g1⟩, fun c hcm => ?_, q⟩
  have hle : s1.heap.objs.size ≤ c := by
    simp only [List.mem_cons, List.not_mem_nil, or_false] at hcm
    rcases hcm with z | z <;> rw [z] <;> first | exact Nat.le_refl _ | exact Nat.le_add_right _ _
  exact I1.fpOk hle (I1.hok.fresh hle)
def enumL : Nat → List D → List D
  | _, [] => []
  | i, x :: xs => .tup [.int (0 + (i : Int)), x] :: enumL (i + 1) xs
def enumD (x : D) : Option (List D) := (seqD x).map (enumL 0)
theorem enumL_len : ∀ (i : Nat) (xs : List D), (enumL i xs).length = xs.length
  | _, [] => rfl
  | i, x :: xs => by simp only [enumL, List.length_cons, enumL_len (i + 1) xs]
theorem enumL_at : ∀ {j : Nat} {xs : List D} {i : Nat} {d : D}, (enumL j xs)[i]? = some d → ∃ x, xs[i]? = some x ∧ d = .tup [.int (0 + ((j + i : Nat) : Int)), x]
  | _, [], _, _, h => by simp [enumL] at h
  | j, x :: xs, 0, d, h => by simp only [enumL, List.getElem?_cons_zero, Option.some.injEq] at h; exact ⟨x, rfl, h.symm⟩
  | j, x :: xs, i + 1, d, h => by
    obtain ⟨y, h1, h2⟩ := enumL_at (j := j + 1) (xs := xs) (i := i) (by simpa [enumL] using h)
    exact ⟨y, by simpa using h1, by rw [h2, show j + 1 + i = j + (i + 1) by omega]⟩
theorem walks_enum {K : PySem.W.Frag} {F : Hp} {a : Addr} {xs : List V} {ds : List D} {k1 : Kd} (h1 : KSq K F a xs k1) (l1 : xs.length ≤ sizeLine) (r1 : Reps K F xs ds) : Walks K (Ite2 K k1 a) F (enumL 0 ds) := by
  refine ⟨by rw [enumL_len, ← r1.length]; exact l1, fun F1 H1 e1 e2 => ⟨fun i d q => ?_, ?_⟩⟩
  · obtain ⟨dx, hx, rfl⟩ := enumL_at q
    obtain ⟨v, hv, rv⟩ := r1.get hx
    refine ⟨⟨xs, v, (h1.same e1).same e2, hv⟩, fun x H' y => ?_⟩
    obtain ⟨T, x1, rfl, nT, rfl, f1⟩ := y
    have ex1 := f1 xs ((h1.same e1).same e2)
    rw [hv] at ex1
    cases ex1
    rw [Nat.zero_add]
    exact ⟨_, Ext.fresh e2 _ nT, new_tup e2 nT (by show 2 ≤ sizeLine; decide) (.cons (.int _) (.cons (rv.mono e1) .nil))⟩
  · refine ⟨xs, (h1.same e1).same e2, ?_⟩
    rw [enumL_len, r1.length]
theorem it_enum {X : Cx} {G : Gd} {W : WX} {ρ : Rho} {elts : List Expr} {kk : Nat} {tpos p pos : Pos} {a : Expr} {ma : Rs D} (hg : Gl X "enumerate") (hm : X.mg "enumerate" = none) (ha : EV X G W ρ a ma)
    (hs : starEach [a] X.env = (false, eval a X.env) :: starEach [] X.env := by rfl) (hpl : (backTo pos (starEach [] X.env)).any (·.1) = false := by rfl) :
    IT X G W ρ (.Tuple elts kk tpos) (.Call (.Name "enumerate" p) [a] [] pos) (ma.bind fun x => Rs.of (enumD x)) := by
  obtain ⟨t, pe, q⟩ := ha
  refine ⟨_, pi_enum2 hg hm (pa_cons pe pa_nil hs) hs hpl, fun F0 σ F H R hh hp => ?_⟩
  refine q F0 σ F H _ hh (hp.bind fun d v F' H' e1 r1 hp1 => ?_)
  obtain ⟨ds, hd, k⟩ := hp1.of
  unfold enumD at hd
  cases hx : seqD d with
  | none => rw [hx] at hd; cases hd
  | some xs =>
    rw [hx] at hd
    cases hd
    obtain ⟨k1, a1, vs1, rfl, g1, l1, w1⟩ := rep_seq r1 hx
    exact ⟨k1, a1, vs1, rfl, g1.same e1.sub, k _ F' H' (Ext.refl e1.sub) (walks_enum g1 l1 w1)⟩
end VL
set_option Elab.async false
set_option linter.all false
set_option maxRecDepth 100000
set_option autoImplicit false
namespace VL
open PySem PySem.Spec L2
open PyProof.Rows hiding St
section
variable {X : Cx} {G : Gd} {W : WX} {ρ ρx : Rho} {a b c : Expr} {ma mb mc : Rs D} {pos p : Pos}
/-! ### comparisons as tests, chains -/
theorem tv_cmp {op : CmpOp} {r : R2} {f : D → D → Option D} {g : D → D → Option Bool} (ho : OpR X (compareOp op) r) (hf : R2ok X.K r f) (hg : Isb f g) (ha : EO X G W ρ a ma) (hb : EO X G W ρ b mb) (hm : behindInMarks op b = false) :
    TV X G W ρ (.Compare a [op] [b] pos) (ma.bind fun x => mb.bind fun y => Rs.of (g x y)) := by
  obtain ⟨ta, pa, qa⟩ := ha
  obtain ⟨tb, pb, qb⟩ := hb
  refine ⟨_, pt_cmpR ho pa pb hm, fun F0 σ F H Q hh hp => ?_⟩
  refine qa F0 σ F H _ hh (hp.bind fun dx x F1 H1 e1 r1 hp1 => ?_)
  refine qb F0 σ F1 H1 _ (hh.more e1) (hp1.bind fun dy y F2 H2 e2 r2 hp2 => ?_)
  obtain ⟨d, hd, k⟩ := hp2.of
  refine hf e2.sub (r1.more e2) r2 (by rw [hg, hd]; rfl) fun v F' H' e3 r3 => ?_
  cases r3
  exact ⟨d, rfl, k _ F' H' e3 rfl⟩
theorem chain_ok {r r' : R2} {f f' : D → D → Option D} {g : D → D → Option Bool} {ta tb tc : TE} (hf : R2ok X.K r f) (hg : Isb f g) (hf' : R2ok X.K r' f')
    (qa : ∀ F0 σ F H Q, Holds X.K (G.at F0) ρ σ F H → Post X.K (RepH X.K) (fun c d H => W c d σ H) F H Q ma → ta σ H Q) (qb : ∀ F0 σ F H Q, Holds X.K (G.at F0) ρ σ F H → Post X.K (RepH X.K) (fun c d H => W c d σ H) F H Q mb → tb σ H Q)
    (qc : ∀ F0 σ F H Q, Holds X.K (G.at F0) ρ σ F H → Post X.K (RepH X.K) (fun c d H => W c d σ H) F H Q mc → tc σ H Q) {F0 : Hp} {σ : St} {F H : Hp} {Q : VK} (hh : Holds X.K (G.at F0) ρ σ F H)
    (hp : Post X.K (RF X.K) (fun c d H => W c d σ H) F H Q (ma.bind fun x => mb.bind fun y => (Rs.of (g x y)).bind fun k => if k then mc.bind fun z => Rs.of (f' y z) else .ok (.bl false))) : tChain r r' ta tb tc σ H Q := by
  refine qa F0 σ F H _ hh (hp.bind fun dx x F1 H1 e1 r1 hp1 => ?_)
  refine qb F0 σ F1 H1 _ (hh.more e1) (hp1.bind fun dy y F2 H2 e2 r2 hp2 => ?_)
  cases hk : g dx dy with
  | none => rw [hk] at hp2; exact hp2.elim
  | some k =>
    rw [hk] at hp2
    refine hf e2.sub (r1.more e2) r2 (by rw [hg, hk]; rfl) fun v F3 H3 e3 r3 => ?_
    cases r3
    refine ⟨k, rfl, ?_⟩
    have hp3 := Post.more hp2 e3
    cases k with
    | true =>
      refine iteT (qc F0 σ F3 H3 _ (((hh.more e1).more e2).more e3) (Post.bind (f := fun z => Rs.of (f' dy z)) hp3 fun dz z F4 H4 e4 r4 hp4 => ?_))
      obtain ⟨d, hd, k⟩ := hp4.of
      exact hf' e4.sub ((r2.more e3).more e4) r4 hd k
    | false => exact iteF (hp3 _ F3 H3 (Ext.refl e3.sub) (.bl false))
theorem ev_chain {op op' : CmpOp} {r r' : R2} {f f' : D → D → Option D} {g : D → D → Option Bool} (ho : OpR X (compareOp op) r) (hf : R2ok X.K r f) (hg : Isb f g) (ho' : OpR X (compareOp op') r') (hf' : R2ok X.K r' f') (ha : EO X G W ρ a ma) (hb : EO X G W ρ b mb) (hc : EO X G W ρ c mc)
    (h1 : behindInMarks op b = false := by exact nomark _) (h2 : behindInMarks op' c = false := by exact nomark _) (pe : ∀ {ta tb tc : TE}, PE X a ta → PE X b tb → PE X c tc → PE X (.Compare a [op, op'] [b, c] pos) (tChain r r' ta tb tc)) :
    EV X G W ρ (.Compare a [op, op'] [b, c] pos) (ma.bind fun x => mb.bind fun y => (Rs.of (g x y)).bind fun k => if k then mc.bind fun z => Rs.of (f' y z) else .ok (.bl false)) := by
  obtain ⟨ta, pa, qa⟩ := ha
  obtain ⟨tb, pb, qb⟩ := hb
  obtain ⟨tc, pc, qc⟩ := hc
  exact ⟨_, pe pa pb pc, fun F0 σ F H Q hh hp => chain_ok hf hg hf' qa qb qc hh hp⟩
theorem tv_chain {op op' : CmpOp} {r r' : R2} {f f' : D → D → Option D} {g g' : D → D → Option Bool} (ho : OpR X (compareOp op) r) (hf : R2ok X.K r f) (hg : Isb f g) (ho' : OpR X (compareOp op') r') (hf' : R2ok X.K r' f') (hg' : Isb f' g') (ha : EO X G W ρ a ma) (hb : EO X G W ρ b mb) (hc : EO X G W ρ c mc)
    (pe : ∀ {ta tb tc : TE}, PE X a ta → PE X b tb → PE X c tc → PT X (.Compare a [op, op'] [b, c] pos) (tTest (tChain r r' ta tb tc))) :
    TV X G W ρ (.Compare a [op, op'] [b, c] pos) (ma.bind fun x => mb.bind fun y => (Rs.of (g x y)).bind fun k => if k then mc.bind fun z => Rs.of (g' y z) else .ok false) := by
  obtain ⟨ta, pa, qa⟩ := ha
  obtain ⟨tb, pb, qb⟩ := hb
  obtain ⟨tc, pc, qc⟩ := hc
  refine ⟨_, pe pa pb pc, fun F0 σ F H Q hh hp => ?_⟩
  refine chain_ok (Q := fun x H' => ∃ k, x = .bl k ∧ Q k H') hf hg hf' qa qb qc hh ?_
  cases ma with
  | ex c fs => exact hp
  | no => exact hp
  | ok x =>
    cases mb with
    | ex c fs => exact hp
    | no => exact hp
    | ok y =>
      simp only [Rs.bind_ok] at hp ⊢
      cases hk : g x y with
      | none => rw [hk] at hp; exact hp
      | some k =>
        rw [hk] at hp
        cases k with
        | false => exact fun v F' H' e1 r1 => by cases r1; exact ⟨false, rfl, hp _ F' H' e1 rfl⟩
        | true =>
          cases mc with
          | ex c fs => exact hp
          | no => exact hp
          | ok z =>
            simp only [Rs.bind_ok, Rs.of_some, if_true] at hp ⊢
            rw [hg']
            cases hz : g' y z with
            | none => rw [hz] at hp; exact hp
            | some k => rw [hz] at hp; exact fun v F' H' e1 r1 => by cases r1; exact ⟨k, rfl, hp _ F' H' e1 rfl⟩
/-! ### values of the module's names -/
theorem ev_globC {x : Str} {v : V} {u : Value} {d : D} (hm : X.mg x = some u) (rv : RelV v u) (r : ∀ F, Rep X.K F v d) (hg : Gl X x := by rfl) (hd : (x == ("__debug__" : Str)) = false := by decide) : EV X G W ρ (.Name x pos) (.ok d) := ev_c (pe_glob hg hm rv hd) r
theorem ev_glob_int {x : Str} {i : Int} (hm : ∃ t, X.mg x = some (.int i t)) (hg : Gl X x := by rfl) (hd : (x == ("__debug__" : Str)) = false := by decide) : EV X G W ρ (.Name x pos) (.ok (.int i)) := by
  obtain ⟨t, h⟩ := hm
  exact ev_globC (v := .int i) h ⟨t, rfl⟩ (fun _ => .int i) hg hd
theorem ev_glob_str {x : Str} {z : Str} (hm : ∃ t, X.mg x = some (.str z t)) (hg : Gl X x := by rfl) (hd : (x == ("__debug__" : Str)) = false := by decide) : EV X G W ρ (.Name x pos) (.ok (.str z)) := by
  obtain ⟨t, h⟩ := hm
  exact ev_globC (v := .str z) h ⟨t, rfl⟩ (fun _ => .str z) hg hd
theorem reps_ints {K : PySem.W.Frag} {F : Hp} : ∀ is : List Int, Reps K F (is.map V.int) (is.map D.int)
  | [] => .nil
  | i :: r => .cons (.int i) (reps_ints r)
theorem ev_glob_tup {x : Str} {f : Addr} {is : List Int} (hT : ∀ H, SqT X.K H f (is.map V.int)) (hm : X.mg x = some (.ref f)) (hl : is.length ≤ sizeLine := by decide) (hg : Gl X x := by rfl) (hd : (x == ("__debug__" : Str)) = false := by decide) : EV X G W ρ (.Name x pos) (.ok (.tup (is.map D.int))) :=
  ev_globC hm (v := .ref f) rfl (fun F => .tup (.inr ⟨hT _, fun x hx => by obtain ⟨i, _, rfl⟩ := List.mem_map.mp hx; exact ⟨i, rfl⟩⟩) (by rw [List.length_map]; exact hl) (reps_ints is)) hg hd
end
/-! ### isinstance -/
def kindD : D → Option String
  | .non => some "NoneType"
  | .bl _ => some "bool"
  | .int _ => some "int"
  | .str _ => some "str"
  | .lst _ => some "list"
  | .tup _ => some "tuple"
  | _ => none
/-- is a thing of the one built-in class one of the other -/
def isiK (k t : String) : Bool := k == t || (k == "bool" && t == "int")
def isiB (t : String) (d : D) : Option Bool := (kindD d).map fun k => isiK k t
def isiD (t : String) (d : D) : Option D := (isiB t d).map .bl
def isiD2 (t u : String) (d : D) : Option D := (kindD d).map fun k => .bl (isiK k t || isiK k u)
theorem sqT_ty {K : PySem.W.Frag} {H : Hp} {a : Addr} {xs : List V} (h : SqT K H a xs) : TyX K H (.ref a) (.type "tuple") := by
  rcases h with (h | ⟨o, h⟩) | ⟨o, its, n, hk, hc, _⟩
  · exact .base (.tup h)
  · exact .fTuple h
  · exact .kTuple hk hc
theorem RepH.ty {K : PySem.W.Frag} {F H : Hp} (s : Same F H) {v : V} {d : D} {k : String} (r : RepH K F H v d) (h : kindD d = some k) : TyX K H v (.type k) := by
  cases d with
  | non => cases h; rw [r.non]; exact .base .non
  | bl b => cases h; rw [r.bl]; exact .base (.bl b)
  | int i => cases h; rw [r.int]; exact .base (.int i)
  | str x => cases h; rw [r.str]; exact .base (.str x)
  | lst ds =>
    cases h
    obtain ⟨a, xs, rfl, ha, _, _⟩ := r.lst s
    exact .base (.lst ha)
  | tup ds =>
    cases h
    obtain ⟨a, xs, rfl, ha, _⟩ := r.tup s
    exact sqT_ty ha
  | _ => cases h
/-- the five kinds against a class t -/
def KitT (t : String) : Prop := ∀ k ∈ ["NoneType", "bool", "int", "str", "list", "tuple"], kitB k t = some (isiK k t)
theorem kitT_int : KitT "int" := by unfold KitT; decide +kernel
theorem kitT_bool : KitT "bool" := by unfold KitT; decide +kernel
theorem kitT_str : KitT "str" := by unfold KitT; decide +kernel
theorem kitT_tuple : KitT "tuple" := by unfold KitT; decide +kernel
theorem kitT_list : KitT "list" := by unfold KitT; decide +kernel
theorem kind_mem {d : D} {k : String} (h : kindD d = some k) : k ∈ ["NoneType", "bool", "int", "str", "list", "tuple"] := by
  cases d <;> cases h <;> simp
section
variable {X : Cx} {G : Gd} {W : WX} {ρ ρx : Rho} {a b c : Expr} {ma mb mc : Rs D} {pos p p2 : Pos}
theorem ev_isi {t : String} {tn : Str} (hm : X.mg "isinstance" = none) (ht : X.mg tn = none) (hv : bootBuiltins tn = some (.type t)) (hk : KitT t) (ha : EO X G W ρ a ma) (hg : Gl X "isinstance" := by rfl) (hg2 : Gl X tn := by rfl) (hn : tn ≠ "__name__" := by decide) (hd : (tn == ("__debug__" : Str)) = false := by decide)
    (hs : starEach [a, .Name tn p2] X.env = (false, eval a X.env) :: starEach [.Name tn p2] X.env := by rfl) (hs2 : starEach [.Name tn p2] X.env = (false, eval (.Name tn p2) X.env) :: starEach [] X.env := by rfl) (hpl : (backTo pos (starEach [.Name tn p2] X.env)).any (·.1) = false := by rfl) :
    EV X G W ρ (.Call (.Name "isinstance" p) [a, .Name tn p2] [] pos) (ma.bind fun x => Rs.of (isiD t x)) := by
  obtain ⟨ta, pa, qa⟩ := ha
  refine ⟨_, pe_callB call_isi hg hm boot_isinstance (pa_cons pa (pa_cons (pe_bltn (v := .ty t) hg2 ht hv rfl hn hd) pa_nil hs2) hs) (by decide) (by decide) hs hpl, fun F0 σ F H Q hh hp => ?_⟩
  refine qa F0 σ F H _ hh (hp.bind fun dx x F1 H1 e1 r1 hp1 => ?_)
  obtain ⟨d, hd, k⟩ := hp1.of
  unfold isiD isiB at hd
  cases hx : kindD dx with
  | none => rw [hx] at hd; cases hd
  | some kd =>
    rw [hx] at hd
    cases hd
    exact ⟨x, .ty t, .type kd, .type t, _, rfl, .ty t, r1.ty e1.sub hx, kit_ty (hk kd (kind_mem hx)), k _ F1 H1 (Ext.refl e1.sub) (.bl _)⟩
theorem ev_isi2 {t u : String} {tn un : Str} {x1 : Nat} {p3 p4 : Pos} (hm : X.mg "isinstance" = none) (ht : X.mg tn = none) (hv : bootBuiltins tn = some (.type t)) (ht2 : X.mg un = none) (hv2 : bootBuiltins un = some (.type u)) (hk : KitT t) (hk2 : KitT u) (ha : EO X G W ρ a ma)
    (hg : Gl X "isinstance" := by rfl) (hg2 : Gl X tn := by rfl) (hg3 : Gl X un := by rfl) (hn : tn ≠ "__name__" := by decide) (hd : (tn == ("__debug__" : Str)) = false := by decide) (hn3 : un ≠ "__name__" := by decide) (hd3 : (un == ("__debug__" : Str)) = false := by decide)
    (hs : starEach [a, .Tuple [.Name tn p2, .Name un p3] x1 p4] X.env = (false, eval a X.env) :: starEach [.Tuple [.Name tn p2, .Name un p3] x1 p4] X.env := by rfl)
    (hs2 : starEach [.Tuple [.Name tn p2, .Name un p3] x1 p4] X.env = (false, eval (.Tuple [.Name tn p2, .Name un p3] x1 p4) X.env) :: starEach [] X.env := by rfl)
    (hs3 : starEach [.Name tn p2, .Name un p3] X.env = (false, eval (.Name tn p2) X.env) :: starEach [.Name un p3] X.env := by rfl) (hs4 : starEach [.Name un p3] X.env = (false, eval (.Name un p3) X.env) :: starEach [] X.env := by rfl)
    (hpl : (backTo pos (starEach [.Tuple [.Name tn p2, .Name un p3] x1 p4] X.env)).any (·.1) = false := by rfl) :
    EV X G W ρ (.Call (.Name "isinstance" p) [a, .Tuple [.Name tn p2, .Name un p3] x1 p4] [] pos) (ma.bind fun x => Rs.of (isiD2 t u x)) := by
  obtain ⟨ta, pa, qa⟩ := ha
  refine ⟨_, pe_callB call_isiT hg hm boot_isinstance (pa_cons pa (pa_cons (pe_tup (pa_cons (pe_bltn (v := .ty t) hg2 ht hv rfl hn hd) (pa_cons (pe_bltn (v := .ty u) hg3 ht2 hv2 rfl hn3 hd3) pa_nil hs4) hs3)) pa_nil hs2) hs) (by decide) (by decide) hs hpl, fun F0 σ F H Q hh hp => ?_⟩
  refine qa F0 σ F H _ hh (hp.bind fun dx x F1 H1 e1 r1 hp1 => ?_)
  obtain ⟨d, hd, k⟩ := hp1.of
  unfold isiD2 at hd
  cases hx : kindD dx with
  | none => rw [hx] at hd; cases hd
  | some kd =>
    rw [hx] at hd
    cases hd
    refine ⟨by show 2 ≤ sizeLine; decide, fun q hq => ?_⟩
    have e2 := Ext.loose e1.sub (.tup [.ty t, .ty u]) hq
    have k1 := kit_ty (K := X.K) (hk kd (kind_mem hx))
    have k2 := kit_ty (K := X.K) (hk2 kd (kind_mem hx))
    refine ⟨x, q, [.ty t, .ty u], .type kd, [.type t, .type u], _, rfl, upd_same, .cons (.ty t) (.cons (.ty u) .nil), (r1.more e2).ty e2.sub hx, ?_, k _ F1 _ e2 (.bl _)⟩
    refine kitAny_cons k1 (fun e => ?_) fun e => by rw [e]; rfl
    rw [e, Bool.false_or]
    exact kitAny_cons k2 (fun e => by rw [e]; rfl) fun e => e
end
/-! ### statements with a value that the mirror names itself -/
section
variable {X : Cx} {G : Gd} {W : WX} {ρx ρ : Rho} {rest sts : List Stmt} {α β R : Type} {pn : α → Rho} {pl : β → Rho} {ι : R → Fl α β}
theorem bk_setV {i : Nat} {st : Stmt} {d : D} {m : Rs (Fl α β)} (ha : AS X G W ρ st i (.ok d)) (hr : BK X G W ρx (ρ.set i (some (.val d))) rest pn pl m) (hi : i < ρ.length := by exact Nat.le_of_ble_eq_true rfl) (wx : Wk ρ ρx := by first | exact Wk.nil | exact Wk.refl | (repeat (first | exact Wk.nil | apply Wk.keep | apply Wk.drop))) : BK X G W ρx ρ (st :: rest) pn pl m := by
  obtain ⟨te, p, q⟩ := ha
  intro F0 σ F H E hh hp
  refine any_cons p (q F0 σ F H _ hh fun v F' H' e1 r1 => ?_)
  exact hr F0 _ F' H' E ((hh.more e1).setV r1 hi) hp
theorem bi_setV {i : Nat} {st : Stmt} {d : D} {m : Rs R} (ha : AS X G W ρ st i (.ok d)) (hr : BI X G W ρx (ρ.set i (some (.val d))) rest pn pl ι m) (hi : i < ρ.length := by exact Nat.le_of_ble_eq_true rfl) (wx : Wk ρ ρx := by first | exact Wk.nil | exact Wk.refl | (repeat (first | exact Wk.nil | apply Wk.keep | apply Wk.drop))) : BI X G W ρx ρ (st :: rest) pn pl ι m := bk_setV ha hr hi wx
/-- x, y = e1, e2: two locals -/
theorem bk_par {i j : Nat} {x y : Str} {a b : Expr} {px py pt : Pos} {kt k2 : Nat} {pt2 pos : Pos} {ma mb : Rs D} {f : D → D → Rs (Fl α β)} (calm : X.calm = true) (nd : X.N.Nodup) (ha : EV X G W ρ a ma) (hb : EV X G W ρ b mb)
    (hr : ∀ d e, BK X G W ρx ((ρ.set i (some (.val d))).set j (some (.val e))) rest pn pl (f d e)) (hi : X.N[i]? = some x := by rfl) (hj : X.N[j]? = some y := by rfl) (hij : i ≠ j := by decide) (hx : X.env.scope.names.lookup x = some .local := by rfl) (hy : X.env.scope.names.lookup y = some .local := by rfl)
    (hw : swappedStores [.Tuple [.Name x px, .Name y py] kt pt] (.Tuple [a, b] k2 pt2) X.env = pure (some [x, y]) := by rfl) (hs : swapsWithSole [.Tuple [.Name x px, .Name y py] kt pt] (.Tuple [a, b] k2 pt2) pos.line X.env = pure false := by rfl)
    (hsa : starEach [a, b] X.env = (false, eval a X.env) :: starEach [b] X.env := by rfl) (hsb : starEach [b] X.env = (false, eval b X.env) :: starEach [] X.env := by rfl) (hli : i < ρ.length := by exact Nat.le_of_ble_eq_true rfl) (hlj : j < ρ.length := by exact Nat.le_of_ble_eq_true rfl) (wx : Wk ρ ρx := by first | exact Wk.nil | exact Wk.refl | (repeat (first | exact Wk.nil | apply Wk.keep | apply Wk.drop))) :
    BK X G W ρx ρ (.Assign [.Tuple [.Name x px, .Name y py] kt pt] (.Tuple [a, b] k2 pt2) pos :: rest) pn pl (ma.bind fun d => mb.bind fun e => f d e) := by
  obtain ⟨ta, pa, qa⟩ := ha
  obtain ⟨tb, pb, qb⟩ := hb
  intro F0 σ F H E hh hp
  refine any_cons (ps_par calm nd hi hj hij hx hy (pa_cons pa (pa_cons pb pa_nil hsb) hsa) hw hs) ?_
  refine qa F0 σ F H _ hh (post_seq hh wx hp fun d v F1 H1 e1 r1 hp1 => ?_)
  refine qb F0 σ F1 H1 _ (hh.more e1) (post_seq (hh.more e1) wx hp1 fun e u F2 H2 e2 r2 hp2 => ?_)
  refine ⟨v, u, rfl, ?_⟩
  exact hr d e F0 _ F2 H2 E ((((hh.more e1).more e2).setV (r1.mono e2.ext) hli).setV r2 (by simpa using hlj)) hp2
theorem bi_par {i j : Nat} {x y : Str} {a b : Expr} {px py pt : Pos} {kt k2 : Nat} {pt2 pos : Pos} {ma mb : Rs D} {f : D → D → Rs R} (calm : X.calm = true) (nd : X.N.Nodup) (ha : EV X G W ρ a ma) (hb : EV X G W ρ b mb)
    (hr : ∀ d e, BI X G W ρx ((ρ.set i (some (.val d))).set j (some (.val e))) rest pn pl ι (f d e)) (hi : X.N[i]? = some x := by rfl) (hj : X.N[j]? = some y := by rfl) (hij : i ≠ j := by decide) (hx : X.env.scope.names.lookup x = some .local := by rfl) (hy : X.env.scope.names.lookup y = some .local := by rfl)
    (hw : swappedStores [.Tuple [.Name x px, .Name y py] kt pt] (.Tuple [a, b] k2 pt2) X.env = pure (some [x, y]) := by rfl) (hs : swapsWithSole [.Tuple [.Name x px, .Name y py] kt pt] (.Tuple [a, b] k2 pt2) pos.line X.env = pure false := by rfl)
    (hsa : starEach [a, b] X.env = (false, eval a X.env) :: starEach [b] X.env := by rfl) (hsb : starEach [b] X.env = (false, eval b X.env) :: starEach [] X.env := by rfl) (hli : i < ρ.length := by exact Nat.le_of_ble_eq_true rfl) (hlj : j < ρ.length := by exact Nat.le_of_ble_eq_true rfl) (wx : Wk ρ ρx := by first | exact Wk.nil | exact Wk.refl | (repeat (first | exact Wk.nil | apply Wk.keep | apply Wk.drop))) :
    BI X G W ρx ρ (.Assign [.Tuple [.Name x px, .Name y py] kt pt] (.Tuple [a, b] k2 pt2) pos :: rest) pn pl ι (ma.bind fun d => mb.bind fun e => f d e) := by
  unfold BI
  have z := bk_par (f := fun d e => (f d e).bind fun r => .ok (ι r)) (rest := rest) (pos := pos) (px := px) (py := py) (pt := pt) (kt := kt) (k2 := k2) (pt2 := pt2) calm nd ha hb hr hi hj hij hx hy hw hs hsa hsb hli hlj wx
  have e2 : ((ma.bind fun d => mb.bind fun e => f d e).bind fun r => (.ok (ι r) : Rs (Fl α β))) = ma.bind fun d => mb.bind fun e => (f d e).bind fun r => .ok (ι r) := by
    cases ma <;> simp only [Rs.bind_ok, Rs.bind_ex, Rs.bind_no, Rs.assoc]
  rw [e2]
  exact z
/-- list(x), a new list of one's own -/
def listL : D → Option (List D)
  | .lst xs => some xs
  | .tup xs => some xs
  | .scr xs => some xs
  | _ => none
theorem ef_list {a : Expr} {ma : Rs D} {p pos : Pos} (hm : X.mg "list" = none) (ha : EO X G W ρ a ma) (hg : Gl X "list" := by rfl) (hs : starEach [a] X.env = (false, eval a X.env) :: starEach [] X.env := by rfl) (hpl : (backTo pos (starEach [] X.env)).any (·.1) = false := by rfl) :
    EF X G W ρ (.Call (.Name "list" p) [a] [] pos) (ma.bind fun x => Rs.of (listL x)) := by
  obtain ⟨ta, pa, qa⟩ := ha
  refine ⟨_, pe_callTy call_list_of hg hm boot_list (pa_cons pa pa_nil hs) (by decide) (by decide) hs hpl, fun F0 σ F H Q hh hp => ?_⟩
  refine qa F0 σ F H _ hh ?_
  cases ma with
  | ex c fs => exact hp
  | no => exact hp
  | ok d =>
    intro v F1 H1 e1 r1
    obtain ⟨ds, hd, k⟩ := Post.of (o := listL d) hp
    have fin : ∀ {ys : List V}, ys.length ≤ sizeLine → Reps X.K F1 ys ds → ∀ l, H1 l = none → Q (.ref l) (upd H1 l (.lst ys)) := fun {ys} hl hr l hn =>
      k _ F1 _ (e1.trans (Ext.loose e1.sub _ hn)) ⟨l, rfl, e1.same.free hn, sub_none e1.sub hn, .lst upd_same hl hr⟩
    cases d with
    | lst xs =>
      cases hd
      obtain ⟨a, ys, rfl, h1, l1, w1⟩ := r1.lst e1.sub
      exact ⟨a, ys, rfl, .inl (SqL.of h1), fin l1 w1⟩
    | tup xs =>
      cases hd
      obtain ⟨a, ys, rfl, h1, l1, w1, _⟩ := r1.tup e1.sub
      exact ⟨a, ys, rfl, .inr h1, fin l1 w1⟩
    | scr xs =>
      cases hd
      obtain ⟨a, ys, rfl, h1, l1, w1⟩ := r1.scr e1.sub
      exact ⟨a, ys, rfl, .inl h1, fin l1 w1⟩
    | _ => cases hd
/-- the same by other words -/
theorem bi_as (ρ' : Rho) {m m' : Rs R} (h : BI X G W ρx ρ' sts pn pl ι m) (er : ρ = ρ') (e : m = m') : BI X G W ρx ρ sts pn pl ι m' := by
  subst er e
  exact h
theorem keeps_no {P : Program} {w : World} {K : PySem.W.Frag} {mg : Str → Option Value} {base : Heap} {x qual : Str} {params : Arguments} {body : List Stmt} {scope : Scope} {dvs : List V} {kws : List (Str × V)} {f : Addr} {fd : FuncData} {N ps : List Str} {k : Nat} {m : List D → Rs D}
    (Fd : FunD K x qual params body scope dvs kws f fd) (S : FnScope N ps scope) (hm : ∀ ds, m ds = .no) : Keeps P w K mg base (k + 1) f fd ps m := by
  refine Fd.ok S (fun vs H Q E h => h.1) (fun cdv A outer s H vs Q E hr h => ?_)
  obtain ⟨hl, F, ds, hs, hr1, hp⟩ := h
  rw [hm] at hp
  exact hp.elim
end
/-! ### arguments, one behind another, in the mirror -/
abbrev Kt := (β : Type) → (List D → Rs β) → Rs β
def AC (X : Cx) (G : Gd) (W : WX) (ρ : Rho) (es : List Expr) (κ : Kt) : Prop := ∃ ms, AV X G W ρ es ms ∧ ∀ (β : Type) (k : List D → Rs β), κ β k = ms.bind k
def OC (X : Cx) (G : Gd) (W : WX) (ρ : Rho) (es : List Expr) (κ : Kt) : Prop := ∃ ms, AO X G W ρ es ms ∧ ∀ (β : Type) (k : List D → Rs β), κ β k = ms.bind k
theorem cons_eq {m : Rs D} {ms : Rs (List D)} {κ : Kt} (h : ∀ (β : Type) (k : List D → Rs β), κ β k = ms.bind k) (β : Type) (k : List D → Rs β) :
    (m.bind fun x => κ β fun xs => k (x :: xs)) = (m.bind fun x => ms.bind fun xs => .ok (x :: xs)).bind k := by
  rw [Rs.assoc]
  cases m with
  | ok x =>
    simp only [Rs.bind_ok]
    rw [h, Rs.assoc]
    rfl
  | ex c fs => rfl
  | no => rfl
section
variable {X : Cx} {G : Gd} {W : WX} {ρ : Rho} {e : Expr} {es : List Expr} {m : Rs D} {κ : Kt} {pos p : Pos}
theorem ac_nil : AC X G W ρ [] (fun β k => k []) := ⟨_, av_nil, fun _ _ => rfl⟩
theorem ac_cons (ha : EV X G W ρ e m) (hr : AC X G W ρ es κ) (hs : starEach (e :: es) X.env = (false, eval e X.env) :: starEach es X.env := by rfl) : AC X G W ρ (e :: es) (fun β k => m.bind fun x => κ β fun xs => k (x :: xs)) := by
  obtain ⟨ms, h1, h2⟩ := hr
  exact ⟨_, av_cons ha h1 hs, cons_eq h2⟩
theorem oc_nil : OC X G W ρ [] (fun β k => k []) := ⟨_, ao_nil, fun _ _ => rfl⟩
theorem oc_cons (ha : EO X G W ρ e m) (hr : OC X G W ρ es κ) (hs : starEach (e :: es) X.env = (false, eval e X.env) :: starEach es X.env := by rfl) : OC X G W ρ (e :: es) (fun β k => m.bind fun x => κ β fun xs => k (x :: xs)) := by
  obtain ⟨ms, h1, h2⟩ := hr
  exact ⟨_, ao_cons ha h1 hs, cons_eq h2⟩
theorem ev_tupC {x1} (h : AC X G W ρ es κ) (hl : Nat.ble es.length sizeLine = true := by rfl) : EV X G W ρ (.Tuple es x1 pos) (κ D fun xs => .ok (.tup xs)) := by
  obtain ⟨ms, h1, h2⟩ := h
  rw [h2]
  exact ev_tupM h1 (Nat.le_of_ble_eq_true hl)
theorem ev_lstC (h : AC X G W ρ es κ) (hl : Nat.ble es.length sizeLine = true := by rfl) : EV X G W ρ (.List es pos) (κ D fun xs => .ok (.lst xs)) := by
  obtain ⟨ms, h1, h2⟩ := h
  rw [h2]
  exact ev_lstM h1 (Nat.le_of_ble_eq_true hl)
theorem ef_lstC (h : AC X G W ρ es κ) (hl : Nat.ble es.length sizeLine = true := by rfl) : EF X G W ρ (.List es pos) (κ (List D) fun xs => .ok xs) := by
  obtain ⟨ms, h1, h2⟩ := h
  rw [h2, Rs.bind_id]
  exact ef_lstM h1 (Nat.le_of_ble_eq_true hl)
theorem ev_callC {k : Nat} {f : Addr} {fd : FuncData} {ps : List Str} {m : List D → Rs D} {x : Str} (tk : Takes X W) (Fk : Keeps X.prog X.w X.K X.mg X.base k f fd ps m) (hr : Room k X.A) (hm : X.mg x = some (.ref f)) (hk : PySem.W.keepIn X.K (.ref f) = true)
    (hb : Binds X.K fd ps []) (ha : AC X G W ρ (e :: es) κ) (hln : (e :: es).length = ps.length := by rfl) (hg : Gl X x := by rfl) (hdb : (x == ("__debug__" : Str)) = false := by decide) (he : starEach (e :: es) X.env = (false, eval e X.env) :: starEach es X.env := by rfl)
    (hpl : (backTo pos (starEach es X.env)).any (·.1) = false := by rfl) : EV X G W ρ (.Call (.Name x p) (e :: es) [] pos) (κ D m) := by
  obtain ⟨ms, h1, h2⟩ := ha
  rw [h2]
  exact ev_call tk Fk hr hm hk hb h1 hln hg hdb he hpl
theorem ev_callBC {id : String} {x : Str} {r : List V → Hp → VK → Prop} {f : List D → Option D} (hc : CallR X (.builtin id) r) (hf : RCok X.K r f) (hm : X.mg x = none) (hv : bootBuiltins x = some (.builtin id)) (ha : OC X G W ρ (e :: es) κ) (hg : Gl X x := by rfl) (hn : x ≠ "__name__" := by decide)
    (hdb : (x == ("__debug__" : Str)) = false := by decide) (he : starEach (e :: es) X.env = (false, eval e X.env) :: starEach es X.env := by rfl) (hpl : (backTo pos (starEach es X.env)).any (·.1) = false := by rfl) : EV X G W ρ (.Call (.Name x p) (e :: es) [] pos) (κ D fun ds => Rs.of (f ds)) := by
  obtain ⟨ms, h1, h2⟩ := ha
  rw [h2]
  exact ev_callB hc hf hm hv h1 hg hn hdb he hpl
theorem ev_callTyC {id : String} {x : Str} {r : List V → Hp → VK → Prop} {f : List D → Option D} (hc : CallR X (.type id) r) (hf : RCok X.K r f) (hm : X.mg x = none) (hv : bootBuiltins x = some (.type id)) (ha : OC X G W ρ (e :: es) κ) (hg : Gl X x := by rfl) (hn : x ≠ "__name__" := by decide)
    (hdb : (x == ("__debug__" : Str)) = false := by decide) (he : starEach (e :: es) X.env = (false, eval e X.env) :: starEach es X.env := by rfl) (hpl : (backTo pos (starEach es X.env)).any (·.1) = false := by rfl) : EV X G W ρ (.Call (.Name x p) (e :: es) [] pos) (κ D fun ds => Rs.of (f ds)) := by
  obtain ⟨ms, h1, h2⟩ := ha
  rw [h2]
  exact ev_callTy hc hf hm hv h1 hg hn hdb he hpl
end
end VL
set_option Elab.async false
set_option linter.all false
set_option maxRecDepth 100000
set_option autoImplicit false
namespace VL
open PySem PySem.Spec L2
open PyProof.Rows hiding St

/-! ### expressions that change the list in slot i -/
/-- growth beside the cell b, which may change -/
structure ExtB (b : Addr) (F H F' H' : Hp) : Prop where
  same : ∀ a o, a ≠ b → H a = some o → H' a = some o
  there : ∃ o, H' b = some o ∧ nT o
  sub : Same F' H'
  ext : Same F F'
  new : ∀ a o, F' a = some o → F a = some o ∨ Nw H a o
theorem Ext.toB {b : Addr} {F H F' H' : Hp} {o : HO} (e : Ext F H F' H') (h : H b = some o) (t : nT o) : ExtB b F H F' H' := ⟨fun a o _ q => e.same a o q, ⟨o, e.same _ _ h, t⟩, e.sub, e.ext, e.new⟩
theorem ExtB.trans {b : Addr} {F H F1 H1 F2 H2 : Hp} (x : ExtB b F H F1 H1) (y : ExtB b F1 H1 F2 H2) : ExtB b F H F2 H2 :=
  ⟨fun a o n q => y.same a o n (x.same a o n q), y.there, y.sub, x.ext.trans y.ext, fun a o q => by
    rcases y.new a o q with z | z
    · exact x.new a o z
    · refine .inr ?_
      by_cases e : a = b
      · subst e
        obtain ⟨o2, q2, nt_⟩ := x.there
        exact (z.not q2 nt_).elim
      · exact z.back fun o' q3 => x.same a o' e q3⟩
theorem ExtB.stays {b : Addr} {F H F' H' : Hp} {p : Addr} {o : HO} (e : ExtB b F H F' H') (hf : F p = none) (h : H p = some o) (t : nT o) : F' p = none := by
  cases q : F' p with
  | none => rfl
  | some u =>
    rcases e.new p u q with z | z
    · rw [hf] at z
      cases z
    · exact (z.not h t).elim
theorem Own.moreB {K : PySem.W.Frag} {b : Addr} {F H F' H' : Hp} {a : Addr} {d : D} (e : ExtB b F H F' H') (n : a ≠ b) (h : Own K F H a d) : Own K F' H' a d := by
  obtain ⟨o, q, nt_⟩ := h.there
  exact h.move e.ext ((e.same _ _ n q).trans q.symm)
theorem Holds.moreB {K : PySem.W.Frag} {G : Gd} {ρ : Rho} {σ : St} {F H F' H' : Hp} {i : Nat} {l : Bool} {d d' : D} {b : Addr} (h : Holds K G ρ σ F H) (hi : ρ[i]? = some (some (.own l d))) (hb : σ[i]? = some (some (.ref b))) (e : ExtB b F H F' H') (ho : Own K F' H' b d') :
    Holds K G (ρ.set i (some (.own l d'))) σ F' H' := by
  obtain ⟨b', h1, hf, h0, hw⟩ := h.own i l d hi
  rw [hb] at h1
  cases h1
  obtain ⟨ob, hob, nt_⟩ := hw.there
  have il : i < ρ.length := by
    rcases Nat.lt_or_ge i ρ.length with z | z
    · exact z
    · rw [List.getElem?_eq_none z] at hi
      cases hi
  have nb : ∀ a o, G.H0 a = some o → a ∉ G.bs → a ≠ b := fun a o q n z => by
    subst z
    cases l with
    | true =>
      rw [h0.1] at q
      cases q
    | false => exact n h0
  refine ⟨⟨e.sub, fun a o q n => e.same a o (nb a o q n) (h.base a o q n), fun a ha => ?_, h.ext.trans e.ext, fun a o q => ?_⟩, fun j x q => ?_, fun j m x q => ?_, fun j k l1 l2 d1 d2 a n q1 q2 s1 s2 => ?_, by simpa using h.len⟩
  · by_cases z : a = b
    · subst z
      exact e.there
    · obtain ⟨o, q, t⟩ := h.bsT a ha
      exact ⟨o, e.same a o z q, t⟩
  · rcases e.new a o q with z | z
    · exact h.new a o z
    · exact .inr (h.toGnd.nwG z)
  · rcases set_at q with ⟨rfl, z⟩ | ⟨n, z⟩
    · cases z
    · obtain ⟨v, g1, g2⟩ := h.val j x z
      exact ⟨v, g1, g2.mono e.ext⟩
  · rcases set_at q with ⟨rfl, z⟩ | ⟨n, z⟩
    · cases z
      exact ⟨b, hb, e.stays hf hob nt_, h0, ho⟩
    · obtain ⟨a, g1, g2, g3, g4⟩ := h.own j m x z
      have ne : a ≠ b := fun z' => by
        subst z'
        exact h.sep i j _ _ _ _ a n hi z hb g1
      obtain ⟨oa, hoa, nt_⟩ := g4.there
      exact ⟨a, g1, e.stays g2 hoa nt_, g3, g4.moreB e ne⟩
  · rcases set_at q1 with ⟨rfl, z⟩ | ⟨n1, z1⟩
    · rcases set_at q2 with ⟨rfl, z2⟩ | ⟨n2, z2⟩
      · exact n rfl
      · exact h.sep _ _ _ _ _ _ a n hi z2 s1 s2
    · rcases set_at q2 with ⟨rfl, z2⟩ | ⟨n2, z2⟩
      · exact h.sep _ _ _ _ _ _ a n z1 hi s1 s2
      · exact h.sep j k l1 l2 d1 d2 a n z1 z2 s1 s2
/-- what is wanted: the value, and the list as it is then -/
def PostB {α β : Type} (K : PySem.W.Frag) (Rl : Hp → α → β → Prop) (b : Addr) (F H : Hp) (Q : α → Hp → Prop) : Rs (β × List D) → Prop
  | .ok r => ∀ v F' H', ExtB b F H F' H' → Rl F' v r.1 → Own K F' H' b (.lst r.2) → Q v H'
  | _ => False
theorem PostB.more {α β : Type} {K : PySem.W.Frag} {Rl : Hp → α → β → Prop} {b : Addr} {F H F' H' : Hp} {Q : α → Hp → Prop} {m : Rs (β × List D)} (h : PostB K Rl b F H Q m) (e : ExtB b F H F' H') : PostB K Rl b F' H' Q m := by
  cases m with
  | ok d => exact fun v F2 H2 e2 r => h v F2 H2 (e.trans e2) r
  | ex c fs => exact h
  | no => exact h
theorem PostB.bind {α β γ δ : Type} {K : PySem.W.Frag} {R1 : Hp → α → β → Prop} {R2 : Hp → γ → δ → Prop} {b : Addr} {F H : Hp} {Q1 : α → Hp → Prop} {Q : γ → Hp → Prop} {m : Rs (β × List D)} {f : β × List D → Rs (δ × List D)}
    (h : PostB K R2 b F H Q (m.bind f)) (k : ∀ r v F' H', ExtB b F H F' H' → R1 F' v r.1 → Own K F' H' b (.lst r.2) → PostB K R2 b F' H' Q (f r) → Q1 v H') : PostB K R1 b F H Q1 m := by
  cases m with
  | ok d => exact fun v F2 H2 e2 r o => k d v F2 H2 e2 r o (PostB.more h e2)
  | ex c fs => exact h
  | no => exact h
abbrev RFb (K : PySem.W.Frag) : Hp → V → D → Prop := fun F v d => Rep K F v d
abbrev RLb (K : PySem.W.Frag) : Hp → List V → List D → Prop := fun F v d => Reps K F v d
abbrev RBb : Hp → Bool → Bool → Prop := fun _ b c => b = c
/-- at slot i stands the list s -/
abbrev At (ρ : Rho) (i : Nat) (l : Bool) (s : List D) : Prop := ρ[i]? = some (some (.own l (.lst s)))
def EB (X : Cx) (G : Gd) (ρ : Rho) (i : Nat) (e : Expr) (m : Rs (D × List D)) : Prop :=
  ∀ F0 σ F H Q b, Holds X.K (G.at F0) ρ σ F H → σ[i]? = some (some (.ref b)) → PostB X.K (RFb X.K) b F H Q m → ∃ t, PE X e t ∧ t σ H Q
def AB (X : Cx) (G : Gd) (ρ : Rho) (i : Nat) (es : List Expr) (m : Rs (List D × List D)) : Prop :=
  (∀ r, m = .ok r → r.1.length = es.length) ∧ ∀ F0 σ F H Q b, Holds X.K (G.at F0) ρ σ F H → σ[i]? = some (some (.ref b)) → PostB X.K (RLb X.K) b F H Q m → ∃ t, PA X es t ∧ t σ H Q
def TB (X : Cx) (G : Gd) (ρ : Rho) (i : Nat) (e : Expr) (m : Rs (Bool × List D)) : Prop :=
  ∀ F0 σ F H Q b, Holds X.K (G.at F0) ρ σ F H → σ[i]? = some (some (.ref b)) → PostB X.K RBb b F H Q m → ∃ t, PT X e t ∧ t σ H Q
/-- the widest readings -/
def tAnyE (X : Cx) (e : Expr) : TE := fun σ H Q => ∃ t, PE X e t ∧ t σ H Q
theorem pe_any {X : Cx} {e : Expr} : PE X e (tAnyE X e) := ⟨fun pins s σ H Q I ⟨_, p, h⟩ => p.run pins s σ H Q I h⟩
def tAnyA (X : Cx) (es : List Expr) : TA := fun σ H Q => ∃ t, PA X es t ∧ t σ H Q
theorem pa_any {X : Cx} {es : List Expr} : PA X es (tAnyA X es) := ⟨fun pos pins s σ H Q I ⟨_, p, h⟩ => p.run pos pins s σ H Q I h⟩
def tAnyT (X : Cx) (e : Expr) : TT := fun σ H Q => ∃ t, PT X e t ∧ t σ H Q
theorem pt_any {X : Cx} {e : Expr} : PT X e (tAnyT X e) := ⟨fun pins s σ H Q I ⟨_, p, h⟩ => p.run pins s σ H Q I h⟩
section
variable {X : Cx} {G : Gd} {ρ : Rho} {i : Nat} {l : Bool} {s : List D} {e a b c : Expr} {es : List Expr} {pos p : Pos}
theorem post_toB {α β : Type} {K : PySem.W.Frag} {Rl : Hp → Hp → α → β → Prop} {Rb : Hp → α → β → Prop} {σ : St} {F0 F H : Hp} {bx : Addr} {Q : α → Hp → Prop} {m : Rs β} (hR : ∀ F H v d, Rl F H v d → Rb F v d) (hi : At ρ i l s) (hh : Holds K (G.at F0) ρ σ F H) (hb : σ[i]? = some (some (.ref bx)))
    (h : PostB K Rb bx F H Q (m.bind fun d => .ok (d, s))) : Post K Rl (fun c d H => W0 c d σ H) F H Q m := by
  cases m with
  | ok d =>
    intro v F' H' e1 r1
    obtain ⟨b', h1, hf, h0, hw⟩ := hh.own i l _ hi
    rw [hb] at h1
    cases h1
    obtain ⟨o, ho, nt_⟩ := hw.there
    exact h v F' H' (e1.toB ho nt_) (hR _ _ _ _ r1) (hw.ext e1)
  | ex c fs => exact h.elim
  | no => exact h.elim
theorem eb_pure {m : Rs D} (he : EV X G W0 ρ e m) (hi : At ρ i l s := by rfl) : EB X G ρ i e (m.bind fun d => .ok (d, s)) := by
  obtain ⟨t, p, q⟩ := he
  intro F0 σ F H Q b hh hb hp
  exact ⟨t, p, q F0 σ F H Q hh (post_toB (fun _ _ _ _ r => r) hi hh hb hp)⟩
theorem tb_pure {m : Rs Bool} (he : TV X G W0 ρ e m) (hi : At ρ i l s := by rfl) : TB X G ρ i e (m.bind fun d => .ok (d, s)) := by
  obtain ⟨t, p, q⟩ := he
  intro F0 σ F H Q b hh hb hp
  exact ⟨t, p, q F0 σ F H Q hh (post_toB (fun _ _ _ _ r => r) hi hh hb hp)⟩
theorem bin_B {r : R2} {f : D → D → Option D} {ma : Rs (D × List D)} {mb : List D → Rs (D × List D)} (hf : R2ok X.K r f) (ha : EB X G ρ i a ma) (hb : ∀ s', EB X G (ρ.set i (some (.own l (.lst s')))) i b (mb s')) (hi : At ρ i l s)
    {F0 : Hp} {σ : St} {F H : Hp} {Q : VK} {bx : Addr} (hh : Holds X.K (G.at F0) ρ σ F H) (hbx : σ[i]? = some (some (.ref bx))) (hp : PostB X.K (RFb X.K) bx F H Q (ma.bind fun u => (mb u.2).bind fun v => (Rs.of (f u.1 v.1)).bind fun d => .ok (d, v.2))) :
    tAnyE X a σ H fun x H1 => tAnyE X b σ H1 fun y H2 => r x y H2 Q := by
  refine ha F0 σ F H _ bx hh hbx (hp.bind fun u x F1 H1 e1 r1 o1 hp1 => ?_)
  refine hb u.2 F0 σ F1 H1 _ bx (hh.moreB hi hbx e1 o1) hbx (hp1.bind fun v y F2 H2 e2 r2 o2 hp2 => ?_)
  cases hd : f u.1 v.1 with
  | none => rw [hd] at hp2; exact hp2.elim
  | some d =>
    rw [hd] at hp2
    obtain ⟨ob, hob, nt_⟩ := o2.there
    exact hf e2.sub (.inl (r1.mono e2.ext)) (.inl r2) hd fun w F3 H3 e3 r3 => hp2 w F3 H3 (e3.toB hob nt_) r3 (o2.ext e3)
theorem eb_bin {op : Operator} {r : R2} {f : D → D → Option D} {ma : Rs (D × List D)} {mb : List D → Rs (D × List D)} (ho : OpR X (binaryOp op) r) (hf : R2ok X.K r f) (ha : EB X G ρ i a ma) (hb : ∀ s', EB X G (ρ.set i (some (.own l (.lst s')))) i b (mb s')) (hi : At ρ i l s := by rfl) :
    EB X G ρ i (.BinOp a op b pos) (ma.bind fun u => (mb u.2).bind fun v => (Rs.of (f u.1 v.1)).bind fun d => .ok (d, v.2)) := fun F0 σ F H Q bx hh hbx hp => ⟨_, pe_op ho pe_any pe_any, bin_B hf ha hb hi hh hbx hp⟩
theorem eb_cmp {op : CmpOp} {r : R2} {f : D → D → Option D} {ma : Rs (D × List D)} {mb : List D → Rs (D × List D)} (ho : OpR X (compareOp op) r) (hf : R2ok X.K r f) (ha : EB X G ρ i a ma) (hb : ∀ s', EB X G (ρ.set i (some (.own l (.lst s')))) i b (mb s')) (hm : behindInMarks op b = false) (hi : At ρ i l s := by rfl) :
    EB X G ρ i (.Compare a [op] [b] pos) (ma.bind fun u => (mb u.2).bind fun v => (Rs.of (f u.1 v.1)).bind fun d => .ok (d, v.2)) := fun F0 σ F H Q bx hh hbx hp => ⟨_, pe_cmpR ho pe_any pe_any hm, bin_B hf ha hb hi hh hbx hp⟩
theorem eb_ix {r : R2} {f : D → D → Option D} {ma : Rs (D × List D)} {mb : List D → Rs (D × List D)} (ho : IxR X r) (hf : R2ok X.K r f) (ha : EB X G ρ i a ma) (hb : ∀ s', EB X G (ρ.set i (some (.own l (.lst s')))) i b (mb s')) (hm : PlainIx b) (hi : At ρ i l s := by rfl) :
    EB X G ρ i (.Subscript a b pos) (ma.bind fun u => (mb u.2).bind fun v => (Rs.of (f u.1 v.1)).bind fun d => .ok (d, v.2)) := fun F0 σ F H Q bx hh hbx hp => ⟨_, pe_ix ho pe_any pe_any hm, bin_B hf ha hb hi hh hbx hp⟩
/-! tests -/
theorem tb_val {m : Rs (D × List D)} (ha : EB X G ρ i a m) (he : ∀ whole, isTrue a X.env whole = (do let v ← whole; standAt a.pos; holding [v] (truthy v)) := by intro _; rfl) : TB X G ρ i a (m.bind fun u => (Rs.of (asB u.1)).bind fun k => .ok (k, u.2)) := by
  intro F0 σ F H Q bx hh hbx hp
  refine ⟨_, pt_val pe_any he, ha F0 σ F H _ bx hh hbx (hp.bind fun u x F1 H1 e1 r1 o1 hp1 => ?_)⟩
  obtain ⟨ob, hob, nt_⟩ := o1.there
  obtain ⟨d, s'⟩ := u
  have r1' : Rep X.K F1 x d := r1
  cases r1' with
  | bl k => exact ⟨k, rfl, hp1 _ F1 H1 ((Ext.refl e1.sub).toB hob nt_) rfl o1⟩
  | _ => exact hp1.elim
theorem tb_cmp {op : CmpOp} {r : R2} {f : D → D → Option D} {g : D → D → Option Bool} {ma : Rs (D × List D)} {mb : List D → Rs (D × List D)} (ho : OpR X (compareOp op) r) (hf : R2ok X.K r f) (hg : Isb f g) (ha : EB X G ρ i a ma) (hb : ∀ s', EB X G (ρ.set i (some (.own l (.lst s')))) i b (mb s')) (hm : behindInMarks op b = false) (hi : At ρ i l s := by rfl) :
    TB X G ρ i (.Compare a [op] [b] pos) (ma.bind fun u => (mb u.2).bind fun v => (Rs.of (g u.1 v.1)).bind fun k => .ok (k, v.2)) := by
  intro F0 σ F H Q bx hh hbx hp
  refine ⟨_, pt_cmpR ho pe_any pe_any hm, ?_⟩
  refine bin_B (Q := fun x H' => ∃ k, x = .bl k ∧ Q k H') hf ha hb hi hh hbx ?_
  cases ma with
  | ex c fs => exact hp
  | no => exact hp
  | ok u =>
    simp only [Rs.bind_ok] at hp ⊢
    cases hmb : mb u.2 with
    | ex c fs => rw [hmb] at hp; exact hp
    | no => rw [hmb] at hp; exact hp
    | ok v =>
      rw [hmb] at hp
      simp only [Rs.bind_ok] at hp ⊢
      rw [hg]
      cases hgv : g u.1 v.1 with
      | none => rw [hgv] at hp; exact hp
      | some k =>
        rw [hgv] at hp
        exact fun w F' H' e1 r1 o1 => by cases r1; exact ⟨k, rfl, hp _ F' H' e1 rfl o1⟩
theorem tb_not {m : Rs (Bool × List D)} (ha : TB X G ρ i a m) : TB X G ρ i (.UnaryOp .Not a pos) (m.bind fun u => .ok (!u.1, u.2)) := by
  intro F0 σ F H Q bx hh hbx hp
  refine ⟨_, pt_not pt_any, ha F0 σ F H _ bx hh hbx (hp.bind fun u x F1 H1 e1 r1 o1 hp1 => ?_)⟩
  obtain ⟨ob, hob, nt_⟩ := o1.there
  have r1' : x = u.1 := r1
  subst r1'
  exact hp1 _ F1 H1 ((Ext.refl e1.sub).toB hob nt_) rfl o1
def TWB (X : Cx) (G : Gd) (ρ : Rho) (i : Nat) (e : Expr) (m : Rs (Bool × List D)) : Prop :=
  ∀ F0 σ F H Q b, Holds X.K (G.at F0) ρ σ F H → σ[i]? = some (some (.ref b)) → PostB X.K RBb b F H Q m → ∃ t, PW X e t ∧ t σ H Q
theorem TWB.tb {m : Rs (Bool × List D)} (h : TWB X G ρ i a m) : TB X G ρ i a m := fun F0 σ F H Q b hh hb hp => by
  obtain ⟨t, p, q⟩ := h F0 σ F H Q b hh hb hp
  exact ⟨t, p.pt, q⟩
theorem pw_any {e : Expr} : PW X e (fun σ H Q => ∃ t, PW X e t ∧ t σ H Q) := ⟨fun wh pins s σ H Q I ⟨_, p, h⟩ => p.run wh pins s σ H Q I h⟩
theorem twb_and1 {m : Rs (Bool × List D)} (ha : TB X G ρ i a m) : TWB X G ρ i (.BoolOp .And [a] pos) m := fun F0 σ F H Q b hh hb hp => ⟨_, pw_and1 pt_any, ha F0 σ F H Q b hh hb hp⟩
theorem twb_or1 {m : Rs (Bool × List D)} (ha : TB X G ρ i a m) : TWB X G ρ i (.BoolOp .Or [a] pos) m := fun F0 σ F H Q b hh hb hp => ⟨_, pw_or1 pt_any, ha F0 σ F H Q b hh hb hp⟩
theorem twb_and {rest : List Expr} {m : Rs (Bool × List D)} {m2 : List D → Rs (Bool × List D)} (ha : TB X G ρ i a m) (hb : ∀ s', TWB X G (ρ.set i (some (.own l (.lst s')))) i (.BoolOp .And (b :: rest) pos) (m2 s')) (hi : At ρ i l s := by rfl) :
    TWB X G ρ i (.BoolOp .And (a :: b :: rest) pos) (m.bind fun u => if u.1 then m2 u.2 else .ok (false, u.2)) := by
  intro F0 σ F H Q bx hh hbx hp
  refine ⟨_, pw_and pt_any pw_any, ha F0 σ F H _ bx hh hbx (hp.bind fun u x F1 H1 e1 r1 o1 hp1 => ?_)⟩
  obtain ⟨ob, hob, nt_⟩ := o1.there
  obtain ⟨k, s'⟩ := u
  have r1' : x = k := r1
  subst r1'
  cases x with
  | true => exact iteT (hb s' F0 σ F1 H1 Q bx (hh.moreB hi hbx e1 o1) hbx hp1)
  | false => exact iteF (hp1 _ F1 H1 ((Ext.refl e1.sub).toB hob nt_) rfl o1)
theorem twb_or {rest : List Expr} {m : Rs (Bool × List D)} {m2 : List D → Rs (Bool × List D)} (ha : TB X G ρ i a m) (hb : ∀ s', TWB X G (ρ.set i (some (.own l (.lst s')))) i (.BoolOp .Or (b :: rest) pos) (m2 s')) (hi : At ρ i l s := by rfl) :
    TWB X G ρ i (.BoolOp .Or (a :: b :: rest) pos) (m.bind fun u => if u.1 then .ok (true, u.2) else m2 u.2) := by
  intro F0 σ F H Q bx hh hbx hp
  refine ⟨_, pw_or pt_any pw_any, ha F0 σ F H _ bx hh hbx (hp.bind fun u x F1 H1 e1 r1 o1 hp1 => ?_)⟩
  obtain ⟨ob, hob, nt_⟩ := o1.there
  obtain ⟨k, s'⟩ := u
  have r1' : x = k := r1
  subst r1'
  cases x with
  | true => exact iteT (hp1 _ F1 H1 ((Ext.refl e1.sub).toB hob nt_) rfl o1)
  | false => exact iteF (hb s' F0 σ F1 H1 Q bx (hh.moreB hi hbx e1 o1) hbx hp1)
theorem eb_if {tc : Rs (Bool × List D)} {ma mb : List D → Rs (D × List D)} (hc : TB X G ρ i c tc) (ha : ∀ s', EB X G (ρ.set i (some (.own l (.lst s')))) i a (ma s')) (hb : ∀ s', EB X G (ρ.set i (some (.own l (.lst s')))) i b (mb s')) (hi : At ρ i l s := by rfl) :
    EB X G ρ i (.IfExp c a b pos) (tc.bind fun u => if u.1 then ma u.2 else mb u.2) := by
  intro F0 σ F H Q bx hh hbx hp
  refine ⟨_, pe_ifExp pt_any pe_any pe_any, hc F0 σ F H _ bx hh hbx (hp.bind fun u x F1 H1 e1 r1 o1 hp1 => ?_)⟩
  obtain ⟨k, s'⟩ := u
  have r1' : x = k := r1
  subst r1'
  cases x with
  | true => exact iteT (ha s' F0 σ F1 H1 Q bx (hh.moreB hi hbx e1 o1) hbx hp1)
  | false => exact iteF (hb s' F0 σ F1 H1 Q bx (hh.moreB hi hbx e1 o1) hbx hp1)
/-! arguments, displays -/
theorem ab_nil (hi : At ρ i l s := by rfl) : AB X G ρ i [] (.ok ([], s)) := ⟨fun r h => by cases h; rfl, fun F0 σ F H Q b hh hb hp => by
  obtain ⟨b', h1, hf, h0, hw⟩ := hh.own i l _ hi
  rw [hb] at h1
  cases h1
  obtain ⟨o, ho, nt_⟩ := hw.there
  exact ⟨_, pa_nil, hp [] F H ((Ext.refl hh.sub).toB ho nt_) .nil hw⟩⟩
theorem ab_cons {m : Rs (D × List D)} {ms : List D → Rs (List D × List D)} (ha : EB X G ρ i e m) (hr : ∀ s', AB X G (ρ.set i (some (.own l (.lst s')))) i es (ms s')) (hs : starEach (e :: es) X.env = (false, eval e X.env) :: starEach es X.env := by rfl) (hi : At ρ i l s := by rfl) :
    AB X G ρ i (e :: es) (m.bind fun u => (ms u.2).bind fun v => .ok (u.1 :: v.1, v.2)) := by
  refine ⟨fun r h => ?_, fun F0 σ F H Q bx hh hbx hp => ⟨_, pa_cons pe_any pa_any hs, ?_⟩⟩
  · cases m with
    | ok u =>
      simp only [Rs.bind_ok] at h
      cases hm : ms u.2 with
      | ok v =>
        rw [hm] at h
        cases h
        exact congrArg (· + 1) ((hr u.2).1 v hm)
      | ex c fs => rw [hm] at h; cases h
      | no => rw [hm] at h; cases h
    | ex c fs => cases h
    | no => cases h
  · refine ha F0 σ F H _ bx hh hbx (hp.bind fun u x F1 H1 e1 r1 o1 hp1 => ?_)
    refine (hr u.2).2 F0 σ F1 H1 _ bx (hh.moreB hi hbx e1 o1) hbx (hp1.bind fun v y F2 H2 e2 r2 o2 hp2 => ?_)
    obtain ⟨ob, hob, nt_⟩ := o2.there
    exact hp2 _ F2 H2 ((Ext.refl e2.sub).toB hob nt_) (.cons (r1.mono e2.ext) r2) o2
theorem eb_tup {x1} {ms : Rs (List D × List D)} (h : AB X G ρ i es ms) (hl : Nat.ble es.length sizeLine = true := by rfl) : EB X G ρ i (.Tuple es x1 pos) (ms.bind fun v => .ok (.tup v.1, v.2)) := by
  intro F0 σ F H Q bx hh hbx hp
  refine ⟨_, pe_tup pa_any, h.2 F0 σ F H _ bx hh hbx ?_⟩
  cases ms with
  | ex c fs => exact hp
  | no => exact hp
  | ok v =>
    intro xs F1 H1 e1 r1 o1
    obtain ⟨ob, hob, nt_⟩ := o1.there
    have l2 : xs.length ≤ sizeLine := by
      rw [Reps.length r1, h.1 v rfl]
      exact Nat.le_of_ble_eq_true hl
    exact ⟨l2, fun q hn => hp _ _ _ (e1.trans ((Ext.fresh e1.sub _ hn).toB hob nt_)) (new_tup e1.sub hn l2 r1) (o1.ext (Ext.fresh e1.sub _ hn))⟩
theorem eb_lst {ms : Rs (List D × List D)} (h : AB X G ρ i es ms) (hl : Nat.ble es.length sizeLine = true := by rfl) : EB X G ρ i (.List es pos) (ms.bind fun v => .ok (.lst v.1, v.2)) := by
  intro F0 σ F H Q bx hh hbx hp
  refine ⟨_, pe_lst pa_any, h.2 F0 σ F H _ bx hh hbx ?_⟩
  cases ms with
  | ex c fs => exact hp
  | no => exact hp
  | ok v =>
    intro xs F1 H1 e1 r1 o1
    obtain ⟨ob, hob, nt_⟩ := o1.there
    have l2 : xs.length ≤ sizeLine := by
      rw [Reps.length r1, h.1 v rfl]
      exact Nat.le_of_ble_eq_true hl
    exact ⟨l2, fun q hn => hp _ _ _ (e1.trans ((Ext.fresh e1.sub _ hn).toB hob nt_)) (new_lst e1.sub hn l2 r1) (o1.ext (Ext.fresh e1.sub _ hn))⟩
theorem reps_h {K : PySem.W.Frag} {F H : Hp} : ∀ {vs : List V} {ds : List D}, Reps K F vs ds → RepHs K F H vs ds
  | _, _, .nil => .nil
  | _, _, .cons h r => .cons (.inl h) (reps_h r)
theorem eb_callB {id : String} {x : Str} {r : List V → Hp → VK → Prop} {f : List D → Option D} {ms : Rs (List D × List D)} (hc : CallR X (.builtin id) r) (hf : RCok X.K r f) (hm : X.mg x = none) (hv : bootBuiltins x = some (.builtin id)) (ha : AB X G ρ i (e :: es) ms) (hg : Gl X x := by rfl) (hn : x ≠ "__name__" := by decide)
    (hdb : (x == ("__debug__" : Str)) = false := by decide) (he : starEach (e :: es) X.env = (false, eval e X.env) :: starEach es X.env := by rfl) (hpl : (backTo pos (starEach es X.env)).any (·.1) = false := by rfl) : EB X G ρ i (.Call (.Name x p) (e :: es) [] pos) (ms.bind fun v => (Rs.of (f v.1)).bind fun d => .ok (d, v.2)) := by
  intro F0 σ F H Q bx hh hbx hp
  refine ⟨_, pe_callB hc hg hm hv pa_any hn hdb he hpl, ha.2 F0 σ F H _ bx hh hbx (hp.bind fun u xs F1 H1 e1 r1 o1 hp1 => ?_)⟩
  cases hd : f u.1 with
  | none => rw [hd] at hp1; exact hp1.elim
  | some d =>
    rw [hd] at hp1
    obtain ⟨ob, hob, nt_⟩ := o1.there
    exact hf e1.sub (reps_h r1) hd fun w F3 H3 e3 r3 => hp1 w F3 H3 (e3.toB hob nt_) r3 (o1.ext e3)
theorem eb_callTy {id : String} {x : Str} {r : List V → Hp → VK → Prop} {f : List D → Option D} {ms : Rs (List D × List D)} (hc : CallR X (.type id) r) (hf : RCok X.K r f) (hm : X.mg x = none) (hv : bootBuiltins x = some (.type id)) (ha : AB X G ρ i (e :: es) ms) (hg : Gl X x := by rfl) (hn : x ≠ "__name__" := by decide)
    (hdb : (x == ("__debug__" : Str)) = false := by decide) (he : starEach (e :: es) X.env = (false, eval e X.env) :: starEach es X.env := by rfl) (hpl : (backTo pos (starEach es X.env)).any (·.1) = false := by rfl) : EB X G ρ i (.Call (.Name x p) (e :: es) [] pos) (ms.bind fun v => (Rs.of (f v.1)).bind fun d => .ok (d, v.2)) := by
  intro F0 σ F H Q bx hh hbx hp
  refine ⟨_, pe_callTy hc hg hm hv pa_any hn hdb he hpl, ha.2 F0 σ F H _ bx hh hbx (hp.bind fun u xs F1 H1 e1 r1 o1 hp1 => ?_)⟩
  cases hd : f u.1 with
  | none => rw [hd] at hp1; exact hp1.elim
  | some d =>
    rw [hd] at hp1
    obtain ⟨ob, hob, nt_⟩ := o1.there
    exact hf e1.sub (reps_h r1) hd fun w F3 H3 e3 r3 => hp1 w F3 H3 (e3.toB hob nt_) r3 (o1.ext e3)
/-- f(..), f a def of data -/
theorem eb_own {k : Nat} {f : Addr} {fd : FuncData} {ps : List Str} {m : List D → Rs D} {x : Str} {ms : Rs (List D × List D)} (Fk : Keeps X.prog X.w X.K X.mg X.base k f fd ps m) (hr : Room k X.A) (hm : X.mg x = some (.ref f)) (hk : PySem.W.keepIn X.K (.ref f) = true)
    (hb : Binds X.K fd ps []) (ha : AB X G ρ i (e :: es) ms) (hln : (e :: es).length = ps.length := by rfl) (hg : Gl X x := by rfl) (hdb : (x == ("__debug__" : Str)) = false := by decide) (he : starEach (e :: es) X.env = (false, eval e X.env) :: starEach es X.env := by rfl)
    (hpl : (backTo pos (starEach es X.env)).any (·.1) = false := by rfl) : EB X G ρ i (.Call (.Name x p) (e :: es) [] pos) (ms.bind fun v => (m v.1).bind fun d => .ok (d, v.2)) := by
  intro F0 σ F H Q bx hh hbx hp
  refine ⟨_, pe_callSD (E := WE W0) Fk hr hg hm hk hb .nil (fun σ => passAt takes0 σ) pa_any hdb he hpl, ha.2 F0 σ F H _ bx hh hbx ?_⟩
  cases ms with
  | ex c fs => exact hp
  | no => exact hp
  | ok v =>
    intro vs F' H' e1 r1 o1
    show spM X.K ps.length m (vs ++ []) H' Q _
    rw [List.append_nil]
    refine ⟨(Reps.length r1).trans ((ha.1 v rfl).trans hln), F', v.1, e1.sub, r1, ?_⟩
    simp only [Rs.bind_ok] at hp
    obtain ⟨ob, hob, nt_⟩ := o1.there
    cases hm : m v.1 with
    | ex c fs => rw [hm] at hp; exact hp.elim
    | no => rw [hm] at hp; exact hp.elim
    | ok d =>
      rw [hm] at hp
      exact fun w F2 H2 e2 r2 => hp w F2 H2 (e1.trans (e2.toB hob nt_)) r2 (o1.ext e2)
end
end VL
set_option Elab.async false
set_option linter.all false
set_option maxRecDepth 100000
set_option autoImplicit false
namespace VL
open PySem PySem.Spec L2
open PyProof.Rows hiding St

/-! ### defs that change a list handed in (their first argument) -/
def spIO (K : PySem.W.Frag) (n : Nat) (m : List D → List D → Rs (D × List D)) : Sp := fun vs H Q _ => vs.length = n ∧ ∃ b ws F ds s, vs = .ref b :: ws ∧ Same F H ∧ F b = none ∧ Own K F H b (.lst s) ∧ Reps K F ws ds ∧ PostB K (RFb K) b F H Q (m s ds)
abbrev KeepsIO (P : Program) (w : World) (K : PySem.W.Frag) (mg : Str → Option Value) (base : Heap) (k : Nat) (f : Addr) (fd : FuncData) (ps : List Str) (m : List D → List D → Rs (D × List D)) : Prop := FnOk P w K mg base (L2.CX P w) k f fd ps (spIO K ps.length m)
section
variable {X : Cx} {G : Gd} {ρ : Rho} {i : Nat} {l : Bool} {s : List D} {e a b c : Expr} {es : List Expr} {pos p p2 : Pos}
theorem eb_io {k : Nat} {f : Addr} {fd : FuncData} {ps : List Str} {m : List D → List D → Rs (D × List D)} {x bn : Str} {ms : Rs (List D × List D)} (Fk : KeepsIO X.prog X.w X.K X.mg X.base k f fd ps m) (hr : Room k X.A) (hm : X.mg x = some (.ref f)) (hk : PySem.W.keepIn X.K (.ref f) = true)
    (hb : Binds X.K fd ps []) (hv : PE X (.Name bn p2) (tVar i)) (ha : AB X G ρ i es ms) (hi : At ρ i l s := by rfl) (hln : es.length + 1 = ps.length := by rfl) (hg : Gl X x := by rfl) (hdb : (x == ("__debug__" : Str)) = false := by decide) (he : starEach (.Name bn p2 :: es) X.env = (false, eval (.Name bn p2) X.env) :: starEach es X.env := by rfl)
    (hpl : (backTo pos (starEach es X.env)).any (·.1) = false := by rfl) : EB X G ρ i (.Call (.Name x p) (.Name bn p2 :: es) [] pos) (ms.bind fun v => m v.2 v.1) := by
  intro F0 σ F H Q bx hh hbx hp
  refine ⟨_, pe_callSD (E := WE W0) Fk hr hg hm hk hb .nil (fun σ => passAt takes0 σ) (pa_cons hv pa_any he) hdb he hpl, _, hbx, ha.2 F0 σ F H _ bx hh hbx ?_⟩
  cases ms with
  | ex c fs => exact hp
  | no => exact hp
  | ok v =>
    intro ws F' H' e1 r1 o1
    show spIO X.K ps.length m (.ref bx :: ws ++ []) H' Q _
    rw [List.append_nil]
    obtain ⟨b', h1, hf, h0, hw⟩ := hh.own i l _ hi
    rw [hbx] at h1
    cases h1
    obtain ⟨o, ho, nt_⟩ := hw.there
    refine ⟨by rw [List.length_cons, Reps.length r1, ha.1 v rfl]; exact hln, bx, ws, F', v.1, v.2, rfl, e1.sub, e1.stays hf ho nt_, o1, r1, PostB.more (m := m v.2 v.1) hp e1⟩
end
/-! ### statements -/
section
variable {X : Cx} {G : Gd} {W : WX} {ρx ρ : Rho} {rest sts : List Stmt} {α β R : Type} {pn : α → Rho} {pl : β → Rho} {ι : R → Fl α β} {i : Nat} {l : Bool} {s : List D}
theorem postS_noX {γ : Type} {F0 : Hp} {E : Ends} {m : Rs γ} {f : γ → Rs (Fl α β)} (h : PostS X.K (G.at F0) W ρx pn pl E (m.noX.bind f)) : ∃ r, m = .ok r ∧ PostS X.K (G.at F0) W ρx pn pl E (f r) := by
  cases m with
  | ok r => exact ⟨r, rfl, h⟩
  | ex c fs => exact h.elim
  | no => exact h.elim
theorem box_at {F0 : Hp} {σ : St} {F H : Hp} (hh : Holds X.K (G.at F0) ρ σ F H) (hi : At ρ i l s) : ∃ b, σ[i]? = some (some (.ref b)) := by
  obtain ⟨b, h1, _⟩ := hh.own i l _ hi
  exact ⟨b, h1⟩
theorem bk_setB {j : Nat} {x : Str} {e : Expr} {pos pos' : Pos} {m : Rs (D × List D)} {f : D → List D → Rs (Fl α β)} (nd : X.N.Nodup) (he : EB X G ρ i e m) (hr : ∀ d s', BK X G W ρx ((ρ.set i (some (.own l (.lst s')))).set j (some (.val d))) rest pn pl (f d s')) (hi : At ρ i l s := by rfl) (hj : X.N[j]? = some x := by rfl)
    (hx : Loc X.env.scope x := by first | exact Or.inl rfl | exact Or.inr rfl) (hs : swapsWith e (some (.Name x pos')) pos.line X.env = pure false := by rfl) (hf : X.fn x = true ∨ X.env.scope.names.lookup x = some .local := by first | exact .inl rfl | exact .inr rfl) (hl : j < ρ.length := by exact Nat.le_of_ble_eq_true rfl) :
    BK X G W ρx ρ (.Assign [.Name x pos'] e pos :: rest) pn pl (m.noX.bind fun u => f u.1 u.2) := by
  intro F0 σ F H E hh hp
  obtain ⟨r, rfl, hp⟩ := postS_noX hp
  obtain ⟨b, hb⟩ := box_at hh hi
  refine any_cons (ps_set nd hj hx pe_any hs hf) (he F0 σ F H _ b hh hb fun v F' H' e1 r1 o1 => ?_)
  exact hr r.1 r.2 F0 _ F' H' E ((hh.moreB hi hb e1 o1).setV r1 (by rw [List.length_set]; exact hl)) hp
theorem bi_setB {j : Nat} {x : Str} {e : Expr} {pos pos' : Pos} {m : Rs (D × List D)} {f : D → List D → Rs R} (nd : X.N.Nodup) (he : EB X G ρ i e m) (hr : ∀ d s', BI X G W ρx ((ρ.set i (some (.own l (.lst s')))).set j (some (.val d))) rest pn pl ι (f d s')) (hi : At ρ i l s := by rfl) (hj : X.N[j]? = some x := by rfl)
    (hx : Loc X.env.scope x := by first | exact Or.inl rfl | exact Or.inr rfl) (hs : swapsWith e (some (.Name x pos')) pos.line X.env = pure false := by rfl) (hf : X.fn x = true ∨ X.env.scope.names.lookup x = some .local := by first | exact .inl rfl | exact .inr rfl) (hl : j < ρ.length := by exact Nat.le_of_ble_eq_true rfl) :
    BI X G W ρx ρ (.Assign [.Name x pos'] e pos :: rest) pn pl ι (m.noX.bind fun u => f u.1 u.2) := by
  unfold BI
  rw [Rs.assoc]
  exact bk_setB nd he hr hi hj hx hs hf hl
/-- the def hands back a value and the list as it is -/
abbrev ioI {α β : Type} : D × List D → Fl α β := fun p => .rt p.1 [.lst p.2]
theorem bk_retB {e : Expr} {pos : Pos} {b : Addr} {m : Rs (D × List D)} (he : EB X G ρ i e m) (hi : At ρ i false s := by rfl) (hb : G.bs = [b] := by rfl) : BI X G W ρx ρ (.Return (some e) pos :: rest) pn pl ioI m.noX := by
  intro F0 σ F H E hh hp
  have hp' : PostS X.K (G.at F0) W ρx pn pl E (m.noX.bind fun r => (.ok (ioI r) : Rs (Fl α β))) := hp
  obtain ⟨r, rfl, hp2⟩ := postS_noX hp'
  obtain ⟨b', hb'⟩ := box_at hh hi
  refine any_cons (ps_ret pe_any) (he F0 σ F H _ b' hh hb' fun v F' H' e1 r1 o1 => ?_)
  have hh1 := hh.moreB hi hb' e1 o1
  have hi2 : (ρ.set i (some (.own false (.lst r.2))))[i]? = some (some (Cl.own false (.lst r.2))) := by
    rw [List.getElem?_set_self]
    rcases Nat.lt_or_ge i ρ.length with z | z
    · exact z
    · have hi' : ρ[i]? = _ := hi
      rw [List.getElem?_eq_none z] at hi'
      cases hi'
  obtain ⟨a, g1, g2, g3, g4⟩ := hh1.own i false _ hi2
  refine hp2 v F' H' hh1.toGnd r1 ?_
  have g3' : a ∈ G.bs := g3
  show OwnsL X.K F' H' G.bs _
  rw [hb] at g3' ⊢
  cases List.mem_singleton.mp g3'
  refine ⟨rfl, fun j a' q' => ?_⟩
  cases j with
  | zero =>
    cases q'
    exact ⟨g2, _, rfl, g4⟩
  | succ j => simp at q'
theorem bi_retP {e : Expr} {pos : Pos} {b : Addr} {m : Rs D} (he : EV X G W ρ e m) (hi : At ρ i false s := by rfl) (hb : G.bs = [b] := by rfl) (wx : Wk ρ ρx := by first | exact Wk.nil | exact Wk.refl | (repeat (first | exact Wk.nil | apply Wk.keep | apply Wk.drop))) : BI X G W ρx ρ (.Return (some e) pos :: rest) pn pl ioI (m.bind fun d => .ok (d, s)) := by
  unfold BI
  rw [Rs.assoc]
  exact bk_retIO (i := i) (b := b) (s := .lst s) he hi hb wx
theorem bk_appendB {j : Nat} {x : Str} {e : Expr} {xpos apos cpos pos : Pos} {l2 : Bool} {c : List D} {m : Rs (D × List D)} {f : List D → List D → Rs (Fl α β)} (hv : PE X (.Name x xpos) (tVar j)) (he : EB X G ρ i e m)
    (hr : ∀ c' s', BK X G W ρx ((ρ.set i (some (.own l (.lst s')))).set j (some (.own l2 (.lst c')))) rest pn pl (f c' s')) (hi : At ρ i l s := by rfl) (hj : At ρ j l2 c := by rfl) (hij : i ≠ j := by decide)
    (hbase : attributeBase (.Name x xpos) "append" X.env (eval (.Name x xpos) X.env) = eval (.Name x xpos) X.env := by rfl)
    (hfew : ((backTo cpos (starEach [e] X.env)).all (fun x => !x.1) && (backToKw cpos (keywordEach [] X.env)).all (fun x => x.1.isSome) && decide ([e].length + ([] : List Keyword).length + (if ([] : List Keyword).isEmpty then 0 else 1) < 30)) = true := by rfl)
    (hst : starEach [e] X.env = (false, eval e X.env) :: starEach [] X.env := by rfl)
    (hline : (apos.endLine == cpos.line) = true := by rfl) (hs : swapsWith (.Call (.Attribute (.Name x xpos) "append" apos) [e] [] cpos) none pos.line X.env = pure false := by rfl) :
    BK X G W ρx ρ (.Expr (.Call (.Attribute (.Name x xpos) "append" apos) [e] [] cpos) pos :: rest) pn pl (m.noX.bind fun u => (Rs.of (appL c u.1)).bind fun c' => f c' u.2) := by
  intro F0 σ F H E hh hp
  obtain ⟨r, rfl, hp⟩ := postS_noX hp
  obtain ⟨b, hb⟩ := box_at hh hi
  refine any_cons (ps_expr (pe_bm PySem.F.plainAttrs_list PySem.F.slot_list_append PySem.F.type_list_append mt_append hv (pa_cons pe_any pa_nil hst) hbase hfew hline hst rfl) hs) ?_
  obtain ⟨a, h1, h2, h3, h4⟩ := hh.own j l2 _ hj
  obtain ⟨xs, h5, l5, r5⟩ := h4.asL
  refine ⟨.ref a, h1, .inl ⟨rfl, _, SqL.of h5⟩, ?_⟩
  refine he F0 σ F H _ b hh hb fun v F' H' e1 r1 o1 => ?_
  have hh1 := hh.moreB hi hb e1 o1
  have nab : a ≠ b := fun z => by
    subst z
    exact hh.sep i j _ _ _ _ a hij hi hj hb h1
  have h6 := e1.same _ _ nab h5
  unfold appL at hp
  split at hp
  · rename_i hlt
    have l6 : xs.length < sizeLine := by rw [r5.length]; exact hlt
    refine ⟨a, xs, v, rfl, rfl, h6, l6, ?_⟩
    have hj2 : (ρ.set i (some (.own l (.lst r.2))))[j]? = some (some (Cl.own l2 (.lst c))) := by rw [List.getElem?_set_ne hij]; exact hj
    refine hr _ _ F0 σ F' _ E (hh1.write hj2 h1 (.lst upd_same ?_ ((r5.mono e1.ext).append (.one r1)))) hp
    rw [List.length_append, List.length_singleton]
    exact l6
  · exact hp.elim
theorem bi_appendB {j : Nat} {x : Str} {e : Expr} {xpos apos cpos pos : Pos} {l2 : Bool} {c : List D} {m : Rs (D × List D)} {f : List D → List D → Rs R} (hv : PE X (.Name x xpos) (tVar j)) (he : EB X G ρ i e m)
    (hr : ∀ c' s', BI X G W ρx ((ρ.set i (some (.own l (.lst s')))).set j (some (.own l2 (.lst c')))) rest pn pl ι (f c' s')) (hi : At ρ i l s := by rfl) (hj : At ρ j l2 c := by rfl) (hij : i ≠ j := by decide)
    (hbase : attributeBase (.Name x xpos) "append" X.env (eval (.Name x xpos) X.env) = eval (.Name x xpos) X.env := by rfl)
    (hfew : ((backTo cpos (starEach [e] X.env)).all (fun x => !x.1) && (backToKw cpos (keywordEach [] X.env)).all (fun x => x.1.isSome) && decide ([e].length + ([] : List Keyword).length + (if ([] : List Keyword).isEmpty then 0 else 1) < 30)) = true := by rfl)
    (hst : starEach [e] X.env = (false, eval e X.env) :: starEach [] X.env := by rfl)
    (hline : (apos.endLine == cpos.line) = true := by rfl) (hs : swapsWith (.Call (.Attribute (.Name x xpos) "append" apos) [e] [] cpos) none pos.line X.env = pure false := by rfl) :
    BI X G W ρx ρ (.Expr (.Call (.Attribute (.Name x xpos) "append" apos) [e] [] cpos) pos :: rest) pn pl ι (m.noX.bind fun u => (Rs.of (appL c u.1)).bind fun c' => f c' u.2) := by
  unfold BI
  have z := bk_appendB (ρx := ρx) (W := W) (rest := rest) (pn := pn) (pl := pl) (f := fun c' s' => (f c' s').bind fun r => .ok (ι r)) hv he hr hi hj hij hbase hfew hst hline hs
  have e2 : ((m.noX.bind fun u => (Rs.of (appL c u.1)).bind fun c' => f c' u.2).bind fun r => (.ok (ι r) : Rs (Fl α β))) = m.noX.bind fun u => (Rs.of (appL c u.1)).bind fun c' => (f c' u.2).bind fun r => .ok (ι r) := by
    cases m <;> simp only [Rs.noX, Rs.bind_ok, Rs.bind_ex, Rs.bind_no, Rs.assoc]
  rw [e2]
  exact z
/-- ys.pop(k) -/
def popL (ys : List D) : D → Option (D × List D)
  | .int k => (ixN ys.length k).bind fun j => (ys[j]?).map fun d => (d, ys.eraseIdx j)
  | _ => none
/-- x.append(y.pop(e)) -/
theorem bk_appPop {j k : Nat} {x y : Str} {e : Expr} {xpos apos cpos ypos bpos dpos pos : Pos} {l2 l3 : Bool} {c ys : List D} {m : Rs (D × List D)} {f : List D → List D → List D → Rs (Fl α β)} (hv : PE X (.Name x xpos) (tVar j)) (hy : PE X (.Name y ypos) (tVar k)) (he : EB X G ρ i e m)
    (hr : ∀ c' ys' s', BK X G W ρx (((ρ.set i (some (.own l (.lst s')))).set k (some (.own l3 (.lst ys')))).set j (some (.own l2 (.lst c')))) rest pn pl (f c' ys' s')) (hi : At ρ i l s := by rfl) (hj : At ρ j l2 c := by rfl) (hk : At ρ k l3 ys := by rfl) (hij : i ≠ j := by decide) (hik : i ≠ k := by decide) (hkj : k ≠ j := by decide)
    (hbase : attributeBase (.Name x xpos) "append" X.env (eval (.Name x xpos) X.env) = eval (.Name x xpos) X.env := by rfl)
    (hbase2 : attributeBase (.Name y ypos) "pop" X.env (eval (.Name y ypos) X.env) = eval (.Name y ypos) X.env := by rfl)
    (hfew2 : ((backTo dpos (starEach [e] X.env)).all (fun x => !x.1) && (backToKw dpos (keywordEach [] X.env)).all (fun x => x.1.isSome) && decide ([e].length + ([] : List Keyword).length + (if ([] : List Keyword).isEmpty then 0 else 1) < 30)) = true := by rfl)
    (hst2 : starEach [e] X.env = (false, eval e X.env) :: starEach [] X.env := by rfl) (hline2 : (bpos.endLine == dpos.line) = true := by rfl)
    (hfew : ((backTo cpos (starEach [.Call (.Attribute (.Name y ypos) "pop" bpos) [e] [] dpos] X.env)).all (fun x => !x.1) && (backToKw cpos (keywordEach [] X.env)).all (fun x => x.1.isSome) && decide (([Expr.Call (Expr.Attribute (Expr.Name y ypos) "pop" bpos) [e] [] dpos] : List Expr).length + ([] : List Keyword).length + (if ([] : List Keyword).isEmpty then 0 else 1) < 30)) = true := by rfl)
    (hst : starEach [.Call (.Attribute (.Name y ypos) "pop" bpos) [e] [] dpos] X.env = (false, eval (.Call (.Attribute (.Name y ypos) "pop" bpos) [e] [] dpos) X.env) :: starEach [] X.env := by rfl)
    (hline : (apos.endLine == cpos.line) = true := by rfl) (hs : swapsWith (.Call (.Attribute (.Name x xpos) "append" apos) [.Call (.Attribute (.Name y ypos) "pop" bpos) [e] [] dpos] [] cpos) none pos.line X.env = pure false := by rfl) :
    BK X G W ρx ρ (.Expr (.Call (.Attribute (.Name x xpos) "append" apos) [.Call (.Attribute (.Name y ypos) "pop" bpos) [e] [] dpos] [] cpos) pos :: rest) pn pl (m.noX.bind fun u => (Rs.of (popL ys u.1)).bind fun q => (Rs.of (appL c q.1)).bind fun c' => f c' q.2 u.2) := by
  intro F0 σ F H E hh hp
  obtain ⟨r, hm, hp9⟩ := postS_noX hp
  clear hp
  subst hm
  have hp := hp9
  clear hp9
  obtain ⟨b, hb⟩ := box_at hh hi
  refine any_cons (ps_expr (pe_bm PySem.F.plainAttrs_list PySem.F.slot_list_append PySem.F.type_list_append mt_append hv (pa_cons (pe_bm PySem.F.plainAttrs_list PySem.F.slot_list_pop PySem.F.type_list_pop mt_popAt hy (pa_cons pe_any pa_nil hst2) hbase2 hfew2 hline2 hst2 rfl) pa_nil hst) hbase hfew hline hst rfl) hs) ?_
  obtain ⟨a, h1, h2, h3, h4⟩ := hh.own j l2 _ hj
  obtain ⟨xs, h5, l5, r5⟩ := h4.asL
  obtain ⟨ay, y1, y2, y3, y4⟩ := hh.own k l3 _ hk
  obtain ⟨vs, y5, ly, ry⟩ := y4.asL
  have nab : a ≠ b := fun z => by
    subst z
    exact hh.sep i j _ _ _ _ a hij hi hj hb h1
  have nyb : ay ≠ b := fun z => by
    subst z
    exact hh.sep i k _ _ _ _ ay hik hi hk hb y1
  have nya : a ≠ ay := fun z => by
    subst z
    exact hh.sep k j _ _ _ _ a hkj hk hj y1 h1
  refine ⟨.ref a, h1, .inl ⟨rfl, _, SqL.of h5⟩, .ref ay, y1, .inl ⟨rfl, _, SqL.of y5⟩, ?_⟩
  refine he F0 σ F H _ b hh hb fun v F' H' e1 r1 o1 => ?_
  have hh1 := hh.moreB hi hb e1 o1
  have h6 := e1.same _ _ nab h5
  have y6 := e1.same _ _ nyb y5
  obtain ⟨d, s'⟩ := r
  have r1' : Rep X.K F' v d := r1
  cases r1' with
  | int n =>
    cases hx : ixN ys.length n with
    | none =>
      simp only [popL, hx] at hp
      exact hp.elim
    | some jj =>
      simp only [popL, hx] at hp
      obtain ⟨q1, q2, q3, q4⟩ := ixN_seq hx
      have hg : ys[jj]? = some ys[jj] := List.getElem?_eq_getElem q2
      simp only [Option.bind_some, hg, Option.map_some, Rs.of_some, Rs.bind_ok] at hp
      obtain ⟨w, hw1, hw2⟩ := ry.get hg
      have lyl : ys.length ≤ sizeLine := by rw [← ry.length]; exact ly
      have hsl := line63
      refine ⟨ay, vs, n, jj, w, rfl, rfl, y6, by omega, by omega, by rw [ry.length]; exact q1, hw1, ?_⟩
      unfold appL at hp
      split at hp
      · rename_i hlt
        have l6 : xs.length < sizeLine := by rw [r5.length]; exact hlt
        have h7 : upd H' ay (.lst (vs.eraseIdx jj)) a = some (.lst xs) := by rw [upd_ne nya]; exact h6
        refine ⟨a, xs, w, rfl, rfl, h7, l6, ?_⟩
        have hk2 : (ρ.set i (some (.own l (.lst s'))))[k]? = some (some (Cl.own l3 (.lst ys))) := by rw [List.getElem?_set_ne hik]; exact hk
        have hh2 := hh1.write hk2 y1 (o := .lst (vs.eraseIdx jj)) (d' := .lst (ys.eraseIdx jj)) (.lst upd_same (Nat.le_trans (List.length_eraseIdx_le ..) ly) ((ry.mono e1.ext).eraseIdx jj))
        have hj2 : ((ρ.set i (some (.own l (.lst s')))).set k (some (.own l3 (.lst (ys.eraseIdx jj)))))[j]? = some (some (Cl.own l2 (.lst c))) := by rw [List.getElem?_set_ne hkj, List.getElem?_set_ne hij]; exact hj
        refine hr _ _ _ F0 σ F' _ E (hh2.write hj2 h1 (.lst upd_same ?_ ((r5.mono e1.ext).append (.one (hw2.mono e1.ext))))) hp
        rw [List.length_append, List.length_singleton]
        exact l6
      · exact hp.elim
  | _ => exact hp.elim
theorem bi_appPop {j k : Nat} {x y : Str} {e : Expr} {xpos apos cpos ypos bpos dpos pos : Pos} {l2 l3 : Bool} {c ys : List D} {m : Rs (D × List D)} {f : List D → List D → List D → Rs R} (hv : PE X (.Name x xpos) (tVar j)) (hy : PE X (.Name y ypos) (tVar k)) (he : EB X G ρ i e m)
    (hr : ∀ c' ys' s', BI X G W ρx (((ρ.set i (some (.own l (.lst s')))).set k (some (.own l3 (.lst ys')))).set j (some (.own l2 (.lst c')))) rest pn pl ι (f c' ys' s')) (hi : At ρ i l s := by rfl) (hj : At ρ j l2 c := by rfl) (hk : At ρ k l3 ys := by rfl) (hij : i ≠ j := by decide) (hik : i ≠ k := by decide) (hkj : k ≠ j := by decide)
    (hbase : attributeBase (.Name x xpos) "append" X.env (eval (.Name x xpos) X.env) = eval (.Name x xpos) X.env := by rfl)
    (hbase2 : attributeBase (.Name y ypos) "pop" X.env (eval (.Name y ypos) X.env) = eval (.Name y ypos) X.env := by rfl)
    (hfew2 : ((backTo dpos (starEach [e] X.env)).all (fun x => !x.1) && (backToKw dpos (keywordEach [] X.env)).all (fun x => x.1.isSome) && decide ([e].length + ([] : List Keyword).length + (if ([] : List Keyword).isEmpty then 0 else 1) < 30)) = true := by rfl)
    (hst2 : starEach [e] X.env = (false, eval e X.env) :: starEach [] X.env := by rfl) (hline2 : (bpos.endLine == dpos.line) = true := by rfl)
    (hfew : ((backTo cpos (starEach [.Call (.Attribute (.Name y ypos) "pop" bpos) [e] [] dpos] X.env)).all (fun x => !x.1) && (backToKw cpos (keywordEach [] X.env)).all (fun x => x.1.isSome) && decide (([Expr.Call (Expr.Attribute (Expr.Name y ypos) "pop" bpos) [e] [] dpos] : List Expr).length + ([] : List Keyword).length + (if ([] : List Keyword).isEmpty then 0 else 1) < 30)) = true := by rfl)
    (hst : starEach [.Call (.Attribute (.Name y ypos) "pop" bpos) [e] [] dpos] X.env = (false, eval (.Call (.Attribute (.Name y ypos) "pop" bpos) [e] [] dpos) X.env) :: starEach [] X.env := by rfl)
    (hline : (apos.endLine == cpos.line) = true := by rfl) (hs : swapsWith (.Call (.Attribute (.Name x xpos) "append" apos) [.Call (.Attribute (.Name y ypos) "pop" bpos) [e] [] dpos] [] cpos) none pos.line X.env = pure false := by rfl) :
    BI X G W ρx ρ (.Expr (.Call (.Attribute (.Name x xpos) "append" apos) [.Call (.Attribute (.Name y ypos) "pop" bpos) [e] [] dpos] [] cpos) pos :: rest) pn pl ι (m.noX.bind fun u => (Rs.of (popL ys u.1)).bind fun q => (Rs.of (appL c q.1)).bind fun c' => f c' q.2 u.2) := by
  unfold BI
  have z := bk_appPop (ρx := ρx) (W := W) (rest := rest) (pn := pn) (pl := pl) (f := fun c' ys' s' => (f c' ys' s').bind fun r => .ok (ι r)) hv hy he hr hi hj hk hij hik hkj hbase hbase2 hfew2 hst2 hline2 hfew hst hline hs
  have e2 : ((m.noX.bind fun u => (Rs.of (popL ys u.1)).bind fun q => (Rs.of (appL c q.1)).bind fun c' => f c' q.2 u.2).bind fun r => (.ok (ι r) : Rs (Fl α β))) = m.noX.bind fun u => (Rs.of (popL ys u.1)).bind fun q => (Rs.of (appL c q.1)).bind fun c' => (f c' q.2 u.2).bind fun r => .ok (ι r) := by
    cases m <;> simp only [Rs.noX, Rs.bind_ok, Rs.bind_ex, Rs.bind_no, Rs.assoc]
  rw [e2]
  exact z
/-! if, with draws in the test -/
theorem bi_if2B {c : Expr} {a b : List Stmt} {pos : Pos} {tc : Rs (Bool × List D)} {ma mb : List D → Rs R} (hc : TB X G ρ i c tc) (ha : ∀ s', BI X G W ρx (ρ.set i (some (.own l (.lst s')))) a pn pl ι (ma s')) (hb : ∀ s', BI X G W ρx (ρ.set i (some (.own l (.lst s')))) b pn pl ι (mb s')) (hi : At ρ i l s := by rfl) :
    BI X G W ρx ρ [.If c a b pos] pn pl ι (tc.noX.bind fun u => if u.1 then ma u.2 else mb u.2) := by
  intro F0 σ F H E hh hp
  rw [Rs.assoc] at hp
  obtain ⟨r, rfl, hp⟩ := postS_noX hp
  obtain ⟨bx, hbx⟩ := box_at hh hi
  refine any_one (ps_if pt_any pss_any pss_any) (hc F0 σ F H _ bx hh hbx fun v F' H' e1 r1 o1 => ?_)
  obtain ⟨k, s'⟩ := r
  have r1' : v = k := r1
  subst r1'
  cases v with
  | true => exact iteT (ha s' F0 σ F' H' E (hh.moreB hi hbx e1 o1) hp)
  | false => exact iteF (hb s' F0 σ F' H' E (hh.moreB hi hbx e1 o1) hp)
theorem bi_ifB {γ : Type} {p1 : γ → Rho} {c : Expr} {a b : List Stmt} {pos : Pos} {tc : Rs (Bool × List D)} {ma mb : List D → Rs γ} {f : γ → Rs R} (hc : TB X G ρ i c tc) (ha : ∀ s', BI X G W ρx (ρ.set i (some (.own l (.lst s')))) a p1 pl Fl.nx (ma s')) (hb : ∀ s', BI X G W ρx (ρ.set i (some (.own l (.lst s')))) b p1 pl Fl.nx (mb s'))
    (hr : ∀ z, BI X G W ρx (p1 z) rest pn pl ι (f z)) (hi : At ρ i l s := by rfl) : BI X G W ρx ρ (.If c a b pos :: rest) pn pl ι ((tc.noX.bind fun u => if u.1 then ma u.2 else mb u.2).bind f) := by
  intro F0 σ F H E hh hp
  rw [Rs.assoc, Rs.assoc] at hp
  obtain ⟨r, rfl, hp⟩ := postS_noX hp
  obtain ⟨bx, hbx⟩ := box_at hh hi
  refine any_cons (ps_if pt_any pss_any pss_any) (hc F0 σ F H _ bx hh hbx fun v F' H' e1 r1 o1 => ?_)
  obtain ⟨k, s'⟩ := r
  have r1' : v = k := r1
  subst r1'
  have key : ∀ {mm : Rs γ}, PostS X.K (G.at F0) W ρx pn pl E (mm.bind fun x => (f x).bind fun r => (.ok (ι r) : Rs (Fl α β))) → PostS X.K (G.at F0) W ρx p1 pl { E with nx := tAny X rest E } (mm.bind fun z => (.ok (.nx z) : Rs (Fl γ β))) := fun {mm} q => by
    cases mm with
    | ok z => exact fun σ F H hh => hr z F0 σ F H E hh q
    | ex cc fs => exact q
    | no => exact q
  cases v with
  | true => exact iteT (ha s' F0 σ F' H' _ (hh.moreB hi hbx e1 o1) (key hp))
  | false => exact iteF (hb s' F0 σ F' H' _ (hh.moreB hi hbx e1 o1) (key hp))
theorem bi_ifrB {c : Expr} {a : List Stmt} {pos : Pos} {tc : Rs (Bool × List D)} {ma mr : List D → Rs R} (ι' : R → Fl Empty β) (hι : ∀ r, (ι' r).lift = ι r) (hc : TB X G ρ i c tc) (ha : ∀ s', BI X G W ρx (ρ.set i (some (.own l (.lst s')))) a pEmp pl ι' (ma s')) (hr : ∀ s', BI X G W ρx (ρ.set i (some (.own l (.lst s')))) rest pn pl ι (mr s')) (hi : At ρ i l s := by rfl) :
    BI X G W ρx ρ (.If c a [] pos :: rest) pn pl ι (tc.noX.bind fun u => if u.1 then ma u.2 else mr u.2) := by
  intro F0 σ F H E hh hp
  rw [Rs.assoc] at hp
  obtain ⟨r, rfl, hp⟩ := postS_noX hp
  obtain ⟨bx, hbx⟩ := box_at hh hi
  refine any_cons (ps_if pt_any pss_any pss_nil) (hc F0 σ F H _ bx hh hbx fun v F' H' e1 r1 o1 => ?_)
  obtain ⟨k, s'⟩ := r
  have r1' : v = k := r1
  subst r1'
  cases v with
  | true =>
    refine iteT (ha s' F0 σ F' H' _ (hh.moreB hi hbx e1 o1) (postS_lift (pn := pn) ?_))
    have e : (liftF ((ma s').bind fun r => (.ok (ι' r) : Rs (Fl Empty β))) : Rs (Fl α β)) = (ma s').bind fun r => .ok (ι r) := by
      cases ma s' with
      | ok r => simp only [liftF, Rs.bind_ok, hι]
      | ex c fs => rfl
      | no => rfl
    rw [e]
    exact hp
  | false => exact iteF (hr s' F0 σ F' H' E (hh.moreB hi hbx e1 o1) hp)
/-- if with a pure test, the branch leaves, in a def that hands back its list -/
theorem bi_ifrI {c : Expr} {a : List Stmt} {pos : Pos} {tc : Rs Bool} {ma mr : Rs R} (ι' : R → Fl Empty β) (hι : ∀ r, (ι' r).lift = ι r) (hc : TV X G W ρ c tc) (ha : BI X G W ρx ρ a pEmp pl ι' ma) (hr : BI X G W ρx ρ rest pn pl ι mr) (wx : Wk ρ ρx := by first | exact Wk.nil | exact Wk.refl | (repeat (first | exact Wk.nil | apply Wk.keep | apply Wk.drop))) :
    BI X G W ρx ρ (.If c a [] pos :: rest) pn pl ι (tc.bind fun k => if k then ma else mr) := by
  unfold BI
  have z := bk_ifr hc ha hr wx (pos := pos)
  have e2 : ((tc.bind fun k => if k then ma else mr).bind fun r => (.ok (ι r) : Rs (Fl α β))) = tc.bind fun k => if k then liftF (ma.bind fun r => .ok (ι' r)) else (mr.bind fun r => .ok (ι r)) := by
    cases tc with
    | ok k =>
      cases k with
      | true =>
        cases ma with
        | ok r => simp only [liftF, Rs.bind_ok, if_true, hι]
        | ex c fs => rfl
        | no => rfl
      | false => rfl
    | ex c fs => rfl
    | no => rfl
  rw [e2]
  exact z
end
/-! ### a def that changes its first argument -/
theorem keeps_io {P : Program} {w : World} {K : PySem.W.Frag} {mg : Str → Option Value} {base : Heap} {x qual : Str} {params : Arguments} {body : List Stmt} {scope : Scope} {dvs : List V} {kws : List (Str × V)} {f : Addr} {fd : FuncData} {N ps : List Str} {k : Nat} {m : List D → List D → Rs (D × List D)}
    (Fd : FunD K x qual params body scope dvs kws f fd) (S : FnScope N ps scope)
    (hb : ∀ (cdv : Value) (A : Around) (outer : List Env) (s : Shared) (H : Hp) (E : XK) (F : Hp) (b : Addr) (s0 ds : List D), ds.length + 1 = ps.length → Room k (A.deeper (envOfC qual scope s.heap.objs.size f cdv)) →
      BI (cxOf (L2.CX P w) P w K mg base N qual scope f cdv A outer s H E) ⟨F, H, [b]⟩ (fun c d _ H => E c d H) [] (some (Cl.own false (.lst s0)) :: ds.map (fun d => some (Cl.val d)) ++ List.replicate (N.length - (ds.length + 1)) none) body (fun _ : Unit => []) (fun _ : Unit => []) ioI ((m s0 ds).noX)) :
    KeepsIO P w K mg base (k + 1) f fd ps m := by
  refine Fd.ok S (fun vs H Q E h => h.1) (fun cdv A outer s H vs Q E hr h => ?_)
  obtain ⟨hl, b, ws, F, ds, s0, rfl, hs, hFb, hob, hr1, hp⟩ := h
  have hlen : ds.length + 1 = ps.length := by rw [← hr1.length]; exact hl
  have hbk := hb cdv A outer s H E F b s0 ds hlen hr
  obtain ⟨ob, hobh, nt_⟩ := hob.there
  have at0 : ∀ (i : Nat) (c : Cl), (some (Cl.own false (.lst s0)) :: ds.map (fun d => some (Cl.val d)) ++ List.replicate (N.length - (ds.length + 1)) none)[i]? = some (some c) → (i = 0 ∧ c = .own false (.lst s0)) ∨ ∃ j d, i = j + 1 ∧ ds[j]? = some d ∧ c = .val d := fun i c q => by
    cases i with
    | zero => exact .inl ⟨rfl, by simpa using q.symm⟩
    | succ j =>
      obtain ⟨d, h1, h2⟩ := rho_start (ds := ds) (n := N.length - (ds.length + 1)) (i := j) (c := c) (by simpa using q)
      exact .inr ⟨j, d, rfl, h1, h2⟩
  refine hbk F (L2.start N (.ref b :: ws)) F H _ ⟨⟨hs, fun a o q _ => q, fun a q => ?_, Same.refl F, fun a o q => .inl q⟩, fun i d q => ?_, fun i l d q => ?_, fun i j l m' d e a n q q2 => ?_, ?_⟩ ?_
  · have : a = b := by simpa [Gd.at] using q
    subst this
    exact ⟨_, hobh, nt_⟩
  · rcases at0 i _ q with ⟨_, z⟩ | ⟨j, d', rfl, h1, h2⟩
    · cases z
    · cases h2
      obtain ⟨v, g1, g2⟩ := hr1.get h1
      refine ⟨v, ?_, g2⟩
      unfold L2.start
      rw [List.getElem?_append_left (by
        rw [List.length_map, List.length_cons]
        rcases Nat.lt_or_ge j ws.length with z | z
        · omega
        · rw [List.getElem?_eq_none z] at g1; cases g1), List.getElem?_map, List.getElem?_cons_succ, g1]
      rfl
  · rcases at0 i _ q with ⟨rfl, z⟩ | ⟨j, d', rfl, h1, h2⟩
    · cases z
      exact ⟨b, rfl, hFb, by simp [OwnAt, Gd.at], hob⟩
    · cases h2
  · rcases at0 i _ q with ⟨rfl, z⟩ | ⟨_, d', rfl, h1, h2⟩
    · rcases at0 j _ q2 with ⟨rfl, z2⟩ | ⟨_, d', rfl, h1, h2⟩
      · exact absurd rfl n
      · cases h2
    · cases h2
  · unfold L2.start
    simp only [List.length_append, List.length_map, List.length_cons, List.length_replicate]
    rw [hr1.length]
    exact Nat.le_refl _
  · cases hm : m s0 ds with
    | ex c fs => rw [hm] at hp; exact hp.elim
    | no => rw [hm] at hp; exact hp.elim
    | ok r =>
      rw [hm] at hp
      refine fun v F' H' g rv ow => ?_
      obtain ⟨_, ow⟩ := ow
      obtain ⟨f1, d, hd, ho⟩ := ow 0 b rfl
      cases hd
      obtain ⟨o', ho', nt_⟩ := ho.there
      refine hp v F' H' ⟨fun a o n q => g.base a o q (by simpa [Gd.at] using n), ⟨o', ho', nt_⟩, g.sub, g.ext, fun a o q => ?_⟩ rv ho
      rcases g.new a o q with z | z
      · exact .inl z
      · rcases z with z | z
        · exact .inr (.inl z.1)
        · exact .inr (.inr ⟨z.1, z.2.1⟩)
end VL
set_option Elab.async false
set_option linter.all false
set_option maxRecDepth 100000
set_option autoImplicit false
namespace VL
open PySem PySem.Spec L2
open PyProof.Rows hiding St

/-! ### comprehensions with draws -/
def PostN (K : PySem.W.Frag) (b : Addr) (F H : Hp) (Q : VK) : Rs (List D × List D) → Prop
  | .ok r => ∀ a F' H', ExtB b F H F' H' → H a = none → F' a = none → Own K F' H' a (.lst r.1) → Own K F' H' b (.lst r.2) → Q (.ref a) H'
  | _ => False
def tAnyI (X : Cx) (tg iter : Expr) : TI := fun σ H R => ∃ w, PI X tg iter w ∧ w σ H R
theorem pi_any {X : Cx} {tg iter : Expr} : PI X tg iter (tAnyI X tg iter) := ⟨fun pins s σ H R I ⟨_, p, h⟩ => p.run pins s σ H R I h⟩
def IB (X : Cx) (G : Gd) (ρ : Rho) (i : Nat) (tg iter : Expr) (m : Rs (List D × List D)) : Prop :=
  ∀ F0 σ F H R b, Holds X.K (G.at F0) ρ σ F H → σ[i]? = some (some (.ref b)) → PostB X.K (fun F' J ds => Walks X.K J F' ds) b F H R m → tAnyI X tg iter σ H R
def compBM {γ : Type} (u : D → Option γ) (fc : γ → List D → Rs (Bool × List D)) (fe : γ → List D → Rs (D × List D)) : List D → List D → Rs (List D × List D)
  | [], s => .ok ([], s)
  | d :: ds, s => (Rs.of (u d)).bind fun y => (fc y s).noX.bind fun b => if b.1 then (fe y b.2).noX.bind fun e => (compBM u fc fe ds e.2).bind fun es => .ok (e.1 :: es.1, es.2) else compBM u fc fe ds b.2
def TBs (X : Cx) (G : Gd) (ρ : Rho) (i : Nat) (ifs : List Expr) (m : Rs (Bool × List D)) : Prop :=
  ∀ F0 σ F H Q b, Holds X.K (G.at F0) ρ σ F H → σ[i]? = some (some (.ref b)) → PostB X.K RBb b F H Q m → ∃ t, PTs X ifs t ∧ t σ H Q
section
variable {X : Cx} {G : Gd} {ρ : Rho} {i : Nat} {l : Bool} {s : List D} {tg e a b c : Expr} {es : List Expr} {pos p p2 : Pos}
theorem tbs_nil (hi : At ρ i l s := by rfl) : TBs X G ρ i [] (.ok (true, s)) := fun F0 σ F H Q b hh hb hp => by
  obtain ⟨b', h1, hf, h0, hw⟩ := hh.own i l _ hi
  rw [hb] at h1
  cases h1
  obtain ⟨o, ho, nt_⟩ := hw.there
  exact ⟨_, pts_nil, hp true F H ((Ext.refl hh.sub).toB ho nt_) rfl hw⟩
theorem tbs_one {m : Rs (Bool × List D)} (h : TB X G ρ i c m) : TBs X G ρ i [c] m := fun F0 σ F H Q b hh hb hp => by
  obtain ⟨t, p, q⟩ := h F0 σ F H Q b hh hb hp
  exact ⟨t, pts_one p, q⟩
theorem ib_pure {m : Rs (List D)} (h : IT X G W0 ρ tg e m) (hi : At ρ i l s := by rfl) : IB X G ρ i tg e (m.bind fun ds => .ok (ds, s)) := by
  obtain ⟨w, p, q⟩ := h
  intro F0 σ F H R b hh hb hp
  exact ⟨w, p, q F0 σ F H R hh (post_toB (fun _ _ _ _ r => r) hi hh hb hp)⟩
theorem ib_range {m : Rs (D × List D)} (hg : Gl X "range") (hm : X.mg "range" = none) (h : EB X G ρ i e m) (hs : starEach [e] X.env = (false, eval e X.env) :: starEach [] X.env := by rfl) (hs2 : starEach [] X.env = [] := by rfl) :
    IB X G ρ i tg (.Call (.Name "range" p) [e] [] pos) (m.bind fun u => (Rs.of (rangeD u.1)).bind fun ds => .ok (ds, u.2)) := by
  intro F0 σ F H R b hh hb hp
  refine ⟨_, pi_range1 hg hm (pa_cons pe_any pa_nil hs) (hs.trans (by rw [hs2])), ?_⟩
  refine h F0 σ F H _ b hh hb (hp.bind fun u v F' H' e1 r1 o1 hp1 => ?_)
  obtain ⟨ob, hob, nt_⟩ := o1.there
  obtain ⟨d, s'⟩ := u
  have r1' : Rep X.K F' v d := r1
  cases r1' with
  | int n =>
    simp only [rangeD] at hp1
    split at hp1
    · rename_i hn
      exact ⟨n, rfl, by omega, by omega, hp1 _ F' H' ((Ext.refl e1.sub).toB hob nt_) (walks_range (Nat.le_trans (by omega : n.toNat ≤ 16000000) (by decide))) o1⟩
    · exact hp1.elim
  | _ => exact hp1.elim
theorem ib_seq {m : Rs (D × List D)} (h : EB X G ρ i e m) : IB X G ρ i tg e (m.bind fun u => (Rs.of (itemsD u.1)).bind fun ds => .ok (ds, u.2)) := by
  intro F0 σ F H R b hh hb hp
  cases m with
  | ex c fs => exact hp.elim
  | no => exact hp.elim
  | ok u =>
    obtain ⟨d, s'⟩ := u
    cases hd : itemsD d with
    | none => simp only [Rs.bind_ok, hd] at hp; exact hp.elim
    | some ds =>
      simp only [Rs.bind_ok, hd, Rs.of_some] at hp
      cases d with
      | lst es =>
        cases hd
        refine ⟨_, pi_list pe_any, h F0 σ F H _ b hh hb fun v F' H' e1 r1 o1 => ?_⟩
        have r1' : Rep X.K F' v (.lst ds) := r1
        cases r1' with
        | lst h1 l1 r1 => exact ⟨_, rfl, ⟨_, SqL.of (e1.sub _ _ h1)⟩, hp _ F' H' e1 (walks_list (SqL.of h1) l1 r1) o1⟩
      | scr es =>
        cases hd
        refine ⟨_, pi_list pe_any, h F0 σ F H _ b hh hb fun v F' H' e1 r1 o1 => ?_⟩
        have r1' : Rep X.K F' v (.scr ds) := r1
        cases r1' with
        | scr h1 l1 r1 => exact ⟨_, rfl, ⟨_, SqL.same e1.sub h1⟩, hp _ F' H' e1 (walks_list h1 l1 r1) o1⟩
      | tup es =>
        cases hd
        refine ⟨_, pi_tup pe_any, h F0 σ F H _ b hh hb fun v F' H' e1 r1 o1 => ?_⟩
        have r1' : Rep X.K F' v (.tup ds) := r1
        cases r1' with
        | tup h1 l1 r1 => exact ⟨_, rfl, ⟨_, SqT.same e1.sub h1.sq⟩, hp _ F' H' e1 (walks_tup h1.sq l1 r1) o1⟩
      | str z =>
        simp only [itemsD] at hd
        split at hd
        · rename_i hl
          cases hd
          refine ⟨_, pi_str pe_any, h F0 σ F H _ b hh hb fun v F' H' e1 r1 o1 => ?_⟩
          have r1' : Rep X.K F' v (.str z) := r1
          cases r1' with
          | str _ => exact ⟨z, rfl, hp _ F' H' e1 (walks_str hl) o1⟩
        · cases hd
      | _ => cases hd
theorem PostB.noX {α β γ δ : Type} {K : PySem.W.Frag} {R1 : Hp → α → β → Prop} {b : Addr} {F H : Hp} {Q1 : α → Hp → Prop} {m : Rs (β × List D)} (h : ∀ r, m = .ok r → ∀ v F' H', ExtB b F H F' H' → R1 F' v r.1 → Own K F' H' b (.lst r.2) → Q1 v H') (hn : m.noX ≠ .no) : PostB K R1 b F H Q1 m := by
  cases m with
  | ok d => exact h d rfl
  | ex c fs => exact absurd rfl hn
  | no => exact absurd rfl hn
theorem ExtB.beside {b : Addr} {F1 H1 F H : Hp} {p : Addr} {o : HO} (e : ExtB b F1 H1 F H) (h1 : H1 p = none) (hf : F p = none) (n : p ≠ b) : ExtB b F1 H1 F (upd H p o) :=
  ⟨fun c x nb q => by
    rw [upd_ne (ne_of_none q h1)]
    exact e.same _ _ nb q, by
    obtain ⟨o', q, nt_⟩ := e.there
    exact ⟨o', by rw [upd_ne (Ne.symm n)]; exact q, nt_⟩, fun c x q => by
    have n : c ≠ p := fun n => by
      subst n
      rw [hf] at q
      cases q
    rw [upd_ne n]
    exact e.sub _ _ q, e.ext, e.new⟩
theorem holds_box {K : PySem.W.Frag} {σ : St} {F0 F H : Hp} {bx : Addr} (hh : Holds K (G.at F0) ρ σ F H) (hi : At ρ i l s) (hb : σ[i]? = some (some (.ref bx))) : F bx = none ∧ Own K F H bx (.lst s) := by
  obtain ⟨b', h1, hf, h0, hw⟩ := hh.own i l _ hi
  rw [hb] at h1
  cases h1
  exact ⟨hf, hw⟩
theorem at_set {ρ : Rho} {i : Nat} {l : Bool} {s s' : List D} (h : At ρ i l s) : At (ρ.set i (some (.own l (.lst s')))) i l s' := by
  show (ρ.set i _)[i]? = _
  rw [List.getElem?_set_self]
  rcases Nat.lt_or_ge i ρ.length with z | z
  · exact z
  · have h' : ρ[i]? = _ := h
    rw [List.getElem?_eq_none z] at h'
    cases h'
theorem set_self_id {ρ : Rho} {i : Nat} {x : Option Cl} (h : ρ[i]? = some x) : ρ.set i x = ρ := by
  apply List.ext_getElem?
  intro j
  rcases Nat.decEq i j with n | rfl
  · rw [List.getElem?_set_ne n]
  · rw [h]
    rw [List.getElem?_set_self]
    rcases Nat.lt_or_ge i ρ.length with z | z
    · exact z
    · rw [List.getElem?_eq_none z] at h
      cases h
theorem lc_readB {γ : Type} {u : D → Option γ} {p : γ → List D → Rho} {is vs : List Nat} {iter elt : Expr} {ifs : List Expr} {scope : Scope} {mi : Rs (List D × List D)} {fc : γ → List D → Rs (Bool × List D)} {fe : γ → List D → Rs (D × List D)}
    (hi : At ρ i l s) (hiv : i ∉ vs) (qI : IB X G ρ i tg iter mi) (his : ∀ j ∈ is, j ∈ vs)
    (ht : ∀ s H C cl fp s', TT1 (XB X scope s H C cl fp) G tg (rWipe (ρ.set i (some (.own l (.lst s')))) vs) is u (fun y => p y s')) (hc : ∀ s H C cl fp y s', TBs (XB X scope s H C cl fp) G (p y s') i ifs (fc y s')) (he : ∀ s H C cl fp y s', EB (XB X scope s H C cl fp) G (p y s') i elt (fe y s'))
    (hpi : ∀ y s', At (p y s') i l s') (hps : ∀ y s' s'', (p y s').set i (some (.own l (.lst s''))) = p y s'')
    {F0 : Hp} {σ : St} {F H : Hp} {Q : VK} {bx : Addr} (hh : Holds X.K (G.at F0) ρ σ F H) (hbx : σ[i]? = some (some (.ref bx))) (hp : PostN X.K bx F H Q (mi.bind fun it => compBM u fc fe it.1 it.2)) :
    tLc (tAnyI X tg iter) (gAll X scope tg) (ttAll X scope ifs) (teAll X scope elt) vs σ H Q := by
  refine qI F0 σ F H _ bx hh hbx ?_
  cases mi with
  | ex c fs => exact hp
  | no => exact hp
  | ok it =>
  obtain ⟨items, s1⟩ := it
  have hp : PostN X.K bx F H Q (compBM u fc fe items s1) := hp
  intro J F1 H1 e1 hw ob1 D0 hD
  have hh1 := hh.moreB hi hbx e1 ob1
  have nD : D0 ≠ bx := fun z => by
    subst z
    obtain ⟨o, q, nt_⟩ := e1.there
    rw [hD] at q
    cases q
  have hDH : H D0 = none := by
    cases q : H D0 with
    | none => rfl
    | some o => rw [e1.same _ _ nD q] at hD; cases hD
  have h0 := hh1.toGnd.free0 hD
  have hno1 := fun j l e q => hh1.notOwn hD j l e q
  have hno : ∀ (s2 : List D) (j : Nat) (l' : Bool) (e : D), (ρ.set i (some (.own l (.lst s2))))[j]? = some (some (.own l' e)) → σ[j]? ≠ some (some (.ref D0)) := fun s2 j l' e q => by
    rcases set_at q with ⟨rfl, z⟩ | ⟨n, z⟩
    · rw [hbx]
      intro h
      cases h
      exact nD rfl
    · refine hno1 j l' e ?_
      show (ρ.set i _)[j]? = _
      rw [List.getElem?_set_ne n]
      exact z
  have hFD : F1 D0 = none := sub_none e1.sub hD
  refine ⟨fun k m H2 => m = items.length - k ∧ k ≤ items.length ∧ ∃ F2 acc s2, Holds X.K (G.at F0) (ρ.set i (some (.own l (.lst s2)))) σ F2 H2 ∧ ExtB bx F1 H1 F2 H2 ∧ F2 D0 = none ∧ Own X.K F2 H2 D0 (.lst acc) ∧ acc.length ≤ k ∧
      PostN X.K bx F H Q ((compBM u fc fe (items.drop k) s2).bind fun es => .ok (acc ++ es.1, es.2)), ⟨items.length, by simp, Nat.zero_le _, F1, [], s1, hh1.free hFD h0 (hno s1), ?_, hFD, .lst upd_same (Nat.zero_le _) .nil, Nat.zero_le _, ?_⟩, ?_⟩
  · obtain ⟨o, q, nt_⟩ := e1.there
    exact ExtB.beside ((Ext.refl e1.sub).toB q nt_) hD hFD nD
  · have e : ((compBM u fc fe (items.drop 0) s1).bind fun es => (.ok ([] ++ es.1, es.2) : Rs (List D × List D))) = compBM u fc fe items s1 := by
      rw [List.drop_zero]
      cases compBM u fc fe items s1 <;> rfl
    rw [e]
    exact hp
  · rintro k m H2 ⟨rfl, hil, F2, acc, s2, hh2, x2, f2, o2, la, hp2⟩
    obtain ⟨wgo, wstop⟩ := hw.2 F2 H2 x2.ext hh2.sub
    by_cases hlt : k < items.length
    · have hg : items[k]? = some items[k] := List.getElem?_eq_getElem hlt
      obtain ⟨g1, g2⟩ := wgo k _ hg
      rw [List.drop_eq_getElem_cons hlt] at hp2
      refine .inr ⟨g1, fun H' => ∃ F' acc' s', Holds X.K (G.at F0) (ρ.set i (some (.own l (.lst s')))) σ F' H' ∧ ExtB bx F1 H1 F' H' ∧ F' D0 = none ∧ Own X.K F' H' D0 (.lst acc') ∧ acc'.length ≤ k + 1 ∧ PostN X.K bx F H Q ((compBM u fc fe (items.drop (k + 1)) s').bind fun es => .ok (acc' ++ es.1, es.2)),
        fun H' ⟨F', acc', s', q1, q2, q3, q4, q5, q6⟩ => ⟨items.length - (k + 1), by omega, rfl, hlt, F', acc', s', q1, q2, q3, q4, q5, q6⟩, fun x H' y => ?_⟩
      obtain ⟨F3, e3, r3⟩ := g2 x H' y
      have hh3 := hh2.more e3
      have o3 := o2.ext e3
      obtain ⟨xs2, q2', _, _⟩ := o2.asL
      have f3 := e3.stays f2 q2' (fun _ z => nomatch z)
      have x3 : ExtB bx F1 H1 F3 H' := by
        obtain ⟨o, q, nt_⟩ := x2.there
        exact x2.trans (e3.toB q nt_)
      simp only [compBM] at hp2
      cases hu : u items[k] with
      | none =>
        rw [hu] at hp2
        exact hp2.elim
      | some y =>
        rw [hu] at hp2
        simp only [Rs.of_some, Rs.bind_ok] at hp2
        intro s' H0' C' cl' fp'
        refine ht s' H0' C' cl' fp' s2 F0 _ F3 H' x _ y _ (hh3.wipe vs) r3 hu fun σ4 w4 hh4 => ⟨?_, ?_⟩
        · rw [w4 vs his]
          exact wipe_wipe fun i hi => hi
        have hb4 : σ4[i]? = some (some (.ref bx)) := by
          have z1 := wipe_get (σ := σ4) hiv
          rw [w4 vs his, wipe_wipe fun i hi => hi, wipe_get hiv] at z1
          rw [← z1]
          exact hbx
        intro s5 H05 C5 cl5 fp5
        refine hc s5 H05 C5 cl5 fp5 y s2 F0 σ4 F3 H' _ bx hh4 hb4 (PostB.noX (γ := Unit) (δ := Unit) (fun rb hb v F4 H4 e4 rv ob4 => ?_) fun hn => ?_)
        · obtain ⟨bb, s4⟩ := rb
          have rv' : v = bb := rv
          subst rv'
          rw [hb] at hp2
          simp only [Rs.noX_ok, Rs.bind_ok] at hp2
          have hh4' : Holds X.K (G.at F0) (ρ.set i (some (.own l (.lst s4)))) σ F4 H4 := by
            have z := hh3.moreB (at_set hi) hbx e4 ob4
            rw [List.set_set] at z
            exact z
          have o4 := o3.moreB e4 nD
          obtain ⟨xs3, q3', _, _⟩ := o3.asL
          have f4 := e4.stays f3 q3' (fun _ z => nomatch z)
          cases v with
          | true =>
            refine iteT ?_
            intro s6 H06 C6 cl6 fp6
            have hh44 : Holds X.K (G.at F0) (p y s4) σ4 F4 H4 := by
              have z := hh4.moreB (hpi y s2) hb4 e4 ob4
              have z2 := hps y s2 s4
              rw [z2] at z
              exact z
            refine he s6 H06 C6 cl6 fp6 y s4 F0 σ4 F4 H4 _ bx hh44 hb4 (PostB.noX (γ := Unit) (δ := Unit) (fun rd hd v F5 H5 e5 r5 ob5 => ?_) fun hn => ?_)
            · obtain ⟨d, s5'⟩ := rd
              simp only [if_true] at hp2
              rw [hd] at hp2
              simp only [Rs.noX_ok, Rs.bind_ok] at hp2
              have hh5 : Holds X.K (G.at F0) (ρ.set i (some (.own l (.lst s5')))) σ F5 H5 := by
                have z := hh4'.moreB (at_set hi) hbx e5 ob5
                rw [List.set_set] at z
                exact z
              have o5 := o4.moreB e5 nD
              obtain ⟨xs4, q4', _, _⟩ := o4.asL
              have f5 := e5.stays f4 q4' (fun _ z => nomatch z)
              obtain ⟨xs5, q5', l5, r5'⟩ := o5.asL
              have lx : xs5.length < sizeLine := by
                rw [r5'.length]
                have hw1 : items.length ≤ sizeLine := hw.1
                omega
              refine ⟨xs5, q5', lx, F5, acc ++ [d], s5', hh5.free f5 h0 (hno s5'), ExtB.beside (x3.trans (e4.trans e5)) hD f5 nD, f5, .lst upd_same ?_ (r5'.append (.one r5)), ?_, ?_⟩
              · rw [List.length_append, List.length_singleton]
                exact lx
              · rw [List.length_append, List.length_singleton]
                omega
              · have e : ((compBM u fc fe (items.drop (k + 1)) s5').bind fun es => (.ok (acc ++ [d] ++ es.1, es.2) : Rs (List D × List D))) = (((compBM u fc fe (items.drop (k + 1)) s5').bind fun es => (.ok (d :: es.1, es.2) : Rs (List D × List D))).bind fun es => .ok (acc ++ es.1, es.2)) := by
                  cases compBM u fc fe (items.drop (k + 1)) s5' with
                  | ok es => simp
                  | ex _ _ => rfl
                  | no => rfl
                rw [e]
                exact hp2
            · simp only [if_true] at hp2
              rw [hn] at hp2
              exact hp2.elim
          | false =>
            refine iteF ⟨F4, acc, s4, hh4', x3.trans e4, f4, o4, by omega, ?_⟩
            simpa using hp2
        · rw [hn] at hp2
          exact hp2.elim
    · have ei : k = items.length := by omega
      subst ei
      rw [List.drop_length] at hp2
      simp only [compBM, Rs.bind_ok, List.append_nil] at hp2
      exact .inl ⟨wstop, hp2 D0 F2 H2 (e1.trans x2) hDH f2 o2 (holds_box hh2 (at_set hi) hbx).2⟩
/-- expressions that tell a new list -/
def EFB (X : Cx) (G : Gd) (ρ : Rho) (i : Nat) (e : Expr) (m : Rs (List D × List D)) : Prop :=
  ∀ F0 σ F H Q b, Holds X.K (G.at F0) ρ σ F H → σ[i]? = some (some (.ref b)) → PostN X.K b F H Q m → ∃ t, PE X e t ∧ t σ H Q
theorem EFB.eb {m : Rs (List D × List D)} (h : EFB X G ρ i e m) : EB X G ρ i e (m.bind fun v => .ok (.lst v.1, v.2)) := by
  intro F0 σ F H Q b hh hb hp
  refine h F0 σ F H Q b hh hb ?_
  cases m with
  | ex c fs => exact hp
  | no => exact hp
  | ok r =>
    intro a F' H' e1 hn hf ho hob
    obtain ⟨o, ha, hr⟩ := ho.rep rfl e1.sub hf
    refine hp _ (upd F' a o) H' ⟨e1.same, e1.there, fun c x q => ?_, e1.ext.trans (same_upd hf), fun c x q => ?_⟩ hr (hob.move (same_upd hf) rfl)
    · by_cases e : c = a
      · subst e
        rw [upd_same] at q
        cases q
        exact ha
      · rw [upd_ne e] at q
        exact e1.sub _ _ q
    · by_cases e : c = a
      · subst e
        exact .inr (.inl hn)
      · rw [upd_ne e] at q
        exact e1.new _ _ q
theorem efb_comp {γ : Type} {u : D → Option γ} {p : γ → List D → Rho} {is : List Nat} {own : List (Str × Nat)} {iter elt : Expr} {ifs : List Expr} {scope : Scope} {mi : Rs (List D × List D)} {fc : γ → List D → Rs (Bool × List D)} {fe : γ → List D → Rs (D × List D)}
    (calm : X.calm = true) (nd : X.N.Nodup) (qI : IB X G ρ i tg iter mi) (ok : BlkOk X.N X.env.scope scope own) (his : ∀ j ∈ is, j ∈ own.map (·.2)) (hiv : i ∉ own.map (·.2))
    (ht : ∀ s H C cl fp s', TT1 (XB X scope s H C cl fp) G tg (rWipe (ρ.set i (some (.own l (.lst s')))) (own.map (·.2))) is u (fun y => p y s')) (hc : ∀ s H C cl fp y s', TBs (XB X scope s H C cl fp) G (p y s') i ifs (fc y s')) (he : ∀ s H C cl fp y s', EB (XB X scope s H C cl fp) G (p y s') i elt (fe y s'))
    (hi : At ρ i l s := by rfl) (hpi : ∀ y s', At (p y s') i l s' := by intro _ _; rfl) (hps : ∀ y s' s'', (p y s').set i (some (.own l (.lst s''))) = p y s'' := by intro _ _ _; rfl)
    (hs : ∀ x, foldedSetIterable iter X.env x = pure x := by intro _; rfl) : EFB X G ρ i (.ListComp elt [⟨tg, iter, ifs, 0⟩] scope pos) (mi.bind fun it => compBM u fc fe it.1 it.2) :=
  fun F0 σ F H Q b hh hb hp => ⟨_, pe_lc calm nd pi_any ok hgAll htAll heAll hs, lc_readB hi hiv qI his ht hc he hpi hps hh hb hp⟩
/-- assignments -/
def AFB (X : Cx) (G : Gd) (ρ : Rho) (i : Nat) (st : Stmt) (j : Nat) (m : Rs (List D × List D)) : Prop :=
  ∀ F0 σ F H Q b, Holds X.K (G.at F0) ρ σ F H → σ[i]? = some (some (.ref b)) → PostN X.K b F H Q m → ∃ te, PS X st (tAsg te (gName j)) ∧ te σ H Q
def ASB (X : Cx) (G : Gd) (ρ : Rho) (i : Nat) (st : Stmt) (j : Nat) (m : Rs (D × List D)) : Prop :=
  ∀ F0 σ F H Q b, Holds X.K (G.at F0) ρ σ F H → σ[i]? = some (some (.ref b)) → PostB X.K (RFb X.K) b F H Q m → ∃ te, PS X st (tAsg te (gName j)) ∧ te σ H Q
theorem asb_eb {j : Nat} {x : Str} {pos' : Pos} {m : Rs (D × List D)} (nd : X.N.Nodup) (h : EB X G ρ i e m) (hj : X.N[j]? = some x := by rfl) (hx : Loc X.env.scope x := by first | exact Or.inl rfl | exact Or.inr rfl) (hs : swapsWith e (some (.Name x pos')) pos.line X.env = pure false := by rfl)
    (hf : X.fn x = true ∨ X.env.scope.names.lookup x = some .local := by first | exact .inl rfl | exact .inr rfl) : ASB X G ρ i (.Assign [.Name x pos'] e pos) j m := fun F0 σ F H Q b hh hb hp => by
  obtain ⟨t, p, q⟩ := h F0 σ F H Q b hh hb hp
  exact ⟨t, ps_set nd hj hx p hs hf, q⟩
theorem afb_efb {j : Nat} {x : Str} {pos' : Pos} {m : Rs (List D × List D)} (nd : X.N.Nodup) (h : EFB X G ρ i e m) (hj : X.N[j]? = some x := by rfl) (hx : Loc X.env.scope x := by first | exact Or.inl rfl | exact Or.inr rfl) (hs : swapsWith e (some (.Name x pos')) pos.line X.env = pure false := by rfl)
    (hf : X.fn x = true ∨ X.env.scope.names.lookup x = some .local := by first | exact .inl rfl | exact .inr rfl) : AFB X G ρ i (.Assign [.Name x pos'] e pos) j m := fun F0 σ F H Q b hh hb hp => by
  obtain ⟨t, p, q⟩ := h F0 σ F H Q b hh hb hp
  exact ⟨t, ps_set nd hj hx p hs hf, q⟩
theorem afb_comp {γ : Type} {j : Nat} {y : Str} {py spos : Pos} {u : D → Option γ} {p : γ → List D → Rho} {is : List Nat} {own : List (Str × Nat)} {iter elt : Expr} {ifs : List Expr} {scope : Scope} {mi : Rs (List D × List D)} {fc : γ → List D → Rs (Bool × List D)} {fe : γ → List D → Rs (D × List D)}
    (calm : X.calm = true) (nd : X.N.Nodup) (qI : IB X G ρ i tg iter mi) (ok : BlkOk X.N X.env.scope scope own) (his : ∀ j ∈ is, j ∈ own.map (·.2)) (hiv : i ∉ own.map (·.2))
    (ht : ∀ s H C cl fp s', TT1 (XB X scope s H C cl fp) G tg (rWipe (ρ.set i (some (.own l (.lst s')))) (own.map (·.2))) is u (fun y => p y s')) (hc : ∀ s H C cl fp y s', TBs (XB X scope s H C cl fp) G (p y s') i ifs (fc y s')) (he : ∀ s H C cl fp y s', EB (XB X scope s H C cl fp) G (p y s') i elt (fe y s'))
    (hi : At ρ i l s := by rfl) (hpi : ∀ y s', At (p y s') i l s' := by intro _ _; rfl) (hps : ∀ y s' s'', (p y s').set i (some (.own l (.lst s''))) = p y s'' := by intro _ _ _; rfl)
    (hy : X.N[j]? = some y := by rfl) (hyl : X.env.scope.names.lookup y = some .local := by rfl) (hsw : swapsWith (.ListComp elt [⟨tg, iter, ifs, 0⟩] scope pos) (some (.Name y py)) spos.line X.env = pure true := by exact sw_true rfl rfl rfl (by decide +kernel))
    (hs : ∀ x, foldedSetIterable iter X.env x = pure x := by intro _; rfl) : AFB X G ρ i (.Assign [.Name y py] (.ListComp elt [⟨tg, iter, ifs, 0⟩] scope pos) spos) j (mi.bind fun it => compBM u fc fe it.1 it.2) :=
  fun F0 σ F H Q b hh hb hp => ⟨_, ps_setLc calm nd hy hyl hsw pi_any ok hgAll htAll heAll hs, lc_readB hi hiv qI his ht hc he hpi hps hh hb hp⟩
theorem AFB.asb {st : Stmt} {j : Nat} {m : Rs (List D × List D)} (h : AFB X G ρ i st j m) : ASB X G ρ i st j (m.bind fun v => .ok (.lst v.1, v.2)) := by
  intro F0 σ F H Q b hh hb hp
  refine h F0 σ F H Q b hh hb ?_
  cases m with
  | ex c fs => exact hp
  | no => exact hp
  | ok r =>
    intro a F' H' e1 hn hf ho hob
    obtain ⟨o, ha, hr⟩ := ho.rep rfl e1.sub hf
    refine hp _ (upd F' a o) H' ⟨e1.same, e1.there, fun c x q => ?_, e1.ext.trans (same_upd hf), fun c x q => ?_⟩ hr (hob.move (same_upd hf) rfl)
    · by_cases e : c = a
      · subst e
        rw [upd_same] at q
        cases q
        exact ha
      · rw [upd_ne e] at q
        exact e1.sub _ _ q
    · by_cases e : c = a
      · subst e
        exact .inr (.inl hn)
      · rw [upd_ne e] at q
        exact e1.new _ _ q
end
section
variable {X : Cx} {G : Gd} {W : WX} {ρx ρ : Rho} {rest sts : List Stmt} {α β R : Type} {pn : α → Rho} {pl : β → Rho} {ι : R → Fl α β} {i : Nat} {l : Bool} {s : List D}
theorem bi_setS {j : Nat} {st : Stmt} {m : Rs (D × List D)} {f : D → List D → Rs R} (he : ASB X G ρ i st j m) (hr : ∀ d s', BI X G W ρx ((ρ.set i (some (.own l (.lst s')))).set j (some (.val d))) rest pn pl ι (f d s')) (hi : At ρ i l s := by rfl) (hl : j < ρ.length := by exact Nat.le_of_ble_eq_true rfl) :
    BI X G W ρx ρ (st :: rest) pn pl ι (m.noX.bind fun u => f u.1 u.2) := by
  intro F0 σ F H E hh hp
  rw [Rs.assoc] at hp
  obtain ⟨r, rfl, hp⟩ := postS_noX hp
  obtain ⟨b, hb⟩ := box_at hh hi
  obtain ⟨te, p, q⟩ := he F0 σ F H (fun v H' => gName j v σ H' (fun σ' H' => tAny X rest E σ' H')) b hh hb fun v F' H' e1 r1 o1 => hr r.1 r.2 F0 _ F' H' E ((hh.moreB hi hb e1 o1).setV r1 (by rw [List.length_set]; exact hl)) hp
  exact any_cons p q
theorem bi_ownS {j : Nat} {st : Stmt} {m : Rs (List D × List D)} {f : List D → List D → Rs R} (he : AFB X G ρ i st j m) (hr : ∀ d s', BI X G W ρx ((ρ.set i (some (.own l (.lst s')))).set j (some (.own true (.lst d)))) rest pn pl ι (f d s')) (hi : At ρ i l s := by rfl) (hl : j < ρ.length := by exact Nat.le_of_ble_eq_true rfl) :
    BI X G W ρx ρ (st :: rest) pn pl ι (m.noX.bind fun u => f u.1 u.2) := by
  intro F0 σ F H E hh hp
  rw [Rs.assoc] at hp
  obtain ⟨r, rfl, hp⟩ := postS_noX hp
  obtain ⟨b, hb⟩ := box_at hh hi
  obtain ⟨te, p, q⟩ := he F0 σ F H (fun v H' => gName j v σ H' (fun σ' H' => tAny X rest E σ' H')) b hh hb fun a F' H' e1 hn hf ho hob => by
    have hh1 := hh.moreB hi hb e1 hob
    obtain ⟨hfb, hwb⟩ := holds_box hh hi hb
    obtain ⟨ob, hob2, nt_⟩ := hwb.there
    have nab : a ≠ b := fun z => by
      subst z
      rw [hn] at hob2
      cases hob2
    refine hr r.1 r.2 F0 _ F' H' E (hh1.setO ho hf (hh.toGnd.free0 hn) ?_ (by rw [List.length_set]; exact hl)) hp
    intro k l' e qk sk
    rcases set_at qk with ⟨rfl, z⟩ | ⟨n, z⟩
    · rw [hb] at sk
      cases sk
      exact nab rfl
    · exact hh.notOwn hn k l' e z sk
  exact any_cons p q
end
end VL
set_option Elab.async false
set_option linter.all false
set_option maxRecDepth 100000
set_option autoImplicit false
namespace VL
open PySem PySem.Spec L2
open PyProof.Rows hiding St

/-! ### displays with stars -/
section
variable {X : Cx} {G : Gd} {W : WX} {ρ : Rho} {e : Expr} {es : List Expr} {m : Rs D} {κ : Kt} {pos p : Pos}
theorem RepHs.append {K : PySem.W.Frag} {F H : Hp} : ∀ {vs ws : List V} {ds es : List D}, RepHs K F H vs ds → RepHs K F H ws es → RepHs K F H (vs ++ ws) (ds ++ es)
  | _, _, _, _, .nil, h => h
  | _, _, _, _, .cons a r, h => .cons a (RepHs.append r h)
theorem seqD_reps {K : PySem.W.Frag} {F H : Hp} {v : V} {d : D} {ds : List D} (s : Same F H) (r : RepH K F H v d) (h : seqD d = some ds) : ∃ a xs, v = .ref a ∧ (SqT K H a xs ∨ SqL K H a xs) ∧ Reps K F xs ds := by
  cases d with
  | lst xs =>
    cases h
    obtain ⟨a, ys, rfl, h1, l1, w1⟩ := r.lst s
    exact ⟨a, ys, rfl, .inr (SqL.of h1), w1⟩
  | tup xs =>
    cases h
    obtain ⟨a, ys, rfl, h1, l1, w1, _⟩ := r.tup s
    exact ⟨a, ys, rfl, .inl h1, w1⟩
  | _ => cases h
/-- arguments or items of a display, stars among them; all frozen -/
def AS2 (X : Cx) (G : Gd) (W : WX) (ρ : Rho) (es : List Expr) (m : Rs (List D)) : Prop :=
  ∃ t, PA X es t ∧ ∀ F0 σ F H Q, Holds X.K (G.at F0) ρ σ F H → Post X.K (RL X.K) (fun c d H => W c d σ H) F H Q m → t σ H Q
def SC (X : Cx) (G : Gd) (W : WX) (ρ : Rho) (es : List Expr) (κ : Kt) : Prop := ∃ ms, AS2 X G W ρ es ms ∧ ∀ (β : Type) (k : List D → Rs β), κ β k = ms.bind k
theorem sc_nil : SC X G W ρ [] (fun β k => k []) := ⟨.ok [], ⟨_, pa_nil, fun F0 σ F H Q hh hp => hp [] F H (Ext.refl hh.sub) .nil⟩, fun _ _ => rfl⟩
theorem sc_cons (ha : EV X G W ρ e m) (hr : SC X G W ρ es κ) (hs : starEach (e :: es) X.env = (false, eval e X.env) :: starEach es X.env := by rfl) : SC X G W ρ (e :: es) (fun β k => m.bind fun x => κ β fun xs => k (x :: xs)) := by
  obtain ⟨ms, ⟨t, pt, qt⟩, h2⟩ := hr
  obtain ⟨te, pe, qe⟩ := ha
  refine ⟨_, ⟨_, pa_cons pe pt hs, fun F0 σ F H Q hh hp => ?_⟩, cons_eq h2⟩
  refine qe F0 σ F H _ hh (hp.bind fun d v F1 H1 e1 r1 hp1 => ?_)
  refine qt F0 σ F1 H1 _ (hh.more e1) (hp1.bind fun ds vs F2 H2 e2 r2 hp2 => ?_)
  exact hp2 _ F2 H2 (Ext.refl e2.sub) (.cons (r1.mono e2.ext) r2)
theorem sc_star (ha : EO X G W ρ e m) (hr : SC X G W ρ es κ) (hs : starEach (.Starred e p :: es) X.env = (true, eval e X.env) :: starEach es X.env := by rfl) :
    SC X G W ρ (.Starred e p :: es) (fun β k => m.bind fun x => (Rs.of (seqD x)).bind fun ys => κ β fun xs => k (ys ++ xs)) := by
  obtain ⟨ms, ⟨t, pt, qt⟩, h2⟩ := hr
  obtain ⟨te, pe, qe⟩ := ha
  refine ⟨m.bind fun x => (Rs.of (seqD x)).bind fun ys => ms.bind fun xs => .ok (ys ++ xs), ⟨_, StX.pa_star pe pt hs, fun F0 σ F H Q hh hp => ?_⟩, fun β k => ?_⟩
  · refine qe F0 σ F H _ hh (hp.bind fun d v F1 H1 e1 r1 hp1 => ?_)
    cases hd : seqD d with
    | none => rw [hd] at hp1; exact hp1.elim
    | some ys =>
      rw [hd] at hp1
      obtain ⟨a, xs, rfl, h1, h2⟩ := seqD_reps e1.sub r1 hd
      refine ⟨a, xs, rfl, h1, ?_⟩
      refine qt F0 σ F1 H1 _ (hh.more e1) (Post.bind (m := ms) hp1 fun ds vs F2 H2 e2 r2 hp2 => ?_)
      exact hp2 _ F2 H2 (Ext.refl e2.sub) ((h2.mono e2.ext).append r2)
  · rw [Rs.assoc]
    cases m with
    | ok x =>
      simp only [Rs.bind_ok]
      rw [Rs.assoc]
      cases Rs.of (seqD x) with
      | ok ys =>
        simp only [Rs.bind_ok]
        rw [h2, Rs.assoc]
        rfl
      | ex c fs => rfl
      | no => rfl
    | ex c fs => rfl
    | no => rfl
theorem ev_tupS {x1} (h : SC X G W ρ es κ) : EV X G W ρ (.Tuple es x1 pos) (κ D fun xs => Rs.of (tupR xs)) := by
  obtain ⟨ms, ⟨t, pt, qt⟩, h2⟩ := h
  rw [h2]
  refine ⟨_, pe_tup pt, fun F0 σ F H Q hh hp => qt F0 σ F H _ hh (hp.bind fun ds vs F1 H1 e1 r1 hp1 => ?_)⟩
  obtain ⟨d, hd, k⟩ := Post.of hp1
  obtain ⟨hl, rfl⟩ := tupR_some hd
  have l2 : vs.length ≤ sizeLine := by rw [Reps.length r1]; exact hl
  exact ⟨l2, fun q hn => k _ _ _ (Ext.fresh e1.sub _ hn) (new_tup e1.sub hn l2 r1)⟩
theorem ev_lstS (h : SC X G W ρ es κ) : EV X G W ρ (.List es pos) (κ D fun xs => Rs.of (lstR xs)) := by
  obtain ⟨ms, ⟨t, pt, qt⟩, h2⟩ := h
  rw [h2]
  refine ⟨_, pe_lst pt, fun F0 σ F H Q hh hp => qt F0 σ F H _ hh (hp.bind fun ds vs F1 H1 e1 r1 hp1 => ?_)⟩
  obtain ⟨d, hd, k⟩ := Post.of hp1
  obtain ⟨hl, rfl⟩ := lstR_some hd
  have l2 : vs.length ≤ sizeLine := by rw [Reps.length r1]; exact hl
  exact ⟨l2, fun q hn => k _ _ _ (Ext.fresh e1.sub _ hn) (new_lst e1.sub hn l2 r1)⟩
end

/-! ### calls with keywords -/
section
variable {X : Cx} {CX : CXT} {k n : Nat} {f : Addr} {fd : FuncData} {ps ks : List Str} {sp : Sp} {E : L2.St → XK} {x : Str} {p pos : Pos} {e : Expr} {es : List Expr} {kws : List Keyword} {t tk : TA} {g : List Value → List Value → List Value} {gV : List V → List V → List V}
theorem run_fnKS {pins : List (Addr × Obj)} {σ : L2.St} {H : Hp} {s : Shared} {Q : VK} {us ws : List Value} {vs zs : List V} (F : FnOk X.prog X.w X.K X.mg X.base CX k f fd ps sp) (hr : Room k X.A) (hb : KBn X.K fd ps n ks g gV) (hx : PassesAt CX X σ (E σ))
    (I : Inv X pins σ H s) (r : Vals vs us) (rz : Vals zs ws) (l1 : vs.length = n) (l2 : zs.length = ks.length) (h : sp (gV vs zs) H Q (E σ)) : wpAny (model X.prog X.w) X.A (call (.ref f) us (ks.zip ws)) (EP X pins σ Q) X.xe s := by
  have r2 := hb.rel r rz
  refine wpAny_call (codeAny_mono (F.run X.A X.stack s H ⟨us, ks.zip ws⟩ (g us ws) (gV vs zs) Q (E σ) hr I.env0 (hb.to s us ws I.kIn (r.length.symm.trans l1) (rz.length.symm.trans l2)) r2 h) fun r s' hq => ?_)
  cases r with
  | error e => exact hx pins H s e s' I hq
  | ok fl =>
    cases fl with
    | ret u => exact I.after hq
    | next => exact False.elim hq
    | brk => exact False.elim hq
    | cont => exact False.elim hq
def tCallKS (n m : Nat) (sp : Sp) (gV : List V → List V → List V) (E : L2.St → XK) (t tk : TA) : TE := fun σ H Q => t σ H fun vs H1 => tk σ H1 fun zs H2 => vs.length = n ∧ zs.length = m ∧ sp (gV vs zs) H2 Q (E σ)
theorem pe_callKS (F : FnOk X.prog X.w X.K X.mg X.base CX k f fd ps sp) (hr : Room k X.A) (hg : Gl X x) (hm : X.mg x = some (.ref f)) (hk : PySem.W.keepIn X.K (.ref f) = true) (hb : KBn X.K fd ps n ks g gV) (hx : ∀ σ, PassesAt CX X σ (E σ))
    (ha : PA X (e :: es) t) (hkw : PK X kws tk) (hall : (backToKw pos (keywordEach kws X.env)).all (·.1.isSome) = true := by rfl) (hks : (backToKw pos (keywordEach kws X.env)).filterMap (·.1) = ks := by rfl)
    (hdb : (x == ("__debug__" : Str)) = false := by decide) (he : starEach (e :: es) X.env = (false, eval e X.env) :: starEach es X.env := by rfl)
    (hpl : ((backTo pos (starEach (e :: es) X.env)).any (·.1) || (backToKw pos (keywordEach kws X.env)).any (·.1.isNone)) = false := by rfl) :
    PE X (.Call (.Name x p) (e :: es) kws pos) (tCallKS n ks.length sp gV E t tk) := by
  refine ⟨fun pins s σ H Q I h => ?_⟩
  refine wpAny_Call_Name_kw (ld_glob I hg hm ?_ hdb)
  refine PySem.W.callWith_KW (h₀ := X.base) I.ok.mod.kin hk hall (thn (ha.run pos pins s σ H _ I h) fun us s1 ⟨vs, H1, I1, r, q⟩ => ?_) hpl he
  refine thn (hkw.run pos pins s1 σ H1 _ I1 q) fun ws s2 ⟨zs, H2, I2, rz, l1, l2, q2⟩ => ⟨I2.kIn, ?_⟩
  rw [hks]
  exact run_fnKS F hr hb (hx σ) I2 r rz l1 l2 q2
theorem pe_callKS0 (F : FnOk X.prog X.w X.K X.mg X.base CX k f fd ps sp) (hr : Room k X.A) (hg : Gl X x) (hm : X.mg x = some (.ref f)) (hk : PySem.W.keepIn X.K (.ref f) = true) (hb : KBn X.K fd ps 0 ks g gV) (hx : ∀ σ, PassesAt CX X σ (E σ))
    (hkw : PK X kws tk) (hall : (backToKw pos (keywordEach kws X.env)).all (·.1.isSome) = true := by rfl) (hks : (backToKw pos (keywordEach kws X.env)).filterMap (·.1) = ks := by rfl)
    (hdb : (x == ("__debug__" : Str)) = false := by decide)
    (hpl : ((backTo pos (starEach [] X.env)).any (·.1) || (backToKw pos (keywordEach kws X.env)).any (·.1.isNone)) = false := by rfl) :
    PE X (.Call (.Name x p) [] kws pos) (tCallKS 0 ks.length sp gV E tNil tk) := by
  refine ⟨fun pins s σ H Q I h => ?_⟩
  refine wpAny_Call_Name_kw (ld_glob I hg hm ?_ hdb)
  refine PySem.W.callWith_KW0 (h₀ := X.base) I.ok.mod.kin hk hall (thn (hkw.run pos pins s σ H _ I h) fun ws s2 ⟨zs, H2, I2, rz, l1, l2, q2⟩ => ⟨I2.kIn, ?_⟩) hpl
  rw [hks]
  exact run_fnKS (us := []) F hr hb (hx σ) I2 .nil rz l1 l2 q2
end
/-- the parameters' order: the positional ones, then the keywords is of those written -/
def gOf {α : Type} (is : List Nat) (us ws : List α) : List α := us ++ is.filterMap (ws[·]?)
theorem vals_pick {zs : List V} {ws : List Value} (h : Vals zs ws) : ∀ is : List Nat, Vals (is.filterMap (zs[·]?)) (is.filterMap (ws[·]?))
  | [] => .nil
  | i :: is => by
    rw [List.filterMap_cons, List.filterMap_cons]
    cases hz : zs[i]? with
    | none =>
      rw [h.none_of hz]
      exact vals_pick h is
    | some z =>
      obtain ⟨u, hu, r⟩ := h.get hz
      rw [hu]
      exact .cons r (vals_pick h is)
theorem reps_pick {K : PySem.W.Frag} {F : Hp} {zs : List V} {ws : List D} (h : Reps K F zs ws) : ∀ is : List Nat, Reps K F (is.filterMap (zs[·]?)) (is.filterMap (ws[·]?))
  | [] => .nil
  | i :: is => by
    rw [List.filterMap_cons, List.filterMap_cons]
    cases hz : zs[i]? with
    | none =>
      have : ws[i]? = none := by
        cases hw : ws[i]? with
        | none => rfl
        | some d =>
          obtain ⟨v, h1, _⟩ := h.get hw
          rw [hz] at h1
          cases h1
      rw [this]
      exact reps_pick h is
    | some z =>
      obtain ⟨u, hu, r⟩ := h.getV hz
      rw [hu]
      exact .cons r (reps_pick h is)
/-- a def without defaults -/
theorem kbN {K : PySem.W.Frag} {x qual : Str} {params : Arguments} {body : List Stmt} {scope : Scope} {kws : List (Str × V)} {f : Addr} {fd : FuncData} {ps : List Str} (F : FunD K x qual params body scope [] kws f fd) (n : Nat) (ks : List Str) (is : List Nat)
    (h : ∀ (kV doc pm : Value) (an : Option Addr) (cdv ct : Value) (us ws : List Value), us.length = n → ws.length = ks.length → bindArgs (PySem.W.fnOf x qual params body scope .none kV doc pm an cdv ct) ⟨us, ks.zip ws⟩ = pure (ps.zip (gOf is us ws))) : KBn K fd ps n ks (gOf is) (gOf is) := by
  obtain ⟨oc, od, dV, kV, doc, pm, an, cdv, ct, osl, rfl, lk, hcd, hD, hK⟩ := F.ex
  rcases hD with ⟨_, rfl⟩ | ⟨e, _⟩
  · exact ⟨fun s us ws _ h1 h2 => .of_eq (h kV doc pm an cdv ct us ws h1 h2), fun r1 r2 => r1.append (vals_pick r2 is)⟩
  · exact absurd rfl e
/-- the keywords' values, from the left -/
def KV (X : Cx) (G : Gd) (W : WX) (ρ : Rho) (kws : List Keyword) (m : Rs (List D)) : Prop :=
  (∀ r, m = .ok r → r.length = kws.length) ∧ ∃ t, PK X kws t ∧ ∀ F0 σ F H Q, Holds X.K (G.at F0) ρ σ F H → Post X.K (RL X.K) (fun c d H => W c d σ H) F H Q m → t σ H Q
def KC (X : Cx) (G : Gd) (W : WX) (ρ : Rho) (kws : List Keyword) (κ : Kt) : Prop := ∃ ms, KV X G W ρ kws ms ∧ ∀ (β : Type) (k : List D → Rs β), κ β k = ms.bind k
section
variable {X : Cx} {G : Gd} {W : WX} {ρ : Rho} {e : Expr} {es : List Expr} {m : Rs D} {κ κ' : Kt} {pos p kpos : Pos} {kws : List Keyword} {nm : Option Str}
theorem kc_nil : KC X G W ρ [] (fun β k => k []) := ⟨.ok [], ⟨fun r h => by cases h; rfl, _, pk_nil, fun F0 σ F H Q hh hp => hp [] F H (Ext.refl hh.sub) .nil⟩, fun _ _ => rfl⟩
theorem kc_cons (ha : EV X G W ρ e m) (hr : KC X G W ρ kws κ) : KC X G W ρ (⟨nm, e, kpos⟩ :: kws) (fun β k => m.bind fun x => κ β fun xs => k (x :: xs)) := by
  obtain ⟨ms, ⟨hl, t, pt, qt⟩, h2⟩ := hr
  obtain ⟨te, pe, qe⟩ := ha
  refine ⟨_, ⟨fun r h => ?_, _, pk_cons pe pt, fun F0 σ F H Q hh hp => ?_⟩, cons_eq h2⟩
  · cases m with
    | ok x =>
      cases ms with
      | ok xs =>
        cases h
        exact congrArg (· + 1) (hl xs rfl)
      | ex c fs => cases h
      | no => cases h
    | ex c fs => cases h
    | no => cases h
  · refine qe F0 σ F H _ hh (hp.bind fun d v F1 H1 e1 r1 hp1 => ?_)
    refine qt F0 σ F1 H1 _ (hh.more e1) (hp1.bind fun ds vs F2 H2 e2 r2 hp2 => ?_)
    exact hp2 _ F2 H2 (Ext.refl e2.sub) (.cons (r1.mono e2.ext) r2)
theorem ev_callK0 {k : Nat} {f : Addr} {fd : FuncData} {ps ks : List Str} {is : List Nat} {m : List D → Rs D} {x : Str} (tk : Takes X W) (Fk : Keeps X.prog X.w X.K X.mg X.base k f fd ps m) (hr : Room k X.A) (hm : X.mg x = some (.ref f)) (hk : PySem.W.keepIn X.K (.ref f) = true)
    (hb : KBn X.K fd ps 0 ks (gOf is) (gOf is)) (ha : KC X G W ρ kws κ) (hp : ∀ zs : List D, zs.length = ks.length → (gOf is [] zs).length = ps.length) (hln : kws.length = ks.length := by rfl)
    (hall : (backToKw pos (keywordEach kws X.env)).all (·.1.isSome) = true := by rfl) (hks : (backToKw pos (keywordEach kws X.env)).filterMap (·.1) = ks := by rfl) (hg : Gl X x := by rfl) (hdb : (x == ("__debug__" : Str)) = false := by decide)
    (hpl : ((backTo pos (starEach [] X.env)).any (·.1) || (backToKw pos (keywordEach kws X.env)).any (·.1.isNone)) = false := by rfl) : EV X G W ρ (.Call (.Name x p) [] kws pos) (κ D fun zs => m (gOf is [] zs)) := by
  obtain ⟨ms, ⟨hl, t, pt, qt⟩, h2⟩ := ha
  rw [h2]
  refine ⟨_, pe_callKS0 (E := WE W) Fk hr hg hm hk hb (fun σ => passAt tk σ) pt hall hks hdb hpl, fun F0 σ F H Q hh hq => ?_⟩
  refine qt F0 σ F H _ hh ?_
  cases ms with
  | ex c fs => exact hq
  | no => exact hq
  | ok ds =>
    intro vs F' H' e1 r1
    have l1 : ds.length = ks.length := (hl ds rfl).trans hln
    have r2 : Reps X.K F' (gOf is [] vs) (gOf is [] ds) := (Reps.nil).append (reps_pick r1 is)
    exact ⟨rfl, (Reps.length r1).trans l1, (Reps.length r2).trans (hp ds l1), F', _, e1.sub, r2, Post.more (m := m (gOf is [] ds)) hq e1⟩
theorem ev_callK {k n : Nat} {f : Addr} {fd : FuncData} {ps ks : List Str} {is : List Nat} {m : List D → Rs D} {x : Str} (tk : Takes X W) (Fk : Keeps X.prog X.w X.K X.mg X.base k f fd ps m) (hr : Room k X.A) (hm : X.mg x = some (.ref f)) (hk : PySem.W.keepIn X.K (.ref f) = true)
    (hb : KBn X.K fd ps n ks (gOf is) (gOf is)) (ha1 : AC X G W ρ (e :: es) κ') (ha : KC X G W ρ kws κ) (hp : ∀ us zs : List D, us.length = n → zs.length = ks.length → (gOf is us zs).length = ps.length) (hn : (e :: es).length = n := by rfl) (hln : kws.length = ks.length := by rfl)
    (hall : (backToKw pos (keywordEach kws X.env)).all (·.1.isSome) = true := by rfl) (hks : (backToKw pos (keywordEach kws X.env)).filterMap (·.1) = ks := by rfl) (hg : Gl X x := by rfl) (hdb : (x == ("__debug__" : Str)) = false := by decide)
    (he : starEach (e :: es) X.env = (false, eval e X.env) :: starEach es X.env := by rfl)
    (hpl : ((backTo pos (starEach (e :: es) X.env)).any (·.1) || (backToKw pos (keywordEach kws X.env)).any (·.1.isNone)) = false := by rfl) : EV X G W ρ (.Call (.Name x p) (e :: es) kws pos) (κ' D fun us => κ D fun zs => m (gOf is us zs)) := by
  obtain ⟨ms, ⟨hl, t, pt, qt⟩, h2⟩ := ha
  obtain ⟨ms1, ⟨hl1, t1, pt1, qt1⟩, h3⟩ := ha1
  rw [h3]
  refine ⟨_, pe_callKS (E := WE W) Fk hr hg hm hk hb (fun σ => passAt tk σ) pt1 pt hall hks hdb he hpl, fun F0 σ F H Q hh hq => ?_⟩
  refine qt1 F0 σ F H _ hh ?_
  cases ms1 with
  | ex c fs => exact hq
  | no => exact hq
  | ok us =>
    intro vs1 F1 H1 e0 r0
    have hq1 : Post X.K (RF X.K) (fun c d H => W c d σ H) F H Q (κ D fun zs => m (gOf is us zs)) := hq
    rw [h2] at hq1
    refine qt F0 σ F1 H1 _ (hh.more e0) ?_
    cases ms with
    | ex c fs => exact Post.more hq1 e0
    | no => exact hq1
    | ok ds =>
      intro vs F' H' e1 r1
      have l1 : ds.length = ks.length := (hl ds rfl).trans hln
      have l0 : us.length = n := (hl1 us rfl).trans hn
      have r2 : Reps X.K F' (gOf is vs1 vs) (gOf is us ds) := (Reps.mono e1.ext r0).append (reps_pick r1 is)
      exact ⟨(Reps.length r0).trans l0, (Reps.length r1).trans l1, (Reps.length r2).trans (hp us ds l0 l1), F', _, e1.sub, r2, Post.more (m := m (gOf is us ds)) hq1 (e0.trans e1)⟩
end
end VL
set_option Elab.async false
set_option linter.all false
set_option maxRecDepth 100000
set_option autoImplicit false
namespace VL
open PySem PySem.Spec L2
open PyProof.Rows hiding St

/-! ### defs that tell a new list -/
def spF (K : PySem.W.Frag) (n : Nat) (m : List D → Rs (List D)) : Sp := fun vs H Q E => vs.length = n ∧ ∃ F ds, Same F H ∧ Reps K F vs ds ∧ Post K (RN K H) E F H Q (m ds).noX
abbrev KeepsF (P : Program) (w : World) (K : PySem.W.Frag) (mg : Str → Option Value) (base : Heap) (k : Nat) (f : Addr) (fd : FuncData) (ps : List Str) (m : List D → Rs (List D)) : Prop := FnOk P w K mg base (L2.CX P w) k f fd ps (spF K ps.length m)
/-- what is wanted of a def's block that tells a new list -/
def PostR (K : PySem.W.Frag) (G : Gd) (W : WX) (E : Ends) : Rs (List D) → Prop
  | .ok r => ∀ a F H, Gnd K G F H → G.H0 a = none → F a = none → Own K F H a (.lst r) → E.rt (.ref a) H
  | _ => False
def BN (X : Cx) (G : Gd) (W : WX) (ρ : Rho) (sts : List Stmt) (m : Rs (List D)) : Prop :=
  ∀ F0 σ F H E, Holds X.K (G.at F0) ρ σ F H → PostR X.K (G.at F0) W E m → tAny X sts E σ H
section
variable {X : Cx} {G : Gd} {ρ : Rho} {rest : List Stmt} {e : Expr} {pos : Pos}
theorem bn_set {i : Nat} {st : Stmt} {m : Rs D} {f : D → Rs (List D)} (ha : AS X G W0 ρ st i m) (hr : ∀ d, BN X G W0 (ρ.set i (some (.val d))) rest (f d)) (hi : i < ρ.length := by exact Nat.le_of_ble_eq_true rfl) : BN X G W0 ρ (st :: rest) (m.bind f) := by
  obtain ⟨te, p, q⟩ := ha
  intro F0 σ F H E hh hp
  refine any_cons p (q F0 σ F H _ hh ?_)
  cases m with
  | ok d => exact fun v F' H' e1 r1 => hr d F0 _ F' H' E ((hh.more e1).setV r1 hi) hp
  | ex c fs => exact hp.elim
  | no => exact hp.elim
theorem bn_ret {m : Rs (List D)} (he : EF X G W0 ρ e m) : BN X G W0 ρ (.Return (some e) pos :: rest) m := by
  obtain ⟨te, p, q⟩ := he
  intro F0 σ F H E hh hp
  refine any_cons (ps_ret p) (q F0 σ F H _ hh ?_)
  cases m with
  | ok r =>
    intro v F' H' e1 r1
    obtain ⟨a, rfl, hn, hf, ho⟩ := r1
    exact hp a F' H' (hh.toGnd.more e1) (hh.toGnd.free0 hn).1 hf ho
  | ex c fs => exact hp.elim
  | no => exact hp.elim
theorem bn_as (ρ' : Rho) {sts : List Stmt} {m m' : Rs (List D)} (h : BN X G W0 ρ' sts m) (er : ρ = ρ') (e : m = m') : BN X G W0 ρ sts m' := by
  subst er e
  exact h
end
theorem holds_start {K : PySem.W.Frag} {F H : Hp} {N : List Str} {vs : List V} {ds : List D} (hs : Same F H) (hr1 : Reps K F vs ds) : Holds K (Gd.at ⟨F, H, []⟩ F) (ds.map (fun d => some (Cl.val d)) ++ List.replicate (N.length - ds.length) none) (L2.start N vs) F H := by
  refine ⟨⟨hs, fun a o q _ => q, fun a q => by simp [Gd.at] at q, Same.refl F, fun a o q => .inl q⟩, fun i d q => ?_, fun i l d q => ?_, fun i j l m' d e a n q => ?_, ?_⟩
  · obtain ⟨d', h1, h2⟩ := rho_start q
    cases h2
    obtain ⟨v, g1, g2⟩ := hr1.get h1
    refine ⟨v, ?_, g2⟩
    unfold L2.start
    rw [List.getElem?_append_left (by
      rw [List.length_map]
      rcases Nat.lt_or_ge i vs.length with z | z
      · exact z
      · rw [List.getElem?_eq_none z] at g1; cases g1), List.getElem?_map, g1]
    rfl
  · obtain ⟨d', h1, h2⟩ := rho_start q
    cases h2
  · obtain ⟨d', h1, h2⟩ := rho_start q
    cases h2
  · unfold L2.start
    rw [List.length_append, List.length_append, List.length_map, List.length_map, List.length_replicate, List.length_replicate, hr1.length]
    exact Nat.le_refl _
theorem keeps_new {P : Program} {w : World} {K : PySem.W.Frag} {mg : Str → Option Value} {base : Heap} {x qual : Str} {params : Arguments} {body : List Stmt} {scope : Scope} {dvs : List V} {kws : List (Str × V)} {f : Addr} {fd : FuncData} {N ps : List Str} {k : Nat} {m : List D → Rs (List D)}
    (Fd : FunD K x qual params body scope dvs kws f fd) (S : FnScope N ps scope)
    (hb : ∀ (cdv : Value) (A : Around) (outer : List Env) (s : Shared) (H : Hp) (E : XK) (F : Hp) (ds : List D), ds.length = ps.length → Room k (A.deeper (envOfC qual scope s.heap.objs.size f cdv)) →
      BN (cxOf (L2.CX P w) P w K mg base N qual scope f cdv A outer s H E) ⟨F, H, []⟩ W0 (ds.map (fun d => some (Cl.val d)) ++ List.replicate (N.length - ds.length) none) body (m ds)) :
    KeepsF P w K mg base (k + 1) f fd ps m := by
  refine Fd.ok S (fun vs H Q E h => h.1) (fun cdv A outer s H vs Q E hr h => ?_)
  obtain ⟨hl, F, ds, hs, hr1, hp⟩ := h
  refine hb cdv A outer s H E F ds (hr1.length.symm.trans hl) hr F (start N vs) F H _ (holds_start hs hr1) ?_
  cases hm : m ds with
  | ok r =>
    rw [hm] at hp
    exact fun a F' H' g h0 hf ho => hp _ F' H' (gnd_ext g) ⟨a, rfl, h0, hf, ho⟩
  | ex c fs => rw [hm] at hp; exact hp.elim
  | no => rw [hm] at hp; exact hp.elim
section
variable {X : Cx} {G : Gd} {W : WX} {ρ : Rho} {e : Expr} {es : List Expr} {κ : Kt} {pos p : Pos}
theorem ef_callC {k : Nat} {f : Addr} {fd : FuncData} {ps : List Str} {m : List D → Rs (List D)} {x : Str} (Fk : KeepsF X.prog X.w X.K X.mg X.base k f fd ps m) (hr : Room k X.A) (hm : X.mg x = some (.ref f)) (hk : PySem.W.keepIn X.K (.ref f) = true)
    (hb : Binds X.K fd ps []) (ha : AC X G W ρ (e :: es) κ) (hln : (e :: es).length = ps.length := by rfl) (hg : Gl X x := by rfl) (hdb : (x == ("__debug__" : Str)) = false := by decide) (he : starEach (e :: es) X.env = (false, eval e X.env) :: starEach es X.env := by rfl)
    (hpl : (backTo pos (starEach es X.env)).any (·.1) = false := by rfl) : EF X G W ρ (.Call (.Name x p) (e :: es) [] pos) (κ (List D) fun ds => (m ds).noX) := by
  obtain ⟨ms, ⟨ln, t, pa, qa⟩, h2⟩ := ha
  rw [h2]
  refine ⟨_, pe_callSD (E := WE W0) Fk hr hg hm hk hb .nil (fun σ => passAt takes0 σ) pa hdb he hpl, fun F0 σ F H Q hh hp => ?_⟩
  refine qa F0 σ F H _ hh ?_
  cases ms with
  | ex c fs => exact hp
  | no => exact hp
  | ok ds =>
    intro vs F' H' e1 r1
    show spF X.K ps.length m (vs ++ []) H' Q _
    rw [List.append_nil]
    refine ⟨(Reps.length r1).trans ((ln ds rfl).trans hln), F', ds, e1.sub, r1, ?_⟩
    have hp' : Post X.K (RN X.K H) (fun c d H => W c d σ H) F H Q (m ds).noX := hp
    cases hmd : m ds with
    | ok r =>
      rw [hmd] at hp'
      refine fun v F2 H2 e2 r2 => hp' v F2 H2 (e1.trans e2) ?_
      obtain ⟨a, h1, h2, h3, h4⟩ := r2
      exact ⟨a, h1, e1.same.free h2, h3, h4⟩
    | ex c fs => rw [hmd] at hp'; exact hp'.elim
    | no => rw [hmd] at hp'; exact hp'.elim
/-- f(box, ..): the box is a new list of nobody else's -/
theorem ev_box {k : Nat} {f : Addr} {fd : FuncData} {ps : List Str} {m : List D → List D → Rs (D × List D)} {x : Str} {mb : Rs (List D)} (Fk : KeepsIO X.prog X.w X.K X.mg X.base k f fd ps m) (hr : Room k X.A) (hm : X.mg x = some (.ref f)) (hk : PySem.W.keepIn X.K (.ref f) = true)
    (hb : Binds X.K fd ps []) (he0 : EF X G W ρ e mb) (ha : AC X G W ρ es κ) (hln : es.length + 1 = ps.length := by rfl) (hg : Gl X x := by rfl) (hdb : (x == ("__debug__" : Str)) = false := by decide) (he : starEach (e :: es) X.env = (false, eval e X.env) :: starEach es X.env := by rfl)
    (hpl : (backTo pos (starEach es X.env)).any (·.1) = false := by rfl) : EV X G W ρ (.Call (.Name x p) (e :: es) [] pos) (mb.bind fun s => κ D fun ds => (m s ds).noX.bind fun u => .ok u.1) := by
  obtain ⟨ms, ⟨ln, t, pa, qa⟩, h2⟩ := ha
  obtain ⟨te, pe, qe⟩ := he0
  refine ⟨_, pe_callSD (E := WE W0) Fk hr hg hm hk hb .nil (fun σ => passAt takes0 σ) (pa_cons pe pa he) hdb he hpl, fun F0 σ F H Q hh hp => ?_⟩
  refine qe F0 σ F H _ hh ?_
  cases mb with
  | ex c fs => exact hp
  | no => exact hp
  | ok s =>
    have hp : Post X.K (RF X.K) (fun c d H => W c d σ H) F H Q (κ D fun ds => (m s ds).noX.bind fun u => .ok u.1) := hp
    rw [h2] at hp
    rintro v F1 H1 e1 ⟨a, rfl, hn, hf, ho⟩
    refine qa F0 σ F1 H1 _ (hh.more e1) ?_
    cases ms with
    | ex c fs => exact Post.more hp e1
    | no => exact hp
    | ok ds =>
      intro vs F' H' e2 r1
      show spIO X.K ps.length m (.ref a :: vs ++ []) H' Q _
      rw [List.append_nil]
      obtain ⟨o, hob, nt_⟩ := ho.there
      refine ⟨by rw [List.length_cons, Reps.length r1, ln ds rfl]; exact hln, a, vs, F', ds, s, rfl, e2.sub, e2.stays hf hob nt_, ho.ext e2, r1, ?_⟩
      cases hmd : m s ds with
      | ex c fs => simp only [Rs.bind_ok, hmd] at hp; exact hp.elim
      | no => simp only [Rs.bind_ok, hmd] at hp; exact hp.elim
      | ok r =>
        simp only [Rs.bind_ok, hmd, Rs.noX_ok] at hp
        intro w F3 H3 e3 r3 o3
        refine hp w F3 H3 ⟨fun b x q => ?_, e3.sub, (e1.ext.trans e2.ext).trans e3.ext, fun b x q => ?_⟩ r3
        · have nb : b ≠ a := ne_of_none q hn
          exact e3.same _ _ nb (e2.same _ _ (e1.same _ _ q))
        · rcases e3.new b x q with z | z
          · exact (e1.trans e2).new b x z
          · exact .inr (z.back fun o' q2 => e2.same _ _ (e1.same _ _ q2))
end
/-! ### statements with draws, blocks of any kind -/
def Fl.toIO {ε β' : Type} (f : ε → Rs (D × List D)) : Fl ε β' → Rs (D × List D)
  | .nx z => f z
  | .rt d [.lst s] => .ok (d, s)
  | _ => .no
section
variable {X : Cx} {G : Gd} {W : WX} {ρx ρ : Rho} {rest sts : List Stmt} {α β R : Type} {pn : α → Rho} {pl : β → Rho} {ι : R → Fl α β} {i : Nat} {l : Bool} {s : List D}
theorem bk_setS {j : Nat} {st : Stmt} {m : Rs (D × List D)} {f : D → List D → Rs (Fl α β)} (he : ASB X G ρ i st j m) (hr : ∀ d s', BK X G W ρx ((ρ.set i (some (.own l (.lst s')))).set j (some (.val d))) rest pn pl (f d s')) (hi : At ρ i l s := by rfl) (hl : j < ρ.length := by exact Nat.le_of_ble_eq_true rfl) :
    BK X G W ρx ρ (st :: rest) pn pl (m.noX.bind fun u => f u.1 u.2) := by
  intro F0 σ F H E hh hp
  obtain ⟨r, rfl, hp⟩ := postS_noX hp
  obtain ⟨b, hb⟩ := box_at hh hi
  obtain ⟨te, p, q⟩ := he F0 σ F H (fun v H' => gName j v σ H' (fun σ' H' => tAny X rest E σ' H')) b hh hb fun v F' H' e1 r1 o1 => hr r.1 r.2 F0 _ F' H' E ((hh.moreB hi hb e1 o1).setV r1 (by rw [List.length_set]; exact hl)) hp
  exact any_cons p q
theorem bk_ownS {j : Nat} {st : Stmt} {m : Rs (List D × List D)} {f : List D → List D → Rs (Fl α β)} (he : AFB X G ρ i st j m) (hr : ∀ d s', BK X G W ρx ((ρ.set i (some (.own l (.lst s')))).set j (some (.own true (.lst d)))) rest pn pl (f d s')) (hi : At ρ i l s := by rfl) (hl : j < ρ.length := by exact Nat.le_of_ble_eq_true rfl) :
    BK X G W ρx ρ (st :: rest) pn pl (m.noX.bind fun u => f u.1 u.2) := by
  have e := bi_ownS (ι := fun r : Fl α β => r) (W := W) (ρx := ρx) (rest := rest) (pn := pn) (pl := pl) (f := f) he (fun d s' => bi_gen (hr d s')) hi hl
  unfold BI at e
  rw [Rs.bind_id] at e
  exact e
theorem bk_retBG {e : Expr} {pos : Pos} {b : Addr} {m : Rs (D × List D)} (he : EB X G ρ i e m) (hi : At ρ i false s := by rfl) (hb : G.bs = [b] := by rfl) : BK X G W ρx ρ (.Return (some e) pos :: rest) pn pl (m.noX.bind fun u => (.ok (.rt u.1 [.lst u.2]) : Rs (Fl α β))) := bk_retB he hi hb
theorem bi_forIO {ε γ : Type} {post : ε → Rho} {u : D → Option γ} {p : ε → γ → Rho} {is : List Nat} {tg iter : Expr} {body : List Stmt} {pos : Pos} {mi : Rs (List D)} {fb : ε → γ → Rs (Fl ε ε)} {z0 : ε} {f : ε → Rs (D × List D)} {b : Addr}
    (po : PassesOwn (model X.prog X.w) X.A X.env X.xe) (calm : X.calm = true) (hbs : G.bs = [b]) (hi : IT X G W ρ tg iter mi) (h0 : Wk ρ (post z0)) (ht : ∀ z, TT1 X G tg (post z) is u (p z)) (hb : ∀ z y, BK X G W ρx (p z y) body post post (fb z y))
    (hr : ∀ z, BI X G W ρx (post z) rest pn pl ioI (f z)) (wx : Wk ρ ρx := by first | exact Wk.nil | exact Wk.refl | (repeat (first | exact Wk.nil | apply Wk.keep | apply Wk.drop))) (hs : ∀ x, foldedSetIterable iter X.env x = pure x := by intro _; rfl) :
    BI X G W ρx ρ (.For tg iter body [] pos :: rest) pn pl ioI (mi.bind fun items => (loopM (β := β) (fun z d => (Rs.of (u d)).bind (fb z)) items z0).bind (Fl.toIO f)) := by
  unfold BI
  have z := bk_for (pos := pos) po calm hi h0 ht hb hr wx hs
  intro F0 σ F H E hh hp
  refine z F0 σ F H E hh ?_
  cases mi with
  | ex c fs => exact hp
  | no => exact hp
  | ok items =>
    simp only [Rs.bind_ok] at hp ⊢
    cases hl : loopM (β := β) (fun z d => (Rs.of (u d)).bind (fb z)) items z0 with
    | ex c fs => rw [hl] at hp; exact hp
    | no => rw [hl] at hp; exact hp
    | ok fl =>
      rw [hl] at hp
      cases fl with
      | nx z => exact hp
      | bk y => exact hp.elim
      | ct y => exact hp.elim
      | rt d s =>
        simp only [Rs.bind_ok] at hp
        unfold Fl.toIO at hp
        split at hp
        · rename_i h; cases h
        · rename_i h; cases h; exact hp
        · exact hp.elim
end
end VL
set_option Elab.async false
set_option linter.all false
set_option maxRecDepth 100000
set_option autoImplicit false
namespace VL
open PySem PySem.Spec L2
open PyProof.Rows hiding St

/-! ### parts of a parallel assignment: data, or new lists -/
def CellOk (K : PySem.W.Frag) (Hs F H : Hp) (o : Bool) (v : V) (d : D) : Prop := match o with
  | false => Rep K F v d
  | true => ∃ a, v = .ref a ∧ Hs a = none ∧ F a = none ∧ Own K F H a d
def clOf : Bool → D → Cl
  | false, d => .val d
  | true, d => .own true d
theorem CellOk.more {K : PySem.W.Frag} {Hs F H F' H' : Hp} {o : Bool} {v : V} {d : D} (e : Ext F H F' H') (h : CellOk K Hs F H o v d) : CellOk K Hs F' H' o v d := by
  cases o with
  | false => exact Rep.mono e.ext h
  | true =>
    obtain ⟨a, h1, h2, h3, h4⟩ := h
    obtain ⟨u, hu, nt_⟩ := h4.there
    exact ⟨a, h1, h2, e.stays h3 hu nt_, h4.ext e⟩
theorem CellOk.moreB {K : PySem.W.Frag} {Hs F H F' H' : Hp} {o : Bool} {v : V} {d : D} {b : Addr} (e : ExtB b F H F' H') (hb : Hs b ≠ none) (h : CellOk K Hs F H o v d) : CellOk K Hs F' H' o v d := by
  cases o with
  | false => exact Rep.mono e.ext h
  | true =>
    obtain ⟨a, h1, h2, h3, h4⟩ := h
    obtain ⟨u, hu, nt_⟩ := h4.there
    have n : a ≠ b := fun z => by subst z; exact hb h2
    exact ⟨a, h1, h2, e.stays h3 hu nt_, h4.moreB e n⟩
theorem Holds.setC {K : PySem.W.Frag} {G : Gd} {ρ : Rho} {σ : St} {Hs F H : Hp} {i : Nat} {o : Bool} {v : V} {d : D} (hh : Holds K G ρ σ F H) (c : CellOk K Hs F H o v d)
    (h0 : ∀ a, v = .ref a → Hs a = none → OwnAt G a true ∧ ∀ (j : Nat) (m : Bool) (e : D), ρ[j]? = some (some (.own m e)) → σ[j]? ≠ some (some (.ref a))) (hi : i < ρ.length) : Holds K G (ρ.set i (some (clOf o d))) (σ.set i (some v)) F H := by
  cases o with
  | false => exact hh.setV c hi
  | true =>
    obtain ⟨a, rfl, h2, h3, h4⟩ := c
    obtain ⟨g1, g2⟩ := h0 a rfl h2
    exact hh.setO h4 h3 g1 g2 hi
/-- both parts -/
theorem Holds.setC2 {K : PySem.W.Frag} {G : Gd} {ρ0 ρ : Rho} {σ : St} {Fs Hs Hm F H : Hp} {i j : Nat} {o1 o2 : Bool} {v1 v2 : V} {d1 d2 : D} (hh0 : Holds K G ρ0 σ Fs Hs) (hρ : ∀ (k : Nat) (m : Bool) (e : D), ρ[k]? = some (some (.own m e)) → ∃ m' e', ρ0[k]? = some (some (.own m' e')))
    (hh : Holds K G ρ σ F H) (c1 : CellOk K Hs F H o1 v1 d1) (c2 : CellOk K Hm F H o2 v2 d2) (hsm : ∀ a, Hm a = none → Hs a = none) (hm : o1 = true → ∀ a, v1 = .ref a → Hm a ≠ none) (hij : i ≠ j) (hi : i < ρ.length) (hj : j < ρ.length) :
    Holds K G ((ρ.set i (some (clOf o1 d1))).set j (some (clOf o2 d2))) ((σ.set i (some v1)).set j (some v2)) F H := by
  have fr : ∀ a, Hs a = none → OwnAt G a true ∧ ∀ (j : Nat) (m : Bool) (e : D), ρ[j]? = some (some (.own m e)) → σ[j]? ≠ some (some (.ref a)) := fun a ha =>
    ⟨hh0.toGnd.free0 ha, fun k m e q => by
      obtain ⟨m', e', q'⟩ := hρ k m e q
      exact hh0.notOwn ha k m' e' q'⟩
  refine (hh.setC c1 (fun a _ ha => fr a ha) hi).setC c2 (fun a ea ha => ?_) (by rw [List.length_set]; exact hj)
  obtain ⟨g1, g2⟩ := fr a (hsm a ha)
  refine ⟨g1, fun k m e q => ?_⟩
  rcases set_at q with ⟨rfl, z⟩ | ⟨n, z⟩
  · rw [List.getElem?_set_self (by have := hh.len; omega)]
    intro q2
    cases q2
    cases o1 with
    | false => cases z
    | true => exact hm rfl a rfl ha
  · rw [List.getElem?_set_ne n]
    exact g2 k m e z
/-- a part without draws -/
def EC (X : Cx) (G : Gd) (W : WX) (ρ : Rho) (o : Bool) (e : Expr) {γ : Type} (wr : γ → D) (m : Rs γ) : Prop :=
  ∃ t, PE X e t ∧ ∀ F0 σ F H Q, Holds X.K (G.at F0) ρ σ F H → Post X.K (fun F' H' v g => CellOk X.K H F' H' o v (wr g)) (fun c d H => W c d σ H) F H Q m → t σ H Q
section
variable {X : Cx} {G : Gd} {W : WX} {ρ : Rho} {i : Nat} {l : Bool} {s : List D} {e a b c : Expr} {es : List Expr} {pos p p2 : Pos}
theorem EV.ec {m : Rs D} (h : EV X G W ρ e m) : EC X G W ρ false e (fun d => d) m := h
theorem EF.ec {m : Rs (List D)} (h : EF X G W ρ e m) : EC X G W ρ true e .lst m := h
/-- a part with draws -/
def ECB (X : Cx) (G : Gd) (ρ : Rho) (i : Nat) (o : Bool) (e : Expr) {γ : Type} (wr : γ → D) (m : Rs (γ × List D)) : Prop :=
  ∀ F0 σ F H (Q : VK) b, Holds X.K (G.at F0) ρ σ F H → σ[i]? = some (some (.ref b)) → (∃ r, m = .ok r ∧ ∀ v F' H', ExtB b F H F' H' → CellOk X.K H F' H' o v (wr r.1) → Own X.K F' H' b (.lst r.2) → Q v H') → ∃ t, PE X e t ∧ t σ H Q
theorem EB.ecb {m : Rs (D × List D)} (h : EB X G ρ i e m) : ECB X G ρ i false e (fun d => d) m := fun F0 σ F H Q b hh hb ⟨r, hm, hq⟩ => by
  subst hm
  exact h F0 σ F H Q b hh hb hq
theorem EFB.ecb {m : Rs (List D × List D)} (h : EFB X G ρ i e m) : ECB X G ρ i true e .lst m := fun F0 σ F H Q b hh hb ⟨r, hm, hq⟩ => by
  subst hm
  exact h F0 σ F H Q b hh hb fun a F' H' e1 h1 h2 h3 h4 => hq _ F' H' e1 ⟨a, rfl, h1, h2, h3⟩ h4
theorem EC.ecb {o : Bool} {γ : Type} {wr : γ → D} {m : Rs γ} (h : EC X G W0 ρ o e wr m) (hi : At ρ i l s := by rfl) : ECB X G ρ i o e wr (m.bind fun g => .ok (g, s)) := fun F0 σ F H Q b hh hb ⟨r, hm, hq⟩ => by
  obtain ⟨t, p, q⟩ := h
  refine ⟨t, p, q F0 σ F H Q hh ?_⟩
  cases m with
  | ok g =>
    cases hm
    intro v F' H' e1 r1
    obtain ⟨hf, hw⟩ := holds_box hh hi hb
    obtain ⟨o', ho, nt_⟩ := hw.there
    exact hq v F' H' (e1.toB ho nt_) r1 (hw.ext e1)
  | ex c fs => cases hm
  | no => cases hm
end
section
variable {X : Cx} {G : Gd} {W : WX} {ρx ρ : Rho} {rest sts : List Stmt} {α β R : Type} {pn : α → Rho} {pl : β → Rho} {ι : R → Fl α β} {i : Nat} {l : Bool} {s : List D}
theorem bi_parC {γ δ : Type} {o1 o2 : Bool} {w1 : γ → D} {w2 : δ → D} {i j : Nat} {x y : Str} {a b : Expr} {px py pt : Pos} {kt k2 : Nat} {pt2 pos : Pos} {ma : Rs γ} {mb : Rs δ} {f : γ → δ → Rs R} (calm : X.calm = true) (nd : X.N.Nodup) (ha : EC X G W ρ o1 a w1 ma) (hb : EC X G W ρ o2 b w2 mb)
    (hr : ∀ d e, BI X G W ρx ((ρ.set i (some (clOf o1 (w1 d)))).set j (some (clOf o2 (w2 e)))) rest pn pl ι (f d e)) (hi : X.N[i]? = some x := by rfl) (hj : X.N[j]? = some y := by rfl) (hij : i ≠ j := by decide) (hx : X.env.scope.names.lookup x = some .local := by rfl) (hy : X.env.scope.names.lookup y = some .local := by rfl)
    (hw : swappedStores [.Tuple [.Name x px, .Name y py] kt pt] (.Tuple [a, b] k2 pt2) X.env = pure (some [x, y]) := by rfl) (hs : swapsWithSole [.Tuple [.Name x px, .Name y py] kt pt] (.Tuple [a, b] k2 pt2) pos.line X.env = pure false := by rfl)
    (hsa : starEach [a, b] X.env = (false, eval a X.env) :: starEach [b] X.env := by rfl) (hsb : starEach [b] X.env = (false, eval b X.env) :: starEach [] X.env := by rfl) (hli : i < ρ.length := by exact Nat.le_of_ble_eq_true rfl) (hlj : j < ρ.length := by exact Nat.le_of_ble_eq_true rfl) (wx : Wk ρ ρx := by first | exact Wk.nil | exact Wk.refl | (repeat (first | exact Wk.nil | apply Wk.keep | apply Wk.drop))) :
    BI X G W ρx ρ (.Assign [.Tuple [.Name x px, .Name y py] kt pt] (.Tuple [a, b] k2 pt2) pos :: rest) pn pl ι (ma.bind fun d => mb.bind fun e => f d e) := by
  obtain ⟨ta, pa, qa⟩ := ha
  obtain ⟨tb, pb, qb⟩ := hb
  intro F0 σ F H E hh hp
  have e2 : ((ma.bind fun d => mb.bind fun e => f d e).bind fun r => (.ok (ι r) : Rs (Fl α β))) = ma.bind fun d => mb.bind fun e => (f d e).bind fun r => .ok (ι r) := by
    cases ma <;> simp only [Rs.bind_ok, Rs.bind_ex, Rs.bind_no, Rs.assoc]
  rw [e2] at hp
  refine any_cons (ps_par calm nd hi hj hij hx hy (pa_cons pa (pa_cons pb pa_nil hsb) hsa) hw hs) ?_
  refine qa F0 σ F H _ hh (post_seq hh wx hp fun d v F1 H1 e1 r1 hp1 => ?_)
  refine qb F0 σ F1 H1 _ (hh.more e1) (post_seq (hh.more e1) wx hp1 fun e u F2 H2 e2 r2 hp2 => ?_)
  refine ⟨v, u, rfl, ?_⟩
  refine hr d e F0 _ F2 H2 E (Holds.setC2 hh (fun k m e q => ⟨m, e, q⟩) ((hh.more e1).more e2) (CellOk.more e2 r1) r2 (fun a ha => e1.same.free ha) (fun ho a ea hn => ?_) hij hli hlj) hp2
  subst ho
  obtain ⟨a', ea', _, _, h4⟩ := r1
  rw [ea] at ea'
  cases ea'
  obtain ⟨o', ho', nt_⟩ := h4.there
  rw [hn] at ho'
  cases ho'
theorem bi_parB {γ δ : Type} {o1 o2 : Bool} {w1 : γ → D} {w2 : δ → D} {k j : Nat} {x y : Str} {a b : Expr} {px py pt : Pos} {kt k2 : Nat} {pt2 pos : Pos} {ma : Rs (γ × List D)} {mb : List D → Rs (δ × List D)} {f : γ → δ → List D → Rs R} (calm : X.calm = true) (nd : X.N.Nodup) (ha : ECB X G ρ i o1 a w1 ma) (hb : ∀ s', ECB X G (ρ.set i (some (.own l (.lst s')))) i o2 b w2 (mb s'))
    (hr : ∀ d e s', BI X G W ρx (((ρ.set i (some (.own l (.lst s')))).set k (some (clOf o1 (w1 d)))).set j (some (clOf o2 (w2 e)))) rest pn pl ι (f d e s')) (hi : At ρ i l s := by rfl) (hk : X.N[k]? = some x := by rfl) (hj : X.N[j]? = some y := by rfl) (hij : k ≠ j := by decide) (hx : X.env.scope.names.lookup x = some .local := by rfl) (hy : X.env.scope.names.lookup y = some .local := by rfl)
    (hw : swappedStores [.Tuple [.Name x px, .Name y py] kt pt] (.Tuple [a, b] k2 pt2) X.env = pure (some [x, y]) := by rfl) (hs : swapsWithSole [.Tuple [.Name x px, .Name y py] kt pt] (.Tuple [a, b] k2 pt2) pos.line X.env = pure false := by rfl)
    (hsa : starEach [a, b] X.env = (false, eval a X.env) :: starEach [b] X.env := by rfl) (hsb : starEach [b] X.env = (false, eval b X.env) :: starEach [] X.env := by rfl) (hlk : k < ρ.length := by exact Nat.le_of_ble_eq_true rfl) (hlj : j < ρ.length := by exact Nat.le_of_ble_eq_true rfl) :
    BI X G W ρx ρ (.Assign [.Tuple [.Name x px, .Name y py] kt pt] (.Tuple [a, b] k2 pt2) pos :: rest) pn pl ι (ma.noX.bind fun u => (mb u.2).noX.bind fun v => f u.1 v.1 v.2) := by
  intro F0 σ F H E hh hp
  rw [Rs.assoc] at hp
  obtain ⟨r, hma, hp1⟩ := postS_noX hp
  clear hp
  rw [Rs.assoc] at hp1
  obtain ⟨q, hmb, hp2⟩ := postS_noX hp1
  clear hp1
  obtain ⟨bx, hbx⟩ := box_at hh hi
  obtain ⟨fb, ow⟩ := holds_box hh hi hbx
  obtain ⟨ob, hob, nt_⟩ := ow.there
  refine any_cons (ps_par calm nd hk hj hij hx hy (pa_cons pe_any (pa_cons pe_any pa_nil hsb) hsa) hw hs) ?_
  refine ha F0 σ F H _ bx hh hbx ⟨r, hma, fun v F1 H1 e1 r1 o1' => ?_⟩
  have hh1 := hh.moreB hi hbx e1 o1'
  refine hb r.2 F0 σ F1 H1 _ bx hh1 hbx ⟨q, hmb, fun u F2 H2 e2 r2 o2' => ?_⟩
  have hh2 := hh1.moreB (at_set hi) hbx e2 o2'
  rw [List.set_set] at hh2
  refine ⟨v, u, rfl, ?_⟩
  refine hr r.1 q.1 q.2 F0 _ F2 H2 E (Holds.setC2 hh (fun k m e q' => ?_) hh2 (CellOk.moreB e2 (by rw [hob]; exact fun z => by cases z) r1) r2 (fun a ha => ?_) (fun ho a ea hn => ?_) hij (by rw [List.length_set]; exact hlk) (by rw [List.length_set]; exact hlj)) hp2
  · rcases set_at q' with ⟨rfl, z⟩ | ⟨n, z⟩
    · exact ⟨l, _, hi⟩
    · exact ⟨m, e, z⟩
  · cases h0 : H a with
    | none => rfl
    | some o' =>
      by_cases z : a = bx
      · subst z
        obtain ⟨o3, h3, nt_⟩ := e1.there
        rw [ha] at h3
        cases h3
      · rw [e1.same _ _ z h0] at ha
        cases ha
  · subst ho
    obtain ⟨a', ea', _, _, h4⟩ := r1
    rw [ea] at ea'
    cases ea'
    obtain ⟨o', ho', nt_⟩ := h4.there
    rw [hn] at ho'
    cases ho'
/-- blocks with ways out -/
theorem bk_of {m : Rs (Fl α β)} (h : BI X G W ρx ρ sts pn pl (fun r : Fl α β => r) m) : BK X G W ρx ρ sts pn pl m := by
  unfold BI at h
  rw [Rs.bind_id] at h
  exact h
end
/-! ### x, y, .. = e -/
def unL2 : D → Option (D × D)
  | .tup [a, b] => some (a, b)
  | .lst [a, b] => some (a, b)
  | _ => none
def unL3 : D → Option (D × D × D)
  | .tup [a, b, c] => some (a, b, c)
  | .lst [a, b, c] => some (a, b, c)
  | _ => none
def unL4 : D → Option (D × D × D × D)
  | .tup [a, b, c, d] => some (a, b, c, d)
  | .lst [a, b, c, d] => some (a, b, c, d)
  | _ => none
section
variable {X : Cx} {G : Gd} {W : WX} {ρx ρ : Rho} {rest sts : List Stmt} {α β R : Type} {pn : α → Rho} {pl : β → Rho} {ι : R → Fl α β} {i : Nat} {l : Bool} {s : List D}
/-- an unpacking of lists, or of tuples -/
theorem tg_or {X : Cx} {tg : Expr} {v : V} {σ : St} {H : Hp} {Q : St → Hp → Prop} {g : TG} (p : PG X tg g) (h : g v σ H Q) : tAnyG X tg v σ H Q := ⟨g, p, h⟩
theorem tl_2 {i j k : Nat} {a b : Expr} {pos : Pos} (hc : X.calm = true) (ha : PG X a (gName i)) (hb : PG X b (gName j)) (hl : i < ρ.length := by exact Nat.le_of_ble_eq_true rfl) (hl2 : j < ρ.length := by exact Nat.le_of_ble_eq_true rfl)
    (h1 : (assignEach [a, b] X.env).map (·.2) = assign a X.env :: (assignEach [b] X.env).map (·.2) := by rfl) (h2 : (assignEach [b] X.env).map (·.2) = assign b X.env :: (assignEach [] X.env).map (·.2) := by rfl)
    (hn : (assignEach [a, b] X.env).length = 2 := by rfl) (hst : (assignEach [a, b] X.env).findIdx? (·.1) = none := by rfl) :
    TT1 X G (.Tuple [a, b] k pos) ρ [i, j] unL2 (fun z => (ρ.set i (some (.val z.1))).set j (some (.val z.2))) := by
  intro F0 σ F H v d z Q hh r e kk
  have fin : ∀ {v1 v2 : V}, Rep X.K F v1 z.1 → Rep X.K F v2 z.2 → (gCons (gName i) (gCons (gName j) gNil)) [v1, v2] σ H Q := fun {v1 v2} r1 r2 =>
    ⟨_, _, rfl, _, _, rfl, rfl, kk _ (fun vs hv => (wipe_set (hv j (by simp))).trans (wipe_set (hv i (by simp)))) ((hh.setV r1 hl).setV r2 (by simpa using hl2))⟩
  unfold unL2 at e
  split at e
  · cases e
    cases r with
    | tup h l r =>
      cases r with
      | cons r1 r =>
        cases r with
        | cons r2 r =>
          cases r
          exact tg_or (pg_tup hc (pgs_cons ha (pgs_cons hb pgs_nil h2) h1) hn hst) ⟨_, _, rfl, SqT.same hh.sub h.sq, rfl, fin r1 r2⟩
  · cases e
    cases r with
    | lst h l r =>
      cases r with
      | cons r1 r =>
        cases r with
        | cons r2 r =>
          cases r
          exact tg_or (pg_lst hc (pgs_cons ha (pgs_cons hb pgs_nil h2) h1) hn hst) ⟨_, _, rfl, SqL.of (hh.sub _ _ h), rfl, fin r1 r2⟩
  · cases e
theorem tl_3 {i j k n : Nat} {a b c : Expr} {pos : Pos} (hc : X.calm = true) (ha : PG X a (gName i)) (hb : PG X b (gName j)) (hcc : PG X c (gName k)) (hl : i < ρ.length := by exact Nat.le_of_ble_eq_true rfl) (hl2 : j < ρ.length := by exact Nat.le_of_ble_eq_true rfl) (hl3 : k < ρ.length := by exact Nat.le_of_ble_eq_true rfl)
    (h1 : (assignEach [a, b, c] X.env).map (·.2) = assign a X.env :: (assignEach [b, c] X.env).map (·.2) := by rfl) (h2 : (assignEach [b, c] X.env).map (·.2) = assign b X.env :: (assignEach [c] X.env).map (·.2) := by rfl)
    (h3 : (assignEach [c] X.env).map (·.2) = assign c X.env :: (assignEach [] X.env).map (·.2) := by rfl)
    (hn : (assignEach [a, b, c] X.env).length = 3 := by rfl) (hst : (assignEach [a, b, c] X.env).findIdx? (·.1) = none := by rfl) :
    TT1 X G (.Tuple [a, b, c] n pos) ρ [i, j, k] unL3 (fun z => ((ρ.set i (some (.val z.1))).set j (some (.val z.2.1))).set k (some (.val z.2.2))) := by
  intro F0 σ F H v d z Q hh r e kk
  have fin : ∀ {v1 v2 v3 : V}, Rep X.K F v1 z.1 → Rep X.K F v2 z.2.1 → Rep X.K F v3 z.2.2 → (gCons (gName i) (gCons (gName j) (gCons (gName k) gNil))) [v1, v2, v3] σ H Q := fun {v1 v2 v3} r1 r2 r3 =>
    ⟨_, _, rfl, _, _, rfl, _, _, rfl, rfl, kk _ (fun vs hv => ((wipe_set (hv k (by simp))).trans (wipe_set (hv j (by simp)))).trans (wipe_set (hv i (by simp)))) (((hh.setV r1 hl).setV r2 (by simpa using hl2)).setV r3 (by simpa using hl3))⟩
  unfold unL3 at e
  split at e
  · cases e
    cases r with
    | tup h l r =>
      cases r with
      | cons r1 r =>
        cases r with
        | cons r2 r =>
          cases r with
          | cons r3 r =>
            cases r
            exact tg_or (pg_tup hc (pgs_cons ha (pgs_cons hb (pgs_cons hcc pgs_nil h3) h2) h1) hn hst) ⟨_, _, rfl, SqT.same hh.sub h.sq, rfl, fin r1 r2 r3⟩
  · cases e
    cases r with
    | lst h l r =>
      cases r with
      | cons r1 r =>
        cases r with
        | cons r2 r =>
          cases r with
          | cons r3 r =>
            cases r
            exact tg_or (pg_lst hc (pgs_cons ha (pgs_cons hb (pgs_cons hcc pgs_nil h3) h2) h1) hn hst) ⟨_, _, rfl, SqL.of (hh.sub _ _ h), rfl, fin r1 r2 r3⟩
  · cases e
theorem bi_unp {γ : Type} {u : D → Option γ} {p : γ → Rho} {is : List Nat} {tg e : Expr} {pos : Pos} {m : Rs D} {f : γ → Rs R} (he : EV X G W ρ e m) (ht : TT1 X G tg ρ is u p) (hr : ∀ z, BI X G W ρx (p z) rest pn pl ι (f z))
    (hs : swapsWithSole [tg] e pos.line X.env = pure false := by rfl) (hw : swappedStores [tg] e X.env = pure none := by rfl) (h1 : (assignEach [tg] X.env).map (·.2) = [assign tg X.env] := by rfl) (wx : Wk ρ ρx := by first | exact Wk.nil | exact Wk.refl | (repeat (first | exact Wk.nil | apply Wk.keep | apply Wk.drop))) :
    BI X G W ρx ρ (.Assign [tg] e pos :: rest) pn pl ι (m.bind fun d => (Rs.of (u d)).bind f) := by
  obtain ⟨te, pe, qe⟩ := he
  intro F0 σ F H E hh hp
  rw [Rs.assoc] at hp
  refine any_cons (ps_asg pe pg_any hs hw h1) ?_
  refine qe F0 σ F H _ hh (post_seq hh wx hp fun d v F1 H1 e1 r1 hp1 => ?_)
  cases hu : u d with
  | none => rw [hu] at hp1; exact hp1.elim
  | some z =>
    rw [hu] at hp1
    exact ht F0 σ F1 H1 v d z _ (hh.more e1) r1 hu fun σ' _ hh2 => hr z F0 σ' F1 H1 E hh2 hp1
theorem bi_unpB {γ : Type} {u : D → Option γ} {p : γ → List D → Rho} {is : List Nat} {tg e : Expr} {pos : Pos} {m : Rs (D × List D)} {f : γ → List D → Rs R} (he : EB X G ρ i e m) (ht : ∀ s', TT1 X G tg (ρ.set i (some (.own l (.lst s')))) is u (fun z => p z s')) (hr : ∀ z s', BI X G W ρx (p z s') rest pn pl ι (f z s')) (hi : At ρ i l s := by rfl)
    (hs : swapsWithSole [tg] e pos.line X.env = pure false := by rfl) (hw : swappedStores [tg] e X.env = pure none := by rfl) (h1 : (assignEach [tg] X.env).map (·.2) = [assign tg X.env] := by rfl) :
    BI X G W ρx ρ (.Assign [tg] e pos :: rest) pn pl ι (m.noX.bind fun w => (Rs.of (u w.1)).bind fun z => f z w.2) := by
  intro F0 σ F H E hh hp
  rw [Rs.assoc] at hp
  obtain ⟨r, hm, hp1⟩ := postS_noX hp
  clear hp
  subst hm
  obtain ⟨bx, hbx⟩ := box_at hh hi
  refine any_cons (ps_asg pe_any pg_any hs hw h1) ?_
  refine he F0 σ F H _ bx hh hbx fun v F1 H1 e1 r1 o1 => ?_
  cases hu : u r.1 with
  | none => rw [hu] at hp1; exact hp1.elim
  | some z =>
    rw [hu] at hp1
    exact ht r.2 F0 σ F1 H1 v r.1 z _ (hh.moreB hi hbx e1 o1) r1 hu fun σ' _ hh2 => hr z r.2 F0 σ' F1 H1 E hh2 hp1
end
end VL
set_option Elab.async false
set_option linter.all false
set_option maxRecDepth 100000
set_option autoImplicit false
namespace VL
open PySem PySem.Spec L2
open PyProof.Rows hiding St

/-! ### instances with slots -/
/-- the field i of an instance of c -/
def fldD (c : Str) (i : Nat) : D → Option D
  | .obj c' xs => if c' = c then xs[i]? else none
  | _ => none
theorem RepH.slt {K : PySem.W.Frag} {F H : Hp} {v : V} {c : Str} {ds : List D} (s : Same F H) (h : RepH K F H v (.obj c ds)) : ∃ a dx xs, v = .ref a ∧ SlX.Slt H a (He.ga K c) dx (xs.map some) ∧ Reps K F xs ds := by
  rcases h with h | ⟨a, rfl, h⟩
  · cases h with
    | obj h1 h2 h3 => exact ⟨_, _, _, rfl, .inr ⟨s _ _ h1, s _ _ h2⟩, h3⟩
  · cases h with
    | obj h1 h2 h3 => exact ⟨_, _, _, rfl, .inr ⟨h1, s _ _ h2⟩, h3⟩
section
variable {X : Cx} {G : Gd} {W : WX} {ρ : Rho} {e : Expr} {es : List Expr} {m : Rs D} {κ : Kt} {pos p apos : Pos}
theorem ev_fld {c f : Str} {i : Nat} (sc : SlX.SCls X.K (He.ga X.K c)) (st : ∃ p, SlX.Slot1 X.K (He.ga X.K c) f p i) (he : EO X G W ρ e m) (hb : attributeBase e f X.env (eval e X.env) = eval e X.env := by rfl) : EV X G W ρ (.Attribute e f pos) (m.bind fun x => Rs.of (fldD c i x)) := by
  obtain ⟨t, pe, q⟩ := he
  obtain ⟨pd, st⟩ := st
  refine ⟨_, SlX.pe_sl pe hb, fun F0 σ F H Q hh hp => q F0 σ F H _ hh (hp.bind fun d v F1 H1 e1 r1 hp1 => ?_)⟩
  obtain ⟨x, hx, k⟩ := Post.of hp1
  unfold fldD at hx
  split at hx
  · rename_i c' xs
    split at hx
    · rename_i ec
      subst ec
      obtain ⟨a, dx, vs, rfl, h1, h2⟩ := RepH.slt e1.sub r1
      obtain ⟨w, hw, rw'⟩ := h2.get hx
      exact ⟨a, _, dx, pd, _, i, w, rfl, h1, sc, st, by rw [List.getElem?_map, hw]; rfl, k _ F1 H1 (Ext.refl e1.sub) rw'⟩
    · cases hx
  · cases hx
/-- what the text says of a property -/
structure Prp (K : PySem.W.Frag) (C : Addr) (f : Str) (g : Addr) : Prop where
  ex : ∃ p : Addr, PySem.W.findIn K (.ref C) f = some (some (.ref p)) ∧ PySem.W.specialIn K (.ref p) "__get__" = some (some (.builtin "property.__get__")) ∧ PySem.W.takesIn K (.ref p) = some true ∧ ∃ rest, PySem.W.recIn K p "property" = some (.ref g :: rest)
def isObj (c : Str) : D → Bool
  | .obj c' _ => decide (c' = c)
  | _ => false
/-- e.f, a property -/
theorem ev_prop {k : Nat} {g : Addr} {fd : FuncData} {ps : List Str} {mf : List D → Rs D} {c f : Str} (sc : SlX.SCls X.K (He.ga X.K c)) (pr : Prp X.K (He.ga X.K c) f g) (Fk : Keeps X.prog X.w X.K X.mg X.base k g fd ps mf) (hb : Binds X.K fd ps []) (hr : Room (k + 1) X.A) (he : EV X G W ρ e m)
    (hba : attributeBase e f X.env (eval e X.env) = eval e X.env := by rfl) (hln : ps.length = 1 := by rfl) : EV X G W ρ (.Attribute e f pos) (m.bind fun x => if isObj c x then (mf [x]).noX else .no) := by
  obtain ⟨t, pe, q⟩ := he
  obtain ⟨pd, h1, h2, h3, h4⟩ := pr.ex
  have hx : ∀ (H : Hp) (s : Shared) (e : Value) (s' : Shared), L2.CX X.prog X.w X.stack H s E0 e s' → False := fun H s e s' z => by
    obtain ⟨_, _, _, _, _, _, _, _, _, _, _, _, z⟩ := z
    exact z.elim
  refine ⟨_, SlX.pe_propSl (E := E0) pe sc h1 h2 h3 h4 (Fk.raw hb .nil) hr hx hba, fun F0 σ F H Q hh hp => q F0 σ F H _ hh (hp.bind fun d v F1 H1 e1 r1 hp1 => ?_)⟩
  cases d with
  | obj c' xs =>
    by_cases ec : c' = c
    · simp only [isObj, ec, decide_true, if_true] at hp1
      subst ec
      obtain ⟨a, dx, vs, rfl, g1, g2⟩ := RepH.slt e1.sub (.inl r1)
      refine ⟨a, dx, _, rfl, g1, ?_⟩
      show spM X.K ps.length mf ([V.ref a] ++ []) H1 Q E0
      rw [List.append_nil]
      refine ⟨hln.symm, F1, [.obj c' xs], e1.sub, .one r1, ?_⟩
      cases hm : mf [.obj c' xs] with
      | ok d =>
        rw [hm] at hp1
        exact hp1
      | ex cc fs => rw [hm] at hp1; exact hp1.elim
      | no => rw [hm] at hp1; exact hp1.elim
    · simp only [isObj, ec, decide_false, Bool.false_eq_true, if_false] at hp1
      exact hp1.elim
  | _ => exact hp1.elim
/-- a property that tells a field -/
theorem ev_propF {k : Nat} {g : Addr} {fd : FuncData} {ps : List Str} {mf : List D → Rs D} {c f : Str} {i : Nat} (sc : SlX.SCls X.K (He.ga X.K c)) (pr : Prp X.K (He.ga X.K c) f g) (Fk : Keeps X.prog X.w X.K X.mg X.base k g fd ps mf) (hmf : ∀ x, mf [x] = Rs.of (fldD c i x)) (hb : Binds X.K fd ps []) (hr : Room (k + 1) X.A) (he : EV X G W ρ e m)
    (hba : attributeBase e f X.env (eval e X.env) = eval e X.env := by rfl) (hln : ps.length = 1 := by rfl) : EV X G W ρ (.Attribute e f pos) (m.bind fun x => Rs.of (fldD c i x)) := by
  have z := ev_prop (pos := pos) sc pr Fk hb hr he hba hln
  have e2 : (m.bind fun x => if isObj c x then (mf [x]).noX else .no) = m.bind fun x => Rs.of (fldD c i x) := by
    congr 1
    funext x
    rw [hmf]
    cases x with
    | obj c' xs =>
      by_cases ec : c' = c
      · simp only [isObj, ec, decide_true, if_true]
        cases fldD c i (.obj c xs) <;> rfl
      · simp only [isObj, fldD, ec, decide_false, Bool.false_eq_true, if_false]
        rfl
    | _ => rfl
  rw [← e2]
  exact z
/-! ### staticmethods -/
structure SMet (K : PySem.W.Frag) (C : Addr) (m : Str) (g : Addr) : Prop where
  rd : ClX.CRead K C (.type "type")
  ex : ∃ p : Addr, PySem.W.findCls K (.ref C) (.type "type") m = some (.get (.builtin "staticmethod.__get__") (.ref p) .none (.ref C)) ∧ ∃ rest, PySem.W.recIn K p "staticmethod" = some (.ref g :: rest)
  kp : PySem.W.keepIn K (.ref g) = true
theorem getsm_ok {X : Cx} {pins : List (Addr × Obj)} {σ : L2.St} {H : Hp} {s : Shared} {C g : Addr} {m : Str} {A : Around} {E : Value → Shared → Prop} {pl : Sem Bool} {Q : Value × List Value → Shared → Prop} (I : Inv X pins σ H s) (k : SMet X.K C m g)
    (h : ∀ s', Inv X pins σ H s' → Q (.ref g, []) s') : wpAny (model X.prog X.w) A (getMethod (.ref C) m pl) Q E s := by
  obtain ⟨pd, h1, rest, h2⟩ := k.ex
  refine PySem.W.method_cls I.kIn k.rd.ga (PySem.W.cls_bind I.kIn k.rd.rd h1 ?_)
  refine wpAny_call (PySem.W.sm_get (s := { s with toks := s.toks + 1 }) I.kIn h2 (PySem.W.handed_on rfl ?_))
  exact h _ (I.tok _)
def tSMeth (C : Addr) (sp : Sp) (E : L2.St → XK) (ta : TE) (t : TA) : TE := fun σ H Q => ta σ H fun x H1 => x = .ref C ∧ t σ H1 fun vs H2 => sp vs H2 Q (E σ)
theorem pe_smeth {CX : CXT} {k : Nat} {C g : Addr} {sp : Sp} {E : L2.St → XK} {o : Expr} {mn : Str} {ta : TE} {t : TA} {pl : Sem Bool} (ho : PE X o ta) (c : SMet X.K C mn g) (F : FnR X.prog X.w X.K X.mg X.base CX k g sp) (hr : Room k X.A) (hx : ∀ σ, PassesAt CX X σ (E σ)) (ha : PA X (e :: es) t)
    (hst : starEach (e :: es) X.env = (false, eval e X.env) :: starEach es X.env := by rfl) (hpl : (backTo pos (starEach es X.env)).any (·.1) = false := by rfl)
    (ht : eval (.Call (.Attribute o mn apos) (e :: es) [] pos) X.env = (do
      let ov ← eval o X.env
      standAt apos.atName
      let (f, first) ← holding [ov] (getMethod ov mn pl)
      callWith pos f first (backTo pos (starEach (e :: es) X.env)) (backToKw pos (keywordEach [] X.env))) := by rfl) :
    PE X (.Call (.Attribute o mn apos) (e :: es) [] pos) (tSMeth C sp E ta t) := by
  refine ⟨fun pins s σ H Q I h => ?_⟩
  refine PySem.W.methodCall_KW (pl := pl) (thn (ho.run pins s σ H _ I h) fun u s1 ⟨x, H1, I1, rx, ex, q⟩ => ?_) ht
  subst ex
  obtain rfl : u = Value.ref C := rx
  refine getsm_ok I1 c fun s2 I2 => ?_
  refine PySem.W.callWith_K (first := []) (h₀ := X.base) I.ok.mod.kin c.kp (thn (ha.run pos pins s2 σ H1 _ I2 q) fun us s3 ⟨vs, H2, I3, r, q2⟩ => ⟨I3.kIn, ?_⟩) hst hpl
  refine wpAny_call (codeAny_mono (F X.A X.stack s3 H2 us vs Q (E σ) hr I3.env0 r q2) fun r s' hq => ?_)
  cases r with
  | error e => exact hx σ pins H2 s3 e s' I3 hq
  | ok fl =>
    cases fl with
    | ret u => exact I3.after hq
    | next => exact False.elim hq
    | brk => exact False.elim hq
    | cont => exact False.elim hq
/-- C.m(..), a staticmethod -/
theorem ev_smeth {k : Nat} {g : Addr} {fd : FuncData} {ps : List Str} {mf : List D → Rs D} {x mn : Str} {C : Addr} {p2 : Pos} {pl : Sem Bool} (tk : Takes X W) (c : SMet X.K C mn g) (Fk : Keeps X.prog X.w X.K X.mg X.base k g fd ps mf) (hb : Binds X.K fd ps []) (hr : Room k X.A) (hm : X.mg x = some (.ref C)) (ha : AC X G W ρ (e :: es) κ)
    (hln : (e :: es).length = ps.length := by rfl) (hg : Gl X x := by rfl) (hdb : (x == ("__debug__" : Str)) = false := by decide)
    (hst : starEach (e :: es) X.env = (false, eval e X.env) :: starEach es X.env := by rfl) (hpl : (backTo pos (starEach es X.env)).any (·.1) = false := by rfl)
    (ht : eval (.Call (.Attribute (.Name x p2) mn apos) (e :: es) [] pos) X.env = (do
      let ov ← eval (.Name x p2) X.env
      standAt apos.atName
      let (f, first) ← holding [ov] (getMethod ov mn pl)
      callWith pos f first (backTo pos (starEach (e :: es) X.env)) (backToKw pos (keywordEach [] X.env))) := by rfl) :
    EV X G W ρ (.Call (.Attribute (.Name x p2) mn apos) (e :: es) [] pos) (κ D mf) := by
  obtain ⟨ms, ⟨ln, t, pa, qa⟩, h2⟩ := ha
  rw [h2]
  refine ⟨_, pe_smeth (E := WE W) (pe_glob (v := .ref C) hg hm rfl hdb) c (Fk.raw hb .nil) hr (fun σ => passAt tk σ) pa hst hpl ht, fun F0 σ F H Q hh hp => ⟨rfl, qa F0 σ F H _ hh ?_⟩⟩
  cases ms with
  | ex c fs => exact hp
  | no => exact hp
  | ok ds =>
    intro vs F' H' e1 r1
    show spM X.K ps.length mf (vs ++ []) H' Q _
    rw [List.append_nil]
    exact ⟨(Reps.length r1).trans ((ln ds rfl).trans hln), F', ds, e1.sub, r1, Post.more (m := mf ds) hp e1⟩
end
/-! ### making one -/
/-- o.f = v as a target -/
def gSl (K : PySem.W.Frag) (ta : TE) (f : Str) : TG := fun y σ H Q => ta σ H fun x H2 => ∃ a C dx p vs i, x = .ref a ∧ SlX.Slt H2 a C dx vs ∧ SlX.SCls K C ∧ SlX.Slot1 K C f p i ∧ Q σ (SlX.slH H2 a C dx (SlX.putS i y vs))
theorem pg_sl {X : Cx} {o : Expr} {f : Str} {pos : Pos} {ta : TE} (ha : PE X o ta) : PG X (.Attribute o f pos) (gSl X.K ta f) := by
  refine ⟨fun pins s σ H y u Q I r h => ?_⟩
  refine PySem.W.kas_attr (thn (ha.run pins s σ H _ I h) fun ov s2 ⟨x, H2, I2, rx, a, C, dx, p, vs, i, ex, hsl, c, t, q2⟩ => ?_)
  subst ex
  obtain rfl : ov = Value.ref a := rx
  exact SlX.setslot_ok I2 hsl c t r fun s3 I3 => ⟨σ, _, I3, q2⟩
/-- the promise of __init__: m tells the instance -/
def spI (K : PySem.W.Frag) (c : Str) (n : Nat) (m : List D → Rs D) : Sp := fun vs H Q E => vs.length = n ∧ ∃ x dx ws H0 F ds, vs = .ref x :: ws ∧ H = upd (upd H0 dx (.own x)) x (.ins (He.ga K c) dx []) ∧ H0 x = none ∧ H0 dx = none ∧ dx ≠ x ∧ Same F H0 ∧ Reps K F ws ds ∧
  (match m ds with
  | .ok d => ∀ F' H', Ext F H0 F' H' → Rep K F' (.ref x) d → Q .non H'
  | .ex cc fs => ∀ dd F' H', Ext F H0 F' H' → XRep K F' dd fs → E (.ref (He.ga K cc)) (some dd) H'
  | .no => False)
abbrev KeepsI (P : Program) (w : World) (K : PySem.W.Frag) (mg : Str → Option Value) (base : Heap) (k : Nat) (c : Str) (f : Addr) (fd : FuncData) (ps : List Str) (m : List D → Rs D) : Prop := FnOk P w K mg base (L2.CX P w) k f fd ps (spI K c ps.length m)
section
variable {X : Cx} {G : Gd} {W : WX} {ρ : Rho} {e : Expr} {es : List Expr} {m : Rs D} {κ : Kt} {pos p apos : Pos}
/-- c(..), errors of its making are not told -/
theorem ev_make {k : Nat} {f : Addr} {fd : FuncData} {ps : List Str} {mf : List D → Rs D} {c x : Str} {ds : List Value} {dvs : List V} {dd : List D} (M : Mk X.K (He.ga X.K c) f) (Fk : KeepsI X.prog X.w X.K X.mg X.base k c f fd ps mf) (hr : Room (k + 1) X.A) (hm : X.mg x = some (.ref (He.ga X.K c)))
    (hb : Binds X.K fd ps ds) (hd : Vals dvs ds) (hdd : ∀ F, Reps X.K F dvs dd) (ha : AC X G W ρ (e :: es) κ) (hln : (e :: es).length + dd.length + 1 = ps.length := by rfl) (hg : Gl X x := by rfl) (hdb : (x == ("__debug__" : Str)) = false := by decide) (he : starEach (e :: es) X.env = (false, eval e X.env) :: starEach es X.env := by rfl)
    (hpl : (backTo pos (starEach es X.env)).any (·.1) = false := by rfl) : EV X G W ρ (.Call (.Name x p) (e :: es) [] pos) (κ D fun us => (mf (us ++ dd)).noX) := by
  obtain ⟨ms, ⟨ln, t, pa, qa⟩, h2⟩ := ha
  rw [h2]
  refine ⟨_, pe_make (E := E0) M Fk hr hg hm hb hd passL pa hdb he hpl, fun F0 σ F H Q hh hp => ?_⟩
  refine qa F0 σ F H _ hh ?_
  cases ms with
  | ex c fs => exact hp
  | no => exact hp
  | ok us =>
    intro vs F' H' e1 r1
    intro y dx hy hdx ne
    have hp' : Post X.K (RF X.K) (fun c d H => W c d σ H) F H Q (mf (us ++ dd)).noX := hp
    have r2 : Reps X.K F' (vs ++ dvs) (us ++ dd) := Reps.append r1 (hdd F')
    refine ⟨?_, y, dx, vs ++ dvs, H', F', us ++ dd, rfl, rfl, hy, hdx, ne, e1.sub, r2, ?_⟩
    · rw [List.length_cons, Reps.length r2, List.length_append, ln us rfl]
      exact hln
    · cases hmf : mf (us ++ dd) with
      | ok d =>
        rw [hmf] at hp'
        exact fun F2 H2 e2 r => ⟨rfl, hp' _ F2 H2 (e1.trans e2) r⟩
      | ex c fs => rw [hmf] at hp'; exact hp'.elim
      | no => rw [hmf] at hp'; exact hp'.elim
end
end VL
set_option Elab.async false
set_option linter.all false
set_option maxRecDepth 100000
set_option autoImplicit false
namespace VL
open PySem PySem.Spec L2
open PyProof.Rows hiding St

theorem putS_end (y : V) (vs : List V) : SlX.putS vs.length y (vs.map some) = (vs ++ [y]).map some := by
  unfold SlX.putS
  rw [List.length_map, show vs.length + 1 - vs.length = 1 from by omega]
  rw [List.map_append]
  simp
theorem upd_id {H : Hp} {a : Addr} {o : HO} (h : H a = some o) : upd H a o = H := by
  funext b
  by_cases e : b = a
  · subst e
    rw [upd_same, h]
  · rw [upd_ne e]
section
variable {X : Cx} {G : Gd} {W : WX} {ρx ρ : Rho} {rest sts : List Stmt} {α β R : Type} {pn : α → Rho} {pl : β → Rho} {ι : R → Fl α β}
/-- x.f = e, the next field of an instance of one's own -/
theorem bi_setfld {i n : Nat} {l : Bool} {x c f : Str} {ds : List D} {e : Expr} {xpos apos pos : Pos} {m : Rs D} {g : D → Rs R} (sc : SlX.SCls X.K (He.ga X.K c)) (st : ∃ p, SlX.Slot1 X.K (He.ga X.K c) f p n) (hv : PE X (.Name x xpos) (tVar i)) (he : EV X G W ρ e m)
    (hr : ∀ d, BI X G W ρx (ρ.set i (some (.own l (.obj c (ds ++ [d]))))) rest pn pl ι (g d)) (hi : ρ[i]? = some (some (.own l (.obj c ds))) := by rfl) (hn : ds.length = n := by rfl) (hs : swapsWith e (some (.Attribute (.Name x xpos) f apos)) pos.line X.env = pure false := by rfl) (wx : Wk ρ ρx := by first | exact Wk.nil | exact Wk.refl | (repeat (first | exact Wk.nil | apply Wk.keep | apply Wk.drop))) :
    BI X G W ρx ρ (.Assign [.Attribute (.Name x xpos) f apos] e pos :: rest) pn pl ι (m.bind g) := by
  obtain ⟨te, pe, qe⟩ := he
  obtain ⟨pd, st⟩ := st
  intro F0 σ F H E hh hp
  rw [Rs.assoc] at hp
  refine any_cons (SlX.ps_sl hv pe hs) ?_
  refine qe F0 σ F H _ hh (post_seq hh wx hp fun d v F1 H1 e1 r1 hp1 => ?_)
  have hh1 := hh.more e1
  obtain ⟨a, g1, g2, g3, g4⟩ := hh1.own i l _ hi
  cases g4 with
  | obj h1 h2 h3 =>
    rename_i dx xs
    refine ⟨.ref a, g1, a, _, dx, pd, _, n, rfl, .inr ⟨h1, e1.sub _ _ h2⟩, sc, st, ?_⟩
    have en : n = xs.length := by rw [← hn, h3.length]
    subst en
    have e3 : SlX.slH H1 a (He.ga X.K c) dx (SlX.putS xs.length v (xs.map some)) = upd H1 a (SlX.SlO a (He.ga X.K c) dx ((xs ++ [v]).map some)) := by
      unfold SlX.slH
      rw [putS_end, upd_id (e1.sub _ _ h2)]
    rw [e3]
    exact hr d F0 σ F1 _ E (hh1.write hi g1 (.obj upd_same h2 (h3.append (.one r1)))) hp1
/-- a raise whose error is not told -/
theorem bi_raise0 {st : Stmt} {m : Rs R} (h : m = .no := by rfl) : BI X G W ρx ρ (st :: rest) pn pl ι m := by
  subst h
  exact fun F0 σ F H E hh hp => hp.elim
theorem bk_raise0 {st : Stmt} {m : Rs (Fl α β)} (h : m = .no := by rfl) : BK X G W ρx ρ (st :: rest) pn pl m := by
  subst h
  exact fun F0 σ F H E hh hp => hp.elim
end
def hid (H : Hp) (a : Addr) : Hp := fun b => if b = a then none else H b
theorem hid_same {H : Hp} {a : Addr} : hid H a a = none := if_pos rfl
theorem hid_ne {H : Hp} {a b : Addr} (h : b ≠ a) : hid H a b = H b := if_neg h
/-- the state behind self.f, y, z = (.., .., []) -/
theorem init_state {K : PySem.W.Frag} {F H0 H F2 H2 : Hp} {x dx la ta : Addr} {c : Str} {v1 v2 : V} {d1 d2 : D} {ws : List V} {ds : List D} {N : List Str} {i j : Nat} (hH : H = upd (upd H0 dx (.own x)) x (.ins (He.ga K c) dx [])) (hx0 : H0 x = none) (hdx0 : H0 dx = none) (hne : dx ≠ x) (hs : Same F H0) (hr1 : Reps K F ws ds)
    (e : Ext F H F2 H2) (r1 : Rep K F2 v1 d1) (r2 : Rep K F2 v2 d2) (hla : H2 la = none) (hta : upd H2 la (.lst []) ta = none) (hN : N.length = N.length) (hln : ds.length + 1 ≤ i) (hlj : ds.length + 1 ≤ j) (hij : i ≠ j) (hiN : i < N.length) (hjN : j < N.length) (tv : List V) :
    SlX.Slt (upd (upd H2 la (.lst [])) ta (.tup tv)) x (He.ga K c) dx [] ∧
    Holds K (Gd.at ⟨F, hid (SlX.slH (upd (upd H2 la (.lst [])) ta (.tup tv)) x (He.ga K c) dx [some v1]) la, [x]⟩ (upd F2 dx (.xd []))) (((some (Cl.own false (.obj c [d1])) :: ds.map (fun d => some (Cl.val d)) ++ List.replicate (N.length - (ds.length + 1)) none).set i (some (.val d2))).set j (some (.own true (.lst []))))
      (((L2.start N (.ref x :: ws)).set i (some v2)).set j (some (.ref la))) (upd F2 dx (.xd [])) (SlX.slH (upd (upd H2 la (.lst [])) ta (.tup tv)) x (He.ga K c) dx [some v1]) ∧
    (∀ a o, H0 a = some o → a ≠ x ∧ a ≠ dx ∧ a ≠ la ∧ SlX.slH (upd (upd H2 la (.lst [])) ta (.tup tv)) x (He.ga K c) dx [some v1] a = some o) := by
  have hx : H x = some (.ins (He.ga K c) dx []) := by rw [hH, upd_same]
  have hdx : H dx = some (.own x) := by rw [hH, upd_ne hne, upd_same]
  have h0H : ∀ a o, H0 a = some o → H a = some o := fun a o q => by
    rw [hH, upd_ne (ne_of_none q hx0), upd_ne (ne_of_none q hdx0)]
    exact q
  have hx2 : H2 x = some (.ins (He.ga K c) dx []) := e.same _ _ hx
  have hdx2 : H2 dx = some (.own x) := e.same _ _ hdx
  have xla : x ≠ la := fun z => by rw [z, hla] at hx2; cases hx2
  have dla : dx ≠ la := fun z => by rw [z, hla] at hdx2; cases hdx2
  have xta : x ≠ ta := fun z => by rw [← z, upd_ne xla, hx2] at hta; cases hta
  have dta : dx ≠ ta := fun z => by rw [← z, upd_ne dla, hdx2] at hta; cases hta
  have lta : la ≠ ta := fun z => by rw [← z, upd_same] at hta; cases hta
  have fx : F2 x = none := by
    cases q : F2 x with
    | none => rfl
    | some u =>
      rcases e.new x u q with z | z
      · rw [hs _ _ z] at hx0; cases hx0
      · exact (z.not hx (fun _ y => nomatch y)).elim
  have fdx : F2 dx = none := by
    cases q : F2 dx with
    | none => rfl
    | some u =>
      rcases e.new dx u q with z | z
      · rw [hs _ _ z] at hdx0; cases hdx0
      · exact (z.not hdx (fun _ y => nomatch y)).elim
  have fla : F2 la = none := sub_none e.sub hla
  have far : ∀ a o, a ≠ x → a ≠ dx → H2 a = some o → SlX.slH (upd (upd H2 la (.lst [])) ta (.tup tv)) x (He.ga K c) dx [some v1] a = some o := fun a o n1 n2 q => by
    have a1 : a ≠ la := ne_of_none q hla
    have a2 : a ≠ ta := fun z => by rw [← z, upd_ne a1, q] at hta; cases hta
    rw [SlX.slH_ne n1 n2, upd_ne a2, upd_ne a1]
    exact q
  have atx : SlX.slH (upd (upd H2 la (.lst [])) ta (.tup tv)) x (He.ga K c) dx [some v1] x = some (SlX.SlO x (He.ga K c) dx [some v1]) := by unfold SlX.slH; rw [upd_same]
  have atd : SlX.slH (upd (upd H2 la (.lst [])) ta (.tup tv)) x (He.ga K c) dx [some v1] dx = some (.xd []) := by unfold SlX.slH; rw [upd_ne hne, upd_same]
  have atl : SlX.slH (upd (upd H2 la (.lst [])) ta (.tup tv)) x (He.ga K c) dx [some v1] la = some (.lst []) := by
    rw [SlX.slH_ne (Ne.symm xla) (Ne.symm dla), upd_ne lta, upd_same]
  have mono : Same F2 (upd F2 dx (.xd [])) := same_upd fdx
  have mono0 : Same F (upd F2 dx (.xd [])) := e.ext.trans mono
  have len0 : ds.length = ws.length := hr1.length.symm
  have hlen : (L2.start N (.ref x :: ws)).length = (ws.length + 1) + (N.length - (ws.length + 1)) := by
    unfold L2.start
    simp only [List.length_append, List.length_map, List.length_cons, List.length_replicate]
  have iS : i < (L2.start N (.ref x :: ws)).length := by omega
  have jS : j < (L2.start N (.ref x :: ws)).length := by omega
  have at0 : ∀ (k : Nat) (cl : Cl), (((some (Cl.own false (.obj c [d1])) :: ds.map (fun d => some (Cl.val d)) ++ List.replicate (N.length - (ds.length + 1)) none).set i (some (.val d2))).set j (some (.own true (.lst []))))[k]? = some (some cl) →
      (k = j ∧ cl = .own true (.lst [])) ∨ (k = i ∧ k ≠ j ∧ cl = .val d2) ∨ (k = 0 ∧ k ≠ i ∧ k ≠ j ∧ cl = .own false (.obj c [d1])) ∨ ∃ n d, k = n + 1 ∧ k ≠ i ∧ k ≠ j ∧ ds[n]? = some d ∧ cl = .val d := fun k cl q => by
    rcases set_at q with ⟨rfl, z⟩ | ⟨n, z⟩
    · cases z
      exact .inl ⟨rfl, rfl⟩
    · rcases set_at z with ⟨ek, z1⟩ | ⟨n2, z1⟩
      · cases z1
        exact .inr (.inl ⟨ek.symm, Ne.symm n, rfl⟩)
      · cases k with
        | zero =>
          refine .inr (.inr (.inl ⟨rfl, Ne.symm n2, Ne.symm n, ?_⟩))
          simpa using z1.symm
        | succ k =>
          obtain ⟨d, g1, g2⟩ := rho_start (ds := ds) (n := N.length - (ds.length + 1)) (i := k) (c := cl) (by simpa using z1)
          exact .inr (.inr (.inr ⟨k, d, rfl, Ne.symm n2, Ne.symm n, g1, g2⟩))
  have st0 : (L2.start N (.ref x :: ws))[0]? = some (some (.ref x)) := by unfold L2.start; rfl
  refine ⟨.inl ⟨by rw [upd_ne xta, upd_ne xla]; exact hx2, rfl⟩, ⟨⟨fun a o q => ?_, fun a o q _ => ?_, fun a q => ?_, Same.refl _, fun a o q => .inl q⟩, fun k d q => ?_, fun k l d q => ?_, fun k k' l l' d d' a n q q' => ?_, ?_⟩, fun a o q => ?_⟩
  · by_cases z : a = dx
    · subst z
      rw [upd_same] at q
      cases q
      exact atd
    · rw [upd_ne z] at q
      exact far a o (fun w => by rw [w, fx] at q; cases q) z (e.sub _ _ q)
  · have q' : hid _ la a = some o := q
    by_cases z : a = la
    · subst z
      rw [hid_same] at q'
      cases q'
    · rw [hid_ne z] at q'
      exact q'
  · have q' : a ∈ [x] := q
    cases List.mem_singleton.mp q'
    exact ⟨_, atx, fun _ y => nomatch y⟩
  · rcases at0 k _ q with ⟨_, z⟩ | ⟨rfl, n, z⟩ | ⟨_, _, _, z⟩ | ⟨n, d', rfl, n1, n2, g1, z⟩
    · cases z
    · cases z
      exact ⟨v2, by rw [List.getElem?_set_ne (Ne.symm n), List.getElem?_set_self iS], r2.mono mono⟩
    · cases z
    · cases z
      obtain ⟨v, w1, w2⟩ := hr1.get g1
      refine ⟨v, ?_, w2.mono mono0⟩
      rw [List.getElem?_set_ne (Ne.symm n2), List.getElem?_set_ne (Ne.symm n1)]
      unfold L2.start
      rw [List.getElem?_append_left (by
        rw [List.length_map, List.length_cons]
        rcases Nat.lt_or_ge n ws.length with z | z
        · omega
        · rw [List.getElem?_eq_none z] at w1; cases w1), List.getElem?_map, List.getElem?_cons_succ, w1]
      rfl
  · rcases at0 k _ q with ⟨rfl, z⟩ | ⟨rfl, n, z⟩ | ⟨rfl, n1, n2, z⟩ | ⟨n, d', rfl, n1, n2, g1, z⟩
    · cases z
      refine ⟨la, by rw [List.getElem?_set_self (by rw [List.length_set]; exact jS)], ?_, ⟨hid_same, fun w => xla (List.mem_singleton.mp w).symm⟩, .lst atl (Nat.zero_le _) .nil⟩
      rw [upd_ne (Ne.symm dla)]
      exact fla
    · cases z
    · cases z
      refine ⟨x, by rw [List.getElem?_set_ne (Ne.symm n2), List.getElem?_set_ne (Ne.symm n1)]; exact st0, ?_, List.mem_singleton.mpr rfl, .obj (xs := [v1]) atx upd_same (.one (r1.mono mono))⟩
      rw [upd_ne (Ne.symm hne)]
      exact fx
    · cases z
  · rcases at0 k _ q with ⟨rfl, z⟩ | ⟨rfl, n, z⟩ | ⟨rfl, n1, n2, z⟩ | ⟨n, d', rfl, n1, n2, g1, z⟩
    · rcases at0 k' _ q' with ⟨rfl, z'⟩ | ⟨rfl, n', z'⟩ | ⟨rfl, n1', n2', z'⟩ | ⟨n', d'', rfl, n1', n2', g1', z'⟩
      · exact absurd rfl n
      · cases z'
      · rw [List.getElem?_set_self (by rw [List.length_set]; exact jS), List.getElem?_set_ne (Ne.symm n2'), List.getElem?_set_ne (Ne.symm n1'), st0]
        intro w w'
        cases w
        cases w'
        exact xla rfl
      · cases z'
    · cases z
    · rcases at0 k' _ q' with ⟨rfl, z'⟩ | ⟨rfl, n', z'⟩ | ⟨rfl, n1', n2', z'⟩ | ⟨n', d'', rfl, n1', n2', g1', z'⟩
      · rw [List.getElem?_set_self (by rw [List.length_set]; exact jS), List.getElem?_set_ne (Ne.symm n2), List.getElem?_set_ne (Ne.symm n1), st0]
        intro w w'
        cases w
        cases w'
        exact xla rfl
      · cases z'
      · exact absurd rfl n
      · cases z'
    · cases z
  · rw [List.length_set, List.length_set, List.length_set, List.length_set, hlen]
    simp only [List.length_append, List.length_map, List.length_cons, List.length_replicate]
    omega
  · have n1 : a ≠ x := ne_of_none q hx0
    have n2 : a ≠ dx := ne_of_none q hdx0
    have q2 := e.same _ _ (h0H a o q)
    exact ⟨n1, n2, ne_of_none q2 hla, far a o n1 n2 q2⟩
end VL
set_option Elab.async false
set_option linter.all false
set_option maxRecDepth 100000
set_option autoImplicit false
namespace VL
open PySem PySem.Spec L2
open PyProof.Rows hiding St

/-- what the first row of such an __init__ needs of its text -/
structure Ini3 (X : Cx) (sn f y z : Str) (i j : Nat) (e1 e2 : Expr) (spos apos ypos zpos tpos tpos2 lpos pos : Pos) (kt k2 : Nat) : Prop where
  calm : X.calm = true
  vs : PE X (.Name sn spos) (tVar 0)
  gy : PG X (.Name y ypos) (gName i)
  gz : PG X (.Name z zpos) (gName j)
  sole : swapsWithSole [.Tuple [.Attribute (.Name sn spos) f apos, .Name y ypos, .Name z zpos] kt tpos] (.Tuple [e1, e2, .List [] lpos] k2 tpos2) pos.line X.env = pure false
  stores : swappedStores [.Tuple [.Attribute (.Name sn spos) f apos, .Name y ypos, .Name z zpos] kt tpos] (.Tuple [e1, e2, .List [] lpos] k2 tpos2) X.env = pure none
  s1 : starEach [e1, e2, .List [] lpos] X.env = (false, eval e1 X.env) :: starEach [e2, .List [] lpos] X.env
  s2 : starEach [e2, .List [] lpos] X.env = (false, eval e2 X.env) :: starEach [.List [] lpos] X.env
  s3 : starEach [.List [] lpos] X.env = (false, eval (.List [] lpos) X.env) :: starEach [] X.env
  a0 : (assignEach [.Tuple [.Attribute (.Name sn spos) f apos, .Name y ypos, .Name z zpos] kt tpos] X.env).map (·.2) = [assign (.Tuple [.Attribute (.Name sn spos) f apos, .Name y ypos, .Name z zpos] kt tpos) X.env]
  a1 : (assignEach [.Attribute (.Name sn spos) f apos, .Name y ypos, .Name z zpos] X.env).map (·.2) = assign (.Attribute (.Name sn spos) f apos) X.env :: (assignEach [.Name y ypos, .Name z zpos] X.env).map (·.2)
  a2 : (assignEach [.Name y ypos, .Name z zpos] X.env).map (·.2) = assign (.Name y ypos) X.env :: (assignEach [.Name z zpos] X.env).map (·.2)
  a3 : (assignEach [.Name z zpos] X.env).map (·.2) = assign (.Name z zpos) X.env :: (assignEach [] X.env).map (·.2)
  an : (assignEach [.Attribute (.Name sn spos) f apos, .Name y ypos, .Name z zpos] X.env).length = 3
  ast : (assignEach [.Attribute (.Name sn spos) f apos, .Name y ypos, .Name z zpos] X.env).findIdx? (·.1) = none
/-- __init__: self.f, y, z = (e1, e2, []), then the rest -/
theorem keeps_init3 {P : Program} {w : World} {K : PySem.W.Frag} {mg : Str → Option Value} {base : Heap} {x qual : Str} {params : Arguments} {body rest : List Stmt} {scope : Scope} {dvs : List V} {kws : List (Str × V)} {fa : Addr} {fd : FuncData} {N ps : List Str} {k : Nat} {m : List D → Rs D} {c sn f y z : Str} {i j : Nat} {e1 e2 : Expr}
    {spos apos ypos zpos tpos tpos2 lpos pos : Pos} {kt k2 : Nat} {m1 m2 : List D → Rs D} {m3 : List D → D → D → Rs (List D)}
    (Fd : FunD K x qual params body scope dvs kws fa fd) (S : FnScope N ps scope)
    (hbody : body = .Assign [.Tuple [.Attribute (.Name sn spos) f apos, .Name y ypos, .Name z zpos] kt tpos] (.Tuple [e1, e2, .List [] lpos] k2 tpos2) pos :: rest)
    (sc : SlX.SCls K (He.ga K c)) (st : ∃ p, SlX.Slot1 K (He.ga K c) f p 0) (hij : i ≠ j) (hip : ps.length ≤ i) (hjp : ps.length ≤ j) (hiN : i < N.length) (hjN : j < N.length)
    (hm : ∀ ds, m ds = (m1 ds).bind fun d1 => (m2 ds).bind fun d2 => (m3 ds d1 d2).noX.bind fun fs => .ok (.obj c fs))
    (hb : ∀ (cdv : Value) (A : Around) (outer : List Env) (s : Shared) (H : Hp) (E : XK) (ds : List D), ds.length + 1 = ps.length → Room k (A.deeper (envOfC qual scope s.heap.objs.size fa cdv)) →
      (∀ F, EV (cxOf (L2.CX P w) P w K mg base N qual scope fa cdv A outer s H E) ⟨F, H, []⟩ (fun c d _ H => E c d H) (none :: ds.map (fun d => some (Cl.val d)) ++ List.replicate (N.length - (ds.length + 1)) none) e1 (m1 ds)) ∧
      (∀ F, EV (cxOf (L2.CX P w) P w K mg base N qual scope fa cdv A outer s H E) ⟨F, H, []⟩ (fun c d _ H => E c d H) (none :: ds.map (fun d => some (Cl.val d)) ++ List.replicate (N.length - (ds.length + 1)) none) e2 (m2 ds)) ∧
      (∀ F H2 b d1 d2, BI (cxOf (L2.CX P w) P w K mg base N qual scope fa cdv A outer s H E) ⟨F, H2, [b]⟩ W0 [] (((some (Cl.own false (.obj c [d1])) :: ds.map (fun d => some (Cl.val d)) ++ List.replicate (N.length - (ds.length + 1)) none).set i (some (.val d2))).set j (some (.own true (.lst [])))) rest
        (fun fs : List D => [some (Cl.own false (.obj c fs))]) (fun _ : Unit => []) Fl.nx (m3 ds d1 d2)) ∧
      Ini3 (cxOf (L2.CX P w) P w K mg base N qual scope fa cdv A outer s H E) sn f y z i j e1 e2 spos apos ypos zpos tpos tpos2 lpos pos kt k2) :
    KeepsI P w K mg base (k + 1) c fa fd ps m := by
  subst hbody
  refine Fd.ok S (fun vs H Q E h => h.1) (fun cdv A outer s H vs Q E hr h => ?_)
  obtain ⟨hl, x, dx, ws, H0, F, ds, rfl, hH, hx0, hdx0, hne, hs, hr1, hp⟩ := h
  have hlen : ds.length + 1 = ps.length := by rw [← hr1.length]; exact hl
  obtain ⟨b1, b2, b3, J⟩ := hb cdv A outer s H E ds hlen hr
  obtain ⟨t1, p1, q1⟩ := b1 F
  obtain ⟨t2, p2, q2⟩ := b2 F
  obtain ⟨pd, st⟩ := st
  have h0H : Same H0 H := fun a o q => by
    rw [hH, upd_ne (ne_of_none q hx0), upd_ne (ne_of_none q hdx0)]
    exact q
  have hh : Holds K (Gd.at ⟨F, H, []⟩ F) (none :: ds.map (fun d => some (Cl.val d)) ++ List.replicate (N.length - (ds.length + 1)) none) (start N (.ref x :: ws)) F H := by
    have at0 : ∀ (k : Nat) (cl : Cl), (none :: ds.map (fun d => some (Cl.val d)) ++ List.replicate (N.length - (ds.length + 1)) none)[k]? = some (some cl) → ∃ n d, k = n + 1 ∧ ds[n]? = some d ∧ cl = .val d := fun k cl q => by
      cases k with
      | zero => simp at q
      | succ k =>
        obtain ⟨d, g1, g2⟩ := rho_start (ds := ds) (n := N.length - (ds.length + 1)) (i := k) (c := cl) (by simpa using q)
        exact ⟨k, d, rfl, g1, g2⟩
    refine ⟨⟨hs.trans h0H, fun a o q _ => q, fun a q => by simp [Gd.at] at q, Same.refl F, fun a o q => .inl q⟩, fun k d q => ?_, fun k l d q => ?_, fun k k' l l' d d' a n q => ?_, ?_⟩
    · obtain ⟨n, d', rfl, g1, g2⟩ := at0 k _ q
      cases g2
      obtain ⟨v, w1, w2⟩ := hr1.get g1
      refine ⟨v, ?_, w2⟩
      unfold L2.start
      rw [List.getElem?_append_left (by
        rw [List.length_map, List.length_cons]
        rcases Nat.lt_or_ge n ws.length with z | z
        · omega
        · rw [List.getElem?_eq_none z] at w1; cases w1), List.getElem?_map, List.getElem?_cons_succ, w1]
      rfl
    · obtain ⟨n, d', rfl, g1, g2⟩ := at0 k _ q
      cases g2
    · obtain ⟨n, d', rfl, g1, g2⟩ := at0 k _ q
      cases g2
    · unfold L2.start
      simp only [List.length_append, List.length_map, List.length_cons, List.length_replicate]
      rw [hr1.length]
      exact Nat.le_refl _
  have lenx : ∀ (e : Ext F H F H), True := fun _ => trivial
  rw [hm] at hp
  refine any_cons (ps_asg (pe_tup (pa_cons p1 (pa_cons p2 (pa_cons (pe_lst pa_nil) pa_nil J.s3) J.s2) J.s1)) (pg_tup J.calm (pgs_cons (pg_sl J.vs) (pgs_cons J.gy (pgs_cons J.gz pgs_nil J.a3) J.a2) J.a1) J.an J.ast) J.sole J.stores J.a0) ?_
  have up : ∀ {F2 H2 : Hp}, Ext F H F2 H2 → Ext F H0 F2 H2 := fun {F2 H2} e => ⟨fun a o q => e.same _ _ (h0H _ _ q), e.sub, e.ext, fun a o q => by
    rcases e.new a o q with z | z
    · exact .inl z
    · exact .inr (z.back fun o' q => h0H _ _ q)⟩
  refine q1 F _ F H _ hh ?_
  cases hm1 : m1 ds with
  | no => rw [hm1] at hp; exact hp
  | ex cc fs =>
    rw [hm1] at hp
    exact fun dd F2 H2 e r => hp dd F2 H2 (up e) r
  | ok d1 =>
    rw [hm1] at hp
    intro v1 F1 H1 e1 r1
    refine q2 F _ F1 H1 _ (hh.more e1) ?_
    simp only [Rs.bind_ok] at hp
    cases hm2 : m2 ds with
    | no => rw [hm2] at hp; exact hp
    | ex cc fs =>
      rw [hm2] at hp
      exact fun dd F2 H2 e r => hp dd F2 H2 (up (e1.trans e)) r
    | ok d2 =>
      rw [hm2] at hp
      simp only [Rs.bind_ok] at hp
      intro v2 F2 H2 e2 r2
      refine ⟨Nat.zero_le _, fun la hla => ?_⟩
      refine ⟨Nat.le_of_ble_eq_true rfl, fun ta hta => ?_⟩
      obtain ⟨g1, g2, g3⟩ := init_state (c := c) (N := N) (i := i) (j := j) hH hx0 hdx0 hne hs hr1 (e1.trans e2) (r1.mono e2.ext) r2 hla hta rfl (by omega) (by omega) hij hiN hjN [v1, v2, .ref la]
      refine ⟨ta, [v1, v2, .ref la], rfl, .inl (.inl upd_same), rfl, v1, _, rfl, .ref x, ?_, x, He.ga K c, dx, pd, [], 0, rfl, g1, sc, st, v2, _, rfl, .ref la, _, rfl, rfl, ?_⟩
      · unfold L2.start
        rfl
      refine b3 F _ x d1 d2 _ _ _ _ _ g2 ?_
      cases hm3 : m3 ds d1 d2 with
      | no => rw [hm3] at hp; exact hp
      | ex cc fs => rw [hm3] at hp; exact hp.elim
      | ok fs =>
        rw [hm3] at hp
        simp only [Rs.noX_ok, Rs.bind_ok] at hp
        intro σ F' H' hh'
        obtain ⟨a, k1, k2, k3, k4⟩ := hh'.own 0 false _ rfl
        have k3' : a ∈ [x] := k3
        cases List.mem_singleton.mp k3'
        obtain ⟨o, ho, hrep⟩ := k4.rep rfl hh'.sub k2
        refine hp (upd F' x o) H' ⟨fun b u q => ?_, fun b u q => ?_, ?_, fun b u q => ?_⟩ hrep
        · obtain ⟨n1, n2, n3, n4⟩ := g3 b u q
          refine hh'.base b u ?_ (fun z => n1 (List.mem_singleton.mp z))
          show hid _ la b = some u
          rw [hid_ne n3]
          exact n4
        · by_cases z : b = x
          · subst z
            rw [upd_same] at q
            cases q
            exact ho
          · rw [upd_ne z] at q
            exact hh'.sub _ _ q
        · have fdx : F2 dx = none := by
            cases q : F2 dx with
            | none => rfl
            | some u =>
              rcases (e1.trans e2).new dx u q with z | z
              · rw [hs _ _ z] at hdx0; cases hdx0
              · exact (z.not (show H dx = some (.own x) by rw [hH, upd_ne hne, upd_same]) (fun _ y => nomatch y)).elim
          exact (((e1.trans e2).ext.trans (same_upd fdx)).trans hh'.ext).trans (same_upd k2)
        · by_cases z : b = x
          · subst z
            exact .inr (.inl hx0)
          · rw [upd_ne z] at q
            rcases hh'.new b u q with z2 | ⟨z2, _⟩ | ⟨tp, z2, _⟩
            · have z3 : upd F2 dx (.xd []) b = some u := z2
              by_cases w : b = dx
              · subst w
                exact .inr (.inl hdx0)
              · rw [upd_ne w] at z3
                exact (up (e1.trans e2)).new b u z3
            · refine .inr (.inl ?_)
              cases q0 : H0 b with
              | none => rfl
              | some o0 =>
                obtain ⟨n1, n2, n3, n4⟩ := g3 b o0 q0
                have z3 : hid _ la b = none := z2
                rw [hid_ne n3, n4] at z3
                cases z3
            · refine .inr ?_
              cases q0 : H0 b with
              | none => exact .inl q0
              | some o0 =>
                obtain ⟨n1, n2, n3, n4⟩ := g3 b o0 q0
                have z3 : hid _ la b = some u := z2
                rw [hid_ne n3, n4] at z3
                cases z3
                exact .inr ⟨tp, q0⟩
end VL
set_option Elab.async false
set_option linter.all false
set_option maxRecDepth 100000
set_option autoImplicit false
namespace VL
open PySem PySem.Spec L2
open PyProof.Rows hiding St

/-! ### sorted -/
open PySem.W (alike alikeAll dataLt AllAlike Sortable SortsAt dataKind EachIs sortLe sortVals keyToks keyToksAll) in
section
def tupNe : PyData → Bool
  | .tuple (_ :: _) => true
  | _ => false
def noTup : PyData → Bool
  | .tuple _ => false
  | .none => false
  | _ => true
def sortOk (ps : List PyData) : Bool := (ps.all fun p => ps.all fun q => alike p q) && ((ps.all tupNe || ps.all noTup) && ps.all fun p => decide (p.depth ≤ 32))
theorem sortOk_alike {ps : List PyData} (h : sortOk ps = true) : AllAlike ps := by
  have h1 := (Bool.and_eq_true_iff.mp h).1
  exact fun p hp q hq => List.all_eq_true.mp (List.all_eq_true.mp h1 p hp) q hq
theorem sortOk_able {ps : List PyData} (h : sortOk ps = true) : Sortable ps := by
  have h1 := (Bool.and_eq_true_iff.mp (Bool.and_eq_true_iff.mp h).2).1
  rcases (Bool.or_eq_true_iff.mp h1) with z | z
  · refine .inl fun d hd => ?_
    have w := List.all_eq_true.mp z d hd
    cases d with
    | tuple xs =>
      cases xs with
      | nil => cases w
      | cons x r => exact ⟨x, r, rfl⟩
    | _ => cases w
  · refine .inr fun d hd => ?_
    have w := List.all_eq_true.mp z d hd
    refine ⟨fun e => ?_, fun xs e => ?_⟩
    · subst e; cases w
    · subst e; cases w
theorem sortOk_depth {ps : List PyData} (h : sortOk ps = true) : ∀ d ∈ ps, d.depth ≤ 32 := fun d hd => of_decide_eq_true (List.all_eq_true.mp (Bool.and_eq_true_iff.mp (Bool.and_eq_true_iff.mp h).2).2 d hd)
theorem each_reads {X : Cx} {pins : List (Addr × Obj)} {σ : L2.St} {H : Hp} {s : Shared} (I : Inv X pins σ H s) : ∀ {xs : List V} {us : List Value} {ps : List PyData}, DpAll X.K H xs ps → Vals xs us → EachIs (fun v d => ∃ as, Reads s.heap v d as) us ps
  | [], _, _, h, r => by cases h; cases r; exact .nil
  | x :: xs, _, _, h, r => by
    cases h with
    | cons h1 h2 =>
      cases r with
      | cons r1 r2 => exact .cons (Dp.reads I _ _ _ h1 r1) (each_reads I h2 r2)
theorem each_pair {R : Value → V → Prop} {P : Value → PyData → Prop} : ∀ {us : List Value} {xs : List V} {ps : List PyData}, Paired (fun (x : V) (u : Value) => R u x) xs us → EachIs P us ps → EachIs (fun u (q : V × PyData) => R u q.1 ∧ P u q.2) us (xs.zip ps)
  | _, _, _, .nil, h => by cases h; exact .nil
  | _, _, _, .cons r1 r2, h => by
    cases h with
    | cons h1 h2 => exact .cons ⟨r1, h1⟩ (each_pair r2 h2)
theorem each_snd {P : Value → PyData → Prop} : ∀ {us : List Value} {qs : List (V × PyData)}, EachIs P us (qs.map (·.2)) → EachIs (fun u q => P u q.2) us qs
  | _, [], h => by cases h; exact .nil
  | _, q :: qs, h => by
    cases h with
    | cons h1 h2 => exact .cons h1 (each_snd h2)
theorem each_vals {P : Value → V × PyData → Prop} (hP : ∀ u q, P u q → RelV q.1 u) : ∀ {us : List Value} {qs : List (V × PyData)}, EachIs P us qs → Vals (qs.map (·.1)) us
  | _, _, .nil => .nil
  | _, _, .cons h1 h2 => .cons (hP _ _ h1) (each_vals hP h2)
def leV (p q : V × PyData) : Bool := !dataLt q.2 p.2
/-- sorted(x): a list or a tuple of alike data -/
def rSrt (K : PySem.W.Frag) : List V → Hp → VK → Prop := fun vs H Q => ∃ (a : Addr) (xs : List V) (ps : List PyData), vs = [V.ref a] ∧ (SqT K H a xs ∨ SqL K H a xs) ∧ DpAll K H xs ps ∧ sortOk ps = true ∧
  ∀ p, H p = none → Q (.ref p) (upd H p (.lst (((xs.zip ps).mergeSort leV).map (·.1))))
theorem call_sort {X : Cx} (hu : X.A.units + 64 < cLine) : CallR X (.builtin "sorted") (rSrt X.K) := by
  intro pins s σ H vs us Q I r h
  obtain ⟨a, xs, ps, rfl, hsq, hd, ok, q⟩ := h
  rw [Vals.ref1 r]
  obtain ⟨its, rv, T, o, n, hT, ho, hc, hdt, hz⟩ : ∃ (its : List Value) (_ : Vals xs its) (T : String) (o : Obj) (n : Nat), (T = "list" ∨ T = "tuple") ∧ s.heap.get? a = some o ∧ o.cls = .type T ∧ o.data = .seq its.toArray n ∧ xs.length ≤ sizeLine := by
    rcases hsq with h | h
    · obtain ⟨its, r, ⟨o, ho, hc, n, hd⟩, hz⟩ := I.tuple h
      exact ⟨its, r, "tuple", o, n, .inr rfl, ho, hc, hd, hz⟩
    · obtain ⟨its, r, pl, hz⟩ := I.list h
      obtain ⟨o, ho, hc, n, hd⟩ := pl.isList
      exact ⟨its, r, "list", o, n, .inl rfl, ho, hc, hd, hz⟩
  have hlen : its.length ≤ sizeLine := by rw [← rv.length]; exact hz
  have e0 := each_reads I hd rv
  refine Calls.call_function_entry kind_sorted plain_sorted entry_sorted (args_sorted1 _) ?_
  unfold Builtin.«sorted»
  refine wpAny_bind (m := checkCount "sorted" 1 1 _) (wpAny_pure (wpAny_bind (wpAny_collect_seq a hT ho hc hdt (fun h' hk => ?_) (by rw [List.size_toArray]; exact hlen))))
  have et : its.toArray.toList = its := by simp
  rw [et]
  refine wpAny_bind (wpAny_newList ?_ hlen)
  have hnew : (h'.push (seqObj "list" its.toArray 0)).get? h'.objs.size = some (seqObj "list" its.toArray 0) := Heap.get?_push_size _ rfl
  have keep2 : ∀ b o, s.heap.get? b = some o → b ≠ h'.objs.size ∧ (h'.push (seqObj "list" its.toArray 0)).get? b = some o := fun b o e => ⟨Nat.ne_of_lt (Heap.lt_size (hk b o e)), Heap.get?_push_of_some _ (hk b o e)⟩
  have gone : s.heap.get? h'.objs.size = none := by
    cases e : s.heap.get? h'.objs.size with
    | none => rfl
    | some o => exact absurd (Heap.lt_size (hk _ _ e)) (Nat.lt_irrefl _)
  have hn : H h'.objs.size = none := I.hok.gone gone
  have e1 : EachIs (fun v d => ∃ as, Reads (PySem.W.sortingHeap (h'.push (seqObj "list" its.toArray 0)) h'.objs.size its) v d as) its ps := e0.mono fun v d ⟨as, hr⟩ =>
    ⟨as, Reads.keeps (fun b o e => PySem.W.sortingHeap_old (keep2 b o e).1 (keep2 b o e).2) hr⟩
  have S : SortsAt X.prog X.w X.A.in1.in1 { s with heap := PySem.W.sortingHeap (h'.push (seqObj "list" its.toArray 0)) h'.objs.size its } (dataKind (PySem.W.sortingHeap (h'.push (seqObj "list" its.toArray 0)) h'.objs.size its) ps) its :=
    SortsAt.data e1 (sortOk_alike ok) (sortOk_able ok) fun d hd => by
      have h1 := sortOk_depth ok d hd
      simp only [units_in1]
      omega
  show wpAny (model X.prog X.w) X.A.in1 _ _ _ { s with heap := h'.push (seqObj "list" its.toArray 0) }
  refine wpAny_bind (wpAny_holding (wpAny_call_entry slot_list_sort ⟨_, hnew, rfl⟩ entry_list_sort (PySem.W.list_sort_vals (s := { s with heap := h'.push (seqObj "list" its.toArray 0) }) hnew S hlen ?_) (args_list_sort _)))
  refine ⟨_, rfl, wpAny_pure ⟨_, rfl, ?_⟩⟩
  have key : EachIs (fun v d => (dataKind (PySem.W.sortingHeap (h'.push (seqObj "list" its.toArray 0)) h'.objs.size its) ps).keyOf v = some (keyToks d)) its ps := by
    have e2 := PySem.W.each_mem e1
    exact e2.mono fun v d ⟨⟨as, hr⟩, hm⟩ => PySem.W.dataKind_some (sortOk_alike ok) hm hr
  have lz : xs.length = ps.length := rv.length.trans e0.length
  have ezip : (xs.zip ps).map (·.2) = ps := List.map_snd_zip (by omega)
  have e3 : EachIs (fun v (p : V × PyData) => RelV p.1 v) its (xs.zip ps) := (each_pair (R := fun u x => RelV x u) rv e0).mono fun _ _ h => h.1
  have k3 := each_snd (qs := xs.zip ps) (by rw [ezip]; exact key)
  have out := PySem.W.sortVals_each (κ := dataKind (PySem.W.sortingHeap (h'.push (seqObj "list" its.toArray 0)) h'.objs.size its) ps) (rev := false) (k := fun p : V × PyData => (show (dataKind (PySem.W.sortingHeap (h'.push (seqObj "list" its.toArray 0)) h'.objs.size its) ps).α from keyToks p.2)) e3 k3
  have hv : Vals (((xs.zip ps).mergeSort leV).map (·.1)) (sortVals (dataKind (PySem.W.sortingHeap (h'.push (seqObj "list" its.toArray 0)) h'.objs.size its) ps) false its its) := each_vals (fun _ _ h => h) out
  obtain ⟨ep, he⟩ := sortedHeap_at (out := (sortVals (dataKind (PySem.W.sortingHeap (h'.push (seqObj "list" its.toArray 0)) h'.objs.size its) ps) false its its).toArray) hnew
  have hl2 : (((xs.zip ps).mergeSort leV).map (·.1)).length ≤ sizeLine := by
    rw [List.length_map, (List.mergeSort_perm _ _).length_eq, List.length_zip]
    omega
  refine ⟨.ref _, upd H h'.objs.size (.lst (((xs.zip ps).mergeSort leV).map (·.1))), I.laidN (t' := s.toks) (fun b o e => ?_) gone hn ⟨hl2, _, ep, hv, he⟩, rfl, q _ hn⟩
  rw [sortedHeap_old (keep2 b o e).1 (Heap.lt_size (keep2 b o e).2)]
  exact (keep2 b o e).2
end
end VL
set_option Elab.async false
set_option linter.all false
set_option maxRecDepth 100000
set_option autoImplicit false
namespace VL
open PySem PySem.Spec L2
open PyProof.Rows hiding St

/-! ### a plain sort -/
section
variable {α : Type} {le : α → α → Bool}
def insW (le : α → α → Bool) (x : α) : List α → List α
  | [] => [x]
  | y :: ys => if le x y then x :: y :: ys else y :: insW le x ys
def isortW (le : α → α → Bool) : List α → List α
  | [] => []
  | x :: xs => insW le x (isortW le xs)
theorem insW_mem {x z : α} : ∀ {l : List α}, z ∈ insW le x l → z = x ∨ z ∈ l
  | [], h => by simpa [insW] using h
  | y :: ys, h => by
    unfold insW at h
    split at h
    · simpa using h
    · rcases List.mem_cons.mp h with z1 | z1
      · exact .inr (by simp [z1])
      · rcases insW_mem z1 with w | w
        · exact .inl w
        · exact .inr (by simp [w])
theorem isortW_mem {z : α} : ∀ {l : List α}, z ∈ isortW le l → z ∈ l
  | [], h => h
  | x :: xs, h => by
    rcases insW_mem h with w | w
    · simp [w]
    · exact List.mem_cons_of_mem _ (isortW_mem w)
theorem insW_pw (T : PySem.W.TotalLe le) {x : α} : ∀ {l : List α}, l.Pairwise (fun a b => le a b = true) → (insW le x l).Pairwise (fun a b => le a b = true)
  | [], _ => List.pairwise_singleton _ _
  | y :: ys, h => by
    obtain ⟨h1, h2⟩ := List.pairwise_cons.mp h
    unfold insW
    split
    · rename_i e
      refine List.pairwise_cons.mpr ⟨fun z hz => ?_, h⟩
      rcases List.mem_cons.mp hz with rfl | hz
      · exact e
      · exact T.trans _ _ _ e (h1 z hz)
    · rename_i e
      have e' : le y x = true := (T.total x y).resolve_left e
      refine List.pairwise_cons.mpr ⟨fun z hz => ?_, insW_pw T h2⟩
      rcases insW_mem hz with rfl | hz
      · exact e'
      · exact h1 z hz
theorem isortW_pw (T : PySem.W.TotalLe le) : ∀ l : List α, (isortW le l).Pairwise (fun a b => le a b = true)
  | [] => .nil
  | x :: xs => insW_pw T (isortW_pw T xs)
theorem insW_filter (T : PySem.W.TotalLe le) {x c : α} : ∀ l : List α, (insW le x l).filter (PySem.W.sameRank le c) = (x :: l).filter (PySem.W.sameRank le c)
  | [] => rfl
  | y :: ys => by
    unfold insW
    split
    · rfl
    · rename_i e
      rw [List.filter_cons, insW_filter T ys, List.filter_cons, List.filter_cons, List.filter_cons]
      by_cases h1 : PySem.W.sameRank le c x = true
      · by_cases h2 : PySem.W.sameRank le c y = true
        · refine absurd ?_ e
          unfold PySem.W.sameRank at h1 h2
          rw [Bool.and_eq_true] at h1 h2
          exact T.trans _ _ _ h1.2 h2.1
        · rw [if_neg h2, if_neg h2]
      · rw [if_neg h1, if_neg h1]
theorem isortW_filter (T : PySem.W.TotalLe le) (c : α) : ∀ l : List α, (isortW le l).filter (PySem.W.sameRank le c) = l.filter (PySem.W.sameRank le c)
  | [] => rfl
  | x :: xs => by
    show (insW le x (isortW le xs)).filter _ = _
    rw [insW_filter T, List.filter_cons, List.filter_cons, isortW_filter T c xs]
theorem isortW_eq (T : PySem.W.TotalLe le) (l : List α) : isortW le l = l.mergeSort le := PySem.W.sort_unique T (isortW_pw T l) fun c => isortW_filter T c l
theorem insW_congr {le' : α → α → Bool} {x : α} : ∀ {l : List α}, (∀ y ∈ l, le x y = le' x y) → insW le x l = insW le' x l
  | [], _ => rfl
  | y :: ys, h => by
    unfold insW
    rw [h y (by simp), insW_congr fun z hz => h z (by simp [hz])]
theorem isortW_congr {le' : α → α → Bool} : ∀ {l : List α}, (∀ x ∈ l, ∀ y ∈ l, le x y = le' x y) → isortW le l = isortW le' l
  | [], _ => rfl
  | x :: xs, h => by
    show insW le x (isortW le xs) = insW le' x (isortW le' xs)
    rw [isortW_congr fun a ha b hb => h a (by simp [ha]) b (by simp [hb])]
    exact insW_congr fun y hy => h x (by simp) y (by simp [isortW_mem hy])
end
mutual
theorem dataLt_ltP : ∀ (x y : PyData), PySem.W.alike x y = true → cmpP x y = true → PySem.W.dataLt x y = ltP x y
  | .int i, .int j, _, _ => by rw [PySem.W.dataLt_int]; simp only [ltP]
  | .str x, .str y, _, _ => by rw [PySem.W.dataLt_str]; simp only [ltP]
  | .tuple xs, .tuple ys, h, c => by
    rw [PySem.W.dataLt_tuple]
    simp only [ltP]
    exact dataLts_ltP xs ys (by simpa only [PySem.W.alike] using h) (by simpa only [cmpP] using c)
  | .none, _, _, c => by simp [cmpP] at c
  | .bool _, _, _, c => by simp [cmpP] at c
  | .list _, _, _, c => by simp [cmpP] at c
  | .dict _, _, _, c => by simp [cmpP] at c
  | .int _, .none, _, c | .int _, .bool _, _, c | .int _, .str _, _, c | .int _, .list _, _, c | .int _, .tuple _, _, c | .int _, .dict _, _, c => by simp [cmpP] at c
  | .str _, .none, _, c | .str _, .bool _, _, c | .str _, .int _, _, c | .str _, .list _, _, c | .str _, .tuple _, _, c | .str _, .dict _, _, c => by simp [cmpP] at c
  | .tuple _, .none, _, c | .tuple _, .bool _, _, c | .tuple _, .int _, _, c | .tuple _, .list _, _, c | .tuple _, .str _, _, c | .tuple _, .dict _, _, c => by simp [cmpP] at c
theorem dataLts_ltP : ∀ (xs ys : List PyData), PySem.W.alikeAll xs ys = true → cmpPs xs ys = true → PyProof.Rows.lexLt PyProof.Rows.itemOrd (PySem.W.keyToksAll xs) (PySem.W.keyToksAll ys) = ltPs xs ys
  | [], [], _, _ => by simp only [ltPs]; rfl
  | [], y :: ys, _, _ => by
    simp only [ltPs]
    rw [PySem.W.keyToksAll, PySem.W.keyToksAll, PyProof.Rows.lex_diff (O := PyProof.Rows.itemOrd) (by simp)]
    rfl
  | x :: xs, [], _, _ => by
    simp only [ltPs]
    rw [PySem.W.keyToksAll, PySem.W.keyToksAll, PyProof.Rows.lex_diff (O := PyProof.Rows.itemOrd) (by simp)]
    rfl
  | x :: xs, y :: ys, h, c => by
    obtain ⟨h1, h2⟩ := PySem.W.alike_all_cons h
    simp only [cmpPs, Bool.and_eq_true, Bool.or_eq_true] at c
    simp only [ltPs]
    cases e : PyData.eqv x y with
    | true => rw [PySem.W.dataLt_all_yes h1 e, if_pos rfl]; exact dataLts_ltP xs ys h2 c.2
    | false =>
      rw [PySem.W.dataLt_all_no h1 e, if_neg (by simp)]
      exact dataLt_ltP x y h1 (c.1.resolve_left (by simp [e]))
end
/-! ### sorted, min, max of data -/
def leS (a b : D) : Bool := !ltP b.py a.py
def cmpAll (ps : List PyData) : Bool := ps.all fun p => ps.all fun q => cmpP p q
def sortL (ds : List D) : Option (List D) := if areData ds && (sortOk (pys ds) && cmpAll (pys ds)) then some (isortW leS ds) else none
def sortD : List D → Option D
  | [x] => (seqD x).bind fun ds => (sortL ds).map .lst
  | _ => none
theorem pys_map : ∀ ds : List D, pys ds = ds.map D.py
  | [] => by simp only [pys, List.map_nil]
  | d :: ds => by simp only [pys, List.map_cons, pys_map ds]
theorem reps_pairs {K : PySem.W.Frag} {F : Hp} : ∀ {l : List (V × D)}, (∀ p ∈ l, Rep K F p.1 p.2) → Reps K F (l.map (·.1)) (l.map (·.2))
  | [], _ => .nil
  | p :: l, h => .cons (h p (by simp)) (reps_pairs fun q hq => h q (by simp [hq]))
theorem pairs_reps {K : PySem.W.Frag} {F : Hp} : ∀ {vs : List V} {ds : List D}, Reps K F vs ds → ∀ p ∈ vs.zip ds, Rep K F p.1 p.2
  | _, _, .nil, p, h => by simp at h
  | _, _, .cons h r, p, hp => by
    rw [List.zip_cons_cons] at hp
    rcases List.mem_cons.mp hp with rfl | hp
    · exact h
    · exact pairs_reps r p hp
def leK (a b : D) : Bool := !PySem.W.dataLt b.py a.py
theorem leK_total : PySem.W.TotalLe leK := PySem.W.sortLe_total (PyProof.Rows.listOrd PyProof.Rows.itemOrd) false (fun d : D => (PySem.W.keyToks d.py : (PyProof.Rows.listOrd PyProof.Rows.itemOrd).α))
theorem sort_reps {K : PySem.W.Frag} {F : Hp} {vs : List V} {ds es : List D} (r : Reps K F vs ds) (h : sortL ds = some es) : Reps K F (((vs.zip (pys ds)).mergeSort leV).map (·.1)) es := by
  unfold sortL at h
  split at h
  · rename_i ok
    cases h
    have ok1 := (Bool.and_eq_true_iff.mp ok).2
    have ok2 := (Bool.and_eq_true_iff.mp ok1).1
    have ok3 := (Bool.and_eq_true_iff.mp ok1).2
    have hl := r.length
    have e1 : ((vs.zip ds).mergeSort fun p q => leK p.2 q.2).map (fun p => (p.1, p.2.py)) = (vs.zip (pys ds)).mergeSort leV := by
      rw [PySem.W.sort_maps (r := fun p q : V × D => leK p.2 q.2) (s := leV) (fun p : V × D => (p.1, p.2.py)) (fun _ _ _ _ => rfl)]
      congr 1
      rw [pys_map, List.zip_map_right]
      rfl
    have e2 : ((vs.zip ds).mergeSort fun p q => leK p.2 q.2).map (·.2) = ds.mergeSort leK := by
      rw [PySem.W.sort_maps (r := fun p q : V × D => leK p.2 q.2) (s := leK) (fun p : V × D => p.2) (fun _ _ _ _ => rfl), List.map_snd_zip (by omega)]
    have e3 : isortW leS ds = ds.mergeSort leK := by
      rw [← isortW_eq leK_total]
      refine isortW_congr fun x hx y hy => ?_
      have mx : x.py ∈ pys ds := by rw [pys_map]; exact List.mem_map_of_mem hx
      have my : y.py ∈ pys ds := by rw [pys_map]; exact List.mem_map_of_mem hy
      unfold leS leK
      rw [dataLt_ltP _ _ (sortOk_alike ok2 _ my _ mx) (List.all_eq_true.mp (List.all_eq_true.mp ok3 _ my) _ mx)]
    rw [e3, ← e2, ← e1, List.map_map]
    exact reps_pairs fun p hp => pairs_reps r p ((List.mergeSort_perm _ _).mem_iff.mp hp)
  · cases h
theorem insW_len {α : Type} {le : α → α → Bool} (x : α) : ∀ l : List α, (insW le x l).length = l.length + 1
  | [] => rfl
  | y :: ys => by
    unfold insW
    split
    · rfl
    · simp only [List.length_cons, insW_len x ys]
theorem isortW_len {α : Type} {le : α → α → Bool} : ∀ l : List α, (isortW le l).length = l.length
  | [] => rfl
  | x :: xs => (insW_len x _).trans (congrArg (· + 1) (isortW_len xs))
theorem sortL_len {ds es : List D} (h : sortL ds = some es) : es.length = ds.length := by
  unfold sortL at h
  split at h
  · cases h
    exact isortW_len ds
  · cases h
theorem seqD_repsL {K : PySem.W.Frag} {F H : Hp} {v : V} {d : D} {ds : List D} (s : Same F H) (r : RepH K F H v d) (h : seqD d = some ds) : ∃ a xs, v = .ref a ∧ (SqT K H a xs ∨ SqL K H a xs) ∧ Reps K F xs ds ∧ xs.length ≤ sizeLine := by
  cases d with
  | lst xs =>
    cases h
    obtain ⟨a, ys, rfl, h1, l1, w1⟩ := r.lst s
    exact ⟨a, ys, rfl, .inr (SqL.of h1), w1, l1⟩
  | tup xs =>
    cases h
    obtain ⟨a, ys, rfl, h1, l1, w1, _⟩ := r.tup s
    exact ⟨a, ys, rfl, .inl h1, w1, l1⟩
  | _ => cases h
theorem sortD_ok {K : PySem.W.Frag} : RCok K (rSrt K) sortD := by
  intro xs ds F H Q d s r e k
  cases r with
  | nil => cases e
  | cons h r =>
    cases r with
    | cons _ _ => simp only [sortD] at e; cases e
    | nil =>
      rename_i v x
      simp only [sortD] at e
      cases hx : seqD x with
      | none => rw [hx] at e; cases e
      | some ys =>
        rw [hx] at e
        simp only [Option.bind_some] at e
        cases hs : sortL ys with
        | none => rw [hs] at e; cases e
        | some zs =>
          rw [hs] at e
          cases e
          obtain ⟨a, vs, rfl, h1, h2, h3⟩ := seqD_repsL s h hx
          have hs' := hs
          unfold sortL at hs'
          split at hs'
          · rename_i ok
            have ok0 := (Bool.and_eq_true_iff.mp ok).1
            have ok1 := (Bool.and_eq_true_iff.mp (Bool.and_eq_true_iff.mp ok).2).1
            refine ⟨a, vs, pys ys, rfl, h1, Reps.dp s h2 ok0, ok1, fun p hp => ?_⟩
            have rr := sort_reps h2 hs
            have hl : (((vs.zip (pys ys)).mergeSort leV).map (·.1)).length ≤ sizeLine := by
              rw [Reps.length rr, sortL_len hs, ← Reps.length h2]
              exact h3
            exact k _ _ _ (Ext.fresh s _ hp) (new_lst s hp hl rr)
          · cases hs'
/-- min, max: of two ints, of a list of ints -/
def minI : List Int → Option Int
  | [] => none
  | i :: is => some (is.foldl (fun a b => if b < a then b else a) i)
def maxI : List Int → Option Int
  | [] => none
  | i :: is => some (is.foldl (fun a b => if b > a then b else a) i)
theorem minF : ∀ (is : List Int) (i : Int), (is.foldl (fun a b => if b < a then b else a) i = i ∨ is.foldl (fun a b => if b < a then b else a) i ∈ is) ∧ is.foldl (fun a b => if b < a then b else a) i ≤ i ∧ ∀ j ∈ is, is.foldl (fun a b => if b < a then b else a) i ≤ j
  | [], i => ⟨.inl rfl, Int.le_refl _, fun j hj => by simp at hj⟩
  | k :: is, i => by
    obtain ⟨h1, h2, h3⟩ := minF is (if k < i then k else i)
    rw [List.foldl_cons]
    refine ⟨?_, ?_, fun j hj => ?_⟩
    · rcases h1 with z | z
      · by_cases e : k < i
        · rw [if_pos e] at z ⊢
          exact .inr (by rw [z]; simp)
        · rw [if_neg e] at z ⊢
          exact .inl z
      · exact .inr (List.mem_cons_of_mem _ z)
    · refine Int.le_trans h2 ?_
      split <;> omega
    · rcases List.mem_cons.mp hj with rfl | hj
      · refine Int.le_trans h2 ?_
        split <;> omega
      · exact h3 j hj
theorem maxF : ∀ (is : List Int) (i : Int), (is.foldl (fun a b => if b > a then b else a) i = i ∨ is.foldl (fun a b => if b > a then b else a) i ∈ is) ∧ i ≤ is.foldl (fun a b => if b > a then b else a) i ∧ ∀ j ∈ is, j ≤ is.foldl (fun a b => if b > a then b else a) i
  | [], i => ⟨.inl rfl, Int.le_refl _, fun j hj => by simp at hj⟩
  | k :: is, i => by
    obtain ⟨h1, h2, h3⟩ := maxF is (if k > i then k else i)
    rw [List.foldl_cons]
    refine ⟨?_, ?_, fun j hj => ?_⟩
    · rcases h1 with z | z
      · by_cases e : k > i
        · rw [if_pos e] at z ⊢
          exact .inr (by rw [z]; simp)
        · rw [if_neg e] at z ⊢
          exact .inl z
      · exact .inr (List.mem_cons_of_mem _ z)
    · refine Int.le_trans ?_ h2
      split <;> omega
    · rcases List.mem_cons.mp hj with rfl | hj
      · refine Int.le_trans ?_ h2
        split <;> omega
      · exact h3 j hj
def minD : List D → Option D
  | [.int i, .int j] => some (.int (if j < i then j else i))
  | [.lst ds] => ((intsD ds).bind minI).map .int
  | _ => none
def maxD : List D → Option D
  | [.int i, .int j] => some (.int (if j > i then j else i))
  | [.lst ds] => ((intsD ds).bind maxI).map .int
  | _ => none
def rMinA (K : PySem.W.Frag) : List V → Hp → VK → Prop := fun xs H Q => (∃ i j, xs = [.int i, .int j] ∧ Q (.int (if j < i then j else i)) H) ∨ rMin K xs H Q
def rMaxA (K : PySem.W.Frag) : List V → Hp → VK → Prop := fun xs H Q => (∃ i j, xs = [.int i, .int j] ∧ Q (.int (if j > i then j else i)) H) ∨ rMax K xs H Q
theorem call_minA {X : Cx} (hc : X.calm = true) : CallR X (.builtin "min") (rMinA X.K) := CallR.or (call_min2 hc) (cr_min hc)
theorem call_maxA {X : Cx} (hc : X.calm = true) : CallR X (.builtin "max") (rMaxA X.K) := CallR.or (call_max2 hc) (cr_max hc)
theorem minD_ok {K : PySem.W.Frag} : RCok K (rMinA K) minD := by
  intro xs ds F H Q d s r e k
  unfold minD at e
  split at e
  · cases e
    cases r with
    | cons h1 r =>
      cases r with
      | cons h2 r =>
        cases r
        cases h1.int
        cases h2.int
        exact .inl ⟨_, _, rfl, k _ F H (Ext.refl s) (.int _)⟩
  · rename_i ds
    cases r with
    | cons h1 r =>
      cases r
      obtain ⟨a, ys, rfl, g1, g2, g3⟩ := h1.lst s
      cases hi : intsD ds with
      | none => rw [hi] at e; cases e
      | some is =>
        rw [hi] at e
        cases is with
        | nil => cases e
        | cons i is =>
          simp only [Option.bind_some, minI, Option.map_some] at e
          cases e
          have ev := intsD_vals hi g3
          subst ev
          obtain ⟨m1, m2, m3⟩ := minF is i
          refine .inr ⟨a, i :: is, rfl, SqL.of g1, by simp, fun m hm hle => ?_⟩
          have em : m = is.foldl (fun a b => if b < a then b else a) i := by
            apply Int.le_antisymm
            · rcases m1 with z | z
              · rw [z]; exact hle i (by simp)
              · exact hle _ (List.mem_cons_of_mem _ z)
            · rcases List.mem_cons.mp hm with rfl | hm
              · exact m2
              · exact m3 m hm
          rw [em]
          exact k _ F H (Ext.refl s) (.int _)
  · cases e
theorem maxD_ok {K : PySem.W.Frag} : RCok K (rMaxA K) maxD := by
  intro xs ds F H Q d s r e k
  unfold maxD at e
  split at e
  · cases e
    cases r with
    | cons h1 r =>
      cases r with
      | cons h2 r =>
        cases r
        cases h1.int
        cases h2.int
        exact .inl ⟨_, _, rfl, k _ F H (Ext.refl s) (.int _)⟩
  · rename_i ds
    cases r with
    | cons h1 r =>
      cases r
      obtain ⟨a, ys, rfl, g1, g2, g3⟩ := h1.lst s
      cases hi : intsD ds with
      | none => rw [hi] at e; cases e
      | some is =>
        rw [hi] at e
        cases is with
        | nil => cases e
        | cons i is =>
          simp only [Option.bind_some, maxI, Option.map_some] at e
          cases e
          have ev := intsD_vals hi g3
          subst ev
          obtain ⟨m1, m2, m3⟩ := maxF is i
          refine .inr ⟨a, i :: is, rfl, SqL.of g1, by simp, fun m hm hle => ?_⟩
          have em : m = is.foldl (fun a b => if b > a then b else a) i := by
            apply Int.le_antisymm
            · rcases List.mem_cons.mp hm with rfl | hm
              · exact m2
              · exact m3 m hm
            · rcases m1 with z | z
              · rw [z]; exact hle i (by simp)
              · exact hle _ (List.mem_cons_of_mem _ z)
          rw [em]
          exact k _ F H (Ext.refl s) (.int _)
  · cases e
end VL
set_option Elab.async false
set_option linter.all false
set_option maxRecDepth 100000
set_option autoImplicit false
namespace VL
open PySem PySem.Spec L2
open PyProof.Rows hiding St

/-! ### texts -/
def strsD : List D → Option (List Str)
  | [] => some []
  | .str x :: ds => (strsD ds).map (x :: ·)
  | _ => none
theorem strsD_vals {K : PySem.W.Frag} {F : Hp} : ∀ {ds : List D} {ns : List Str} {xs : List V}, strsD ds = some ns → Reps K F xs ds → xs = ns.map V.str
  | [], ns, xs, h, r => by
    cases h
    cases r
    rfl
  | d :: ds, ns, xs, h, r => by
    cases r with
    | cons r1 r =>
      cases d with
      | str x =>
        simp only [strsD] at h
        cases hd : strsD ds with
        | none => rw [hd] at h; cases h
        | some ms =>
          rw [hd] at h
          cases h
          cases r1
          rw [strsD_vals hd r]
          rfl
      | _ => cases h
theorem reps_strs {K : PySem.W.Frag} {F : Hp} : ∀ xs : List Str, Reps K F (xs.map V.str) (xs.map D.str)
  | [] => .nil
  | x :: xs => .cons (.str x) (reps_strs xs)
def asS : D → Option Str
  | .str x => some x
  | _ => none
def splitD (a : Str) : D → Option D
  | .str b => if (b.length == 0) = false ∧ a.length + 2 ≤ sizeLine ∧ (Txt.split a b).length ≤ sizeLine then some (.lst ((Txt.split a b).map D.str)) else none
  | _ => none
def joinD (a : Str) (y : D) : Option D := (seqD y).bind fun ds => (strsD ds).bind fun ys => if (ys.map (·.length)).sum + ys.length * a.length ≤ 16777216 then some (.str (Txt.join a ys)) else none
section
variable {X : Cx} {G : Gd} {W : WX} {ρ : Rho} {o e a b : Expr} {es : List Expr} {m mo me : Rs D} {κ : Kt} {pos p apos : Pos}
theorem ev_split (ho : EV X G W ρ o mo) (he : EV X G W ρ e me) (hs : starEach [e] X.env = [(false, eval e X.env)] := by rfl) (hbase : attributeBase o "split" X.env (eval o X.env) = eval o X.env := by rfl) (hline : (apos.endLine == pos.line) = true := by rfl) :
    EV X G W ρ (.Call (.Attribute o "split" apos) [e] [] pos) (mo.bind fun x => (Rs.of (asS x)).bind fun z => me.bind fun y => Rs.of (splitD z y)) := by
  obtain ⟨to, po, qo⟩ := ho
  obtain ⟨te, pe, qe⟩ := he
  refine ⟨_, pe_split po pe hs hbase hline, fun F0 σ F H Q hh hp => qo F0 σ F H _ hh (hp.bind fun x v F1 H1 e1 r1 hp1 => ?_)⟩
  cases x with
  | str z =>
    cases r1
    refine ⟨⟨z, rfl⟩, qe F0 σ F1 H1 _ (hh.more e1) (Post.bind (m := me) hp1 fun y u F2 H2 e2 r2 hp2 => ?_)⟩
    obtain ⟨d, hd, k⟩ := Post.of hp2
    cases y with
    | str b =>
      cases r2
      simp only [splitD] at hd
      split at hd
      · rename_i ok
        cases hd
        exact ⟨_, _, rfl, rfl, ok.1, ok.2.1, fun q hn => k _ _ _ (Ext.fresh e2.sub _ hn) (new_lst e2.sub hn (by rw [List.length_map]; exact ok.2.2) (reps_strs _))⟩
      · cases hd
    | _ => cases hd
  | _ => exact hp1.elim
theorem ev_join (ho : EV X G W ρ o mo) (he : EO X G W ρ e me) (hs : starEach [e] X.env = [(false, eval e X.env)] := by rfl) (hbase : attributeBase o "join" X.env (eval o X.env) = eval o X.env := by rfl) (hline : (apos.endLine == pos.line) = true := by rfl) :
    EV X G W ρ (.Call (.Attribute o "join" apos) [e] [] pos) (mo.bind fun x => (Rs.of (asS x)).bind fun z => me.bind fun y => Rs.of (joinD z y)) := by
  obtain ⟨to, po, qo⟩ := ho
  obtain ⟨te, pe, qe⟩ := he
  refine ⟨_, pe_join po pe hs hbase hline, fun F0 σ F H Q hh hp => qo F0 σ F H _ hh (hp.bind fun x v F1 H1 e1 r1 hp1 => ?_)⟩
  cases x with
  | str z =>
    cases r1
    refine ⟨⟨z, rfl⟩, qe F0 σ F1 H1 _ (hh.more e1) (Post.bind (m := me) hp1 fun y u F2 H2 e2 r2 hp2 => ?_)⟩
    obtain ⟨d, hd, k⟩ := Post.of hp2
    unfold joinD at hd
    cases hy : seqD y with
    | none => rw [hy] at hd; cases hd
    | some ds =>
      rw [hy] at hd
      simp only [Option.bind_some] at hd
      cases hz : strsD ds with
      | none => rw [hz] at hd; cases hd
      | some ys =>
        rw [hz] at hd
        simp only [Option.bind_some] at hd
        split at hd
        · rename_i ok
          cases hd
          obtain ⟨pa, vs, rfl, g1, g2⟩ := seqD_reps e2.sub r2 hy
          have ev := strsD_vals hz g2
          subst ev
          exact ⟨z, pa, ys, rfl, rfl, g1.symm, ok, k _ F2 H2 (Ext.refl e2.sub) (.str _)⟩
        · cases hd
  | _ => exact hp1.elim
/-- a or b, new lists -/
theorem ef_or {ma mb : Rs (List D)} (ha : EF X G W ρ a ma) (hb : EF X G W ρ b mb) : EF X G W ρ (.BoolOp .Or [a, b] pos) (ma.bind fun l => if l.isEmpty then mb else .ok l) := by
  obtain ⟨ta, pa, qa⟩ := ha
  obtain ⟨tb, pb, qb⟩ := hb
  refine ⟨_, pe_orT pa (pe_one pb), fun F0 σ F H Q hh hp => qa F0 σ F H _ hh ?_⟩
  cases ma with
  | ex c fs => exact hp
  | no => exact hp
  | ok l =>
    rintro v F1 H1 e1 ⟨ad, rfl, hn, hf, ho⟩
    obtain ⟨xs, h1, h2, h3⟩ := ho.asL
    refine ⟨!xs.isEmpty, .inl ⟨xs, SqL.of h1, rfl⟩, ?_⟩
    have el : xs.isEmpty = l.isEmpty := by
      cases h3 <;> rfl
    rw [el]
    simp only [Rs.bind_ok] at hp
    cases he : l.isEmpty with
    | true =>
      rw [he, if_pos rfl] at hp
      refine iteF (qb F0 σ F1 H1 Q (hh.more e1) ?_)
      cases mb with
      | ex c fs => exact Post.more hp e1
      | no => exact hp
      | ok r =>
        rintro v F2 H2 e2 ⟨a2, rfl, hn2, hf2, ho2⟩
        exact hp _ F2 H2 (e1.trans e2) ⟨a2, rfl, e1.same.free hn2, hf2, ho2⟩
    | false =>
      rw [he] at hp
      exact iteT (hp _ F1 H1 e1 ⟨ad, rfl, hn, hf, ho⟩)
end
end VL
set_option Elab.async false
set_option linter.all false
set_option maxRecDepth 100000
set_option autoImplicit false
namespace VL
open PySem PySem.Spec L2
open PyProof.Rows hiding St

/-! ### arguments with draws, one behind another in the mirror -/
abbrev KtB := (β : Type) → (List D → List D → Rs β) → Rs β
def BC (X : Cx) (G : Gd) (ρ : Rho) (i : Nat) (es : List Expr) (κ : KtB) : Prop := ∃ ms, AB X G ρ i es ms ∧ ∀ (β : Type) (k : List D → List D → Rs β), κ β k = ms.bind fun v => k v.1 v.2
section
variable {X : Cx} {G : Gd} {ρ : Rho} {i : Nat} {l : Bool} {s : List D} {e : Expr} {es : List Expr} {pos p p2 : Pos} {m : Rs (D × List D)} {κ : KtB} {κ' : List D → KtB}
theorem bc_nil (hi : At ρ i l s := by rfl) : BC X G ρ i [] (fun β k => k [] s) := ⟨_, ab_nil hi, fun _ _ => rfl⟩
theorem bc_cons (ha : EB X G ρ i e m) (hr : ∀ s', BC X G (ρ.set i (some (.own l (.lst s')))) i es (κ' s')) (hs : starEach (e :: es) X.env = (false, eval e X.env) :: starEach es X.env := by rfl) (hi : At ρ i l s := by rfl) :
    BC X G ρ i (e :: es) (fun β k => m.bind fun u => κ' u.2 β fun xs s' => k (u.1 :: xs) s') := by
  have ch := fun s' => (hr s').choose_spec
  refine ⟨_, ab_cons (ms := fun s' => (hr s').choose) ha (fun s' => (ch s').1) hs hi, fun β k => ?_⟩
  rw [Rs.assoc]
  cases m with
  | ok u =>
    show κ' u.2 β (fun xs s' => k (u.1 :: xs) s') = _
    rw [(ch u.2).2, Rs.bind_ok, Rs.assoc]
    rfl
  | ex c fs => rfl
  | no => rfl
theorem eb_tupC {x1} (h : BC X G ρ i es κ) (hl : Nat.ble es.length sizeLine = true := by rfl) : EB X G ρ i (.Tuple es x1 pos) (κ _ fun xs s' => .ok (.tup xs, s')) := by
  obtain ⟨ms, h1, h2⟩ := h
  rw [h2]
  exact eb_tup h1 hl
theorem eb_lstC (h : BC X G ρ i es κ) (hl : Nat.ble es.length sizeLine = true := by rfl) : EB X G ρ i (.List es pos) (κ _ fun xs s' => .ok (.lst xs, s')) := by
  obtain ⟨ms, h1, h2⟩ := h
  rw [h2]
  exact eb_lst h1 hl
theorem eb_callBC {id : String} {x : Str} {r : List V → Hp → VK → Prop} {f : List D → Option D} (hc : CallR X (.builtin id) r) (hf : RCok X.K r f) (hm : X.mg x = none) (hv : bootBuiltins x = some (.builtin id)) (ha : BC X G ρ i (e :: es) κ) (hg : Gl X x := by rfl) (hn : x ≠ "__name__" := by decide)
    (hdb : (x == ("__debug__" : Str)) = false := by decide) (he : starEach (e :: es) X.env = (false, eval e X.env) :: starEach es X.env := by rfl) (hpl : (backTo pos (starEach es X.env)).any (·.1) = false := by rfl) : EB X G ρ i (.Call (.Name x p) (e :: es) [] pos) (κ _ fun xs s' => (Rs.of (f xs)).bind fun d => .ok (d, s')) := by
  obtain ⟨ms, h1, h2⟩ := ha
  rw [h2]
  exact eb_callB hc hf hm hv h1 hg hn hdb he hpl
theorem eb_callTyC {id : String} {x : Str} {r : List V → Hp → VK → Prop} {f : List D → Option D} (hc : CallR X (.type id) r) (hf : RCok X.K r f) (hm : X.mg x = none) (hv : bootBuiltins x = some (.type id)) (ha : BC X G ρ i (e :: es) κ) (hg : Gl X x := by rfl) (hn : x ≠ "__name__" := by decide)
    (hdb : (x == ("__debug__" : Str)) = false := by decide) (he : starEach (e :: es) X.env = (false, eval e X.env) :: starEach es X.env := by rfl) (hpl : (backTo pos (starEach es X.env)).any (·.1) = false := by rfl) : EB X G ρ i (.Call (.Name x p) (e :: es) [] pos) (κ _ fun xs s' => (Rs.of (f xs)).bind fun d => .ok (d, s')) := by
  obtain ⟨ms, h1, h2⟩ := ha
  rw [h2]
  exact eb_callTy hc hf hm hv h1 hg hn hdb he hpl
theorem eb_ownC {k : Nat} {f : Addr} {fd : FuncData} {ps : List Str} {mf : List D → Rs D} {x : Str} (Fk : Keeps X.prog X.w X.K X.mg X.base k f fd ps mf) (hr : Room k X.A) (hm : X.mg x = some (.ref f)) (hk : PySem.W.keepIn X.K (.ref f) = true)
    (hb : Binds X.K fd ps []) (ha : BC X G ρ i (e :: es) κ) (hln : (e :: es).length = ps.length := by rfl) (hg : Gl X x := by rfl) (hdb : (x == ("__debug__" : Str)) = false := by decide) (he : starEach (e :: es) X.env = (false, eval e X.env) :: starEach es X.env := by rfl)
    (hpl : (backTo pos (starEach es X.env)).any (·.1) = false := by rfl) : EB X G ρ i (.Call (.Name x p) (e :: es) [] pos) (κ _ fun xs s' => (mf xs).bind fun d => .ok (d, s')) := by
  obtain ⟨ms, h1, h2⟩ := ha
  rw [h2]
  exact eb_own Fk hr hm hk hb h1 hln hg hdb he hpl
theorem eb_ioC {k : Nat} {f : Addr} {fd : FuncData} {ps : List Str} {mf : List D → List D → Rs (D × List D)} {x bn : Str} (Fk : KeepsIO X.prog X.w X.K X.mg X.base k f fd ps mf) (hr : Room k X.A) (hm : X.mg x = some (.ref f)) (hk : PySem.W.keepIn X.K (.ref f) = true)
    (hb : Binds X.K fd ps []) (hv : PE X (.Name bn p2) (tVar i)) (ha : BC X G ρ i es κ) (hi : At ρ i l s := by rfl) (hln : es.length + 1 = ps.length := by rfl) (hg : Gl X x := by rfl) (hdb : (x == ("__debug__" : Str)) = false := by decide) (he : starEach (.Name bn p2 :: es) X.env = (false, eval (.Name bn p2) X.env) :: starEach es X.env := by rfl)
    (hpl : (backTo pos (starEach es X.env)).any (·.1) = false := by rfl) : EB X G ρ i (.Call (.Name x p) (.Name bn p2 :: es) [] pos) (κ _ fun xs s' => mf s' xs) := by
  obtain ⟨ms, h1, h2⟩ := ha
  rw [h2]
  exact eb_io Fk hr hm hk hb hv h1 hi hln hg hdb he hpl
end
/-! ### blocks -/
section
variable {X : Cx} {G : Gd} {W : WX} {ρx ρ : Rho} {rest sts : List Stmt} {α β R : Type} {pn : α → Rho} {pl : β → Rho} {ι : R → Fl α β} {i : Nat} {l : Bool} {s : List D}
theorem bk_ifrB {c : Expr} {a : List Stmt} {pos : Pos} {tc : Rs (Bool × List D)} {ma : List D → Rs (Fl Empty β)} {mr : List D → Rs (Fl α β)} (hc : TB X G ρ i c tc) (ha : ∀ s', BK X G W ρx (ρ.set i (some (.own l (.lst s')))) a pEmp pl (ma s')) (hr : ∀ s', BK X G W ρx (ρ.set i (some (.own l (.lst s')))) rest pn pl (mr s')) (hi : At ρ i l s := by rfl) :
    BK X G W ρx ρ (.If c a [] pos :: rest) pn pl (tc.noX.bind fun u => if u.1 then liftF (ma u.2) else mr u.2) := by
  intro F0 σ F H E hh hp
  obtain ⟨r, hm, hp1⟩ := postS_noX hp
  clear hp
  subst hm
  obtain ⟨bx, hbx⟩ := box_at hh hi
  refine any_cons (ps_if pt_any pss_any pss_nil) (hc F0 σ F H _ bx hh hbx fun v F' H' e1 r1 o1 => ?_)
  obtain ⟨k, s'⟩ := r
  have r1' : v = k := r1
  subst r1'
  cases v with
  | true => exact iteT (ha s' F0 σ F' H' _ (hh.moreB hi hbx e1 o1) (postS_lift hp1))
  | false => exact iteF (hr s' F0 σ F' H' E (hh.moreB hi hbx e1 o1) hp1)
theorem bi_forB {ε γ : Type} {post : ε → Rho} {u : D → Option γ} {p : ε → γ → Rho} {is : List Nat} {tg iter : Expr} {body : List Stmt} {pos : Pos} {mi : Rs (List D × List D)} {fb : ε → γ → Rs ε} {z0 : List D → ε} {f : ε → Rs R}
    (po : PassesOwn (model X.prog X.w) X.A X.env X.xe) (calm : X.calm = true) (hiB : IB X G ρ i tg iter mi) (h0 : ∀ s', Wk (ρ.set i (some (.own l (.lst s')))) (post (z0 s'))) (ht : ∀ z, TT1 X G tg (post z) is u (p z)) (hb : ∀ z y, BI X G W ρx (p z y) body post post Fl.nx (fb z y))
    (hr : ∀ z, BI X G W ρx (post z) rest pn pl ι (f z)) (hi : At ρ i l s := by rfl) (hs : ∀ x, foldedSetIterable iter X.env x = pure x := by intro _; rfl) :
    BI X G W ρx ρ (.For tg iter body [] pos :: rest) pn pl ι (mi.noX.bind fun it => (foldM (fun z d => (Rs.of (u d)).bind (fb z)) it.1 (z0 it.2)).bind f) := by
  intro F0 σ F H E hh hp
  rw [Rs.assoc] at hp
  obtain ⟨r, hm, hp1⟩ := postS_noX hp
  clear hp
  subst hm
  obtain ⟨items, s1⟩ := r
  obtain ⟨bx, hbx⟩ := box_at hh hi
  refine any_cons (ps_for po calm pi_any pg_any pss_any hs) ?_
  refine hiB F0 σ F H _ bx hh hbx fun J F1 H1 e1 hw o1 => ?_
  have hh1 := (hh.moreB hi hbx e1 o1).weak (h0 s1)
  have hp1 : PostS X.K (G.at F0) W ρx pn pl E ((foldM (fun z d => (Rs.of (u d)).bind (fb z)) items (z0 s1)).bind fun z => (f z).bind fun r => .ok (ι r)) := by
    rw [← Rs.assoc]
    exact hp1
  refine ⟨fun k m σ H => m = items.length - k ∧ k ≤ items.length ∧ ∃ z F, Holds X.K (G.at F0) (post z) σ F H ∧ Same F1 F ∧ PostS X.K (G.at F0) W ρx pn pl E ((foldM (fun z d => (Rs.of (u d)).bind (fb z)) (items.drop k) z).bind fun z => (f z).bind fun r => .ok (ι r)),
    ⟨items.length, by simp, Nat.zero_le _, z0 s1, F1, hh1, Same.refl F1, hp1⟩, ?_⟩
  rintro k m σ2 H2 ⟨rfl, hil, z, F2, hh2, s2, hp2⟩
  obtain ⟨wgo, wstop⟩ := hw.2 F2 H2 s2 hh2.sub
  by_cases hlt : k < items.length
  · have hg : items[k]? = some items[k] := List.getElem?_eq_getElem hlt
    obtain ⟨g1, g2⟩ := wgo k _ hg
    rw [List.drop_eq_getElem_cons hlt] at hp2
    refine .inr ⟨g1, fun σ' H' => ∃ z' F', Holds X.K (G.at F0) (post z') σ' F' H' ∧ Same F1 F' ∧ PostS X.K (G.at F0) W ρx pn pl E ((foldM (fun z d => (Rs.of (u d)).bind (fb z)) (items.drop (k + 1)) z').bind fun z => (f z).bind fun r => .ok (ι r)),
      fun σ' H' ⟨z', F', q1, q2, q3⟩ => ⟨items.length - (k + 1), by omega, rfl, hlt, z', F', q1, q2, q3⟩, fun x H' y => ?_⟩
    obtain ⟨F3, e3, r3⟩ := g2 x H' y
    have hh3 := hh2.more e3
    simp only [foldM] at hp2
    cases hu : u items[k] with
    | none => rw [hu] at hp2; exact hp2.elim
    | some w =>
      rw [hu] at hp2
      simp only [Rs.of_some, Rs.bind_ok] at hp2
      refine ht z F0 σ2 F3 H' x _ w _ hh3 r3 hu fun σ4 _ hh4 => ?_
      refine hb z w F3 σ4 F3 H' _ hh4.rebase ?_
      cases hfb : fb z w with
      | no => rw [hfb] at hp2; exact hp2
      | ex c fs =>
        rw [hfb] at hp2
        exact PostS.rebase (W := W) (m := (Rs.ex c fs : Rs (Fl α β))) (pn := pn) (pl := pl) (E := E) hh4.toGnd hp2
      | ok z' =>
        rw [hfb] at hp2
        exact fun σ5 F5 H5 hh5 => ⟨z', F5, hh5.unbase hh4.toGnd, (s2.trans e3.ext).trans hh5.ext, hp2⟩
  · have ei : k = items.length := by omega
    subst ei
    rw [List.drop_length] at hp2
    exact .inl ⟨wstop, hr z F0 σ2 F2 H2 E hh2 hp2⟩
end
end VL
set_option Elab.async false
set_option linter.all false
set_option maxRecDepth 100000
set_option autoImplicit false
namespace VL
open PySem PySem.Spec L2
open PyProof.Rows hiding St

/-- the def behind a property, a staticmethod -/
def recA (K : PySem.W.Frag) (C : Addr) (T : String) (f : Str) : Addr := match PySem.W.recIn K (He.ma K C f) T with
  | some (.ref g :: _) => g
  | _ => 0
section
variable {X : Cx} {G : Gd} {W : WX} {ρx ρ : Rho} {rest sts : List Stmt} {α β R : Type} {pn : α → Rho} {pl : β → Rho} {ι : R → Fl α β} {i : Nat} {l : Bool} {s : List D}
theorem bi_nox {m : Rs R} (h : BI X G W ρx ρ sts pn pl ι m) : BI X G W ρx ρ sts pn pl ι m.noX := by
  cases m with
  | ok r => exact h
  | ex c fs => exact fun F0 σ F H E hh hp => hp.elim
  | no => exact h
theorem tl_4 {i j k n q : Nat} {a b c d : Expr} {pos : Pos} (hc : X.calm = true) (ha : PG X a (gName i)) (hb : PG X b (gName j)) (hcc : PG X c (gName k)) (hd : PG X d (gName q)) (hl : i < ρ.length := by exact Nat.le_of_ble_eq_true rfl) (hl2 : j < ρ.length := by exact Nat.le_of_ble_eq_true rfl) (hl3 : k < ρ.length := by exact Nat.le_of_ble_eq_true rfl) (hl4 : q < ρ.length := by exact Nat.le_of_ble_eq_true rfl)
    (h1 : (assignEach [a, b, c, d] X.env).map (·.2) = assign a X.env :: (assignEach [b, c, d] X.env).map (·.2) := by rfl) (h2 : (assignEach [b, c, d] X.env).map (·.2) = assign b X.env :: (assignEach [c, d] X.env).map (·.2) := by rfl)
    (h3 : (assignEach [c, d] X.env).map (·.2) = assign c X.env :: (assignEach [d] X.env).map (·.2) := by rfl) (h4 : (assignEach [d] X.env).map (·.2) = assign d X.env :: (assignEach [] X.env).map (·.2) := by rfl)
    (hn : (assignEach [a, b, c, d] X.env).length = 4 := by rfl) (hst : (assignEach [a, b, c, d] X.env).findIdx? (·.1) = none := by rfl) :
    TT1 X G (.Tuple [a, b, c, d] n pos) ρ [i, j, k, q] unL4 (fun z => (((ρ.set i (some (.val z.1))).set j (some (.val z.2.1))).set k (some (.val z.2.2.1))).set q (some (.val z.2.2.2))) := by
  intro F0 σ F H v d z Q hh r e kk
  have fin : ∀ {v1 v2 v3 v4 : V}, Rep X.K F v1 z.1 → Rep X.K F v2 z.2.1 → Rep X.K F v3 z.2.2.1 → Rep X.K F v4 z.2.2.2 → (gCons (gName i) (gCons (gName j) (gCons (gName k) (gCons (gName q) gNil)))) [v1, v2, v3, v4] σ H Q := fun {v1 v2 v3 v4} r1 r2 r3 r4 =>
    ⟨_, _, rfl, _, _, rfl, _, _, rfl, _, _, rfl, rfl, kk _ (fun vs hv => (((wipe_set (hv q (by simp))).trans (wipe_set (hv k (by simp)))).trans (wipe_set (hv j (by simp)))).trans (wipe_set (hv i (by simp)))) ((((hh.setV r1 hl).setV r2 (by simpa using hl2)).setV r3 (by simpa using hl3)).setV r4 (by simpa using hl4))⟩
  unfold unL4 at e
  split at e
  · cases e
    cases r with
    | tup h l r =>
      cases r with
      | cons r1 r =>
        cases r with
        | cons r2 r =>
          cases r with
          | cons r3 r =>
            cases r with
            | cons r4 r =>
              cases r
              exact tg_or (pg_tup hc (pgs_cons ha (pgs_cons hb (pgs_cons hcc (pgs_cons hd pgs_nil h4) h3) h2) h1) hn hst) ⟨_, _, rfl, SqT.same hh.sub h.sq, rfl, fin r1 r2 r3 r4⟩
  · cases e
    cases r with
    | lst h l r =>
      cases r with
      | cons r1 r =>
        cases r with
        | cons r2 r =>
          cases r with
          | cons r3 r =>
            cases r with
            | cons r4 r =>
              cases r
              exact tg_or (pg_lst hc (pgs_cons ha (pgs_cons hb (pgs_cons hcc (pgs_cons hd pgs_nil h4) h3) h2) h1) hn hst) ⟨_, _, rfl, SqL.of (hh.sub _ _ h), rfl, fin r1 r2 r3 r4⟩
  · cases e
end
end VL
namespace VL
open PySem PySem.Spec L2
open PyProof.Rows hiding St
theorem eb_val {X : Cx} {G : Gd} {ρ : Rho} {i : Nat} {l : Bool} {s : List D} {e : Expr} {d : D} (he : EV X G W0 ρ e (.ok d)) (hi : At ρ i l s := by rfl) : EB X G ρ i e (.ok (d, s)) := eb_pure he hi
end VL
namespace VL
open PySem PySem.Spec L2
open PyProof.Rows hiding St
theorem ev_as {X : Cx} {G : Gd} {W : WX} {ρ : Rho} {e : Expr} (ρ' : Rho) {m m' : Rs D} (h : EV X G W ρ' e m) (er : ρ = ρ') (em : m = m') : EV X G W ρ e m' := by
  subst er em
  exact h
end VL
namespace VL
open PySem PySem.Spec L2
open PyProof.Rows hiding St
section
variable {X : Cx} {G : Gd} {W : WX} {ρx ρ : Rho} {rest : List Stmt} {α β R : Type} {pn : α → Rho} {pl : β → Rho} {ι : R → Fl α β} {st : Stmt}
theorem bi_rz : BI X G W ρx ρ (st :: rest) pn pl ι (.no : Rs R) := fun F0 σ F H E hh hp => hp.elim
theorem bk_rz : BK X G W ρx ρ (st :: rest) pn pl (.no : Rs (Fl α β)) := fun F0 σ F H E hh hp => hp.elim
end
end VL
set_option Elab.async false
set_option linter.all false
set_option maxRecDepth 100000
set_option autoImplicit false
namespace VL
open PySem PySem.Spec L2
open PyProof.Rows hiding St

/-! ### the rules where a part is told at once -/
section
variable {X : Cx} {G : Gd} {W : WX} {ρ : Rho} {e a b : Expr} {es : List Expr} {m ma mb : Rs D} {κ : Kt} {pos p : Pos} {d x y : D}
theorem ac_consV (ha : EV X G W ρ e (.ok d)) (hr : AC X G W ρ es κ) (hs : starEach (e :: es) X.env = (false, eval e X.env) :: starEach es X.env := by rfl) : AC X G W ρ (e :: es) (fun β k => κ β fun xs => k (d :: xs)) := ac_cons ha hr hs
theorem oc_consV (ha : EO X G W ρ e (.ok d)) (hr : OC X G W ρ es κ) (hs : starEach (e :: es) X.env = (false, eval e X.env) :: starEach es X.env := by rfl) : OC X G W ρ (e :: es) (fun β k => κ β fun xs => k (d :: xs)) := oc_cons ha hr hs
theorem sc_consV (ha : EV X G W ρ e (.ok d)) (hr : SC X G W ρ es κ) (hs : starEach (e :: es) X.env = (false, eval e X.env) :: starEach es X.env := by rfl) : SC X G W ρ (e :: es) (fun β k => κ β fun xs => k (d :: xs)) := sc_cons ha hr hs
theorem sc_starV (ha : EO X G W ρ e (.ok d)) (hr : SC X G W ρ es κ) (hs : starEach (.Starred e p :: es) X.env = (true, eval e X.env) :: starEach es X.env := by rfl) : SC X G W ρ (.Starred e p :: es) (fun β k => (Rs.of (seqD d)).bind fun ys => κ β fun xs => k (ys ++ xs)) := sc_star ha hr hs
theorem kc_consV {nm : Option Str} {kpos : Pos} {kws : List Keyword} (ha : EV X G W ρ e (.ok d)) (hr : KC X G W ρ kws κ) : KC X G W ρ (⟨nm, e, kpos⟩ :: kws) (fun β k => κ β fun xs => k (d :: xs)) := kc_cons ha hr
theorem ev_bin2 {op : Operator} {r : R2} {f : D → D → Option D} (ho : OpR X (binaryOp op) r) (hf : R2ok X.K r f) (ha : EO X G W ρ a (.ok x)) (hb : EO X G W ρ b (.ok y)) : EV X G W ρ (.BinOp a op b pos) (Rs.of (f x y)) := ev_bin ho hf ha hb
theorem ev_binL {op : Operator} {r : R2} {f : D → D → Option D} (ho : OpR X (binaryOp op) r) (hf : R2ok X.K r f) (ha : EO X G W ρ a (.ok x)) (hb : EO X G W ρ b mb) : EV X G W ρ (.BinOp a op b pos) (mb.bind fun y => Rs.of (f x y)) := ev_bin ho hf ha hb
theorem ev_binR {op : Operator} {r : R2} {f : D → D → Option D} (ho : OpR X (binaryOp op) r) (hf : R2ok X.K r f) (ha : EO X G W ρ a ma) (hb : EO X G W ρ b (.ok y)) : EV X G W ρ (.BinOp a op b pos) (ma.bind fun x => Rs.of (f x y)) := ev_bin ho hf ha hb
theorem ev_cmp2 {op : CmpOp} {r : R2} {f : D → D → Option D} (ho : OpR X (compareOp op) r) (hf : R2ok X.K r f) (ha : EO X G W ρ a (.ok x)) (hb : EO X G W ρ b (.ok y)) (hm : behindInMarks op b = false) : EV X G W ρ (.Compare a [op] [b] pos) (Rs.of (f x y)) := ev_cmp ho hf ha hb hm
theorem ev_cmpL {op : CmpOp} {r : R2} {f : D → D → Option D} (ho : OpR X (compareOp op) r) (hf : R2ok X.K r f) (ha : EO X G W ρ a (.ok x)) (hb : EO X G W ρ b mb) (hm : behindInMarks op b = false) : EV X G W ρ (.Compare a [op] [b] pos) (mb.bind fun y => Rs.of (f x y)) := ev_cmp ho hf ha hb hm
theorem ev_cmpR {op : CmpOp} {r : R2} {f : D → D → Option D} (ho : OpR X (compareOp op) r) (hf : R2ok X.K r f) (ha : EO X G W ρ a ma) (hb : EO X G W ρ b (.ok y)) (hm : behindInMarks op b = false) : EV X G W ρ (.Compare a [op] [b] pos) (ma.bind fun x => Rs.of (f x y)) := ev_cmp ho hf ha hb hm
theorem ev_ix2 {r : R2} {f : D → D → Option D} (ho : IxR X r) (hf : R2ok X.K r f) (ha : EO X G W ρ a (.ok x)) (hb : EO X G W ρ b (.ok y)) (hm : PlainIx b) : EV X G W ρ (.Subscript a b pos) (Rs.of (f x y)) := ev_ix ho hf ha hb hm
theorem ev_ixL {r : R2} {f : D → D → Option D} (ho : IxR X r) (hf : R2ok X.K r f) (ha : EO X G W ρ a (.ok x)) (hb : EO X G W ρ b mb) (hm : PlainIx b) : EV X G W ρ (.Subscript a b pos) (mb.bind fun y => Rs.of (f x y)) := ev_ix ho hf ha hb hm
theorem ev_ixR {r : R2} {f : D → D → Option D} (ho : IxR X r) (hf : R2ok X.K r f) (ha : EO X G W ρ a ma) (hb : EO X G W ρ b (.ok y)) (hm : PlainIx b) : EV X G W ρ (.Subscript a b pos) (ma.bind fun x => Rs.of (f x y)) := ev_ix ho hf ha hb hm
theorem tv_cmp2 {op : CmpOp} {r : R2} {f : D → D → Option D} {g : D → D → Option Bool} (ho : OpR X (compareOp op) r) (hf : R2ok X.K r f) (hg : Isb f g) (ha : EO X G W ρ a (.ok x)) (hb : EO X G W ρ b (.ok y)) (hm : behindInMarks op b = false) : TV X G W ρ (.Compare a [op] [b] pos) (Rs.of (g x y)) := tv_cmp ho hf hg ha hb hm
theorem tv_cmpL {op : CmpOp} {r : R2} {f : D → D → Option D} {g : D → D → Option Bool} (ho : OpR X (compareOp op) r) (hf : R2ok X.K r f) (hg : Isb f g) (ha : EO X G W ρ a (.ok x)) (hb : EO X G W ρ b mb) (hm : behindInMarks op b = false) : TV X G W ρ (.Compare a [op] [b] pos) (mb.bind fun y => Rs.of (g x y)) := tv_cmp ho hf hg ha hb hm
theorem tv_cmpR {op : CmpOp} {r : R2} {f : D → D → Option D} {g : D → D → Option Bool} (ho : OpR X (compareOp op) r) (hf : R2ok X.K r f) (hg : Isb f g) (ha : EO X G W ρ a ma) (hb : EO X G W ρ b (.ok y)) (hm : behindInMarks op b = false) : TV X G W ρ (.Compare a [op] [b] pos) (ma.bind fun x => Rs.of (g x y)) := tv_cmp ho hf hg ha hb hm
theorem it_seqV {tg e : Expr} (h : EV X G W ρ e (.ok d)) : IT X G W ρ tg e (Rs.of (itemsD d)) := it_seq h
theorem bi_at {R : Type} {ρx : Rho} {sts : List Stmt} {α β : Type} {pn : α → Rho} {pl : β → Rho} {ι : R → Fl α β} (ρ' : Rho) {m : Rs R} (h : BI X G W ρx ρ' sts pn pl ι m) (er : ρ = ρ' := by rfl) : BI X G W ρx ρ sts pn pl ι m := by
  subst er
  exact h
end
end VL
set_option Elab.async false
set_option linter.all false
set_option maxRecDepth 100000
set_option autoImplicit false
namespace VL
open PySem PySem.Spec L2
open PyProof.Rows hiding St

/-! ### tuple(text) -/
section
variable {prog : Program} {w : World} {A : Around} {E : Value → Shared → Prop} {s : Shared} {x : Str} {t : Tok}
theorem code_tupS {R : Value → Shared → Prop} (hh : A.handled = none) (hz : x.cps.size ≤ sizeLine)
    (h : ∀ (z : Heap) (tk : Nat) (acc : Array Value), (∀ b o, s.heap.get? b = some o → z.get? b = some o) → ItemsOf (SignAt x) acc x.cps.size → R (.ref z.objs.size) { s with heap := z.push { cls := .type "tuple", data := .seq acc }, toks := tk }) :
    codeAny (model prog w) A (.call (.builtin "tuple.__new__") ⟨[.type "tuple", .str x t], []⟩) (wants R E) s := by
  refine codeAny_of_tree ?_
  show wpAny _ A.in1 (do checkBuiltinCall "tuple.__new__" ⟨[.type "tuple", .str x t], []⟩; again (.builtin "tuple.__new__" ⟨[.type "tuple", .str x t], []⟩)) _ _ s
  refine wpAny_bind (wpAny_of_eq (F.newCall_tuple_1 (.str x t)) (wpAny_pure ⟨plainId_quiet F.plain_tuple_new _, codeAny_builtin F.entry_tuple_new ?_⟩))
  rw [Around.under_plainId F.plain_tuple_new (A := A)]
  have hsub := sub_tuple_self
  have hinit := init_tuple_lookup
  have hmh := madeHere_tuple
  have hT : s.TypeIs (.str x t) "str" := rfl
  wp_walk using wpAny_typeOf hT, wpAny_collect_str (A := A.in1) (hn := hz) hh x t
  intro s' acc hk hg hd ho hacc
  show wpAny _ _ (Builtin.Tuple.tupleExact acc.toList.toArray >>= fun v => ret v) _ _ s'
  unfold Builtin.Tuple.tupleExact
  refine wpAny_bind (wpAny_newObj_type ?_ (by show acc.toList.toArray.size ≤ sizeLine; simp only [Array.toArray_toList]; rw [hacc.1]; exact hz))
  refine wpAny_pure ?_
  obtain ⟨z1, z2, z3, z4, z5⟩ := s'
  have hg' : z2 = s.gens := hg
  have hd' : z3 = s.drawn := hd
  have ho' : z5 = s.os := ho
  subst hg' hd' ho'
  have e : acc.toList.toArray = acc := by simp
  rw [e]
  exact h z1 z4 acc hk hacc
theorem call_tupS {Q : Value → Shared → Prop} (hh : A.handled = none) (hz : x.cps.size ≤ sizeLine)
    (h : ∀ (z : Heap) (tk : Nat) (acc : Array Value), (∀ b o, s.heap.get? b = some o → z.get? b = some o) → ItemsOf (SignAt x) acc x.cps.size → Q (.ref z.objs.size) { s with heap := z.push { cls := .type "tuple", data := .seq acc }, toks := tk }) :
    wpAny (model prog w) A (call (.type "tuple") [.str x t]) Q E s := by
  refine callType_codes (Q₁ := fun o u => u.TypeIs o "tuple" ∧ Q o u) F.called_tuple (F.typeCall_tuple_1 _) F.entry_object_init
    (code_tupS (A := A.in1) hh hz fun z tk acc hk ha => ⟨⟨_, Heap.get?_push_size _ rfl, rfl⟩, h z tk acc hk ha⟩) fun o u hu => ?_
  exact ⟨hu.1, F.args_object_init_2 o _, object_init_meets F.called_tuple.init.lookup F.called_tuple.made (by decide) prog w A.in1 _ u ⟨hu.1, rfl, hu.2⟩⟩
end
def signs (x : Str) : List D := x.cps.toList.map fun c => .str ⟨#[c]⟩
theorem signs_vals {x : Str} {acc : Array Value} (h : ItemsOf (SignAt x) acc x.cps.size) : Vals (x.cps.toList.map fun c => V.str ⟨#[c]⟩) acc.toList := by
  have key : ∀ (cs : List Nat) (us : List Value), us.length = cs.length → (∀ (j : Nat) u, us[j]? = some u → ∃ c q, cs[j]? = some c ∧ u = .str ⟨#[c]⟩ q) → Vals (cs.map fun c => V.str ⟨#[c]⟩) us := by
    intro cs
    induction cs with
    | nil =>
      intro us hl _
      have e : us = [] := List.eq_nil_of_length_eq_zero hl
      subst e
      exact .nil
    | cons c cs ih =>
      intro us hl hu
      cases us with
      | nil => cases hl
      | cons u us =>
        obtain ⟨c', q, e1, e2⟩ := hu 0 u rfl
        have e1' : c = c' := Option.some.inj e1
        subst e1' e2
        exact .cons ⟨q, rfl⟩ (ih us (Nat.succ.inj hl) fun j v hv => hu (j + 1) v hv)
  refine key _ _ (by rw [Array.length_toList, Array.length_toList]; exact h.1) fun j u hj => ?_
  obtain ⟨c, q, e1, e2⟩ := h.2 j u (by rw [← hj, Array.getElem?_toList])
  exact ⟨c, q, by rw [← e1, Array.getElem?_toList], e2⟩
theorem reps_signs {K : PySem.W.Frag} {F : Hp} : ∀ cs : List Nat, Reps K F (cs.map fun c => V.str ⟨#[c]⟩) (cs.map fun c => D.str ⟨#[c]⟩)
  | [] => .nil
  | c :: cs => .cons (.str _) (reps_signs cs)
def tupleS : List D → Option D
  | [.str x] => if x.cps.size ≤ sizeLine then some (.tup (signs x)) else none
  | _ => none
theorem call_tupleS {X : Cx} (hc : X.calm = true) : CallR X (.type "tuple") (fun xs H Q => ∃ x : Str, xs = [.str x] ∧ x.cps.size ≤ sizeLine ∧ ∀ l, H l = none → Q (.ref l) (upd H l (.tup (x.cps.toList.map fun c => V.str ⟨#[c]⟩)))) := by
  intro pins s σ H xs us Q I r h
  obtain ⟨x, rfl, hz, q⟩ := h
  obtain ⟨u, rfl, t, rfl⟩ := vals1 r
  refine call_tupS (I.ok.hd hc) hz fun z tk acc hk ha => ?_
  have I2 : Inv X pins σ H { s with heap := z, toks := tk } := I.kept hk
  refine ⟨.ref z.objs.size, _, I2.laid (t' := tk) (fun c o e => Heap.get?_push_of_some _ e) (Nat.le_refl _) (show ObjOk X.prog X.w _ _ _ (.tup (x.cps.toList.map fun c => V.str ⟨#[c]⟩)) from ⟨?_, acc.toList, signs_vals ha, ?_⟩), rfl, q _ (I2.hok.fresh (Nat.le_refl _))⟩
  · rw [List.length_map, Array.length_toList]; exact hz
  · rw [Array.toArray_toList]; exact IsTup.new _ _
theorem tupleS_ok {K : PySem.W.Frag} : RCok K (fun xs H Q => ∃ x : Str, xs = [.str x] ∧ x.cps.size ≤ sizeLine ∧ ∀ l, H l = none → Q (.ref l) (upd H l (.tup (x.cps.toList.map fun c => V.str ⟨#[c]⟩)))) tupleS := by
  intro xs ds F H Q d s r hd k
  unfold tupleS at hd
  split at hd
  · split at hd
    · rename_i hz
      cases hd
      cases r with
      | cons r1 r2 =>
        cases r2
        obtain rfl := r1.str
        exact ⟨_, rfl, hz, fun l hl => k _ _ _ (Ext.fresh s _ hl) (new_tup s hl (by rw [List.length_map, Array.length_toList]; exact hz) (reps_signs _))⟩
    · cases hd
  · cases hd
end VL
set_option Elab.async false
set_option linter.all false
set_option maxRecDepth 100000
set_option autoImplicit false
namespace VL
open PySem PySem.Spec L2
open PyProof.Rows hiding St

/-! ### t[::-1] of a tuple -/
section
variable {prog : Program} {w : World} {A : Around} {E : Value → Shared → Prop} {s : Shared}
theorem applied_rev {sl : Addr} {vl vu vs : Value} {n : Nat} {Q : Int × Int × Nat → Shared → Prop} (hs : s.heap.IsSliceOf sl vl vu vs) (pl : IsPart vl none) (pu : IsPart vu none) (ps : IsPart vs (some (-1)))
    (h : Q ((n : Int) - 1, -1, n) s) : wpAny (model prog w) A (Builtin.Slice.sliceApplied (.ref sl) (pure (n : Int))) Q E s := by
  obtain ⟨os, hos, hcs, hds⟩ := id hs
  unfold Builtin.Slice.sliceApplied Builtin.Slice.sliceFields
  refine wpAny_bind (wpAny_bind (wpAny_field hos hds (x := vl) rfl (wpAny_bind (wpAny_field hos hds (x := vu) rfl (wpAny_bind (wpAny_field hos hds (x := vs) rfl (wpAny_pure ?_)))))))
  refine wpAny_bind (HT.slicePart_ ps ?_)
  show wpAny _ _ (if ((-1 : Int) == 0) = true then _ else _) _ _ s
  rw [if_neg (by decide)]
  refine wpAny_bind (HT.slicePart_ pl (wpAny_bind (HT.slicePart_ pu (wpAny_bind (wpAny_pure ?_)))))
  have e : Builtin.Slice.slicePlaces ((n : Int) - 1) (-1) (-1) = n := by
    unfold Builtin.Slice.slicePlaces
    rw [if_neg (by decide)]
    split
    · rw [show (-(-1 : Int)) = 1 from rfl, Int.ediv_one]
      omega
    · show (0 : Int).toNat = n
      omega
  show wpAny _ _ (pure ((n : Int) - 1, (-1 : Int), Builtin.Slice.slicePlaces ((n : Int) - 1) (-1) (-1))) _ _ s
  rw [e]
  exact wpAny_pure h
theorem pick_rev (xs : Array Value) : ((List.range xs.size).filterMap fun (m : Nat) => xs[(((xs.size : Int) - 1) + (m : Int) * (-1)).toNat]?).toArray = xs.toList.reverse.toArray := by
  congr 1
  have key : ∀ (n : Nat), n ≤ xs.size → ((List.range n).filterMap fun (m : Nat) => xs[(((xs.size : Int) - 1) + (m : Int) * (-1)).toNat]?) = (xs.toList.reverse).take n := by
    intro n
    induction n with
    | zero => intro _; simp
    | succ n ih =>
      intro hn
      rw [List.range_succ, List.filterMap_append, ih (by omega), List.take_add_one]
      congr 1
      have h1 : (((xs.size : Int) - 1) + (n : Int) * (-1)).toNat = xs.size - 1 - n := by omega
      have h2 : xs.size - 1 - n < xs.size := by omega
      have h3 : n < xs.toList.reverse.length := by simp; omega
      rw [List.getElem?_eq_getElem h3]
      rw [List.filterMap_cons, h1, Array.getElem?_eq_getElem h2]
      simp
  have z := key xs.size (Nat.le_refl _)
  rw [z, List.take_of_length_le (by simp)]
theorem item_rev {t sl : Addr} {items : Array Value} {vl vu vs : Value} {Q : Value → Shared → Prop} (ht : IsTup s.heap t items) (hs : s.heap.IsSliceOf sl vl vu vs) (pl : IsPart vl none) (pu : IsPart vu none) (ps : IsPart vs (some (-1)))
    (h : Q (.ref s.heap.objs.size) { s with heap := s.heap.push { cls := .type "tuple", data := .seq items.toList.reverse.toArray } }) (hz : items.size ≤ sizeLine) : wpAny (model prog w) A (getItem (.ref t) (.ref sl)) Q E s := by
  have hk : sizeOk (.seq items.toList.reverse.toArray) := by
    show items.toList.reverse.toArray.size ≤ sizeLine
    rw [List.size_toArray, List.length_reverse, Array.length_toList]
    exact hz
  obtain ⟨os, hos, hcs, hds⟩ := id hs
  have hTs : s.TypeIs (.ref sl) "slice" := ⟨os, hos, hcs⟩
  unfold getItem
  try with_reducible refine wpAny_holding ?_
  first | refine wpAny_bind (wpAny_pure ?_) | skip
  refine wpAny_bind (wpAny_sequenceKey ht.typeIs (by decide) ?_)
  refine wpAny_bind (wpAny_callSpecial?_slot (name := Str.ofString "__getitem__") ht.typeIs PyProof.Rows.slot_tuple_getitem (wpAny_call_entry PyProof.Rows.slot_tuple_getitem ht.typeIs entry_tuple_getitem ?_ (args_tuple_getitem _ _)))
  show wpAny _ _ (Builtin.Tuple.tupleItemsOf (.ref t) >>= _) _ _ s
  refine wpAny_bind (tupleItemsOf_ ht ?_)
  refine wpAny_bind (wpAny_typeOf hTs ?_)
  rw [if_pos (by decide)]
  refine wpAny_bind (applied_rev hs pl pu ps ?_)
  show wpAny _ _ (if ((((items.size : Int) - 1) == 0 && (-1 : Int) == 1 && items.size == items.size) = true) then _ else _) _ _ s
  rw [if_neg (by simp), pick_rev]
  first
    | exact wpAny_bind (m := Builtin.Tuple.tupleExact _) (wpAny_newObj_type (wpAny_pure ⟨_, rfl, wpAny_pure h⟩) hk)
    | exact wpAny_bind (m := Builtin.Tuple.tupleExact _) (wpAny_newObj_type (wpAny_bind (wpAny_pure (wpAny_pure ⟨_, rfl, wpAny_pure h⟩))) hk)
end
section
variable {X : Cx}
def tRev (K : PySem.W.Frag) (te : TE) : TE := fun σ H Q => te σ H fun x H1 => ∃ a, x = .ref a ∧ ((∃ xs, SqT K H1 a xs ∧ ∀ p, H1 p = none → Q (.ref p) (upd H1 p (.tup xs.reverse))) ∨ ∃ xs, SqL K H1 a xs ∧ ∀ p, H1 p = none → Q (.ref p) (upd H1 p (.lst xs.reverse)))
theorem pe_rev {e : Expr} {te : TE} {k : Nat} {p1 p2 p3 pos : Pos} (he : PE X e te) : PE X (.Subscript e (.Slice none none (some (.UnaryOp .USub (.Constant (.int 1) k p1) p2)) p3) pos) (tRev X.K te) := by
  refine ⟨fun pins s σ H Q I h => ?_⟩
  refine Subscript_ (thn (he.run pins s σ H _ I h) fun v s1 ⟨x, H1, I1, r1, z1⟩ => ?_)
  obtain ⟨a, ex, z⟩ := z1
  subst ex
  cases r1
  have hst : PO X (some (.UnaryOp .USub (.Constant (.int 1) k p1) p2)) (tPart (tUn (rU fun i => .int (-i)) (tC (.int 1)))) := po_some (pe_un un_neg pe_int)
  refine wpAny_Slice (thn (po_none.run pins s1 σ H1 (fun o z => o = none ∧ z = H1) I1 ⟨rfl, rfl⟩) fun vl s2 ⟨l, H2, I2, pl, el, e2⟩ => ?_)
  subst el e2
  refine thn (po_none.run pins s2 σ H2 (fun o z => o = none ∧ z = H2) I2 ⟨rfl, rfl⟩) fun vu s3 ⟨u, H3, I3, pu, eu, e3⟩ => ?_
  subst eu e3
  refine thn (hst.run pins s3 σ H3 (fun o z => o = some (-1) ∧ z = H3) I3 ⟨1, rfl, -1, rfl, rfl, rfl⟩) fun vs s4 ⟨o, H4, I4, ps, eo, e4⟩ => ?_
  subst eo e4
  have I5 : Inv X pins σ H4 { s4 with heap := s4.heap.push { cls := .type "slice", data := .fields #[vl, vu, vs] } } := I4.kept (t' := s4.toks) fun b ob z => Heap.get?_push_of_some _ z
  show wpAny (model X.prog X.w) X.A (subscriptTail e (.Slice none none (some (.UnaryOp .USub (.Constant (.int 1) k p1) p2)) p3) (.ref a) (.ref s4.heap.objs.size)) (EP X pins σ Q) X.xe { s4 with heap := s4.heap.push { cls := .type "slice", data := .fields #[vl, vu, vs] } }
  rcases z with ⟨xs, hx, q⟩ | ⟨xs, hx, q⟩
  · obtain ⟨its, r, ht, hz⟩ := I5.tuple hx
    have hl := r.length
    refine tail_any (ops := [.ref a, .ref s4.heap.objs.size]) ht.typeIs PyProof.Rows.slot_tuple_getitem.lookup ?_ (by with_unfolding_all rfl)
    refine item_rev ht (Heap.IsSliceOf.new _ vl vu vs) pl pu ps ?_ (by rw [List.size_toArray]; omega)
    refine ⟨.ref _, _, I5.laid (t' := s4.toks) (o := .tup xs.reverse) (fun b ob z => Heap.get?_push_of_some _ z) (Nat.le_refl _) ?_, rfl, q _ (I5.hok.fresh (Nat.le_refl _))⟩
    exact ⟨by rw [List.length_reverse]; exact hz, _, r.reverse, IsTup.new _ _⟩
  · obtain ⟨its, r, ht, hz⟩ := I5.list hx
    have hl := r.length
    refine tail_any (ops := [.ref a, .ref s4.heap.objs.size]) ht.isList.typeIs PySem.slot_list_getitem.lookup ?_ (by with_unfolding_all rfl)
    refine wpAny_getItem_list_slice ht.isList (Heap.IsSliceOf.new _ vl vu vs) pl pu ps (by decide) ?_ (by rw [List.size_toArray]; omega)
    rw [PySem.W.krv_pick]
    refine ⟨.ref _, _, I5.laid (t' := s4.toks) (o := .lst xs.reverse) (fun b ob z => Heap.get?_push_of_some _ z) (Nat.le_refl _) ?_, rfl, q _ (I5.hok.fresh (Nat.le_refl _))⟩
    exact ⟨by rw [List.length_reverse]; exact hz, _, 0, r.reverse, Heap.get?_push_size _ rfl⟩
def revD : D → Option D
  | .tup xs => some (.tup xs.reverse)
  | .lst xs => some (.lst xs.reverse)
  | _ => none
theorem Reps.rev {K : PySem.W.Frag} {F : Hp} : ∀ {vs : List V} {ds : List D}, Reps K F vs ds → Reps K F vs.reverse ds.reverse
  | _, _, .nil => .nil
  | _, _, .cons h r => by
    rw [List.reverse_cons, List.reverse_cons]
    exact r.rev.append (.one h)
theorem ev_rev {G : Gd} {W : WX} {ρ : Rho} {e : Expr} {m : Rs D} {k : Nat} {p1 p2 p3 pos : Pos} (h : EV X G W ρ e m) : EV X G W ρ (.Subscript e (.Slice none none (some (.UnaryOp .USub (.Constant (.int 1) k p1) p2)) p3) pos) (m.bind fun x => Rs.of (revD x)) := by
  obtain ⟨t, pe, q⟩ := h
  refine ⟨_, pe_rev pe, fun F0 σ F H Q hh hp => q F0 σ F H _ hh (hp.bind fun d v F' H' e1 r1 hp1 => ?_)⟩
  obtain ⟨d', hd, k1⟩ := hp1.of
  cases d with
  | lst ys =>
    cases hd
    cases r1 with
    | lst ha la ra => exact ⟨_, rfl, .inr ⟨_, SqL.of (e1.sub _ _ ha), fun l hl => k1 _ _ _ (Ext.fresh e1.sub _ hl) (new_lst e1.sub hl (by rw [List.length_reverse]; exact la) ra.rev)⟩⟩
  | tup ys =>
    cases hd
    cases r1 with
    | tup ha la ra => exact ⟨_, rfl, .inl ⟨_, SqT.same e1.sub ha.sq, fun l hl => k1 _ _ _ (Ext.fresh e1.sub _ hl) (new_tup e1.sub hl (by rw [List.length_reverse]; exact la) ra.rev)⟩⟩
  | _ => cases hd
end
end VL
set_option Elab.async false
set_option linter.all false
set_option maxRecDepth 100000
set_option autoImplicit false
namespace VL
open PySem PySem.Spec L2
open PyProof.Rows hiding St

section
variable {X : Cx} {G : Gd} {W : WX} {ρx ρ : Rho} {rest sts : List Stmt} {α β R : Type} {pn : α → Rho} {pl : β → Rho} {ι : R → Fl α β} {i : Nat} {l : Bool} {s : List D}
/-- a for over what is drawn, its body with ways out -/
theorem bk_forB {ε γ : Type} {post : ε → Rho} {u : D → Option γ} {p : ε → γ → Rho} {is : List Nat} {tg iter : Expr} {body : List Stmt} {pos : Pos} {mi : Rs (List D × List D)} {fb : ε → γ → Rs (Fl ε ε)} {z0 : List D → ε} {f : ε → Rs (Fl α β)}
    (po : PassesOwn (model X.prog X.w) X.A X.env X.xe) (calm : X.calm = true) (hiB : IB X G ρ i tg iter mi) (h0 : ∀ s', Wk (ρ.set i (some (.own l (.lst s')))) (post (z0 s'))) (ht : ∀ z, TT1 X G tg (post z) is u (p z)) (hb : ∀ z y, BK X G W ρx (p z y) body post post (fb z y))
    (hr : ∀ z, BK X G W ρx (post z) rest pn pl (f z)) (hi : At ρ i l s := by rfl) (hs : ∀ x, foldedSetIterable iter X.env x = pure x := by intro _; rfl) :
    BK X G W ρx ρ (.For tg iter body [] pos :: rest) pn pl (mi.noX.bind fun it => (loopM (fun z d => (Rs.of (u d)).bind (fb z)) it.1 (z0 it.2)).bind (Fl.andThen f)) := by
  intro F0 σ F H E hh hp
  obtain ⟨r, hm, hp1⟩ := postS_noX hp
  clear hp
  subst hm
  obtain ⟨items, s1⟩ := r
  obtain ⟨bx, hbx⟩ := box_at hh hi
  refine any_cons (ps_for po calm pi_any pg_any pss_any hs) ?_
  refine hiB F0 σ F H _ bx hh hbx fun J F1 H1 e1 hw o1 => ?_
  have hh1 := (hh.moreB hi hbx e1 o1).weak (h0 s1)
  refine ⟨fun k m σ H => m = items.length - k ∧ k ≤ items.length ∧ ∃ z F, Holds X.K (G.at F0) (post z) σ F H ∧ Same F1 F ∧ PostS X.K (G.at F0) W ρx pn pl E ((loopM (fun z d => (Rs.of (u d)).bind (fb z)) (items.drop k) z).bind (Fl.andThen f)),
    ⟨items.length, by simp, Nat.zero_le _, z0 s1, F1, hh1, Same.refl F1, hp1⟩, ?_⟩
  rintro k m σ2 H2 ⟨rfl, hil, z, F2, hh2, s2, hp2⟩
  obtain ⟨wgo, wstop⟩ := hw.2 F2 H2 s2 hh2.sub
  by_cases hlt : k < items.length
  · have hg : items[k]? = some items[k] := List.getElem?_eq_getElem hlt
    obtain ⟨g1, g2⟩ := wgo k _ hg
    rw [List.drop_eq_getElem_cons hlt] at hp2
    refine .inr ⟨g1, fun σ' H' => ∃ z' F', Holds X.K (G.at F0) (post z') σ' F' H' ∧ Same F1 F' ∧ PostS X.K (G.at F0) W ρx pn pl E ((loopM (fun z d => (Rs.of (u d)).bind (fb z)) (items.drop (k + 1)) z').bind (Fl.andThen f)), fun σ' H' ⟨z', F', q1, q2, q3⟩ => ⟨items.length - (k + 1), by omega, rfl, hlt, z', F', q1, q2, q3⟩, fun x H' y => ?_⟩
    obtain ⟨F3, e3, r3⟩ := g2 x H' y
    have hh3 := hh2.more e3
    simp only [loopM] at hp2
    cases hu : u items[k] with
    | none =>
      rw [hu] at hp2
      exact hp2.elim
    | some y =>
      rw [hu] at hp2
      simp only [Rs.of_some, Rs.bind_ok] at hp2
      refine ht z F0 σ2 F3 H' x _ y _ hh3 r3 hu fun σ4 _ hh4 => ?_
      refine hb z y F3 σ4 F3 H' _ hh4.rebase ?_
      cases hfb : fb z y with
      | no =>
        rw [hfb] at hp2
        exact hp2
      | ex c fs =>
        rw [hfb] at hp2
        exact PostS.rebase (W := W) (m := (Rs.ex c fs : Rs (Fl α β))) (pn := pn) (pl := pl) (E := E) hh4.toGnd hp2
      | ok fl =>
        rw [hfb] at hp2
        simp only [Rs.bind_ok] at hp2
        cases fl with
        | nx z' => exact fun σ5 F5 H5 hh5 => ⟨z', F5, hh5.unbase hh4.toGnd, (s2.trans e3.ext).trans hh5.ext, hp2⟩
        | ct z' => exact fun σ5 F5 H5 hh5 => ⟨z', F5, hh5.unbase hh4.toGnd, (s2.trans e3.ext).trans hh5.ext, hp2⟩
        | bk z' => exact fun σ5 F5 H5 hh5 => hr z' F0 σ5 F5 H5 E (hh5.unbase hh4.toGnd) hp2
        | rt v s => exact fun v2 F5 H5 hh5 => hp2 v2 F5 H5 (hh4.toGnd.unbase hh5)
  · have ei : k = items.length := by omega
    subst ei
    rw [List.drop_length] at hp2
    exact .inl ⟨wstop, hr z F0 σ2 F2 H2 E hh2 hp2⟩
theorem bi_forIOB {ε γ : Type} {post : ε → Rho} {u : D → Option γ} {p : ε → γ → Rho} {is : List Nat} {tg iter : Expr} {body : List Stmt} {pos : Pos} {mi : Rs (List D × List D)} {fb : ε → γ → Rs (Fl ε ε)} {z0 : List D → ε} {f : ε → Rs (D × List D)} {b : Addr}
    (po : PassesOwn (model X.prog X.w) X.A X.env X.xe) (calm : X.calm = true) (hbs : G.bs = [b]) (hiB : IB X G ρ i tg iter mi) (h0 : ∀ s', Wk (ρ.set i (some (.own l (.lst s')))) (post (z0 s'))) (ht : ∀ z, TT1 X G tg (post z) is u (p z)) (hb : ∀ z y, BK X G W ρx (p z y) body post post (fb z y))
    (hr : ∀ z, BI X G W ρx (post z) rest pn pl ioI (f z)) (hi : At ρ i l s := by rfl) (hs : ∀ x, foldedSetIterable iter X.env x = pure x := by intro _; rfl) :
    BI X G W ρx ρ (.For tg iter body [] pos :: rest) pn pl ioI (mi.noX.bind fun it => (loopM (β := β) (fun z d => (Rs.of (u d)).bind (fb z)) it.1 (z0 it.2)).bind (Fl.toIO f)) := by
  unfold BI
  have z := bk_forB (pos := pos) (l := l) (s := s) po calm hiB h0 ht hb hr hi hs
  intro F0 σ F H E hh hp
  refine z F0 σ F H E hh ?_
  cases hm : mi.noX with
  | ex c fs => rw [hm] at hp; exact hp
  | no => rw [hm] at hp; exact hp
  | ok it =>
    rw [hm] at hp
    simp only [Rs.bind_ok] at hp ⊢
    cases hl : loopM (β := β) (fun z d => (Rs.of (u d)).bind (fb z)) it.1 (z0 it.2) with
    | ex c fs => rw [hl] at hp; exact hp
    | no => rw [hl] at hp; exact hp
    | ok fl =>
      rw [hl] at hp
      cases fl with
      | nx z => exact hp
      | bk y => exact hp.elim
      | ct y => exact hp.elim
      | rt d s =>
        simp only [Rs.bind_ok] at hp
        unfold Fl.toIO at hp
        split at hp
        · rename_i h; cases h
        · rename_i h; cases h; exact hp
        · exact hp.elim
end
end VL
set_option Elab.async false
set_option linter.all false
set_option maxRecDepth 100000
set_option autoImplicit false
namespace VL
open PySem PySem.Spec L2
open PyProof.Rows hiding St

/-! ### a caught error, kept as a thing of the heap -/
theorem xO_ok {P : Program} {w : World} {H : Hp} {h : Heap} {a : Addr} {cls : Value} {d : Option Addr} {oe : Obj} {vs : Array Value} (e : h.get? a = some oe) (z : Zc cls d oe) (hd : oe.data = .fields vs) : ObjOk P w H h a (xO cls d a) :=
  ⟨⟨oe, vs, e, z, hd⟩, ⟨oe, e⟩, fun h1 h2 ⟨o1, v1, e1, z1, d1⟩ k => ⟨o1, v1, k _ e1, z1, d1⟩⟩
theorem xO_at {P : Program} {w : World} {H : Hp} {h : Heap} {a : Addr} {cls : Value} {d : Option Addr} (hok : HOk P w H h) (e : H a = some (xO cls d a)) : ∃ (oe : Obj) (vs : Array Value), h.get? a = some oe ∧ Zc cls d oe ∧ oe.data = .fields vs := (hok a _ e).1
section
variable {X : Cx} {pins : List (Addr × Obj)} {σ : L2.St} {H : Hp} {s : Shared}
/-- an object that stood untracked is tracked from now on -/
theorem Inv_track {a : Addr} {cls : Value} {d : Option Addr} {oe : Obj} {vs : Array Value} (I : Inv X pins σ H s) (na : H a = none) (he : s.heap.get? a = some oe) (hz : Zc cls d oe) (hd : oe.data = .fields vs) (n0 : X.s_0.heap.get? a = none) (nL : a ≠ X.env.locals) (np : ∀ p ∈ X.pn ++ pins, p.1 ≠ a) :
    Inv X pins σ (upd H a (xO cls d a)) s where
  ok := I.ok
  os := I.os
  bare := I.bare
  base := {
    keep := I.base.keep
    slot := I.base.slot
    free := fun b o e n hx => by
      rw [upd_ne (fun z => by rw [z, n0] at e; cases e)]
      exact I.base.free b o e n hx
    there := I.base.there
    tups := fun b xs e => by
      have z := I.base.tups b xs e
      rw [upd_ne (ne_of_none z na)]
      exact z
    frzs := fun b o u e => by
      have z := I.base.frzs b o u e
      rw [upd_ne (ne_of_none z na)]
      exact z
    tbls := fun b ps e => by
      obtain ⟨m, z⟩ := I.base.tbls b ps e
      exact ⟨m, by rw [upd_ne (ne_of_none z na)]; exact z⟩ }
  loc := I.loc
  cell := I.cell
  free := by
    rw [upd_ne (Ne.symm nL)]
    exact I.free
  freeC := fun y c e => by
    obtain ⟨v, oc, hc, hcd⟩ := I.cell y c e
    rw [upd_ne (fun z => by
      rw [z, he] at hc
      cases hc
      rw [hd] at hcd
      cases hcd)]
    exact I.freeC y c e
  pin := fun p hp => by
    obtain ⟨h1, h2, h3, h4, h5⟩ := I.pin p hp
    exact ⟨h1, by rw [upd_ne (np p hp)]; exact h2, h3, h4, h5⟩
  hok := HOk.laidN I.hok (fun _ _ z => z) na (xO_ok he hz hd)
  len := I.len
theorem Inv_suite0 (I : Inv X pins σ H s) (a : Addr) : Inv (X.suite a (X.pn ++ pins)) [] σ H s :=
  ⟨I.ok.suite _ _, I.os, I.bare, I.base, I.loc, I.cell, I.free, I.freeC, fun p hp => I.pin p (by rw [List.append_nil] at hp; exact hp), I.hok, I.len⟩
theorem Inv_unsuite0 {a : Addr} {pn' : List (Addr × Obj)} (I : Inv (X.suite a (X.pn ++ pins)) pn' σ H s) (ok : X.Ok) : Inv X pins σ H s :=
  ⟨ok, I.os, I.bare, I.base, I.loc, I.cell, I.free, I.freeC, fun p hp => I.pin p (List.mem_append_left _ hp), I.hok, I.len⟩
end
/-- the ends of a suite whose name goes -/
def goneE (i : Nat) (D : Ends) : Ends := { nx := fun σ H => D.nx (σ.set i none) H, rt := D.rt, bk := fun σ H => D.bk (σ.set i none) H, ct := fun σ H => D.ct (σ.set i none) H }
/-- what the clauses wish, the error told in the heap -/
def wX (K : PySem.W.Frag) (Wout : WX) (D : Ends) : List (Value × Nat × TS) → WX
  | [] => Wout
  | (c, i, ts) :: r => fun cls d σ H => ∃ b, PySem.W.exmOne K cls c = some b ∧ (b = true → ∀ a, H a = none → ts (goneE i D) (σ.set i (some (.ref a))) (upd H a (xO cls d a))) ∧ (b = false → wX K Wout D r cls d σ H)
inductive HdX (X : Cx) : List ExceptHandler → List (Value × Nat × TS) → Prop
  | nil : HdX X [] []
  | cons {x n : Str} {c : Value} {i : Nat} {ts : TS} {b₀ : Stmt} {su : List Stmt} {np hp : Pos} {hds : List ExceptHandler} {l : List (Value × Nat × TS)} (hc : Names X x c) (hi : X.N[i]? = some n) (hln : X.env.kindOf n = some .local)
      (hsu : ∀ (a : Addr) (pn : List (Addr × Obj)), PSs (X.suite a pn) (b₀ :: su) ts) (r : HdX X hds l) : HdX X (.ExceptHandler (some (.Name x np)) (some n) (b₀ :: su) hp :: hds) ((c, i, ts) :: l)
section
variable {X : Cx} {body : List Stmt} {h₀ : ExceptHandler} {hds : List ExceptHandler} {l : List (Value × Nat × TS)} {pos : Pos} {tb : WX → TS} {Wout : WX}
/-- try: body, except C as n: suite, .. ; the error may be kept -/
theorem ps_tryX (hs : X.stack = X.env :: X.outer) (hf : X.env.frame = some X.env.locals) (hN : X.N.Nodup) (hx : X.ex = []) (tk : Takes X Wout)
    (hb : ∀ (W : WX) (pn : List (Addr × Obj)) (xe : Value → Shared → Prop), Takes (X.tr pn xe) W → PassesOwn (model X.prog X.w) X.A X.env xe → PSs (X.tr pn xe) body (tb W)) (hh : HdX X (h₀ :: hds) l) :
    PS X (.Try body (h₀ :: hds) [] [] pos) (fun D σ H => tb (wX X.K Wout D l) D σ H) := by
  refine ⟨fun pins s σ H D I h => ?_⟩
  have ok := I.ok
  have hfr : X.A.frames = some (X.env :: X.outer) := ok.frames.trans (by rw [hs])
  refine wpAny_Try_except ?_
  refine wpAny_mono ((hb (wX X.K Wout D l) (X.pn ++ pins) (fun er t₁ => wpAny (model X.prog X.w) X.A (noteFrame er X.env) (fun _ t₂ => wpAny (model X.prog X.w) X.A (setFlight er none) (fun _ t₃ =>
    wpAny (model X.prog X.w) X.A (handleBy er X.env (h₀ :: hds)) (SP X pins D) X.xe t₃) X.xe t₂) X.xe t₁) (fun u s' xx => ?_) PassesOwn.looking).run [] s σ H D (I.toTry _) h) (fun f s1 hsp => ?_) (fun _ _ z => z)
  · obtain ⟨a, B, sI, pins', σ', H', cls, d, rfl, J', nb, up, sky, na, os, ag, w⟩ := xx
    have J : Inv X pins σ' H' sI := J'.ofTry ok
    have sk2 : Sky B (X.env :: X.outer) a (Zc cls d) X.env.locals s'.heap := hs ▸ sky
    show wpAny (model X.prog X.w) X.A (noteFrame (.ref a) X.env) _ _ _
    refine Sky.land Zc.steady hfr hf sk2 fun h3 fl3 up3 => ?_
    have J3 : Inv X pins σ' H' { s' with heap := h3 } := J.landed nb fl3.1 (up.trans up3) os ag
    obtain ⟨oe3, vs3, he3, hz3, hd3⟩ := fl3.there
    have nfr : a ∉ frs (X.env :: X.outer) := fun hm => by
      obtain ⟨_, o', e', hnf⟩ := fl3.2.2.1.mem hm
      rw [he3] at e'
      cases e'
      exact hnf _ hd3
    have nL : a ≠ X.env.locals := fun z => nfr (List.mem_filterMap.mpr ⟨X.env, List.mem_cons_self, by rw [hf, z]⟩)
    have nI : sI.heap.get? a = none := by
      cases e : sI.heap.get? a with
      | none => rfl
      | some o =>
        have z := nb a o e (by rw [hs]; exact nfr)
        rw [fl3.2.1] at z
        cases z
    have n0 : X.s_0.heap.get? a = none := by
      cases e : X.s_0.heap.get? a with
      | none => rfl
      | some o =>
        obtain ⟨o', z⟩ := J.base.there a o e (by rw [hx]; exact fun z => nomatch z)
        rw [nI] at z
        cases z
    have np : ∀ p ∈ X.pn ++ pins, p.1 ≠ a := fun p hp z => by
      obtain ⟨e, _⟩ := J.pin p hp
      rw [z, nI] at e
      cases e
    have S3 := Inv_suite0 J3 a
    have go : ∀ {hd2 : List ExceptHandler} {l2 : List (Value × Nat × TS)}, HdX X hd2 l2 → wX X.K Wout D l2 cls d σ' H' → wpAny (model X.prog X.w) X.A (handleBy (.ref a) X.env hd2) (SP X pins D) X.xe { s' with heap := h3 } := by
      intro hd2 l2 hk
      induction hk with
      | nil =>
        intro w
        refine wpAny_handleBy_nil ?_
        obtain ⟨k1, k2, k3, oe, vs, T, oT, ts', he, hz, hd, h1, hr⟩ := id fl3
        unfold PySem.passOn
        refine wpAny_bind (wpAny_field he hd h1 ?_)
        rw [if_neg (show ¬ ((Value.ref T == Value.none) = true) from by simp)]
        have fin : wpAny (model X.prog X.w) X.A (setFlight (.ref a) X.env.frame) (fun _ t4 => wpAny (model X.prog X.w) X.A (throw (.ref a) : Sem Flow) (SP X pins D) X.xe t4) X.xe { s' with heap := h3 } := by
          rw [hf]
          refine HandSPX.setFlight_upZ fl3 fun h4 hh4 up4 => wpAny_throw (tk _ _ ?_)
          exact ⟨a, B, sI, pins, σ', H', cls, d, rfl, J, nb, (up.trans up3).trans up4, .inr (.inr (hs ▸ hh4)), na, os, ag, w⟩
        first
          | exact wpAny_bind (wpAny_pure (wpAny_bind fin))
          | exact wpAny_bind fin
      | @cons x n c i ts b₀ su np' hp hds2 l3 hc hi hln hsu r ih =>
        intro w
        obtain ⟨b, hb1, hyes, hno⟩ := w
        refine wpAny_handleBy_cons (codeAny_handlers_test ?_) (by intro q; cases q)
        have LT : PySem.W.Looks (model X.prog X.w) h3 (typeOf (.ref a)) cls := fun A1 Q1 E1 t1 k q => wpAny_typeOf_ref (k _ _ he3) (by rw [hz3.1]; exact q)
        have LM := PySem.W.exm_one (M := model X.prog X.w) J3.kIn LT hb1
        have test : ∀ {Q1 : Value → Shared → Prop} {E1 : Value → Shared → Prop}, Q1 c { s' with heap := h3 } → wpAny (model X.prog X.w) (X.A.mark (some (.ref a))) (eval (.Name x np') X.env) Q1 E1 { s' with heap := h3 } := fun {Q1 E1} q => by
          obtain ⟨hg, hdb, hm | ⟨hm, hv, hnn⟩⟩ := hc
          · exact ld_glob (X := X.suite a (X.pn ++ pins)) S3 hg hm q hdb
          · exact ld_blt (X := X.suite a (X.pn ++ pins)) S3 hg hm hv q hnn hdb
        refine test (LM.here ?_)
        cases b with
        | true =>
          refine codeAny_handlers_suite_as ?_
          refine HandSPX.lands_againZ fl3 fun h4 fl4 up4 => ?_
          have J4 : Inv X pins σ' H' { s' with heap := h4 } := J.landed nb fl4.1 ((up.trans up3).trans up4) os ag
          obtain ⟨oe4, vs4, he4, hz4, hd4⟩ := fl4.there
          have S4 := Inv_suite0 (Inv_track (vs := vs4) J4 na he4 hz4 hd4 n0 nL np) a
          refine store_ok (X := X.suite a (X.pn ++ pins)) (v := .ref a) S4 hN hi (.inl hln) rfl (fun s5 S5 => ?_) (.inr hln)
          refine wpAny_mono ((hsu a (X.pn ++ pins)).run [] s5 _ _ (goneE i D) S5 (hyes rfl a na)) (fun f s6 hsp => ?_) (fun _ _ z => False.elim z)
          have fin : ∀ {σ6 : L2.St} {H6 : Hp} {Q1 : Shared → Prop}, Inv (X.suite a (X.pn ++ pins)) [] σ6 H6 s6 → (∀ s7, Inv X pins (σ6.set i none) H6 s7 → Q1 s7) →
              wpAny (model X.prog X.w) X.A (do bindName X.env n .none; unbindBehindTheSuite X.env n hp) (fun _ s7 => Q1 s7) X.xe s6 := fun {σ6 H6 Q1} S6 hq => gone_ok (Inv_unsuite0 S6 ok) hN hi hln hq
          cases f with
          | next =>
            obtain ⟨σ6, H6, S6, q6⟩ := hsp
            exact fin S6 fun s7 J7 => ⟨_, _, J7, q6⟩
          | brk =>
            obtain ⟨σ6, H6, S6, q6⟩ := hsp
            exact fin S6 fun s7 J7 => ⟨_, _, J7, q6⟩
          | cont =>
            obtain ⟨σ6, H6, S6, q6⟩ := hsp
            exact fin S6 fun s7 J7 => ⟨_, _, J7, q6⟩
          | ret u =>
            obtain ⟨v6, σ6, H6, S6, r6, q6⟩ := hsp
            exact fin S6 fun s7 J7 => ⟨_, _, _, J7, r6, q6⟩
        | false =>
          show wpAny _ X.A (handleBy (.ref a) X.env hds2) _ _ _
          exact ih (hno rfl)
    exact go hh w
  · cases f with
    | next =>
      obtain ⟨σ', H', J', q⟩ := hsp
      exact wpAny_execs_nil ⟨σ', H', J'.ofTry ok, q⟩
    | brk =>
      obtain ⟨σ', H', J', q⟩ := hsp
      exact ⟨σ', H', J'.ofTry ok, q⟩
    | cont =>
      obtain ⟨σ', H', J', q⟩ := hsp
      exact ⟨σ', H', J'.ofTry ok, q⟩
    | ret u =>
      obtain ⟨v, σ', H', J', r, q⟩ := hsp
      exact ⟨v, σ', H', J'.ofTry ok, r, q⟩
end
end VL
set_option Elab.async false
set_option linter.all false
set_option maxRecDepth 100000
set_option autoImplicit false
namespace VL
open PySem PySem.Spec L2
open PyProof.Rows hiding St

/-! ### list(zip(x, y)) of two lists -/
section
variable {prog : Program} {w : World} {A : Around} {E : Value → Shared → Prop} {s : Shared} {z TI TO i1 i2 l1 l2 S : Addr} {xs ys : Array Value} {h h' : Heap} {i : Nat}
structure ZlSt (h : Heap) (z TI TO i1 i2 l1 l2 S : Addr) (xs ys : Array Value) (i : Nat) : Prop where
  ti : PySem.IsPair h TI (.ref i1) (.ref i2)
  a1 : h.IsListIter i1 l1 i
  a2 : h.IsListIter i2 l2 i
  b1 : h.IsList l1 xs
  b2 : h.IsList l2 ys
  zz : (IsZip h z TI TO .none ∧ ∃ a b, PySem.IsPair h TO a b) ∨ ∃ T f oT, IsZipHeld h z TI TO T f ∧ h.get? T = some oT ∧ T ≠ z ∧ T ≠ i1 ∧ T ≠ i2 ∧ T ≠ S
theorem ZlSt.keep (x : ZlSt h z TI TO i1 i2 l1 l2 S xs ys i) (hk : ∀ b o, b ≠ S → h.get? b = some o → h'.get? b = some o) (off : S ∉ [z, TI, TO, i1, i2, l1, l2]) : ZlSt h' z TI TO i1 i2 l1 l2 S xs ys i := by
  simp only [List.mem_cons, List.not_mem_nil, or_false, not_or] at off
  obtain ⟨n1, n2, n3, n4, n5, n6, n7⟩ := off
  refine ⟨hk _ _ (Ne.symm n2) x.ti, x.a1.at fun o e => hk _ o (Ne.symm n4) e, x.a2.at fun o e => hk _ o (Ne.symm n5) e, x.b1.at fun o e => hk _ o (Ne.symm n6) e, x.b2.at fun o e => hk _ o (Ne.symm n7) e, ?_⟩
  rcases x.zz with ⟨q, a, b, q2⟩ | ⟨T, f, oT, q, q2, r1, r2, r3, r4⟩
  · exact .inl ⟨hk _ _ (Ne.symm n1) q, a, b, hk _ _ (Ne.symm n3) q2⟩
  · exact .inr ⟨T, f, oT, hk _ _ (Ne.symm n1) q, hk _ _ r4 q2, r1, r2, r3, r4⟩
theorem zl_item {x y : Value} {Q : Option Value → Shared → Prop} (D : ZipApart z TI TO i1 i2 l1 l2) (st : ZlSt s.heap z TI TO i1 i2 l1 l2 S xs ys i) (hS : S < s.heap.objs.size) (ex : xs[i]? = some x) (ey : ys[i]? = some y)
    (hQ : ∀ h', ZlSt h' z TI TO i1 i2 l1 l2 S xs ys (i + 1) → PySem.IsPair h' s.heap.objs.size x y → h'.objs.size = s.heap.objs.size + 1 → (∀ c o, c ∉ [z, TO, i1, i2] → s.heap.get? c = some o → h'.get? c = some o) → Q (some (.ref s.heap.objs.size)) { s with heap := h' }) :
    wpAny (model prog w) A (pyNext (.ref z)) Q E s := by
  obtain ⟨t1, t2, t3, t4, t5, t6⟩ := st
  have lt : ∀ {c o}, s.heap.get? c = some o → s.heap.objs.size ≠ c := fun e => Nat.ne_of_gt (Heap.lt_size e)
  have n1 : s.heap.objs.size ≠ i1 := let ⟨_, e, _⟩ := t2; lt e
  have n2 : s.heap.objs.size ≠ i2 := let ⟨_, e, _⟩ := t3; lt e
  rcases t6 with ⟨q, a, b, q2⟩ | ⟨T, f, oT, q, q2, r1, r2, r3, r4⟩
  · refine wpAny_pyNext_zip_item D q t1 q2 t2 t3 t4 t5 ex ey fun h' c1 c2 c3 c4 c5 c6 hk => ?_
    refine hQ h' ⟨hk _ _ D.TIz D.TITO D.TIi1 D.TIi2 t1, c3, c4, t4.at fun o e => hk _ o D.l1z D.l1TO D.l1i1 D.l1i2 e, t5.at fun o e => hk _ o D.l2z D.l2TO D.l2i1 D.l2i2 e, .inr ⟨s.heap.objs.size, false, _, c1, c5, lt q, n1, n2, Nat.ne_of_gt hS⟩⟩ c5 c6 fun c o hc e => hk c o ?_ ?_ ?_ ?_ e
    all_goals (intro u; exact hc (by simp [u]))
  · refine wpAny_pyNext_zip_item_held D q q2 t1 t2 t3 t4 t5 ex ey fun h' c1 c3 c4 c5 c6 hk => ?_
    refine hQ h' ⟨hk _ _ D.TIz D.TIi1 D.TIi2 t1, c3, c4, t4.at fun o e => hk _ o D.l1z D.l1i1 D.l1i2 e, t5.at fun o e => hk _ o D.l2z D.l2i1 D.l2i2 e, .inr ⟨T, true, oT, c1, hk _ _ r1 r2 r3 q2, r1, r2, r3, r4⟩⟩ c5 c6 fun c o hc e => hk c o ?_ ?_ ?_ e
    all_goals (intro u; exact hc (by simp [u]))
theorem zl_done {Q : Option Value → Shared → Prop} (hh : A.handled = none) (D : ZipApart z TI TO i1 i2 l1 l2) (st : ZlSt s.heap z TI TO i1 i2 l1 l2 S xs ys i) (hend : xs[i]? = none ∨ ys[i]? = none)
    (hQ : ∀ h', (∀ c o, c ∉ [z, TO, i1, i2] → s.heap.get? c = some o → h'.get? c = some o) → Q none { s with heap := h' }) : wpAny (model prog w) A (pyNext (.ref z)) Q E s := by
  obtain ⟨t1, t2, t3, t4, t5, t6⟩ := st
  rcases t6 with ⟨q, a, b, q2⟩ | ⟨T, f, oT, q, q2, r1, r2, r3, r4⟩
  · refine wpAny_pyNext_zip_end hh D q t1 q2 t2 t3 t4 t5 hend fun h' hk => hQ h' fun c o hc e => hk c o ?_ ?_ ?_ ?_ e
    all_goals (intro u; exact hc (by simp [u]))
  · refine wpAny_pyNext_zip_end_held hh D q q2 t1 t2 t3 t4 t5 hend fun h' hk => hQ h' fun c o hc e => hk c o ?_ ?_ ?_ e
    all_goals (intro u; exact hc (by simp [u]))
/-- the tuples made so far -/
structure ZlG (lo : Nat) (xs ys : Array Value) (h : Heap) (as : List Addr) : Prop where
  rise : as.Pairwise (· < ·)
  above : ∀ a ∈ as, lo ≤ a
  pairs : ∀ (j : Nat) (a : Addr), as[j]? = some a → ∃ x y, xs[j]? = some x ∧ ys[j]? = some y ∧ PySem.IsPair h a x y
theorem ZlG.there {lo : Nat} {as : List Addr} (g : ZlG lo xs ys h as) {a : Addr} (ha : a ∈ as) : a < h.objs.size := by
  obtain ⟨j, hj⟩ := List.mem_iff_getElem?.mp ha
  obtain ⟨_, _, _, _, e⟩ := g.pairs j a hj
  exact Heap.lt_size e
theorem zl_loop {R : Result → Shared → Prop} {lo : Nat} (hh : A.handled = none) (D : ZipApart z TI TO i1 i2 l1 l2) (off : S ∉ [z, TI, TO, i1, i2, l1, l2]) (hlo : ∀ c ∈ [S, z, TO, i1, i2], c < lo) (hn : min xs.size ys.size ≤ sizeLine) (res : Value) {h₁ : Heap}
    (hR : ∀ h' tk acc c as, (∀ b o, b ≠ S → b ∉ [z, TO, i1, i2] → h₁.get? b = some o → h'.get? b = some o) → h'.get? S = some { cls := .type "list", dict := none, data := .seq acc c, slots := #[] } → as.length = min xs.size ys.size → ZlG lo xs ys h' as →
      acc.toList = as.map Value.ref → R (.ok (.ret res)) { s with heap := h', toks := tk }) :
    ∀ (k i : Nat) (h : Heap) (tk c : Nat) (acc : Array Value) (as : List Addr), min xs.size ys.size - i = k → i ≤ min xs.size ys.size → ZlSt h z TI TO i1 i2 l1 l2 S xs ys i → (∀ b o, b ≠ S → b ∉ [z, TO, i1, i2] → h₁.get? b = some o → h.get? b = some o) →
      h.get? S = some { cls := .type "list", dict := none, data := .seq acc c, slots := #[] } → acc.toList = as.map Value.ref → as.length = i → ZlG lo xs ys h as → lo ≤ h.objs.size →
      codeAny (model prog w) A (.builtin "list.extend.loop" ⟨[.ref S, .ref z, res], []⟩) R { s with heap := h, toks := tk } := by
  have offS : S ∉ [z, TO, i1, i2] := fun hm => off (by
    simp only [List.mem_cons, List.not_mem_nil, or_false] at hm ⊢
    rcases hm with e | e | e | e
    · exact .inl e
    · exact .inr (.inr (.inl e))
    · exact .inr (.inr (.inr (.inl e)))
    · exact .inr (.inr (.inr (.inr (.inl e)))))
  have new : ∀ b, lo ≤ b → b ≠ S ∧ b ∉ [z, TO, i1, i2] := fun b hb => ⟨fun e => Nat.lt_irrefl _ (Nat.lt_of_lt_of_le (hlo S (by simp)) (e ▸ hb)), fun hm => Nat.lt_irrefl _ (Nat.lt_of_lt_of_le (hlo b (List.mem_cons_of_mem _ hm)) hb)⟩
  intro k
  induction k with
  | zero =>
    intro i h tk c acc as hk hi hst hkeep hS hacc hal hG hIs
    refine codeAny_builtin PySem.F.entry_extend_loop ?_
    rw [Around.under_plainId PySem.F.plain_extend_loop _]
    show wpAny _ A.in1 (pyNext (.ref z) >>= _) _ _ _
    have hend : xs[i]? = none ∨ ys[i]? = none := by
      rcases Nat.le_total xs.size ys.size with q | q
      · exact .inl (Array.getElem?_eq_none (by omega))
      · exact .inr (Array.getElem?_eq_none (by omega))
    refine wpAny_bind (zl_done (s := { s with heap := h, toks := tk }) (A := A.in1) hh D hst hend fun h' he => ?_)
    refine wpAny_pure (hR h' tk acc c as (fun b o h1 h2 e => he b o h2 (hkeep b o h1 h2 e)) (he S _ offS hS) (by omega) ⟨hG.rise, hG.above, fun j a hj => ?_⟩ hacc)
    obtain ⟨x, y, e1, e2, e3⟩ := hG.pairs j a hj
    exact ⟨x, y, e1, e2, he a _ (new a (hG.above a (List.mem_of_getElem? hj))).2 e3⟩
  | succ k ih =>
    intro i h tk c acc as hk hi hst hkeep hS hacc hal hG hIs
    have hlt1 : i < xs.size := by omega
    have hlt2 : i < ys.size := by omega
    have hsz : acc.size = i := by rw [← Array.length_toList, hacc, List.length_map, hal]
    refine codeAny_builtin PySem.F.entry_extend_loop ?_
    rw [Around.under_plainId PySem.F.plain_extend_loop _]
    show wpAny _ A.in1 (pyNext (.ref z) >>= _) _ _ _
    have hSl : S < h.objs.size := Heap.lt_size hS
    refine wpAny_bind (zl_item (s := { s with heap := h, toks := tk }) (A := A.in1) D hst hSl (Array.getElem?_eq_getElem hlt1) (Array.getElem?_eq_getElem hlt2) fun h' hst' ht hz hkp => ?_)
    dsimp only at ht hz hkp ⊢
    have hS' := hkp S _ offS hS
    obtain ⟨g', hg'⟩ : ∃ g', g' = h'.update S (Obj.mapSeq (·.push (Value.ref h.objs.size))) := ⟨_, rfl⟩
    have up : ∀ b o, b ≠ S → h'.get? b = some o → g'.get? b = some o := fun b o hb e => by
      rw [hg']
      exact (Heap.get?_update_other _ _ (Ne.symm hb)).trans e
    show wpAny _ A.in1 (updateSeq S (·.push (Value.ref h.objs.size)) >>= _) _ _ _
    refine wpAny_bind (wpAny_updateSeq hS' rfl ?_ ?_ ?_)
    · have hS2 := Heap.get?_update_self (Obj.mapSeq (·.push (Value.ref h.objs.size))) hS' rfl
      show wpAny _ _ _ _ _ ⟨h'.update S (Obj.mapSeq (·.push (Value.ref h.objs.size))), _, _, _, _⟩
      rw [← hg'] at hS2 ⊢
      have hnew : h.objs.size ≠ S := Nat.ne_of_gt hSl
      have hp2 := up _ _ hnew ht
      refine wpAny_pure ⟨plainId_quiet PySem.F.plain_extend_loop _, ih (i + 1) _ tk _ _ (as ++ [h.objs.size]) (by omega) (by omega) (hst'.keep up off) (fun b o h1 h2 e => up b o h1 (hkp b o h2 (hkeep b o h1 h2 e))) hS2 ?_ (by rw [List.length_append, hal]; rfl) ⟨?_, ?_, ?_⟩ ?_⟩
      · show (acc.push (Value.ref h.objs.size)).toList = _
        rw [Array.toList_push, hacc, List.map_append]
        rfl
      · refine List.pairwise_append.mpr ⟨hG.rise, List.pairwise_singleton _ _, fun a ha b hb => ?_⟩
        rw [List.mem_singleton.mp hb]
        exact hG.there ha
      · intro a ha
        rcases List.mem_append.mp ha with ha | ha
        · exact hG.above a ha
        · rw [List.mem_singleton.mp ha]; exact hIs
      · intro j b hj
        rcases Nat.lt_trichotomy j as.length with h1 | h1 | h1
        · rw [List.getElem?_append_left h1] at hj
          obtain ⟨x', y', e1, e2, e3⟩ := hG.pairs j b hj
          have hb := new b (hG.above b (List.mem_of_getElem? hj))
          exact ⟨x', y', e1, e2, up b _ hb.1 (hkp b _ hb.2 e3)⟩
        · subst h1
          have hb : h.objs.size = b := by simpa using hj
          subst hb
          exact ⟨_, _, by rw [hal]; exact Array.getElem?_eq_getElem hlt1, by rw [hal]; exact Array.getElem?_eq_getElem hlt2, hp2⟩
        · rw [List.getElem?_eq_none (by rw [List.length_append, List.length_singleton]; omega)] at hj
          cases hj
      · exact Nat.le_trans hIs (Nat.le_of_lt (Heap.lt_size hp2))
    · rw [hsz]; omega
    · show (acc.push (Value.ref h.objs.size)).size ≤ sizeLine + 1
      rw [Array.size_push, hsz]
      omega
theorem zip_no_len : typeLookup (.type "zip") "__len__" = pure none := by rw [typeLookup_type, builtinLookup_eq_fast]; kernel_rfl
theorem zip_no_hint : typeLookup (.type "zip") "__length_hint__" = pure none := by rw [typeLookup_type, builtinLookup_eq_fast]; kernel_rfl
theorem ZlSt.typ (x : ZlSt s.heap z TI TO i1 i2 l1 l2 S xs ys i) : s.TypeIs (.ref z) "zip" := by
  rcases x.zz with ⟨q, _⟩ | ⟨_, _, _, q, _⟩
  · exact ⟨_, q, rfl⟩
  · exact ⟨_, q, rfl⟩
theorem ZlSt.lts (x : ZlSt h z TI TO i1 i2 l1 l2 S xs ys i) (f : IsZip h z TI TO .none) (f2 : ∃ a b, PySem.IsPair h TO a b) : ∀ c ∈ [z, TO, i1, i2], c < h.objs.size := by
  intro c hc
  obtain ⟨a, b, f3⟩ := f2
  obtain ⟨o1, e1, _⟩ := x.a1
  obtain ⟨o2, e2, _⟩ := x.a2
  simp only [List.mem_cons, List.not_mem_nil, or_false] at hc
  rcases hc with e | e | e | e <;> rw [e]
  · exact Heap.lt_size f
  · exact Heap.lt_size f3
  · exact Heap.lt_size e1
  · exact Heap.lt_size e2
theorem zl_extend {R : Result → Shared → Prop} (hh : A.handled = none) (D : ZipApart z TI TO i1 i2 l1 l2) (off : S ∉ [z, TI, TO, i1, i2, l1, l2]) (st : ZlSt s.heap z TI TO i1 i2 l1 l2 S xs ys 0) (f : IsZip s.heap z TI TO .none) (f2 : ∃ a b, PySem.IsPair s.heap TO a b)
    (res : Value) (c₀ : Nat) (hS : s.heap.get? S = some { cls := .type "list", data := .seq #[] c₀ }) (hn : min xs.size ys.size ≤ sizeLine)
    (hR : ∀ h' tk acc c as, (∀ b o, b ≠ S → b ∉ [z, TO, i1, i2] → s.heap.get? b = some o → h'.get? b = some o) → h'.get? S = some { cls := .type "list", dict := none, data := .seq acc c, slots := #[] } → as.length = min xs.size ys.size → ZlG s.heap.objs.size xs ys h' as →
      acc.toList = as.map Value.ref → R (.ok (.ret res)) { s with heap := h', toks := tk }) :
    wpAny (model prog w) A.in1 (Builtin.List.listExtendWith (.ref S) (.ref z) res)
      (fun fin s' => match fin with | .done f => R (.ok f) s' | .again c' => c'.quiet = true ∧ codeAny (model prog w) A c' R s') (fun e s' => R (.error e) s') s := by
  have hSz : S ≠ z := fun e => off (by simp [e])
  have key : ∀ (h : Heap) (c₁ : Nat), (∀ b o, b ≠ S → s.heap.get? b = some o → h.get? b = some o) → s.heap.objs.size ≤ h.objs.size → h.get? S = some { cls := .type "list", data := .seq #[] c₁ } →
      codeAny (model prog w) A (.builtin "list.extend.loop" ⟨[.ref S, .ref z, res], []⟩) R { s with heap := h, toks := s.toks } := fun h c₁ hk hle hS₁ =>
    zl_loop (lo := s.heap.objs.size) (s := s) (h₁ := s.heap) hh D off (fun c hc => by
      rcases List.mem_cons.mp hc with e | e
      · rw [e]; exact Heap.lt_size hS
      · exact st.lts f f2 c e) hn res (fun h' tk' acc c as hk' hS' hl hG hacc => hR h' tk' acc c as hk' hS' hl hG hacc) _ 0 h s.toks c₁ #[] [] (Nat.sub_zero _) (Nat.zero_le _) (st.keep hk off) (fun b o hb _ e => hk b o hb e) hS₁ rfl rfl
      ⟨List.Pairwise.nil, (fun _ ha => nomatch ha), (fun j a hj => by simp at hj)⟩ hle
  unfold Builtin.List.listExtendWith
  refine wpAny_bind (wpAny_typeOf (T := "zip") st.typ ?_)
  have h1 : Builtin.List.listSameRef (.ref S) (.ref z) = false := by simp [Builtin.List.listSameRef, hSz]
  have h2 : (Value.type "zip" == Value.type "list") = false := by decide
  have h3 : (Value.type "zip" == Value.type "tuple") = false := by decide
  simp only [h1, h2, h3, Bool.or_false, Bool.false_eq_true, if_false]
  refine wpAny_bind (wpAny_pyIter_zip f ?_)
  refine wpAny_bind (wpAny_holding ?_)
  unfold Builtin.List.listLengthHint
  refine wpAny_bind (wpAny_specialOf st.typ zip_no_len ?_)
  show wpAny _ A.in1 (specialOf (Value.ref z) (Str.ofString "__length_hint__") >>= _) _ _ _
  refine wpAny_bind (wpAny_specialOf st.typ zip_no_hint (wpAny_pure ?_))
  show wpAny _ A.in1 (rule "list.extend.makes-room" >>= fun _ => Builtin.List.listTouch (.ref S) >>= fun _ => again (.builtin "list.extend.loop" ⟨[.ref S, .ref z, res], []⟩)) _ _ _
  refine wpAny_bind (wpAny_rule (wpAny_bind ?_))
  show wpAny _ A.in1 (updateSeq S (·.push .none) >>= fun _ => updateSeq S (·.pop)) _ _ _
  refine wpAny_bind (wpAny_updateSeq hS rfl ?_)
  have hS₂ := Heap.get?_update_self (Obj.mapSeq (·.push Value.none)) hS rfl
  refine wpAny_updateSeq (hz := by seq_fits) hS₂ rfl ?_
  have hS₃ := Heap.get?_update_self (Obj.mapSeq (·.pop)) hS₂ rfl
  refine wpAny_pure ⟨plainId_quiet PySem.F.plain_extend_loop _, key _ _ (fun b o hb e => ?_) ?_ hS₃⟩
  · exact (Heap.get?_update_other _ _ (Ne.symm hb)).trans ((Heap.get?_update_other _ _ (Ne.symm hb)).trans e)
  · rw [(Heap.SameBut.update ..).1, (Heap.SameBut.update ..).1]
    exact Nat.le_refl _
theorem zl_call {Q : Value → Shared → Prop} (hh : A.handled = none) (D : ZipApart z TI TO i1 i2 l1 l2) (lts : ∀ c ∈ [z, TI, TO, i1, i2, l1, l2], c < s.heap.objs.size) (t1 : PySem.IsPair s.heap TI (.ref i1) (.ref i2)) (t2 : s.heap.IsListIter i1 l1 0) (t3 : s.heap.IsListIter i2 l2 0)
    (t4 : s.heap.IsList l1 xs) (t5 : s.heap.IsList l2 ys) (f : IsZip s.heap z TI TO .none) (f2 : ∃ a b, PySem.IsPair s.heap TO a b) (hn : min xs.size ys.size ≤ sizeLine)
    (hQ : ∀ h' tk acc c as, (∀ b o, b ∉ [z, TO, i1, i2] → s.heap.get? b = some o → h'.get? b = some o) → h'.get? s.heap.objs.size = some { cls := .type "list", dict := none, data := .seq acc c, slots := #[] } → as.length = min xs.size ys.size → ZlG (s.heap.objs.size + 1) xs ys h' as →
      acc.toList = as.map Value.ref → Q (.ref s.heap.objs.size) { s with heap := h', toks := tk }) :
    wpAny (model prog w) A (call (.type "list") [.ref z]) Q E s := by
  refine callType_codes (Q₁ := fun obj s₁ => obj = .ref s.heap.objs.size ∧ s₁ = { s with heap := s.heap.push { cls := .type "list", data := .seq #[] } }) PySem.F.called_list (PySem.F.typeCall_list_1 _) PySem.F.entry_list_init (code_list_new _ ⟨rfl, rfl⟩) fun obj s₁ q => ?_
  obtain ⟨rfl, rfl⟩ := q
  have hS : (s.heap.push { cls := .type "list", data := .seq #[] }).get? s.heap.objs.size = some { cls := .type "list", data := .seq #[] } := Heap.get?_push_size _ rfl
  have up : ∀ b o, s.heap.get? b = some o → (s.heap.push { cls := .type "list", data := .seq #[] }).get? b = some o := fun b o e => Heap.get?_push_of_some _ e
  have hsz : (s.heap.push { cls := .type "list", data := .seq #[] }).objs.size = s.heap.objs.size + 1 := Heap.size_push _ _
  have ofs : s.heap.objs.size ∉ [z, TI, TO, i1, i2, l1, l2] := fun hm => Nat.lt_irrefl _ (lts _ hm)
  generalize s.heap.push { cls := .type "list", data := .seq #[] } = g at hS up hsz
  have st : ZlSt g z TI TO i1 i2 l1 l2 s.heap.objs.size xs ys 0 := by
    obtain ⟨a, b, q⟩ := f2
    exact ⟨up _ _ t1, t2.at fun o e => up _ o e, t3.at fun o e => up _ o e, t4.at fun o e => up _ o e, t5.at fun o e => up _ o e, .inl ⟨up _ _ f, a, b, up _ _ q⟩⟩
  refine ⟨⟨_, hS, rfl⟩, PySem.F.args_list_init_2 _ _, ?_⟩
  show wpAny _ _ (do let old ← Builtin.List.listItems (.ref s.heap.objs.size); Builtin.List.listUpdate (.ref s.heap.objs.size) (fun _ => #[]); letGo old.toList.reverse; Builtin.List.listExtendWith (.ref s.heap.objs.size) (.ref z) .none) _ _ _
  refine wpAny_bind ?_
  unfold Builtin.List.listItems
  refine wpAny_bind (wpAny_seqItems (s := { s with heap := g }) hS rfl (wpAny_pure ?_))
  show wpAny _ _ (updateSeq s.heap.objs.size (fun _ => #[]) >>= fun _ => letGo (#[] : Array Value).toList.reverse >>= fun _ => Builtin.List.listExtendWith (.ref s.heap.objs.size) (.ref z) .none) _ _ _
  refine wpAny_bind (wpAny_updateSeq (s := { s with heap := g }) hS rfl ?_)
  have hS₂ := Heap.get?_update_self (Obj.mapSeq (fun _ => (#[] : Array Value))) hS rfl
  have oth : ∀ b o, b ≠ s.heap.objs.size → g.get? b = some o → (g.update s.heap.objs.size (Obj.mapSeq (fun _ => (#[] : Array Value)))).get? b = some o := fun b o hb e => (Heap.get?_update_other _ _ (Ne.symm hb)).trans e
  refine wpAny_bind (wpAny_letGo ?_)
  have st2 := st.keep oth ofs
  have nz : z ≠ s.heap.objs.size := fun e => ofs (by simp [e])
  have nT : TO ≠ s.heap.objs.size := fun e => ofs (by simp [e])
  have hsz2 : (g.update s.heap.objs.size (Obj.mapSeq (fun _ => (#[] : Array Value)))).objs.size = s.heap.objs.size + 1 := (Heap.SameBut.update ..).1.trans hsz
  refine zl_extend (A := A.in1) (s := { s with heap := g.update s.heap.objs.size (Obj.mapSeq (fun _ => (#[] : Array Value))) }) hh D ofs st2 (oth _ _ nz (up _ _ f)) (let ⟨a, b, q⟩ := f2; ⟨a, b, oth _ _ nT (up _ _ q)⟩) .none _ hS₂ hn fun h' tk acc c as hk hS' hl hG hacc => ?_
  dsimp only at hk hG
  rw [hsz2] at hG
  exact ⟨rfl, hQ h' tk acc c as (fun b o hb e => hk b o (Nat.ne_of_lt (Heap.lt_size e)) hb (oth b o (Nat.ne_of_lt (Heap.lt_size e)) (up b o e))) hS' hl hG hacc⟩
end
end VL
set_option Elab.async false
set_option linter.all false
set_option maxRecDepth 100000
set_option autoImplicit false
namespace VL
open PySem PySem.Spec L2
open PyProof.Rows hiding St

/-- tuples laid one behind another -/
def updT : Hp → List (Addr × List V) → Hp
  | H, [] => H
  | H, p :: ps => updT (upd H p.1 (.tup p.2)) ps
theorem lay_all {X : Cx} {pins : List (Addr × Obj)} {σ : L2.St} : ∀ (ps : List (Addr × List V)) {H : Hp} {s : Shared} {h' : Heap} {tk : Nat}, Inv X pins σ H s → (∀ b u, s.heap.get? b = some u → h'.get? b = some u) → (ps.map (·.1)).Nodup →
    (∀ p ∈ ps, s.heap.get? p.1 = none ∧ p.2.length ≤ sizeLine ∧ ∃ its, Vals p.2 its ∧ IsTup h' p.1 its.toArray) → Inv X pins σ (updT H ps) { s with heap := h', toks := tk }
  | [], H, s, h', tk, I, hk, _, _ => I.kept hk
  | p :: ps, H, s, h', tk, I, hk, hd, ho => by
    obtain ⟨G, g1, g2⟩ := restrict h' fun b => decide (b = p.1) || (s.heap.get? b).isSome
    obtain ⟨n1, l1, its, v1, t1⟩ := ho p (by simp)
    have gp : G.get? p.1 = h'.get? p.1 := g1 p.1 (by simp)
    have gs : ∀ b u, s.heap.get? b = some u → G.get? b = some u := fun b u e => (g1 b (by simp [e])).trans (hk b u e)
    have gh : ∀ b u, G.get? b = some u → h'.get? b = some u := fun b u e => by
      cases hq : (decide (b = p.1) || (s.heap.get? b).isSome) with
      | true => rw [← g1 b hq]; exact e
      | false => rw [g2 b hq] at e; cases e
    have I2 : Inv X pins σ (upd H p.1 (.tup p.2)) { s with heap := G, toks := tk } := I.laidN (t' := tk) gs n1 (I.hok.gone n1) ⟨l1, its, v1, let ⟨o, e, r⟩ := t1; ⟨o, gp.trans e, r⟩⟩
    rw [List.map_cons, List.nodup_cons] at hd
    refine lay_all ps (s := { s with heap := G, toks := tk }) I2 gh hd.2 fun q hq => ?_
    obtain ⟨m1, m2, m3⟩ := ho q (by simp [hq])
    refine ⟨g2 q.1 ?_, m2, m3⟩
    have : q.1 ≠ p.1 := fun e => hd.1 (by rw [← e]; exact List.mem_map_of_mem hq)
    simp [this, m1]
theorem vals_refs : ∀ as : List Addr, Vals (as.map V.ref) (as.map Value.ref)
  | [] => .nil
  | _ :: as => .cons rfl (vals_refs as)
theorem updT_ne : ∀ {ps : List (Addr × List V)} {H : Hp} {a : Addr}, a ∉ ps.map (·.1) → updT H ps a = H a
  | [], _, _, _ => rfl
  | p :: ps, H, a, h => by
    rw [List.map_cons, List.mem_cons, not_or] at h
    show updT _ ps a = _
    rw [updT_ne h.2, upd_ne h.1]
def pr2 (q : V × V) : List V := [q.1, q.2]
def tZl (K : PySem.W.Frag) (ta : TA) : TE := fun σ H Q => ta σ H fun vs H1 => ∃ a b xs ys, vs = [.ref a, .ref b] ∧ SqL K H1 a xs ∧ SqL K H1 b ys ∧
  ∀ (ps : List (Addr × List V)) (p : Addr), (ps.map (·.1)).Nodup → p ∉ ps.map (·.1) → (∀ q ∈ ps, H1 q.1 = none) → H1 p = none → ps.length ≤ sizeLine → ps.map (·.2) = (xs.zip ys).map pr2 → Q (.ref p) (upd (updT H1 ps) p (.lst (ps.map fun q => V.ref q.1)))
theorem vals_at {xs : List V} {us : List Value} {j : Nat} {x : V} {u : Value} (r : Vals xs us) (hx : xs[j]? = some x) (hu : us[j]? = some u) : RelV x u := by
  obtain ⟨u', e, q⟩ := r.get hx
  rw [hu] at e
  cases e
  exact q
theorem pe_listzip {X : Cx} {e e2 : Expr} {ta : TA} {p p2 pos pos2 : Pos} (hc : X.calm = true) (hgl : Gl X "list") (hml : X.mg "list" = none) (hg : Gl X "zip") (hm : X.mg "zip" = none) (ha : PA X [e, e2] ta)
    (hs : starEach [e, e2] X.env = (false, eval e X.env) :: starEach [e2] X.env := by rfl) (hpl : (backTo pos2 (starEach [e2] X.env)).any (·.1) = false := by rfl)
    (hs2 : starEach [.Call (.Name "zip" p2) [e, e2] [] pos2] X.env = (false, eval (.Call (.Name "zip" p2) [e, e2] [] pos2) X.env) :: starEach [] X.env := by rfl) (hpl2 : (backTo pos (starEach [] X.env)).any (·.1) = false := by rfl) :
    PE X (.Call (.Name "list" p) [.Call (.Name "zip" p2) [e, e2] [] pos2] [] pos) (tZl X.K ta) := by
  refine ⟨fun pins s σ H Q I h => Call_ (ld_blt I hgl hml PyProof.Rows.boot_list (PyProof.Rows.callWith_type1 ?_ hs2 hpl2))⟩
  rw [hs2]
  show wpAny _ _ (spliced ((false, eval (.Call (.Name "zip" p2) [e, e2] [] pos2) X.env) :: backTo pos (starEach [] X.env))) _ _ s
  refine Calls.spliced_cons (Call_ (ld_blt I hg hm PyProof.Rows.boot_zip (PyProof.Rows.callWith_type1 (thn (ha.run pos2 pins s σ H _ I h) fun us s1 ⟨vs, H1, I1, r1, q1⟩ => ?_) hs hpl)))
  obtain ⟨a, b, xs, ys, rfl, hqx, hqy, q⟩ := q1
  obtain ⟨u1, u2, rfl, r, r'⟩ := vals2 r1
  cases r
  cases r'
  obtain ⟨its, rv, p1, lz⟩ := I1.list hqx
  obtain ⟨its2, rv2, p3, lz2⟩ := I1.list hqy
  have la := p1.lt
  have lb := p3.lt
  refine call_zip_2 p1.isList p3.isList fun g hz hTI hTO g1 g2 hsz hk => Calls.spliced_nil ?_
  obtain ⟨N, hN⟩ : ∃ N, N = s1.heap.objs.size := ⟨_, rfl⟩
  rw [← hN] at hz hTI hTO g1 g2 hsz la lb ⊢
  have D : ZipApart (N + 4) (N + 2) (N + 3) N (N + 1) a b := by
    constructor <;> first | exact Nat.ne_of_lt la | exact Nat.ne_of_lt lb | (intro z; exact absurd z (by simp [Nat.succ_ne_self] <;> omega)) | exact Nat.ne_of_lt (Nat.lt_of_lt_of_le la (by omega)) | exact Nat.ne_of_lt (Nat.lt_of_lt_of_le lb (by omega))
  have old : ∀ c o, s1.heap.get? c = some o → c < N := fun c o z => by rw [hN]; exact Heap.lt_size z
  refine zl_call (s := { s1 with heap := g }) (I1.ok.hd hc) D (fun c hcm => ?_) hTI g1 g2 (p1.isList.at fun o z => hk _ o z) (p3.isList.at fun o z => hk _ o z) hz ⟨_, _, hTO⟩ (by rw [List.size_toArray, List.size_toArray, ← rv.length, ← rv2.length]; omega) fun h' tk acc c as hk' hS hl hG hacc => ?_
  · show c < g.objs.size
    rw [hsz]
    simp only [List.mem_cons, List.not_mem_nil, or_false] at hcm
    rcases hcm with z | z | z | z | z | z | z <;> rw [z]
    · exact Nat.lt_succ_self _
    · exact Nat.add_lt_add_left (by decide) _
    · exact Nat.add_lt_add_left (by decide) _
    · exact Nat.lt_add_of_pos_right (by decide)
    · exact Nat.add_lt_add_left (by decide) _
    · exact Nat.lt_of_lt_of_le la (Nat.le_add_right _ _)
    · exact Nat.lt_of_lt_of_le lb (Nat.le_add_right _ _)
  dsimp only at hk' hS hG ⊢
  rw [hsz] at hS hG ⊢
  have keep : ∀ c o, s1.heap.get? c = some o → h'.get? c = some o := fun c o z => hk' c o (fun hm => by
    have := old c o z
    simp only [List.mem_cons, List.not_mem_nil, or_false] at hm
    rcases hm with y | y | y | y <;> rw [y] at this
    · exact absurd this (Nat.not_lt.mpr (Nat.le_add_right _ _))
    · exact absurd this (Nat.not_lt.mpr (Nat.le_add_right _ _))
    · exact absurd this (Nat.lt_irrefl _)
    · exact absurd this (Nat.not_lt.mpr (Nat.le_add_right _ _))) (hk c o z)
  have hlen : as.length = ((xs.zip ys).map pr2).length := by
    rw [hl, List.length_map, List.length_zip, rv.length, rv2.length, List.size_toArray, List.size_toArray]
  have m1 : (as.zip ((xs.zip ys).map pr2)).map (·.1) = as := List.map_fst_zip (by omega)
  have m2 : (as.zip ((xs.zip ys).map pr2)).map (·.2) = (xs.zip ys).map pr2 := List.map_snd_zip (by omega)
  have lzp : (as.zip ((xs.zip ys).map pr2)).length ≤ sizeLine := by
    rw [List.length_zip, hl, List.size_toArray, ← rv.length]
    omega
  obtain ⟨ps, hps⟩ : ∃ ps, ps = as.zip ((xs.zip ys).map pr2) := ⟨_, rfl⟩
  rw [← hps] at m1 m2 lzp
  have fresh : ∀ a ∈ as, s1.heap.get? a = none := fun a ha => by
    cases e : s1.heap.get? a with
    | none => rfl
    | some o => exact absurd (old a o e) (Nat.not_lt.mpr (Nat.le_trans (Nat.le_add_right N 6) (hG.above a ha)))
  have inA : ∀ q ∈ ps, q.1 ∈ as := fun q hq => by rw [← m1]; exact List.mem_map_of_mem hq
  have SnA : N + 5 ∉ as := fun hm => absurd (hG.above _ hm) (by omega)
  have Sold : s1.heap.get? (N + 5) = none := by
    cases e : s1.heap.get? (N + 5) with
    | none => rfl
    | some o => exact absurd (old _ o e) (Nat.not_lt.mpr (Nat.le_add_right _ _))
  have nd : (ps.map (·.1)).Nodup := by
    rw [m1]
    exact hG.rise.imp fun hlt => Nat.ne_of_lt hlt
  obtain ⟨G, k1, k2⟩ := restrict h' fun b => decide (b ≠ N + 5)
  have Gh : ∀ b u, G.get? b = some u → h'.get? b = some u := fun b u e => by
    by_cases hb : b = N + 5
    · rw [k2 b (by simp [hb])] at e
      cases e
    · rw [← k1 b (by simp [hb])]
      exact e
  have I2 : Inv X pins σ (updT H1 ps) { s1 with heap := G, toks := tk } := lay_all ps I1 (fun c o z => by
      rw [k1 c (by simp; exact Nat.ne_of_lt (Nat.lt_of_lt_of_le (old c o z) (Nat.le_add_right _ _)))]
      exact keep c o z) nd fun q hq => by
    obtain ⟨j, hj⟩ := List.mem_iff_getElem?.mp hq
    rw [hps, List.getElem?_zip_eq_some] at hj
    obtain ⟨j1, j2⟩ := hj
    rw [List.getElem?_map] at j2
    obtain ⟨v1, v2, e1, e2, e3⟩ := hG.pairs j q.1 j1
    cases hz : (xs.zip ys)[j]? with
    | none => rw [hz] at j2; cases j2
    | some xy =>
      rw [hz] at j2
      have j3 : pr2 xy = q.2 := Option.some.inj j2
      rw [List.getElem?_zip_eq_some] at hz
      rw [← j3]
      refine ⟨fresh _ (inA q hq), by show 2 ≤ sizeLine; decide, [v1, v2], .cons (vals_at rv hz.1 (by simpa using e1)) (.cons (vals_at rv2 hz.2 (by simpa using e2)) .nil), ⟨_, (k1 q.1 (by simp; exact fun z => SnA (z ▸ inA q hq))).trans e3, rfl, _, rfl⟩⟩
  have hSn : H1 (N + 5) = none := I1.hok.gone Sold
  have hSm : N + 5 ∉ ps.map (·.1) := by rw [m1]; exact SnA
  refine ⟨.ref (N + 5), _, I2.laidN (a := N + 5) (o := .lst (ps.map fun q => V.ref q.1)) (t' := tk) Gh (k2 _ (by simp)) (by rw [updT_ne hSm]; exact hSn) ⟨by rw [List.length_map]; exact lzp, acc.toList, c, ?_, hS⟩, rfl, q ps (N + 5) nd hSm (fun q hq => I1.hok.gone (fresh _ (inA q hq))) hSn lzp m2⟩
  rw [hacc, show (ps.map fun q => V.ref q.1) = (ps.map (·.1)).map V.ref by rw [List.map_map]; rfl, m1]
  exact vals_refs as
def zipLD : D → D → Option D
  | .lst xs, .lst ys => some (.lst (zipL xs ys))
  | _, _ => none
theorem zl_reps {K : PySem.W.Frag} : ∀ (ps : List (Addr × List V)) {F H : Hp} {xs ys : List V} {ds es : List D}, Same F H → ps.map (·.2) = (xs.zip ys).map pr2 → (ps.map (·.1)).Nodup → (∀ q ∈ ps, H q.1 = none) → Reps K F xs ds → Reps K F ys es →
    Ext F H (updT F ps) (updT H ps) ∧ Reps K (updT F ps) (ps.map fun q => V.ref q.1) (zipL ds es)
  | [], F, H, [], ys, ds, es, s, _, _, _, r1, r2 => by
    cases r1
    exact ⟨Ext.refl s, .nil⟩
  | [], F, H, _ :: _, [], ds, es, s, _, _, _, r1, r2 => by
    cases r2
    cases r1
    exact ⟨Ext.refl s, .nil⟩
  | [], F, H, _ :: _, _ :: _, ds, es, s, h, _, _, r1, r2 => by simp at h
  | _ :: _, F, H, [], ys, ds, es, s, h, _, _, r1, r2 => by simp at h
  | _ :: _, F, H, _ :: _, [], ds, es, s, h, _, _, r1, r2 => by simp at h
  | p :: ps, F, H, x :: xs, y :: ys, ds, es, s, h, nd, nn, r1, r2 => by
    cases r1 with
    | cons a1 b1 =>
      cases r2 with
      | cons a2 b2 =>
        rw [List.map_cons, List.zip_cons_cons, List.map_cons] at h
        have h1 := (List.cons.inj h).1
        have h2 := (List.cons.inj h).2
        rw [List.map_cons, List.nodup_cons] at nd
        have np := nn p (by simp)
        have e1 := Ext.fresh s (.tup p.2) np
        have w := new_tup s np (by show 2 ≤ sizeLine; decide) (Reps.cons a1 (Reps.cons a2 .nil))
        rw [show [x, y] = p.2 from h1.symm] at w
        obtain ⟨e2, w2⟩ := zl_reps ps e1.sub h2 nd.2 (fun q hq => by
          rw [upd_ne fun z => nd.1 (by rw [← z]; exact List.mem_map_of_mem hq)]
          exact nn q (by simp [hq])) (b1.mono e1.ext) (b2.mono e1.ext)
        exact ⟨e1.trans e2, .cons (w.mono e2.ext) w2⟩
theorem ev_listzip {X : Cx} {G : Gd} {W : WX} {ρ : Rho} {p p2 pos pos2 : Pos} {a b : Expr} {ma mb : Rs D} (hc : X.calm = true) (hgl : Gl X "list") (hml : X.mg "list" = none) (hg : Gl X "zip") (hm : X.mg "zip" = none) (ha : EV X G W ρ a ma) (hb : EV X G W ρ b mb)
    (hs : starEach [a, b] X.env = (false, eval a X.env) :: starEach [b] X.env := by rfl) (hs2 : starEach [b] X.env = (false, eval b X.env) :: starEach [] X.env := by rfl) (hpl : (backTo pos2 (starEach [b] X.env)).any (·.1) = false := by rfl)
    (hs3 : starEach [.Call (.Name "zip" p2) [a, b] [] pos2] X.env = (false, eval (.Call (.Name "zip" p2) [a, b] [] pos2) X.env) :: starEach [] X.env := by rfl) :
    EV X G W ρ (.Call (.Name "list" p) [.Call (.Name "zip" p2) [a, b] [] pos2] [] pos) (ma.bind fun x => mb.bind fun y => Rs.of (zipLD x y)) := by
  obtain ⟨t, pe, q⟩ := ha
  obtain ⟨t2, pe2, q2⟩ := hb
  refine ⟨_, pe_listzip hc hgl hml hg hm (pa_cons pe (pa_cons pe2 pa_nil hs2) hs) hs hpl hs3, fun F0 σ F H R hh hp => ?_⟩
  refine q F0 σ F H _ hh (hp.bind fun d v F' H' e1 r1 hp1 => ?_)
  refine q2 F0 σ F' H' _ (hh.more e1) (hp1.bind fun d2 v2 F2 H2 e2 r2 hp2 => ?_)
  obtain ⟨ds, hd, k⟩ := hp2.of
  unfold zipLD at hd
  split at hd
  · rename_i xs ys
    cases hd
    have r1' := r1.mono e2.ext
    cases r1' with
    | lst g1 l1 w1 =>
      cases r2 with
      | lst g2 l2 w2 =>
        refine ⟨_, _, _, _, rfl, KSq.same (k := .l) e2.sub (SqL.of g1), KSq.same (k := .l) e2.sub (SqL.of g2), fun ps p nd nm nn np lz hz => ?_⟩
        obtain ⟨e3, w3⟩ := zl_reps ps e2.sub hz nd nn w1 w2
        have np' : updT H2 ps p = none := by rw [updT_ne nm]; exact np
        exact k _ _ _ (e3.trans (Ext.fresh e3.sub _ np')) (new_lst e3.sub np' (by rw [List.length_map]; exact lz) w3)
  · cases hd
end VL
set_option Elab.async false
set_option linter.all false
set_option maxRecDepth 100000
set_option autoImplicit false
namespace VL
open PySem PySem.Spec L2
open PyProof.Rows hiding St

/-! ### the head: defs at addresses of one's own, facts as truth values -/
abbrev FrB := PySem.W.Frag → Bool
structure DefA where
  ad : PySem.W.Frag → Addr
  nm : Str
  ql : Str
  pr : Arguments
  bd : List Stmt
  sc : Scope
  df : List He.Dv
def DefA.told (d : DefA) : He.FnW := some (d.nm, d.ql, d.pr, .stmts d.bd, d.sc, mainGlobals, [], builtinsNs)
def DefA.dv (K : PySem.W.Frag) (d : DefA) : List V := d.df.map (He.Dv.v K)
def fnA (K : PySem.W.Frag) (a : Addr) : He.FnW := match K.lookup a with
  | some ⟨_, _, .func q, _⟩ => some (q.name, q.qualname, q.params, q.body, q.scope, q.globals, q.closure, q.builtins)
  | _ => none
def DefA.fine (K : PySem.W.Frag) (d : DefA) : Bool := PySem.W.keepIn K (.ref (d.ad K)) && (match K.lookup (d.ad K) with
  | some ⟨_, _, .func q, _⟩ => PySem.W.codeIn K q.code d.ql && He.dflB K q.defaults (d.dv K)
  | _ => false)
theorem DefA.fun_ {K : PySem.W.Frag} {d : DefA} (e : fnA K (d.ad K) = d.told) (c : d.fine K = true) : ∃ fd, FunD K d.nm d.ql d.pr d.bd d.sc (d.dv K) [] (d.ad K) fd := by
  obtain ⟨kp, c2⟩ := He.ba c
  unfold fnA at e
  cases z : K.lookup (d.ad K) with
  | none =>
    rw [z] at c2
    cases c2
  | some o =>
    obtain ⟨o1, o2, o3, o4⟩ := o
    rw [z] at c2 e
    cases o3 with
    | func q =>
      obtain ⟨q1, q2, q3, q4, q5, q6, q7, q8, q9, q10, q11, q12, q13, q14, q15⟩ := q
      have e2 : (some (q1, q2, q3, q4, q5, q6, q7, q15) : He.FnW) = d.told := e
      simp only [DefA.told, Option.some.injEq, Prod.mk.injEq] at e2
      obtain ⟨h1, h2, h3, h4, h5, h6, h7, h8⟩ := e2
      subst h1 h2 h3 h4 h5 h6 h7 h8
      have c3 : (PySem.W.codeIn K q13 d.ql && He.dflB K q8 (d.dv K)) = true := c2
      obtain ⟨k1, k2⟩ := He.ba c3
      exact ⟨_, ⟨o1, o2, q8, q9, q10, q11, q12, q13, q14, o4, rfl, z, k1, He.dflB_ok k2, .inl rfl⟩, kp⟩
    | _ => cases c2
abbrev AlV : Type := Bool × List He.FnW
def obsV (fs : List FrB) (fn : List DefA) (K : PySem.W.Frag) : AlV := ((fs.all fun f => f K) && fn.all fun d => d.fine K, fn.map fun d => fnA K (d.ad K))
def valV (fn : List DefA) : AlV := (true, fn.map DefA.told)
def SaysV (fs : List FrB) (fn : List DefA) (K : PySem.W.Frag) : Prop := obsV fs fn K = valV fn
def obsVG (n : Nat) (fs : List FrB) (fn : List DefA) (g : Addr → Option Obj) : AlV := obsV fs fn (He.frG g (PySem.cStatics :: He.asD g n))
def hookV (n : Nat) (fs : List FrB) (fn : List DefA) : PySem.W.Hook where
  α := AlV
  obs := fun z => obsVG n fs fn z.heap.get?
  val := fun _ => valV fn
  says := fun _ z => ∃ K : PySem.W.Frag, K.In z ∧ SaysV fs fn K
  of := fun _ _ e => ⟨_, He.frG_in, e⟩
  keeps := fun _ _ _ ⟨K, hK, c⟩ k => ⟨K, hK.keeps k, c⟩
theorem obsVG_eq {n : Nat} {fs : List FrB} {fn : List DefA} {g : Addr → Option Obj} {z : Shared} (h : ∀ a, g a = z.heap.get? a) : obsVG n fs fn g = (hookV n fs fn).obs z := by
  rw [show g = z.heap.get? from funext h] <;> rfl
section
variable {fs : List FrB} {fn : List DefA} {K : PySem.W.Frag}
theorem SaysV.fact (c : SaysV fs fn K) (i : Nat) {f : FrB} (h : fs[i]? = some f := by rfl) : f K = true :=
  List.all_eq_true.mp (He.ba (congrArg (fun z : AlV => z.1) c)).1 f (List.mem_of_getElem? h)
theorem SaysV.fn_ (c : SaysV fs fn K) (i : Nat) {d : DefA} (h : fn[i]? = some d := by rfl) : ∃ fd, FunD K d.nm d.ql d.pr d.bd d.sc (d.dv K) [] (d.ad K) fd := by
  have e : fn.map (fun d => fnA K (d.ad K)) = fn.map DefA.told := congrArg (fun z : AlV => z.2) c
  have e2 : (fn.map fun d => fnA K (d.ad K))[i]? = (fn.map DefA.told)[i]? := by rw [e]
  rw [List.getElem?_map, List.getElem?_map, h] at e2
  exact DefA.fun_ (Option.some.inj e2) (List.all_eq_true.mp (He.ba (congrArg (fun z : AlV => z.1) c)).2 d (List.mem_of_getElem? h))
end

/-! ### tests of classes with slots -/
def sclsB (C : PySem.W.Frag → Addr) : FrB := fun K => PySem.W.plainGet K (C K) Str.empty && (PySem.W.isClsIn K (C K) && (PySem.W.plainOver K (C K) && He.eqO (PySem.W.findIn K (.ref (C K)) "__setattr__") (some (some (.builtin "object.__setattr__")))))
theorem sclsB_ok {C : PySem.W.Frag → Addr} {K : PySem.W.Frag} (h : sclsB C K = true) : SlX.SCls K (C K) := by
  obtain ⟨h1, h⟩ := He.ba h
  obtain ⟨h2, h⟩ := He.ba h
  obtain ⟨h3, h4⟩ := He.ba h
  exact ⟨h1, h2, h3, He.eqO_ok h4⟩
def slotB (C : PySem.W.Frag → Addr) (f : Str) (i : Nat) : FrB := fun K => He.eqO (PySem.W.findIn K (.ref (C K)) f) (some (some (.ref (He.ma K (C K) f)))) && (He.eqO (PySem.W.specialIn K (.ref (He.ma K (C K) f)) "__get__") (some (some (.builtin "member_descriptor.__get__"))) && (decide (PySem.W.takesIn K (.ref (He.ma K (C K) f)) = some true) &&
  (decide (PySem.W.typeIn K (.ref (He.ma K (C K) f)) = some (.type "member_descriptor")) && (decide (PySem.W.slotIn K (He.ma K (C K) f) (C K) = some i) && decide (i < 1000)))))
theorem slotB_ok {C : PySem.W.Frag → Addr} {f : Str} {i : Nat} {K : PySem.W.Frag} (h : slotB C f i K = true) : ∃ p, SlX.Slot1 K (C K) f p i := by
  obtain ⟨h1, h⟩ := He.ba h
  obtain ⟨h2, h⟩ := He.ba h
  obtain ⟨h3, h⟩ := He.ba h
  obtain ⟨h4, h⟩ := He.ba h
  obtain ⟨h5, h6⟩ := He.ba h
  exact ⟨_, He.eqO_ok h1, He.eqO_ok h2, of_decide_eq_true h3, of_decide_eq_true h4, of_decide_eq_true h5, of_decide_eq_true h6⟩
def hdRef : Option (List Value) → Option Addr
  | some (.ref g :: _) => some g
  | _ => none
theorem hdRef_ok {o : Option (List Value)} {g : Addr} (h : hdRef o = some g) : ∃ rest, o = some (.ref g :: rest) := by
  unfold hdRef at h
  split at h
  · cases h
    exact ⟨_, rfl⟩
  · cases h
def propB (C : PySem.W.Frag → Addr) (f : Str) : FrB := fun K => He.eqO (PySem.W.findIn K (.ref (C K)) f) (some (some (.ref (He.ma K (C K) f)))) && (He.eqO (PySem.W.specialIn K (.ref (He.ma K (C K) f)) "__get__") (some (some (.builtin "property.__get__"))) && (decide (PySem.W.takesIn K (.ref (He.ma K (C K) f)) = some true) &&
  decide (hdRef (PySem.W.recIn K (He.ma K (C K) f) "property") = some (recA K (C K) "property" f))))
theorem propB_ok {C : PySem.W.Frag → Addr} {f : Str} {K : PySem.W.Frag} (h : propB C f K = true) : Prp K (C K) f (recA K (C K) "property" f) := by
  obtain ⟨h1, h⟩ := He.ba h
  obtain ⟨h2, h⟩ := He.ba h
  obtain ⟨h3, h4⟩ := He.ba h
  exact ⟨_, He.eqO_ok h1, He.eqO_ok h2, of_decide_eq_true h3, hdRef_ok (of_decide_eq_true h4)⟩
def getB (o : Option PySem.W.CFound) (g : String) (p C : Addr) : Bool := match o with
  | some (.get (.builtin x) (.ref q) .none (.ref D)) => decide (x = g) && (decide (q = p) && decide (D = C))
  | _ => false
theorem getB_ok {o : Option PySem.W.CFound} {g : String} {p C : Addr} (h : getB o g p C = true) : o = some (.get (.builtin g) (.ref p) .none (.ref C)) := by
  unfold getB at h
  split at h
  · obtain ⟨h1, h⟩ := He.ba h
    obtain ⟨h2, h3⟩ := He.ba h
    rw [of_decide_eq_true h1, of_decide_eq_true h2, of_decide_eq_true h3]
  · cases h
def smetB (C : PySem.W.Frag → Addr) (f : Str) : FrB := fun K => PySem.W.readsIn K (C K) (.type "type") && (He.eqO (PySem.W.specialIn K (.ref (C K)) "__getattribute__") (some (some (.builtin "type.__getattribute__"))) && (getB (PySem.W.findCls K (.ref (C K)) (.type "type") f) "staticmethod.__get__" (He.ma K (C K) f) (C K) &&
  (decide (hdRef (PySem.W.recIn K (He.ma K (C K) f) "staticmethod") = some (recA K (C K) "staticmethod" f)) && PySem.W.keepIn K (.ref (recA K (C K) "staticmethod" f)))))
theorem smetB_ok {C : PySem.W.Frag → Addr} {f : Str} {K : PySem.W.Frag} (h : smetB C f K = true) : SMet K (C K) f (recA K (C K) "staticmethod" f) := by
  obtain ⟨h1, h⟩ := He.ba h
  obtain ⟨h2, h⟩ := He.ba h
  obtain ⟨h3, h⟩ := He.ba h
  obtain ⟨h4, h5⟩ := He.ba h
  exact ⟨⟨h1, He.eqO_ok h2⟩, ⟨_, getB_ok h3, hdRef_ok (of_decide_eq_true h4)⟩, h5⟩
/-- an empty tuple stands at a -/
def tup0B (a : PySem.W.Frag → Addr) : FrB := fun K => match K.lookup (a K) with
  | some ⟨.type t, _, .seq xs _, _⟩ => decide (t = "tuple") && decide (xs.size = 0)
  | _ => false
theorem tup0B_ok {a : PySem.W.Frag → Addr} {K : PySem.W.Frag} (h : tup0B a K = true) (F : Hp) : Reps K F [V.ref (a K)] [.tup []] := by
  unfold tup0B at h
  cases z : K.lookup (a K) with
  | none =>
    rw [z] at h
    cases h
  | some o =>
    obtain ⟨o1, o2, o3, o4⟩ := o
    rw [z] at h
    cases o1 with
    | type t =>
      cases o3 with
      | seq xs n =>
        obtain ⟨h1, h2⟩ := He.ba (show (decide (t = "tuple") && decide (xs.size = 0)) = true from h)
        have e := of_decide_eq_true h2
        have e3 : xs.toList = [] := by
          apply List.eq_nil_of_length_eq_zero
          simpa using e
        refine .one (.tup (xs := []) (.inr ⟨.inr ⟨_, xs, n, z, congrArg Value.type (of_decide_eq_true h1), rfl, by rw [e]; exact Nat.zero_le _, ?_⟩, fun x hx => by simp at hx⟩) (Nat.zero_le _) .nil)
        rw [e3]
        exact .nil
      | _ => cases h
    | _ => cases o3 <;> cases h
/-- the int, the text at a name -/
def gloB (x : Str) : FrB := fun K => (He.Fa.glo x).ok K
def freeB (x : Str) : FrB := fun K => (He.Fa.free x).ok K
def gintB (x : Str) (i : Int) : FrB := fun K => (He.Fa.int x i).ok K
def gstrB (x z : Str) : FrB := fun K => (He.Fa.str x z).ok K
def mkrB (x : Str) : FrB := fun K => (He.Fa.mkr x).ok K
def gtupB (x : Str) (is : List Int) : FrB := fun K => He.tupB K x (is.map He.Dv.int)
theorem gtupB_ok {x : Str} {is : List Int} {K : PySem.W.Frag} (h : gtupB x is K = true) (H : Hp) : SqT K H (He.ga K x) (is.map V.int) := by
  have z := He.tupB_ok h H
  rw [List.map_map] at z
  exact z
section
variable {K : PySem.W.Frag} {x qual : Str} {params : Arguments} {body : List Stmt} {scope : Scope} {dvs : List V} {f : Addr} {fd : FuncData} {ps : List Str}
/-- all given, though there are defaults -/
theorem FunD_full (F : FunD K x qual params body scope dvs [] f fd) (hd : dvs ≠ [])
    (h : ∀ (T : Addr) (kV doc pm : Value) (an : Option Addr) (cdv ct : Value) (us its : List Value), us.length = ps.length → its.length = dvs.length →
      ∃ k, bindArgs (PySem.W.fnOf x qual params body scope (.ref T) kV doc pm an cdv ct) ⟨us, []⟩ = seqItems? (.ref T) >>= k ∧ k (some its.toArray) = pure (ps.zip us)) : Binds K fd ps [] := by
  obtain ⟨ds, h1, h2⟩ := F.binds1 (ps := ps) ps.length dvs.length hd (by omega) (fun T kV doc pm an cdv ct us its h1 h2 => by
    obtain ⟨k, e1, e2⟩ := h T kV doc pm an cdv ct us its h1 h2
    exact ⟨k, e1, by rw [e2, ← h2, List.drop_length, List.append_nil]⟩)
  rw [List.drop_length] at h1
  cases h1
  exact h2
end
end VL
namespace VL
open PySem PySem.Spec PyProof.Rows L2
/-- a law's end over a head by facts, its ints bounded -/
theorem walk_ofV {l : PySem.W.OpenLaw} {n k : Nat} {q : Program} {loose : List Str} {XP : (Str → Option Value) → Heap → Prop} {YP : World → Heap → Prop} {d : DefRec} {CX : World → CXT} {x : Str}
    (hn : l.most = some n) (hn2 : n ≤ sizeLine) (hdf : d.params.defaults = []) (hr : Room k callerA)
    (F : ∀ (w : World) (mg : Str → Option Value) (fa : Addr) (z : Heap), YP w z → z.Ns mainGlobals mg → mg d.name = some (.ref fa) →
      ∃ (K : PySem.W.Frag) (fd : FuncData) (sp : Sp), K.In z ∧ (∀ (s : Shared) (u : Value), BindsTo s fd ⟨[u], []⟩ [(x, u)]) ∧
        (∀ (H : Hp) (a : Addr) (ns : List Int), ns.length ≤ n → (∀ i ∈ ns, Builtin.Int.intBits i ≤ 1048576) → Only H → SqL K H a (ns.map V.int) → sp [.ref a] H (fun v _ => v = .bl true) fun _ _ _ => False) ∧
        ∀ base : Heap, K.In base → base.Ns mainGlobals mg → FnOk l.prog w K mg base (CX w) k fa fd [x] sp)
    (hCX : ∀ (w : World) (H : Hp) (s : Shared) (e : Value) (s' : Shared), CX w [] H s (fun _ _ _ => False) e s' → False) :
    PySem.W.WalkO q loose XP YP l.row.toRowW d [] (fun f vs => PySem.call f vs) := by
  refine Att.attach_callB hn hdf fun w s₀ s₁ mg mb fa o pm cd doc a vs ns G Y ho hd hcd hmg hobj hints hlen hbits hg => ?_
  obtain ⟨K, fd, sp, KX, hb, hsp, hF⟩ := F w mg fa _ Y G.T.g hmg
  exact law_call KX G.T.g G.T.b G.T.builtins G.T.nolimit hg hobj hints (Nat.le_trans hlen hn2) hr hF hb (fun H hO hS => hsp H a ns hlen hbits hO hS) fun H e s' => hCX w H s₁ e s'
theorem cx_no {P : Program} (w : World) (H : Hp) (s : Shared) (e : Value) (s' : Shared) (h : L2.CX P w [] H s (fun _ _ _ => False) e s') : False := by
  obtain ⟨_, _, _, _, _, _, _, _, _, _, _, _, z⟩ := h
  exact z
theorem end_ok {K : PySem.W.Frag} {H : Hp} {a : Addr} {ns : List Int} {m : D → Rs D} (hl : ns.length ≤ 63) (hS : SqL K H a (ns.map V.int)) (h : m (.scr (ns.map .int)) = .ok (.bl true)) :
    spM K 1 (fun ds => match ds with | [x] => m x | _ => .no) [.ref a] H (fun v _ => v = .bl true) fun _ _ _ => False := by
  refine ⟨rfl, H, [.scr (ns.map .int)], Same.refl H, .one (.scr hS (by rw [List.length_map]; exact Nat.le_trans hl (by decide)) (reps_ints ns)), ?_⟩
  show Post K (RF K) _ H H _ (m (.scr (ns.map .int)))
  rw [h]
  intro v F' H' e r
  cases r
  rfl
end VL
set_option Elab.async false
set_option linter.all false
set_option maxRecDepth 100000
set_option autoImplicit false
namespace VL
open PySem PySem.Spec L2
open PyProof.Rows hiding St

/-! ### attributes of a caught error -/
theorem exn_look {K : PySem.W.Frag} {F : Hp} {f : Str} {d : D} : ∀ {vs : List (Str × V)} {fs : List (Str × D)}, vs.map (·.1) = fs.map (·.1) → Reps K F (vs.map (·.2)) (fs.map (·.2)) → fs.lookup f = some d → ∃ v, vs.lookup f = some v ∧ Rep K F v d
  | [], [], _, _, h => by simp at h
  | [], _ :: _, h, _, _ => by simp at h
  | _ :: _, [], h, _, _ => by simp at h
  | (a, v) :: vs, (b, e) :: fs, h, r, l => by
    simp only [List.map_cons, List.cons.injEq] at h r
    obtain ⟨rfl, h2⟩ := h
    cases r with
    | cons r1 r2 =>
      rw [List.lookup_cons] at l ⊢
      cases hb : f == a with
      | true =>
        rw [hb] at l
        cases l
        exact ⟨v, rfl, r1⟩
      | false =>
        rw [hb] at l
        exact exn_look h2 r2 l
def fldX (cs : List Str) (f : Str) : D → Option D
  | .exn c fs => if cs.contains c then fs.lookup f else none
  | _ => none
def tXg (K : PySem.W.Frag) (f : Str) (te : TE) : TE := fun σ H Q => te σ H fun x H1 => ∃ (a C dd : Addr) (fs : List (Str × V)) (v : V), x = .ref a ∧ H1 a = some (xO (.ref C) (some dd) a) ∧ XfC K C ∧ PySem.W.findIn K (.ref C) f = some none ∧ H1 dd = some (.xd fs) ∧ fs.lookup f = some v ∧ Q v H1
theorem pe_xg {X : Cx} {e : Expr} {te : TE} {pos : Pos} {n : Str} (he : PE X e te) (hb : attributeBase e n X.env (eval e X.env) = eval e X.env := by rfl) : PE X (.Attribute e n pos) (tXg X.K n te) := by
  refine ⟨fun pins s σ H Q I h => attr_of hb (thn (he.run pins s σ H _ I h) fun u s1 hh => ?_)⟩
  obtain ⟨x, H1, I1, rx, a, C, dd, fs, v, ex, ea, T, hno, ed, l, q⟩ := hh
  subst ex
  obtain rfl : u = Value.ref a := rx
  obtain ⟨oe, vs, ha, hz, hd⟩ := xO_at I1.hok ea
  obtain ⟨mA, hns, hr⟩ := show ObjOk X.prog X.w H1 s1.heap dd (.xd fs) from I1.hok dd _ ed
  obtain ⟨od, ho, hl⟩ := lookIn_ns hns
  obtain ⟨u, hu, ru⟩ := RelO.some_of (v := v) (o := mA n) (by rw [← l]; exact hr n)
  have J : PySem.W.InstAt s1.heap a oe C (some od) := ⟨ha, hz.1, by unfold PySem.W.notCls; rw [hd] <;> rfl, by rw [hz.2]; exact ho⟩
  exact HandSPX.exc_get I1.kIn J T.ga T.gg T.exC (PySem.W.findObj_own T.hdC hno rfl (by rw [hl, hu])) (handed_of ru) ⟨v, H1, I1.tok _, ru, q⟩
theorem ev_xfld {X : Cx} {G : Gd} {W : WX} {ρ : Rho} {e : Expr} {m : Rs D} {pos : Pos} {f : Str} {cs : List Str} (hT : ∀ c ∈ cs, XfC X.K (He.ga X.K c) ∧ PySem.W.findIn X.K (.ref (He.ga X.K c)) f = some none) (he : EV X G W ρ e m) (hb : attributeBase e f X.env (eval e X.env) = eval e X.env := by rfl) :
    EV X G W ρ (.Attribute e f pos) (m.bind fun d => Rs.of (fldX cs f d)) := by
  obtain ⟨t, pe, q⟩ := he
  refine ⟨_, pe_xg pe hb, fun F0 σ F H Q hh hp => ?_⟩
  refine q F0 σ F H _ hh (hp.bind fun d v F' H' e1 r1 hp1 => ?_)
  obtain ⟨d2, hd, k⟩ := hp1.of
  unfold fldX at hd
  split at hd
  · split at hd
    · rename_i hc
      cases r1 with
      | exn g1 g2 g3 g4 =>
        obtain ⟨v2, l2, r2⟩ := exn_look g3 g4 hd
        obtain ⟨T, hno⟩ := hT _ (List.contains_iff_mem.mp hc)
        exact ⟨_, _, _, _, v2, rfl, e1.sub _ _ g1, T, hno, e1.sub _ _ g2, l2, k _ F' H' (Ext.refl e1.sub) r2⟩
    · cases hd
  · cases hd
end VL
set_option Elab.async false
set_option linter.all false
set_option maxRecDepth 100000
set_option autoImplicit false
namespace VL
open PySem PySem.Spec L2
open PyProof.Rows hiding St

/-! ### own errors with one field -/
def spX (K : PySem.W.Frag) (c f : Str) : Sp := fun vs H Q E => ∃ (a : Addr) (v : V), vs = [.ref a, v] ∧ H a = some (exo a (He.ga K c) none) ∧ ∀ dx, H dx = none → dx ≠ a → Q .non (upd (upd H dx (exd dx [(f, v)])) a (exo a (He.ga K c) (some dx)))
theorem keeps_xinit {P : Program} {w : World} {K : PySem.W.Frag} {mg : Str → Option Value} {base : Heap} {x qual : Str} {params : Arguments} {body : List Stmt} {scope : Scope} {dvs : List V} {kws : List (Str × V)} {fa : Addr} {fd : FuncData} {k : Nat} {c sn pn f : Str} {spos apos ppos pos : Pos}
    (Fd : FunD K x qual params body scope dvs kws fa fd) (S : FnScope [sn, pn] [sn, pn] scope) (hbody : body = [.Assign [.Attribute (.Name sn spos) f apos] (.Name pn ppos) pos]) (hs1 : Vis scope sn) (hs2 : Vis scope pn) (hd1 : (sn == ("__debug__" : Str)) = false) (hd2 : (pn == ("__debug__" : Str)) = false) (hd3 : (sn == ("__classdict__" : Str)) = false) (hd4 : (pn == ("__classdict__" : Str)) = false) (T : OexC K (He.ga K c)) (hno : PySem.W.findIn K (.ref (He.ga K c)) f = some none) :
    FnOk P w K mg base (L2.CX P w) (k + 1) fa fd [sn, pn] (spX K c f) := by
  subst hbody
  refine Fd.ok S (fun vs H Q E h => ?_) (fun cdv A outer s H vs Q E hr h => ?_)
  · obtain ⟨a, v, rfl, _⟩ := h
    rfl
  · obtain ⟨a, v, rfl, he, q⟩ := h
    refine ⟨_, pss_one (ps_ost (pe_var (i := 0) rfl hs1 hd1 hd3) (pe_var (i := 1) rfl hs2 hd2 hd4)), ?_⟩
    exact ⟨v, rfl, .ref a, rfl, a, He.ga K c, rfl, T, hno, .inl ⟨he, fun dx n1 n2 => q dx n1 n2⟩⟩
/-- raise C(e) -/
theorem bk_raiseX {CX : CXT} {X : Cx} {G : Gd} {W : WX} {ρx ρ : Rho} {rest : List Stmt} {α β : Type} {pn : α → Rho} {pl : β → Rho} {c f sn pnm : Str} {e : Expr} {m : Rs D} {p pos pos2 : Pos} {fI : Addr} {fd : FuncData} {k : Nat} (calm : X.calm = true) (tk : Takes X W) (T : OexC X.K (He.ga X.K c))
    (iC : PySem.W.findIn X.K (.ref (He.ga X.K c)) "__init__" = some (some (.ref fI))) (tI : PySem.W.typeIn X.K (.ref fI) = some (.type "function")) (F1 : FnOk X.prog X.w X.K X.mg X.base CX k fI fd [sn, pnm] (spX X.K c f)) (hr : Room (k + 1) X.A) (hb : Binds X.K fd [sn, pnm] []) (hx : Passes CX X (fun _ _ _ => False))
    (hg : Gl X c) (hm : X.mg c = some (.ref (He.ga X.K c))) (he : EV X G W ρ e m) (wx : Wk ρ ρx := by first | exact Wk.nil | exact Wk.refl | (repeat (first | exact Wk.nil | apply Wk.keep | apply Wk.drop))) (hdb : (c == ("__debug__" : Str)) = false := by decide) (hs : starEach [e] X.env = (false, eval e X.env) :: starEach [] X.env := by rfl) :
    BK X G W ρx ρ (.Raise (some (.Call (.Name c p) [e] [] pos)) none pos2 :: rest) pn pl (m.bind fun d => (.ex c [(f, d)] : Rs (Fl α β))) := by
  obtain ⟨te, pe, q⟩ := he
  intro F0 σ F H E hh hp
  refine any_cons (ps_raise calm tk (pmk_oex T iC tI F1 hr hb .nil hx hg hm (pa_cons pe pa_nil hs) hdb hs)) (q F0 σ F H _ hh (post_seq hh wx hp fun d v F' H' e1 r1 hp1 => ?_))
  refine ⟨by show 1 ≤ 1000; decide, fun a na => ⟨a, v, rfl, upd_same, fun dx n1 n2 => ⟨rfl, dx, [(f, v)], upd_same, by rw [upd_ne n2, upd_same], by rwa [upd_ne n2] at n1, ?_⟩⟩⟩
  have nd : H' dx = none := by rwa [upd_ne n2] at n1
  have eH : upd (del (upd (upd (upd H' a (exo a (He.ga X.K c) none)) dx (exd dx [(f, v)])) a (exo a (He.ga X.K c) (some dx))) a) dx (.xd [(f, v)]) = upd H' dx (.xd [(f, v)]) := by
    funext b
    by_cases h1 : b = dx
    · subst h1; rw [upd_same, upd_same]
    · rw [upd_ne h1, upd_ne h1]
      by_cases h2 : b = a
      · subst h2; rw [del_same, na]
      · rw [del_ne h2, upd_ne h2, upd_ne h1, upd_ne h2]
  rw [eH]
  have e2 := Ext.fresh e1.sub (.xd [(f, v)]) nd
  exact hp1 dx σ _ _ ((hh.more (e1.trans e2)).weak wx) ⟨[(f, v)], upd_same, rfl, .cons (r1.mono e2.ext) .nil⟩
end VL
set_option Elab.async false
set_option linter.all false
set_option maxRecDepth 100000
set_option autoImplicit false
namespace VL
open PySem PySem.Spec L2
open PyProof.Rows hiding St

/-! ### try with clauses that name the error -/
def catchM {γ : Type} : List ((Str → Option Bool) × (Str → List (Str × D) → Rs γ)) → Str → List (Str × D) → Rs γ
  | [], c, fs => .ex c fs
  | (mt, ms) :: r, c, fs => match mt c with
    | some true => ms c fs
    | some false => catchM r c fs
    | none => .no
def Rs.tryM {γ : Type} (m : Rs γ) (l : List ((Str → Option Bool) × (Str → List (Str × D) → Rs γ))) : Rs γ := match m with
  | .ok z => .ok z
  | .no => .no
  | .ex c fs => catchM l c fs
theorem gone_set {K : PySem.W.Frag} {G : Gd} {ρ : Rho} {σ : L2.St} {F H : Hp} {i : Nat} (h : Holds K G ρ σ F H) (hi : ∀ c, ρ[i]? ≠ some (some c)) : Holds K G ρ (σ.set i none) F H := by
  have e : ∀ j c, ρ[j]? = some (some c) → (σ.set i none)[j]? = σ[j]? := fun j c q => by
    rw [List.getElem?_set_ne]
    intro z
    subst z
    exact hi c q
  exact ⟨h.toGnd, fun j d q => by rw [e j _ q]; exact h.val j d q, fun j l d q => by rw [e j _ q]; exact h.own j l d q, fun j k l m d f a n q q2 s1 s2 => h.sep j k l m d f a n q q2 (by rw [← e j _ q]; exact s1) (by rw [← e k _ q2]; exact s2), by rw [List.length_set]; exact h.len⟩
section
variable {X : Cx} {G : Gd} {W : WX} {ρx ρb ρ : Rho} {α β γ : Type} {pn : α → Rho} {pl : β → Rho} {p1 : γ → Rho}
inductive Cls (X : Cx) (G : Gd) (W : WX) (ρx ρb : Rho) (p1 : γ → Rho) (pl : β → Rho) : List ExceptHandler → List ((Str → Option Bool) × (Str → List (Str × D) → Rs (Fl γ β))) → Prop
  | nil : Cls X G W ρx ρb p1 pl [] []
  | cons {x n : Str} {c : Value} {i : Nat} {b₀ : Stmt} {su : List Stmt} {np hp : Pos} {hds : List ExceptHandler} {mt : Str → Option Bool} {ms : Str → List (Str × D) → Rs (Fl γ β)} {l : List ((Str → Option Bool) × (Str → List (Str × D) → Rs (Fl γ β)))}
      (hc : Names X x c) (hi : X.N[i]? = some n) (hln : X.env.kindOf n = some .local) (hib : i < ρb.length) (hp1 : ∀ z cc, (p1 z)[i]? ≠ some (some cc)) (hpl : ∀ z cc, (pl z)[i]? ≠ some (some cc)) (hmt : ∀ cc b, mt cc = some b → PySem.W.exmOne X.K (.ref (He.ga X.K cc)) c = some b)
      (hs : ∀ (a : Addr) (qn : List (Addr × Obj)) (cc : Str) (fs : List (Str × D)), BK (X.suite a qn) G W ρx (ρb.set i (some (.val (.exn cc fs)))) (b₀ :: su) p1 pl (ms cc fs)) (r : Cls X G W ρx ρb p1 pl hds l) :
      Cls X G W ρx ρb p1 pl (.ExceptHandler (some (.Name x np)) (some n) (b₀ :: su) hp :: hds) ((mt, ms) :: l)
/-- the clauses as the kit reads them -/
theorem Cls.reads {hds : List ExceptHandler} {l : List ((Str → Option Bool) × (Str → List (Str × D) → Rs (Fl γ β)))} (h : Cls X G W ρx ρb p1 pl hds l) : ∃ l2 : List (Value × Nat × TS), HdX X hds l2 ∧
    ∀ (F0 : Hp) (D0 : Ends) (c : Str) (fs : List (Str × D)) (dd : Addr) (σ : L2.St) (F H : Hp), Holds X.K (G.at F0) ρb σ F H → XRep X.K F dd fs → PostS X.K (G.at F0) W ρx p1 pl D0 (catchM l c fs) →
      (∀ σ' F' H', Holds X.K (G.at F0) ρb σ' F' H' → Holds X.K (G.at F0) ρx σ' F' H') → wX X.K W D0 l2 (.ref (He.ga X.K c)) (some dd) σ H := by
  induction h with
  | nil => exact ⟨[], .nil, fun F0 D0 c fs dd σ F H hh hx hp wk => hp dd σ F H (wk _ _ _ hh) hx⟩
  | @cons x n c i b₀ su np hp hds mt ms l hc hi hln hib hp1 hpl hmt hs r ih =>
    obtain ⟨l2, h2, k2⟩ := ih
    refine ⟨(c, i, fun E σ H => ∀ (a : Addr) (qn : List (Addr × Obj)), tAny (X.suite a qn) (b₀ :: su) E σ H) :: l2, .cons hc hi hln (fun a qn => ⟨fun pins s σ H E I h => (h a qn).elim fun _ z => z.1.run pins s σ H E I z.2⟩) h2, ?_⟩
    intro F0 D0 cc fs dd σ F H hh hx hpo wk
    unfold catchM at hpo
    cases hm : mt cc with
    | none => rw [hm] at hpo; exact hpo.elim
    | some b =>
      rw [hm] at hpo
      refine ⟨b, hmt cc b hm, fun hb => ?_, fun hb => ?_⟩
      · subst hb
        intro a na qa qn
        have e2 := Ext.fresh hh.sub (xO (.ref (He.ga X.K cc)) (some dd) a) na
        obtain ⟨vs, x1, x2, x3⟩ := hx
        have hr : Rep X.K (upd F a (xO (.ref (He.ga X.K cc)) (some dd) a)) (.ref a) (.exn cc fs) := .exn upd_same (e2.ext _ _ x1) x2 (x3.mono e2.ext)
        refine hs qa qn cc fs F0 _ _ _ _ ((hh.more e2).setV hr hib) ?_
        cases hq : ms cc fs with
        | no => rw [hq] at hpo; exact hpo
        | ex c2 f2 => rw [hq] at hpo; exact hpo
        | ok fl =>
          rw [hq] at hpo
          cases fl with
          | nx z => exact fun σ' F' H' h' => hpo _ F' H' (gone_set h' (hp1 z))
          | bk y => exact fun σ' F' H' h' => hpo _ F' H' (gone_set h' (hpl y))
          | ct y => exact fun σ' F' H' h' => hpo _ F' H' (gone_set h' (hpl y))
          | rt d s => exact hpo
      · subst hb
        exact k2 F0 D0 cc fs dd σ F H hh hx hpo wk
/-- try: body, clauses, then the rest -/
theorem bk_try {body rest : List Stmt} {h₀ : ExceptHandler} {hds : List ExceptHandler} {pos : Pos} {l : List ((Str → Option Bool) × (Str → List (Str × D) → Rs (Fl γ β)))} {mb : Rs (Fl γ β)} {f : γ → Rs (Fl α β)}
    (hst : X.stack = X.env :: X.outer) (hf : X.env.frame = some X.env.locals) (hN : X.N.Nodup) (hx : X.ex = []) (tk : Takes X W)
    (hb : ∀ (W' : WX) (qn : List (Addr × Obj)) (xe : Value → Shared → Prop), Takes (X.tr qn xe) W' → PassesOwn (model X.prog X.w) X.A X.env xe → BK (X.tr qn xe) G W' ρb ρ body p1 pl mb)
    (hc : Cls X G W ρx ρb p1 pl (h₀ :: hds) l) (wb : Wk ρb ρx) (hr : ∀ z, BK X G W ρx (p1 z) rest pn pl (f z)) :
    BK X G W ρx ρ (.Try body (h₀ :: hds) [] [] pos :: rest) pn pl ((mb.tryM l).bind (Fl.andThen f)) := by
  obtain ⟨l2, hh2, k2⟩ := hc.reads
  intro F0 σ F H E hh hp
  refine any_cons (ps_tryX (tb := fun W' D σ H => ∀ (qn : List (Addr × Obj)) (xe : Value → Shared → Prop), Takes (X.tr qn xe) W' → PassesOwn (model X.prog X.w) X.A X.env xe → tAny (X.tr qn xe) body D σ H) hst hf hN hx tk
    (fun W' qn xe t1 t2 => ⟨fun pins s σ H D I h => (h qn xe t1 t2).elim fun _ z => z.1.run pins s σ H D I z.2⟩) hh2) ?_
  intro qn xe t1 t2
  refine hb _ qn xe t1 t2 F0 σ F H _ hh ?_
  have seq : ∀ fl : Rs (Fl γ β), PostS X.K (G.at F0) W ρx pn pl E (fl.bind (Fl.andThen f)) → PostS X.K (G.at F0) W ρx p1 pl { nx := fun σ H => tAny X rest E σ H, rt := E.rt, bk := E.bk, ct := E.ct } fl := fun fl q => by
    cases fl with
    | no => exact q
    | ex c fs => exact q
    | ok fl =>
      cases fl with
      | nx z => exact fun σ' F' H' h' => hr z F0 σ' F' H' E h' q
      | bk y => exact q
      | ct y => exact q
      | rt d s => exact q
  cases mb with
  | no => exact hp
  | ok fl => 
    have := seq (.ok fl) hp
    cases fl <;> exact this
  | ex c fs =>
    intro dd σ' F' H' h' hx'
    exact k2 F0 _ c fs dd σ' F' H' h' hx' (seq _ hp) fun _ _ _ z => z.weak wb
end
end VL
set_option Elab.async false
set_option linter.all false
set_option maxRecDepth 100000
set_option autoImplicit false
namespace VL
open PySem PySem.Spec L2
open PyProof.Rows hiding St

/-! ### isinstance of a caught error -/
structure ExI (K : PySem.W.Frag) (C : Addr) : Prop where
  cl : (PySem.W.clsIn K C).isSome = true
  ga : PySem.W.findIn K (.ref C) "__getattribute__" = some (some (.builtin "BaseException.__getattribute__"))
  gg : PySem.W.findIn K (.ref C) "__getattr__" = some none
  sb : PySem.W.subIn K (.ref C) (.type "BaseException") = some true
  ca : PySem.W.findIn K (.ref C) "__class__" = some (some (.builtin "object.__class__"))
  sp : PySem.W.specialIn K (.builtin "object.__class__") "__get__" = some (some (.builtin "getset_descriptor.__get__"))
  tk : PySem.W.takesIn K (.builtin "object.__class__") = some true
  mr : PySem.W.mroIn K C (.type "object") = some true
def exiB (C : PySem.W.Frag → Addr) : PySem.W.Frag → Bool := fun K => (PySem.W.clsIn K (C K)).isSome && (decide (PySem.W.findIn K (.ref (C K)) "__getattribute__" = some (some (.builtin "BaseException.__getattribute__"))) && (decide (PySem.W.findIn K (.ref (C K)) "__getattr__" = some none) && (decide (PySem.W.subIn K (.ref (C K)) (.type "BaseException") = some true) &&
  (decide (PySem.W.findIn K (.ref (C K)) "__class__" = some (some (.builtin "object.__class__"))) && (decide (PySem.W.specialIn K (.builtin "object.__class__") "__get__" = some (some (.builtin "getset_descriptor.__get__"))) && (decide (PySem.W.takesIn K (.builtin "object.__class__") = some true) && decide (PySem.W.mroIn K (C K) (.type "object") = some true)))))))
theorem exiB_ok {C : PySem.W.Frag → Addr} {K : PySem.W.Frag} (h : exiB C K = true) : ExI K (C K) := by
  obtain ⟨h1, h⟩ := He.ba h
  obtain ⟨h2, h⟩ := He.ba h
  obtain ⟨h3, h⟩ := He.ba h
  obtain ⟨h4, h⟩ := He.ba h
  obtain ⟨h5, h⟩ := He.ba h
  obtain ⟨h6, h⟩ := He.ba h
  obtain ⟨h7, h8⟩ := He.ba h
  exact ⟨h1, of_decide_eq_true h2, of_decide_eq_true h3, of_decide_eq_true h4, of_decide_eq_true h5, of_decide_eq_true h6, of_decide_eq_true h7, of_decide_eq_true h8⟩
def rIsiX (K : PySem.W.Frag) : List V → Hp → VK → Prop := fun xs H Q => ∃ (a C dd : Addr) (fs : List (Str × V)) (c : V) (u : Value) (b : Bool), xs = [.ref a, c] ∧ ClsV c u ∧ H a = some (xO (.ref C) (some dd) a) ∧ H dd = some (.xd fs) ∧ ExI K C ∧ PySem.W.kitOne K (.ref C) u = some b ∧ Q (.bl b) H
theorem call_isiX {X : Cx} : CallR X (.builtin "isinstance") (rIsiX X.K) := by
  intro pins s σ H xs us Q I r h
  obtain ⟨a, C, dd, fs, c, u, b, rfl, k, ea, ed, T, e, q⟩ := h
  obtain ⟨u1, u2, rfl, r1, r2⟩ := vals2 r
  have e2 := k.eq r2
  subst e2
  cases (show u1 = Value.ref a from r1)
  obtain ⟨oe, vs, ha, hz, hd⟩ := xO_at I.hok ea
  obtain ⟨mA, hns, hr⟩ := show ObjOk X.prog X.w H s.heap dd (.xd fs) from I.hok dd _ ed
  obtain ⟨od, ho, hl⟩ := lookIn_ns hns
  have J : PySem.W.InstAt s.heap a oe C (some od) := ⟨ha, hz.1, by unfold PySem.W.notCls; rw [hd] <;> rfl, by rw [hz.2]; exact ho⟩
  exact PySem.W.kia_one (PySem.W.kitx_exc T.cl T.ga T.gg T.sb T.ca T.sp T.tk T.mr) I.kIn J e (fun z => nomatch z) fun tk => ⟨.bl b, H, I.tok tk, rfl, q⟩
def isxD (tab : List (Str × Bool)) (nb : Option Bool) : D → Option D
  | .exn c _ => (tab.lookup c).map .bl
  | .non => nb.map .bl
  | _ => none
section
variable {X : Cx} {G : Gd} {W : WX} {ρ : Rho} {a : Expr} {ma : Rs D} {p p2 pos : Pos}
theorem CallR.or2 {X : Cx} {f : Value} {r1 r2 : List V → Hp → VK → Prop} (h1 : CallR X f r1) (h2 : CallR X f r2) : CallR X f (fun xs H Q => r1 xs H Q ∨ r2 xs H Q) := by
  intro pins s σ H xs us Q I r h
  rcases h with h | h
  · exact h1 _ _ _ _ _ _ _ I r h
  · exact h2 _ _ _ _ _ _ _ I r h
theorem ev_isx {tn : Str} {tab : List (Str × Bool)} {nb : Option Bool} {c : V} {u : Value} (hk : ClsV c u) (hc : PE X (.Name tn p2) (tC c)) (hm : X.mg "isinstance" = none) (ht : ∀ x ∈ tab, ExI X.K (He.ga X.K x.1) ∧ PySem.W.kitOne X.K (.ref (He.ga X.K x.1)) u = some x.2) (hn : ∀ b, nb = some b → PySem.W.kitOne X.K (.type "NoneType") u = some b) (ha : EV X G W ρ a ma) (hg : Gl X "isinstance" := by rfl)
    (hs : starEach [a, .Name tn p2] X.env = (false, eval a X.env) :: starEach [.Name tn p2] X.env := by rfl) (hs2 : starEach [.Name tn p2] X.env = (false, eval (.Name tn p2) X.env) :: starEach [] X.env := by rfl) (hpl : (backTo pos (starEach [.Name tn p2] X.env)).any (·.1) = false := by rfl) :
    EV X G W ρ (.Call (.Name "isinstance" p) [a, .Name tn p2] [] pos) (ma.bind fun x => Rs.of (isxD tab nb x)) := by
  obtain ⟨ta, pa, qa⟩ := ha
  refine ⟨_, pe_callB (CallR.or2 call_isiX call_isi) hg hm boot_isinstance (pa_cons pa (pa_cons hc pa_nil hs2) hs) (by decide) (by decide) hs hpl, fun F0 σ F H Q hh hp => ?_⟩
  refine qa F0 σ F H _ hh (hp.bind fun dx x F1 H1 e1 r1 hp1 => ?_)
  obtain ⟨d, hd, k⟩ := hp1.of
  cases r1 with
  | @exn a dd c' vs fs g1 g2 g3 g4 =>
    cases hl : tab.lookup c' with
    | none => rw [show isxD tab nb (.exn c' fs) = (tab.lookup c').map D.bl from rfl, hl] at hd; cases hd
    | some b =>
      rw [show isxD tab nb (.exn c' fs) = (tab.lookup c').map D.bl from rfl, hl] at hd
      cases hd
      have hmem : (c', b) ∈ tab := by
        clear ht hp hp1 k
        induction tab with
        | nil => cases hl
        | cons y t ih =>
          obtain ⟨y1, y2⟩ := y
          rw [List.lookup_cons] at hl
          cases hb : c' == y1 with
          | true =>
            rw [hb] at hl
            cases hl
            have := eq_of_beq hb
            subst this
            exact List.mem_cons_self
          | false =>
            rw [hb] at hl
            exact List.mem_cons_of_mem _ (ih hl)
      obtain ⟨T, hq⟩ := ht _ hmem
      exact .inl ⟨a, _, dd, vs, c, u, b, rfl, hk, e1.sub _ _ g1, e1.sub _ _ g2, T, hq, k _ F1 H1 (Ext.refl e1.sub) (.bl b)⟩
  | non =>
    cases hb : nb with
    | none => rw [show isxD tab nb .non = nb.map D.bl from rfl, hb] at hd; cases hd
    | some b =>
      rw [show isxD tab nb .non = nb.map D.bl from rfl, hb] at hd
      cases hd
      exact .inr ⟨.non, c, .type "NoneType", u, b, rfl, hk, .base .non, hn b hb, k _ F1 H1 (Ext.refl e1.sub) (.bl b)⟩
  | _ => cases hd
end

theorem all_nil {α : Type} {p : α → Prop} : ∀ x ∈ ([] : List α), p x := fun _ h => nomatch h
theorem all_cons {α : Type} {p : α → Prop} {a : α} {l : List α} (h : p a) (t : ∀ x ∈ l, p x) : ∀ x ∈ a :: l, p x := List.forall_mem_cons.mpr ⟨h, t⟩
theorem lookup_mem {α : Type} : ∀ {tab : List (Str × α)} {c : Str} {b : α}, tab.lookup c = some b → (c, b) ∈ tab
  | [], _, _, h => nomatch h
  | (y, z) :: t, c, b, h => by
    rw [List.lookup_cons] at h
    cases hb : c == y with
    | true =>
      rw [hb] at h
      cases h
      have := eq_of_beq hb
      subst this
      exact List.mem_cons_self
    | false =>
      rw [hb] at h
      exact List.mem_cons_of_mem _ (lookup_mem h)
theorem mt_of {K : PySem.W.Frag} {c : Value} {tab : List (Str × Bool)} (h : ∀ x ∈ tab, PySem.W.exmOne K (.ref (He.ga K x.1)) c = some x.2) : ∀ cc b, List.lookup cc tab = some b → PySem.W.exmOne K (.ref (He.ga K cc)) c = some b := fun cc b e => h _ (lookup_mem e)
/-! ### defs that fall off, raise and try in blocks of one way -/
theorem keeps_fall {P : Program} {w : World} {K : PySem.W.Frag} {mg : Str → Option Value} {base : Heap} {x qual : Str} {params : Arguments} {body : List Stmt} {scope : Scope} {dvs : List V} {kws : List (Str × V)} {f : Addr} {fd : FuncData} {N ps : List Str} {k : Nat} {m : List D → Rs D} {mn : List D → Rs Unit}
    (Fd : FunD K x qual params body scope dvs kws f fd) (S : FnScope N ps scope) (hm : ∀ ds, ds.length = ps.length → m ds = (mn ds).bind fun _ => .ok .non)
    (hb : ∀ (cdv : Value) (A : Around) (outer : List Env) (s : Shared) (H : Hp) (E : XK) (F : Hp) (ds : List D), ds.length = ps.length → Room k (A.deeper (envOfC qual scope s.heap.objs.size f cdv)) →
      BI (cxOf (L2.CX P w) P w K mg base N qual scope f cdv A outer s H E) ⟨F, H, []⟩ (fun c d _ H => E c d H) [] (ds.map (fun d => some (Cl.val d)) ++ List.replicate (N.length - ds.length) none) body (fun _ : Unit => []) (fun _ : Unit => []) Fl.nx (mn ds)) :
    Keeps P w K mg base (k + 1) f fd ps m := by
  refine keeps_of Fd S fun cdv A outer s H E F ds hl hr => ⟨_, ?_, hb cdv A outer s H E F ds hl hr⟩
  rw [hm ds hl]
  cases mn ds <;> rfl
theorem passes_no {P : Program} {w : World} {X : Cx} : Passes (L2.CX P w) X (fun _ _ _ => False) := fun pins σ H s e s' I h => by
  obtain ⟨_, _, _, _, _, _, _, _, _, _, _, _, z⟩ := h
  exact z.elim
section
variable {X : Cx} {G : Gd} {W : WX} {ρx ρ : Rho} {rest sts : List Stmt} {α β R : Type} {pn : α → Rho} {pl : β → Rho} {ι : R → Fl α β}
theorem bi_raiseX {P : Program} {w : World} {c f sn pnm : Str} {e : Expr} {m : Rs D} {p pos pos2 : Pos} {fI : Addr} {fd : FuncData} {k : Nat} (calm : X.calm = true) (tk : Takes X W) (T : OexC X.K (He.ga X.K c))
    (iC : PySem.W.findIn X.K (.ref (He.ga X.K c)) "__init__" = some (some (.ref fI))) (tI : PySem.W.typeIn X.K (.ref fI) = some (.type "function")) (F1 : FnOk X.prog X.w X.K X.mg X.base (L2.CX P w) k fI fd [sn, pnm] (spX X.K c f)) (hr : Room (k + 1) X.A) (hb : Binds X.K fd [sn, pnm] [])
    (hg : Gl X c) (hm : X.mg c = some (.ref (He.ga X.K c))) (he : EV X G W ρ e m) (wx : Wk ρ ρx := by first | exact Wk.nil | exact Wk.refl | (repeat (first | exact Wk.nil | apply Wk.keep | apply Wk.drop))) (hdb : (c == ("__debug__" : Str)) = false := by decide) (hs : starEach [e] X.env = (false, eval e X.env) :: starEach [] X.env := by rfl) :
    BI X G W ρx ρ (.Raise (some (.Call (.Name c p) [e] [] pos)) none pos2 :: rest) pn pl ι (m.bind fun d => (.ex c [(f, d)] : Rs R)) := by
  unfold BI
  have z := bk_raiseX (pn := pn) (pl := pl) (rest := rest) (p := p) (pos := pos) (pos2 := pos2) (ρx := ρx) calm tk T iC tI F1 hr hb passes_no hg hm he wx hdb hs
  have e2 : ((m.bind fun d => (.ex c [(f, d)] : Rs R)).bind fun r => (.ok (ι r) : Rs (Fl α β))) = m.bind fun d => (.ex c [(f, d)] : Rs (Fl α β)) := by cases m <;> rfl
  rw [e2]
  exact z
theorem tryM_bind {γ : Type} {m : Rs γ} {l : List ((Str → Option Bool) × (Str → List (Str × D) → Rs γ))} {f : γ → Rs R} : ((m.bind fun r => (.ok (.nx r) : Rs (Fl γ β))).tryM (l.map fun x => (x.1, fun c fs => (x.2 c fs).bind fun r => .ok (.nx r)))).bind (Fl.andThen fun z => (f z).bind fun r => (.ok (ι r) : Rs (Fl α β))) = ((m.tryM l).bind f).bind fun r => .ok (ι r) := by
  cases m with
  | ok z => rfl
  | no => rfl
  | ex c fs =>
    show (catchM (l.map _) c fs).bind _ = ((catchM l c fs).bind f).bind _
    induction l with
    | nil => rfl
    | cons x t ih =>
      obtain ⟨mt, ms⟩ := x
      simp only [List.map_cons, catchM]
      cases mt c with
      | none => rfl
      | some b =>
        cases b with
        | true =>
          show ((ms c fs).bind _).bind _ = ((ms c fs).bind f).bind _
          cases ms c fs <;> rfl
        | false => exact ih
/-- clauses in blocks of one way -/
inductive ClsI (X : Cx) (G : Gd) (W : WX) (ρx ρb : Rho) {γ : Type} (p1 : γ → Rho) (pl : β → Rho) : List ExceptHandler → List ((Str → Option Bool) × (Str → List (Str × D) → Rs γ)) → Prop
  | nil : ClsI X G W ρx ρb p1 pl [] []
  | cons {x n : Str} {c : Value} {i : Nat} {b₀ : Stmt} {su : List Stmt} {np hp : Pos} {hds : List ExceptHandler} {mt : Str → Option Bool} {ms : Str → List (Str × D) → Rs γ} {l : List ((Str → Option Bool) × (Str → List (Str × D) → Rs γ))}
      (hc : Names X x c) (hi : X.N[i]? = some n) (hln : X.env.kindOf n = some .local) (hib : i < ρb.length) (hp1 : ∀ z cc, (p1 z)[i]? ≠ some (some cc)) (hpl : ∀ z cc, (pl z)[i]? ≠ some (some cc)) (hmt : ∀ cc b, mt cc = some b → PySem.W.exmOne X.K (.ref (He.ga X.K cc)) c = some b)
      (hs : ∀ (a : Addr) (qn : List (Addr × Obj)) (cc : Str) (fs : List (Str × D)), BI (X.suite a qn) G W ρx (ρb.set i (some (.val (.exn cc fs)))) (b₀ :: su) p1 pl Fl.nx (ms cc fs)) (r : ClsI X G W ρx ρb p1 pl hds l) :
      ClsI X G W ρx ρb p1 pl (.ExceptHandler (some (.Name x np)) (some n) (b₀ :: su) hp :: hds) ((mt, ms) :: l)
theorem ClsI.cls {ρb : Rho} {γ : Type} {p1 : γ → Rho} {hds : List ExceptHandler} {l : List ((Str → Option Bool) × (Str → List (Str × D) → Rs γ))} (h : ClsI X G W ρx ρb p1 pl hds l) : Cls X G W ρx ρb p1 pl hds (l.map fun x => (x.1, fun c fs => (x.2 c fs).bind fun r => .ok (.nx r))) := by
  induction h with
  | nil => exact .nil
  | cons hc hi hln hib hp1 hpl hmt hs r ih => exact .cons hc hi hln hib hp1 hpl hmt hs ih
theorem bi_try {ρb : Rho} {γ : Type} {p1 : γ → Rho} {body : List Stmt} {h₀ : ExceptHandler} {hds : List ExceptHandler} {pos : Pos} {l : List ((Str → Option Bool) × (Str → List (Str × D) → Rs γ))} {mb : Rs γ} {f : γ → Rs R}
    (hst : X.stack = X.env :: X.outer) (hf : X.env.frame = some X.env.locals) (hN : X.N.Nodup) (hx : X.ex = []) (tk : Takes X W)
    (hb : ∀ (W' : WX) (qn : List (Addr × Obj)) (xe : Value → Shared → Prop), Takes (X.tr qn xe) W' → PassesOwn (model X.prog X.w) X.A X.env xe → BI (X.tr qn xe) G W' ρb ρ body p1 pl Fl.nx mb)
    (hc : ClsI X G W ρx ρb p1 pl (h₀ :: hds) l) (wb : Wk ρb ρx) (hr : ∀ z, BI X G W ρx (p1 z) rest pn pl ι (f z)) :
    BI X G W ρx ρ (.Try body (h₀ :: hds) [] [] pos :: rest) pn pl ι ((mb.tryM l).bind f) := by
  unfold BI
  rw [← tryM_bind]
  exact bk_try hst hf hN hx tk hb hc.cls wb hr
end
end VL
set_option Elab.async false
set_option linter.all false
set_option maxRecDepth 100000
set_option autoImplicit false
namespace VL
open PySem PySem.Spec L2
open PyProof.Rows hiding St

/-! ### list + list, as a new list -/
def catL : D → D → Option (List D)
  | .lst xs, .lst ys => if xs.length + ys.length ≤ sizeLine then some (xs ++ ys) else none
  | _, _ => none
theorem ef_cat {X : Cx} {G : Gd} {W : WX} {ρ : Rho} {a b : Expr} {ma mb : Rs D} {pos : Pos} (ha : EO X G W ρ a ma) (hb : EO X G W ρ b mb) : EF X G W ρ (.BinOp a .Add b pos) (ma.bind fun x => mb.bind fun y => Rs.of (catL x y)) := by
  obtain ⟨ta, pa, qa⟩ := ha
  obtain ⟨tb, pb, qb⟩ := hb
  refine ⟨_, pe_op op_cat pa pb, fun F0 σ F H Q hh hp => ?_⟩
  refine qa F0 σ F H _ hh (hp.bind fun dx x F1 H1 e1 r1 hp1 => ?_)
  refine qb F0 σ F1 H1 _ (hh.more e1) (hp1.bind fun dy y F2 H2 e2 r2 hp2 => ?_)
  obtain ⟨d, hd, k⟩ := hp2.of
  unfold catL at hd
  split at hd
  · split at hd
    · cases hd
      obtain ⟨a', xs, rfl, ha', la, ra⟩ := (r1.more e2).lst e2.sub
      obtain ⟨b', ys, rfl, hb', lb, rb⟩ := r2.lst e2.sub
      have l2 : xs.length + ys.length ≤ sizeLine := by rw [ra.length, rb.length]; assumption
      refine ⟨a', b', xs, ys, rfl, rfl, ha', hb', l2, fun p hn => k _ F2 _ (Ext.loose e2.sub _ hn) ⟨p, rfl, e1.same.free (e2.same.free hn), sub_none e2.sub hn, .lst upd_same (by rw [List.length_append]; exact l2) (ra.append rb)⟩⟩
    · cases hd
  · cases hd

/-! ### several parts -/
inductive Cells (K : PySem.W.Frag) (F H : Hp) : Hp → List (Bool × D) → List V → Prop
  | nil {Hk : Hp} : Cells K F H Hk [] []
  | cons {Hk Hn : Hp} {o : Bool} {v : V} {d : D} {ps : List (Bool × D)} {vs : List V} : CellOk K Hk F H o v d → (∀ a, Hn a = none → Hk a = none) → (o = true → ∀ a, v = .ref a → Hn a ≠ none) → Cells K F H Hn ps vs → Cells K F H Hk ((o, d) :: ps) (v :: vs)
theorem Cells.more {K : PySem.W.Frag} {F H F' H' Hk : Hp} {ps : List (Bool × D)} {vs : List V} (e : Ext F H F' H') (h : Cells K F H Hk ps vs) : Cells K F' H' Hk ps vs := by
  induction h with
  | nil => exact .nil
  | cons c n1 n2 _ ih => exact .cons (c.more e) n1 n2 ih
def setR : Rho → List Nat → List (Bool × D) → Rho
  | ρ, i :: is, p :: ps => setR (ρ.set i (some (clOf p.1 p.2))) is ps
  | ρ, _, _ => ρ
def setS : L2.St → List Nat → List V → L2.St
  | σ, i :: is, v :: vs => setS (σ.set i (some v)) is vs
  | σ, _, _ => σ
theorem Holds.setCs {K : PySem.W.Frag} {G : Gd} {F H : Hp} : ∀ {ps : List (Bool × D)} {vs : List V} {Hk : Hp} {ρ : Rho} {σ : L2.St} {is : List Nat}, Cells K F H Hk ps vs → Holds K G ρ σ F H →
    (∀ a, Hk a = none → OwnAt G a true ∧ ∀ (j : Nat) (m : Bool) (e : D), ρ[j]? = some (some (.own m e)) → σ[j]? ≠ some (some (.ref a))) → (∀ i ∈ is, i < ρ.length) → Holds K G (setR ρ is ps) (setS σ is vs) F H
  | _, _, _, _, _, is, .nil, hh, _, _ => by cases is <;> exact hh
  | _, _, _, _, _, [], .cons _ _ _ _, hh, _, _ => hh
  | (o, d) :: ps, v :: vs, Hk, ρ, σ, i :: is, .cons c n1 n2 r, hh, hf, hi => by
    have hil : i < ρ.length := hi i List.mem_cons_self
    refine Holds.setCs (ρ := ρ.set i (some (clOf o d))) (σ := σ.set i (some v)) (is := is) r (hh.setC c (fun a _ ha => hf a ha) hil) (fun a ha => ?_) (fun j hj => by rw [List.length_set]; exact hi j (List.mem_cons_of_mem _ hj))
    obtain ⟨g1, g2⟩ := hf a (n1 a ha)
    refine ⟨g1, fun k m e q => ?_⟩
    rcases set_at q with ⟨rfl, z⟩ | ⟨n, z⟩
    · rw [List.getElem?_set_self (by have := hh.len; omega)]
      intro q2
      cases q2
      cases o with
      | false => cases z
      | true => exact n2 rfl a rfl ha
    · rw [List.getElem?_set_ne n]
      exact g2 k m e z
theorem cell_there {K : PySem.W.Frag} {Hs F H : Hp} {o : Bool} {v : V} {d : D} (c : CellOk K Hs F H o v d) (ho : o = true) : ∀ a, v = .ref a → H a ≠ none := fun a ea hn => by
  subst ho
  obtain ⟨a', ea', _, _, h4⟩ := c
  rw [ea] at ea'
  cases ea'
  obtain ⟨o', ho', nt_⟩ := h4.there
  rw [hn] at ho'
  cases ho'
theorem free_of {K : PySem.W.Frag} {G : Gd} {ρ : Rho} {σ : L2.St} {F H : Hp} (hh : Holds K G ρ σ F H) : ∀ a, H a = none → OwnAt G a true ∧ ∀ (j : Nat) (m : Bool) (e : D), ρ[j]? = some (some (.own m e)) → σ[j]? ≠ some (some (.ref a)) :=
  fun a ha => ⟨hh.toGnd.free0 ha, fun k m e q => hh.notOwn ha k m e q⟩
section
variable {X : Cx} {G : Gd} {W : WX} {ρx ρ : Rho} {rest sts : List Stmt} {α β R : Type} {pn : α → Rho} {pl : β → Rho} {ι : R → Fl α β} {i : Nat} {l : Bool} {s : List D}
theorem bi_dsp2 {γ1 : Type} {o1 : Bool} {w1 : γ1 → D} {i1 : Nat} {e1 : Expr} {ma1 : Rs γ1} {γ2 : Type} {o2 : Bool} {w2 : γ2 → D} {i2 : Nat} {e2 : Expr} {ma2 : Rs γ2} {a1 a2 : Expr} {kt k2 : Nat} {pt pt2 pos : Pos} {f : γ1 → γ2 → Rs R} (calm : X.calm = true)
    (hg1 : PG X a1 (gName i1)) (hg2 : PG X a2 (gName i2))
    (h1 : EC X G W ρ o1 e1 w1 ma1) (h2 : EC X G W ρ o2 e2 w2 ma2)
    (hr : ∀ d1 d2, BI X G W ρx ((ρ.set i1 (some (clOf o1 (w1 d1)))).set i2 (some (clOf o2 (w2 d2)))) rest pn pl ι (f d1 d2))
    (hw : swappedStores [.Tuple [a1, a2] kt pt] (.Tuple [e1, e2] k2 pt2) X.env = pure none := by rfl) (hs : swapsWithSole [.Tuple [a1, a2] kt pt] (.Tuple [e1, e2] k2 pt2) pos.line X.env = pure false := by rfl)
    (hs1 : starEach [e1, e2] X.env = (false, eval e1 X.env) :: starEach [e2] X.env := by rfl)
    (hs2 : starEach [e2] X.env = (false, eval e2 X.env) :: starEach [] X.env := by rfl)
    (ht : (assignEach [.Tuple [a1, a2] kt pt] X.env).map (·.2) = [assign (.Tuple [a1, a2] kt pt) X.env] := by rfl) (hn : (assignEach [a1, a2] X.env).length = 2 := by rfl) (hst : (assignEach [a1, a2] X.env).findIdx? (·.1) = none := by rfl)
    (hq1 : (assignEach [a1, a2] X.env).map (·.2) = assign a1 X.env :: (assignEach [a2] X.env).map (·.2) := by rfl)
    (hq2 : (assignEach [a2] X.env).map (·.2) = assign a2 X.env :: (assignEach [] X.env).map (·.2) := by rfl)
    (hl1 : i1 < ρ.length := by exact Nat.le_of_ble_eq_true rfl) (hl2 : i2 < ρ.length := by exact Nat.le_of_ble_eq_true rfl) (wx : Wk ρ ρx := by first | exact Wk.nil | exact Wk.refl | (repeat (first | exact Wk.nil | apply Wk.keep | apply Wk.drop))) :
    BI X G W ρx ρ (.Assign [.Tuple [a1, a2] kt pt] (.Tuple [e1, e2] k2 pt2) pos :: rest) pn pl ι (ma1.bind fun d1 => ma2.bind fun d2 => f d1 d2) := by
  obtain ⟨t1, p1, q1⟩ := h1
  obtain ⟨t2, p2, q2⟩ := h2
  intro F0 σ F H E hh hp
  have e2 : ((ma1.bind fun d1 => ma2.bind fun d2 => f d1 d2).bind fun r => (.ok (ι r) : Rs (Fl α β))) = ma1.bind fun d1 => ma2.bind fun d2 => (f d1 d2).bind fun r => .ok (ι r) := by
    simp only [Rs.assoc]
  rw [e2] at hp
  refine any_cons (ps_asg (pe_tup (pa_cons p1 (pa_cons p2 pa_nil hs2) hs1)) (pg_tup calm (pgs_cons hg1 (pgs_cons hg2 pgs_nil hq2) hq1) hn hst) hs hw ht) ?_
  refine q1 F0 σ F H _ hh (post_seq hh wx hp fun d1 v1 F1 H1 x1_ r1 hp1 => ?_)
  refine q2 F0 σ F1 H1 _ (hh.more x1_) (post_seq (hh.more x1_) wx hp1 fun d2 v2 F2 H2 x2_ r2 hp2 => ?_)
  refine ⟨by show 2 ≤ sizeLine; decide, fun p hn0 => ?_⟩
  have e3 : Ext F2 H2 F2 (upd H2 p (.tup [v1, v2])) := Ext.loose x2_.sub _ hn0
  refine ⟨p, [v1, v2], rfl, .inl (.inl upd_same), rfl, ?_⟩
  refine ⟨_, _, rfl, _, _, rfl, rfl, ?_⟩
  exact hr d1 d2 F0 _ F2 _ E (Holds.setCs (is := [i1, i2]) (Cells.more e3 (Cells.cons (Hn := H1) (CellOk.more x2_ r1) (fun a ha => x1_.same.free ha) (fun ho => cell_there r1 ho) (Cells.cons (Hn := H2) r2 (fun a ha => x2_.same.free ha) (fun ho => cell_there r2 ho) (Cells.nil (Hk := H2))))) (((hh.more x1_).more x2_).more e3) (free_of hh) (fun j hj => by simp only [List.mem_cons, List.not_mem_nil, or_false] at hj; rcases hj with rfl | rfl <;> assumption)) hp2
theorem bi_dsp3 {γ1 : Type} {o1 : Bool} {w1 : γ1 → D} {i1 : Nat} {e1 : Expr} {ma1 : Rs γ1} {γ2 : Type} {o2 : Bool} {w2 : γ2 → D} {i2 : Nat} {e2 : Expr} {ma2 : Rs γ2} {γ3 : Type} {o3 : Bool} {w3 : γ3 → D} {i3 : Nat} {e3 : Expr} {ma3 : Rs γ3} {a1 a2 a3 : Expr} {kt k2 : Nat} {pt pt2 pos : Pos} {f : γ1 → γ2 → γ3 → Rs R} (calm : X.calm = true)
    (hg1 : PG X a1 (gName i1)) (hg2 : PG X a2 (gName i2)) (hg3 : PG X a3 (gName i3))
    (h1 : EC X G W ρ o1 e1 w1 ma1) (h2 : EC X G W ρ o2 e2 w2 ma2) (h3 : EC X G W ρ o3 e3 w3 ma3)
    (hr : ∀ d1 d2 d3, BI X G W ρx (((ρ.set i1 (some (clOf o1 (w1 d1)))).set i2 (some (clOf o2 (w2 d2)))).set i3 (some (clOf o3 (w3 d3)))) rest pn pl ι (f d1 d2 d3))
    (hw : swappedStores [.Tuple [a1, a2, a3] kt pt] (.Tuple [e1, e2, e3] k2 pt2) X.env = pure none := by rfl) (hs : swapsWithSole [.Tuple [a1, a2, a3] kt pt] (.Tuple [e1, e2, e3] k2 pt2) pos.line X.env = pure false := by rfl)
    (hs1 : starEach [e1, e2, e3] X.env = (false, eval e1 X.env) :: starEach [e2, e3] X.env := by rfl)
    (hs2 : starEach [e2, e3] X.env = (false, eval e2 X.env) :: starEach [e3] X.env := by rfl)
    (hs3 : starEach [e3] X.env = (false, eval e3 X.env) :: starEach [] X.env := by rfl)
    (ht : (assignEach [.Tuple [a1, a2, a3] kt pt] X.env).map (·.2) = [assign (.Tuple [a1, a2, a3] kt pt) X.env] := by rfl) (hn : (assignEach [a1, a2, a3] X.env).length = 3 := by rfl) (hst : (assignEach [a1, a2, a3] X.env).findIdx? (·.1) = none := by rfl)
    (hq1 : (assignEach [a1, a2, a3] X.env).map (·.2) = assign a1 X.env :: (assignEach [a2, a3] X.env).map (·.2) := by rfl)
    (hq2 : (assignEach [a2, a3] X.env).map (·.2) = assign a2 X.env :: (assignEach [a3] X.env).map (·.2) := by rfl)
    (hq3 : (assignEach [a3] X.env).map (·.2) = assign a3 X.env :: (assignEach [] X.env).map (·.2) := by rfl)
    (hl1 : i1 < ρ.length := by exact Nat.le_of_ble_eq_true rfl) (hl2 : i2 < ρ.length := by exact Nat.le_of_ble_eq_true rfl) (hl3 : i3 < ρ.length := by exact Nat.le_of_ble_eq_true rfl) (wx : Wk ρ ρx := by first | exact Wk.nil | exact Wk.refl | (repeat (first | exact Wk.nil | apply Wk.keep | apply Wk.drop))) :
    BI X G W ρx ρ (.Assign [.Tuple [a1, a2, a3] kt pt] (.Tuple [e1, e2, e3] k2 pt2) pos :: rest) pn pl ι (ma1.bind fun d1 => ma2.bind fun d2 => ma3.bind fun d3 => f d1 d2 d3) := by
  obtain ⟨t1, p1, q1⟩ := h1
  obtain ⟨t2, p2, q2⟩ := h2
  obtain ⟨t3, p3, q3⟩ := h3
  intro F0 σ F H E hh hp
  have e2 : ((ma1.bind fun d1 => ma2.bind fun d2 => ma3.bind fun d3 => f d1 d2 d3).bind fun r => (.ok (ι r) : Rs (Fl α β))) = ma1.bind fun d1 => ma2.bind fun d2 => ma3.bind fun d3 => (f d1 d2 d3).bind fun r => .ok (ι r) := by
    simp only [Rs.assoc]
  rw [e2] at hp
  refine any_cons (ps_asg (pe_tup (pa_cons p1 (pa_cons p2 (pa_cons p3 pa_nil hs3) hs2) hs1)) (pg_tup calm (pgs_cons hg1 (pgs_cons hg2 (pgs_cons hg3 pgs_nil hq3) hq2) hq1) hn hst) hs hw ht) ?_
  refine q1 F0 σ F H _ hh (post_seq hh wx hp fun d1 v1 F1 H1 x1_ r1 hp1 => ?_)
  refine q2 F0 σ F1 H1 _ (hh.more x1_) (post_seq (hh.more x1_) wx hp1 fun d2 v2 F2 H2 x2_ r2 hp2 => ?_)
  refine q3 F0 σ F2 H2 _ ((hh.more x1_).more x2_) (post_seq ((hh.more x1_).more x2_) wx hp2 fun d3 v3 F3 H3 x3_ r3 hp3 => ?_)
  refine ⟨by show 3 ≤ sizeLine; decide, fun p hn0 => ?_⟩
  have e3 : Ext F3 H3 F3 (upd H3 p (.tup [v1, v2, v3])) := Ext.loose x3_.sub _ hn0
  refine ⟨p, [v1, v2, v3], rfl, .inl (.inl upd_same), rfl, ?_⟩
  refine ⟨_, _, rfl, _, _, rfl, _, _, rfl, rfl, ?_⟩
  exact hr d1 d2 d3 F0 _ F3 _ E (Holds.setCs (is := [i1, i2, i3]) (Cells.more e3 (Cells.cons (Hn := H1) (CellOk.more x3_ (CellOk.more x2_ r1)) (fun a ha => x1_.same.free ha) (fun ho => cell_there r1 ho) (Cells.cons (Hn := H2) (CellOk.more x3_ r2) (fun a ha => x2_.same.free ha) (fun ho => cell_there r2 ho) (Cells.cons (Hn := H3) r3 (fun a ha => x3_.same.free ha) (fun ho => cell_there r3 ho) (Cells.nil (Hk := H3)))))) ((((hh.more x1_).more x2_).more x3_).more e3) (free_of hh) (fun j hj => by simp only [List.mem_cons, List.not_mem_nil, or_false] at hj; rcases hj with rfl | rfl | rfl <;> assumption)) hp3
theorem bi_dsp4 {γ1 : Type} {o1 : Bool} {w1 : γ1 → D} {i1 : Nat} {e1 : Expr} {ma1 : Rs γ1} {γ2 : Type} {o2 : Bool} {w2 : γ2 → D} {i2 : Nat} {e2 : Expr} {ma2 : Rs γ2} {γ3 : Type} {o3 : Bool} {w3 : γ3 → D} {i3 : Nat} {e3 : Expr} {ma3 : Rs γ3} {γ4 : Type} {o4 : Bool} {w4 : γ4 → D} {i4 : Nat} {e4 : Expr} {ma4 : Rs γ4} {a1 a2 a3 a4 : Expr} {kt k2 : Nat} {pt pt2 pos : Pos} {f : γ1 → γ2 → γ3 → γ4 → Rs R} (calm : X.calm = true)
    (hg1 : PG X a1 (gName i1)) (hg2 : PG X a2 (gName i2)) (hg3 : PG X a3 (gName i3)) (hg4 : PG X a4 (gName i4))
    (h1 : EC X G W ρ o1 e1 w1 ma1) (h2 : EC X G W ρ o2 e2 w2 ma2) (h3 : EC X G W ρ o3 e3 w3 ma3) (h4 : EC X G W ρ o4 e4 w4 ma4)
    (hr : ∀ d1 d2 d3 d4, BI X G W ρx ((((ρ.set i1 (some (clOf o1 (w1 d1)))).set i2 (some (clOf o2 (w2 d2)))).set i3 (some (clOf o3 (w3 d3)))).set i4 (some (clOf o4 (w4 d4)))) rest pn pl ι (f d1 d2 d3 d4))
    (hw : swappedStores [.Tuple [a1, a2, a3, a4] kt pt] (.Tuple [e1, e2, e3, e4] k2 pt2) X.env = pure none := by rfl) (hs : swapsWithSole [.Tuple [a1, a2, a3, a4] kt pt] (.Tuple [e1, e2, e3, e4] k2 pt2) pos.line X.env = pure false := by rfl)
    (hs1 : starEach [e1, e2, e3, e4] X.env = (false, eval e1 X.env) :: starEach [e2, e3, e4] X.env := by rfl)
    (hs2 : starEach [e2, e3, e4] X.env = (false, eval e2 X.env) :: starEach [e3, e4] X.env := by rfl)
    (hs3 : starEach [e3, e4] X.env = (false, eval e3 X.env) :: starEach [e4] X.env := by rfl)
    (hs4 : starEach [e4] X.env = (false, eval e4 X.env) :: starEach [] X.env := by rfl)
    (ht : (assignEach [.Tuple [a1, a2, a3, a4] kt pt] X.env).map (·.2) = [assign (.Tuple [a1, a2, a3, a4] kt pt) X.env] := by rfl) (hn : (assignEach [a1, a2, a3, a4] X.env).length = 4 := by rfl) (hst : (assignEach [a1, a2, a3, a4] X.env).findIdx? (·.1) = none := by rfl)
    (hq1 : (assignEach [a1, a2, a3, a4] X.env).map (·.2) = assign a1 X.env :: (assignEach [a2, a3, a4] X.env).map (·.2) := by rfl)
    (hq2 : (assignEach [a2, a3, a4] X.env).map (·.2) = assign a2 X.env :: (assignEach [a3, a4] X.env).map (·.2) := by rfl)
    (hq3 : (assignEach [a3, a4] X.env).map (·.2) = assign a3 X.env :: (assignEach [a4] X.env).map (·.2) := by rfl)
    (hq4 : (assignEach [a4] X.env).map (·.2) = assign a4 X.env :: (assignEach [] X.env).map (·.2) := by rfl)
    (hl1 : i1 < ρ.length := by exact Nat.le_of_ble_eq_true rfl) (hl2 : i2 < ρ.length := by exact Nat.le_of_ble_eq_true rfl) (hl3 : i3 < ρ.length := by exact Nat.le_of_ble_eq_true rfl) (hl4 : i4 < ρ.length := by exact Nat.le_of_ble_eq_true rfl) (wx : Wk ρ ρx := by first | exact Wk.nil | exact Wk.refl | (repeat (first | exact Wk.nil | apply Wk.keep | apply Wk.drop))) :
    BI X G W ρx ρ (.Assign [.Tuple [a1, a2, a3, a4] kt pt] (.Tuple [e1, e2, e3, e4] k2 pt2) pos :: rest) pn pl ι (ma1.bind fun d1 => ma2.bind fun d2 => ma3.bind fun d3 => ma4.bind fun d4 => f d1 d2 d3 d4) := by
  obtain ⟨t1, p1, q1⟩ := h1
  obtain ⟨t2, p2, q2⟩ := h2
  obtain ⟨t3, p3, q3⟩ := h3
  obtain ⟨t4, p4, q4⟩ := h4
  intro F0 σ F H E hh hp
  have e2 : ((ma1.bind fun d1 => ma2.bind fun d2 => ma3.bind fun d3 => ma4.bind fun d4 => f d1 d2 d3 d4).bind fun r => (.ok (ι r) : Rs (Fl α β))) = ma1.bind fun d1 => ma2.bind fun d2 => ma3.bind fun d3 => ma4.bind fun d4 => (f d1 d2 d3 d4).bind fun r => .ok (ι r) := by
    simp only [Rs.assoc]
  rw [e2] at hp
  refine any_cons (ps_asg (pe_tup (pa_cons p1 (pa_cons p2 (pa_cons p3 (pa_cons p4 pa_nil hs4) hs3) hs2) hs1)) (pg_tup calm (pgs_cons hg1 (pgs_cons hg2 (pgs_cons hg3 (pgs_cons hg4 pgs_nil hq4) hq3) hq2) hq1) hn hst) hs hw ht) ?_
  refine q1 F0 σ F H _ hh (post_seq hh wx hp fun d1 v1 F1 H1 x1_ r1 hp1 => ?_)
  refine q2 F0 σ F1 H1 _ (hh.more x1_) (post_seq (hh.more x1_) wx hp1 fun d2 v2 F2 H2 x2_ r2 hp2 => ?_)
  refine q3 F0 σ F2 H2 _ ((hh.more x1_).more x2_) (post_seq ((hh.more x1_).more x2_) wx hp2 fun d3 v3 F3 H3 x3_ r3 hp3 => ?_)
  refine q4 F0 σ F3 H3 _ (((hh.more x1_).more x2_).more x3_) (post_seq (((hh.more x1_).more x2_).more x3_) wx hp3 fun d4 v4 F4 H4 x4_ r4 hp4 => ?_)
  refine ⟨by show 4 ≤ sizeLine; decide, fun p hn0 => ?_⟩
  have e3 : Ext F4 H4 F4 (upd H4 p (.tup [v1, v2, v3, v4])) := Ext.loose x4_.sub _ hn0
  refine ⟨p, [v1, v2, v3, v4], rfl, .inl (.inl upd_same), rfl, ?_⟩
  refine ⟨_, _, rfl, _, _, rfl, _, _, rfl, _, _, rfl, rfl, ?_⟩
  exact hr d1 d2 d3 d4 F0 _ F4 _ E (Holds.setCs (is := [i1, i2, i3, i4]) (Cells.more e3 (Cells.cons (Hn := H1) (CellOk.more x4_ (CellOk.more x3_ (CellOk.more x2_ r1))) (fun a ha => x1_.same.free ha) (fun ho => cell_there r1 ho) (Cells.cons (Hn := H2) (CellOk.more x4_ (CellOk.more x3_ r2)) (fun a ha => x2_.same.free ha) (fun ho => cell_there r2 ho) (Cells.cons (Hn := H3) (CellOk.more x4_ r3) (fun a ha => x3_.same.free ha) (fun ho => cell_there r3 ho) (Cells.cons (Hn := H4) r4 (fun a ha => x4_.same.free ha) (fun ho => cell_there r4 ho) (Cells.nil (Hk := H4))))))) (((((hh.more x1_).more x2_).more x3_).more x4_).more e3) (free_of hh) (fun j hj => by simp only [List.mem_cons, List.not_mem_nil, or_false] at hj; rcases hj with rfl | rfl | rfl | rfl <;> assumption)) hp4
theorem bi_pard3 {γ1 : Type} {o1 : Bool} {w1 : γ1 → D} {i1 : Nat} {e1 : Expr} {ma1 : Rs γ1} {γ2 : Type} {o2 : Bool} {w2 : γ2 → D} {i2 : Nat} {e2 : Expr} {ma2 : Rs γ2} {γ3 : Type} {o3 : Bool} {w3 : γ3 → D} {i3 : Nat} {e3 : Expr} {ma3 : Rs γ3} {x1 : Str} {px1 : Pos} {x2 : Str} {px2 : Pos} {x3 : Str} {px3 : Pos} {kt k2 : Nat} {pt pt2 pos : Pos} {f : γ1 → γ2 → γ3 → Rs R} (calm : X.calm = true) (nd : X.N.Nodup)
    (h1 : EC X G W ρ o1 e1 w1 ma1) (h2 : EC X G W ρ o2 e2 w2 ma2) (h3 : EC X G W ρ o3 e3 w3 ma3)
    (hr : ∀ d1 d2 d3, BI X G W ρx (((ρ.set i1 (some (clOf o1 (w1 d1)))).set i2 (some (clOf o2 (w2 d2)))).set i3 (some (clOf o3 (w3 d3)))) rest pn pl ι (f d1 d2 d3))
    (hi1 : X.N[i1]? = some x1 := by rfl) (hi2 : X.N[i2]? = some x2 := by rfl) (hi3 : X.N[i3]? = some x3 := by rfl)
    (hij12 : i1 ≠ i2 := by decide) (hij13 : i1 ≠ i3 := by decide) (hij23 : i2 ≠ i3 := by decide)
    (hx1 : X.env.scope.names.lookup x1 = some .local := by rfl) (hx2 : X.env.scope.names.lookup x2 = some .local := by rfl) (hx3 : X.env.scope.names.lookup x3 = some .local := by rfl)
    (hw : swappedStores [.Tuple [.Name x1 px1, .Name x2 px2, .Name x3 px3] kt pt] (.Tuple [e1, e2, e3] k2 pt2) X.env = pure (some [x1, x2, x3]) := by rfl) (hs : swapsWithSole [.Tuple [.Name x1 px1, .Name x2 px2, .Name x3 px3] kt pt] (.Tuple [e1, e2, e3] k2 pt2) pos.line X.env = pure false := by rfl)
    (hs1 : starEach [e1, e2, e3] X.env = (false, eval e1 X.env) :: starEach [e2, e3] X.env := by rfl)
    (hs2 : starEach [e2, e3] X.env = (false, eval e2 X.env) :: starEach [e3] X.env := by rfl)
    (hs3 : starEach [e3] X.env = (false, eval e3 X.env) :: starEach [] X.env := by rfl)
    (hl1 : i1 < ρ.length := by exact Nat.le_of_ble_eq_true rfl) (hl2 : i2 < ρ.length := by exact Nat.le_of_ble_eq_true rfl) (hl3 : i3 < ρ.length := by exact Nat.le_of_ble_eq_true rfl) (wx : Wk ρ ρx := by first | exact Wk.nil | exact Wk.refl | (repeat (first | exact Wk.nil | apply Wk.keep | apply Wk.drop))) :
    BI X G W ρx ρ (.Assign [.Tuple [.Name x1 px1, .Name x2 px2, .Name x3 px3] kt pt] (.Tuple [e1, e2, e3] k2 pt2) pos :: rest) pn pl ι (ma1.bind fun d1 => ma2.bind fun d2 => ma3.bind fun d3 => f d1 d2 d3) := by
  obtain ⟨t1, p1, q1⟩ := h1
  obtain ⟨t2, p2, q2⟩ := h2
  obtain ⟨t3, p3, q3⟩ := h3
  intro F0 σ F H E hh hp
  have e2 : ((ma1.bind fun d1 => ma2.bind fun d2 => ma3.bind fun d3 => f d1 d2 d3).bind fun r => (.ok (ι r) : Rs (Fl α β))) = ma1.bind fun d1 => ma2.bind fun d2 => ma3.bind fun d3 => (f d1 d2 d3).bind fun r => .ok (ι r) := by
    simp only [Rs.assoc]
  rw [e2] at hp
  refine any_cons (ps_par3 calm nd hi1 hi2 hi3 hij12 hij13 hij23 hx1 hx2 hx3 (pa_cons p1 (pa_cons p2 (pa_cons p3 pa_nil hs3) hs2) hs1) hw hs) ?_
  refine q1 F0 σ F H _ hh (post_seq hh wx hp fun d1 v1 F1 H1 x1_ r1 hp1 => ?_)
  refine q2 F0 σ F1 H1 _ (hh.more x1_) (post_seq (hh.more x1_) wx hp1 fun d2 v2 F2 H2 x2_ r2 hp2 => ?_)
  refine q3 F0 σ F2 H2 _ ((hh.more x1_).more x2_) (post_seq ((hh.more x1_).more x2_) wx hp2 fun d3 v3 F3 H3 x3_ r3 hp3 => ?_)
  refine ⟨v1, v2, v3, rfl, ?_⟩
  exact hr d1 d2 d3 F0 _ F3 H3 E (Holds.setCs (is := [i1, i2, i3]) (Cells.cons (Hn := H1) (CellOk.more x3_ (CellOk.more x2_ r1)) (fun a ha => x1_.same.free ha) (fun ho => cell_there r1 ho) (Cells.cons (Hn := H2) (CellOk.more x3_ r2) (fun a ha => x2_.same.free ha) (fun ho => cell_there r2 ho) (Cells.cons (Hn := H3) r3 (fun a ha => x3_.same.free ha) (fun ho => cell_there r3 ho) (Cells.nil (Hk := H3))))) (((hh.more x1_).more x2_).more x3_) (free_of hh) (fun j hj => by simp only [List.mem_cons, List.not_mem_nil, or_false] at hj; rcases hj with rfl | rfl | rfl <;> assumption)) hp3
theorem bi_dspB2 {γ1 : Type} {o1 : Bool} {w1 : γ1 → D} {i1 : Nat} {e1 : Expr} {γ2 : Type} {o2 : Bool} {w2 : γ2 → D} {i2 : Nat} {e2 : Expr} {ma1 : Rs (γ1 × List D)} {ma2 : List D → Rs (γ2 × List D)} {a1 a2 : Expr} {kt k2 : Nat} {pt pt2 pos : Pos} {f : γ1 → γ2 → List D → Rs R} (calm : X.calm = true)
    (hg1 : PG X a1 (gName i1)) (hg2 : PG X a2 (gName i2))
    (h1 : ECB X G ρ i o1 e1 w1 ma1) (h2 : ∀ s', ECB X G (ρ.set i (some (.own l (.lst s')))) i o2 e2 w2 (ma2 s'))
    (hr : ∀ d1 d2 s', BI X G W ρx (((ρ.set i (some (.own l (.lst s')))).set i1 (some (clOf o1 (w1 d1)))).set i2 (some (clOf o2 (w2 d2)))) rest pn pl ι (f d1 d2 s'))
    (hi : At ρ i l s := by rfl)
    (hw : swappedStores [.Tuple [a1, a2] kt pt] (.Tuple [e1, e2] k2 pt2) X.env = pure none := by rfl) (hs : swapsWithSole [.Tuple [a1, a2] kt pt] (.Tuple [e1, e2] k2 pt2) pos.line X.env = pure false := by rfl)
    (hs1 : starEach [e1, e2] X.env = (false, eval e1 X.env) :: starEach [e2] X.env := by rfl)
    (hs2 : starEach [e2] X.env = (false, eval e2 X.env) :: starEach [] X.env := by rfl)
    (ht : (assignEach [.Tuple [a1, a2] kt pt] X.env).map (·.2) = [assign (.Tuple [a1, a2] kt pt) X.env] := by rfl) (hn : (assignEach [a1, a2] X.env).length = 2 := by rfl) (hst : (assignEach [a1, a2] X.env).findIdx? (·.1) = none := by rfl)
    (hq1 : (assignEach [a1, a2] X.env).map (·.2) = assign a1 X.env :: (assignEach [a2] X.env).map (·.2) := by rfl)
    (hq2 : (assignEach [a2] X.env).map (·.2) = assign a2 X.env :: (assignEach [] X.env).map (·.2) := by rfl)
    (hl1 : i1 < ρ.length := by exact Nat.le_of_ble_eq_true rfl) (hl2 : i2 < ρ.length := by exact Nat.le_of_ble_eq_true rfl) :
    BI X G W ρx ρ (.Assign [.Tuple [a1, a2] kt pt] (.Tuple [e1, e2] k2 pt2) pos :: rest) pn pl ι (ma1.noX.bind fun u1 => (ma2 u1.2).noX.bind fun u2 => f u1.1 u2.1 u2.2) := by
  intro F0 σ F H E hh hp0
  rw [Rs.assoc] at hp0
  obtain ⟨z1, hz1, hp1⟩ := postS_noX hp0
  clear hp0
  rw [Rs.assoc] at hp1
  obtain ⟨z2, hz2, hp2⟩ := postS_noX hp1
  clear hp1
  obtain ⟨bx, hbx⟩ := box_at hh hi
  obtain ⟨fb, ow⟩ := holds_box hh hi hbx
  obtain ⟨ob, hob, nt_⟩ := ow.there
  refine any_cons (ps_asg (pe_tup (pa_cons pe_any (pa_cons pe_any pa_nil hs2) hs1)) (pg_tup calm (pgs_cons hg1 (pgs_cons hg2 pgs_nil hq2) hq1) hn hst) hs hw ht) ?_
  have bt0 : H bx ≠ none := by rw [hob]; exact fun z => by cases z
  refine h1 F0 σ F H _ bx hh hbx ⟨z1, hz1, fun v1 F1 H1 x1_ r1 w1_ => ?_⟩
  have hh1 := hh.moreB hi hbx x1_ w1_
  have bt1 : H1 bx ≠ none := by obtain ⟨o3, h3, nt_⟩ := x1_.there; rw [h3]; exact fun z => by cases z
  have fr1 : ∀ a, H1 a = none → H a = none := fun a ha => by
    cases h0 : H a with
    | none => rfl
    | some o' =>
      by_cases z : a = bx
      · subst z
        exact absurd ha bt1
      · rw [x1_.same _ _ z h0] at ha
        cases ha
  refine h2 z1.2 F0 σ F1 H1 _ bx hh1 hbx ⟨z2, hz2, fun v2 F2 H2 x2_ r2 w2_ => ?_⟩
  have hh2 := hh1.moreB (at_set hi) hbx x2_ w2_
  rw [List.set_set] at hh2
  have bt2 : H2 bx ≠ none := by obtain ⟨o3, h3, nt_⟩ := x2_.there; rw [h3]; exact fun z => by cases z
  have fr2 : ∀ a, H2 a = none → H1 a = none := fun a ha => by
    cases h0 : H1 a with
    | none => rfl
    | some o' =>
      by_cases z : a = bx
      · subst z
        exact absurd ha bt2
      · rw [x2_.same _ _ z h0] at ha
        cases ha
  refine ⟨by show 2 ≤ sizeLine; decide, fun p hn0 => ?_⟩
  have e3 : Ext F2 H2 F2 (upd H2 p (.tup [v1, v2])) := Ext.loose hh2.sub _ hn0
  refine ⟨p, [v1, v2], rfl, .inl (.inl upd_same), rfl, ?_⟩
  refine ⟨_, _, rfl, _, _, rfl, rfl, ?_⟩
  refine hr z1.1 z2.1 z2.2 F0 _ F2 _ E (Holds.setCs (is := [i1, i2]) (Cells.more e3 (Cells.cons (Hn := H1) (CellOk.moreB x2_ bt0 r1) fr1 (fun ho => cell_there r1 ho) (Cells.cons (Hn := H2) r2 fr2 (fun ho => cell_there r2 ho) (Cells.nil (Hk := H2))))) (hh2.more e3) (fun a ha => ?_) (fun j hj => by rw [List.length_set]; simp only [List.mem_cons, List.not_mem_nil, or_false] at hj; rcases hj with rfl | rfl <;> assumption)) hp2
  obtain ⟨g1, g2⟩ := free_of hh a ha
  refine ⟨g1, fun k m e q' => ?_⟩
  rcases set_at q' with ⟨rfl, z⟩ | ⟨n', z⟩
  · exact g2 _ _ _ hi
  · exact g2 _ _ _ z
theorem bi_dspB3 {γ1 : Type} {o1 : Bool} {w1 : γ1 → D} {i1 : Nat} {e1 : Expr} {γ2 : Type} {o2 : Bool} {w2 : γ2 → D} {i2 : Nat} {e2 : Expr} {γ3 : Type} {o3 : Bool} {w3 : γ3 → D} {i3 : Nat} {e3 : Expr} {ma1 : Rs (γ1 × List D)} {ma2 : List D → Rs (γ2 × List D)} {ma3 : List D → Rs (γ3 × List D)} {a1 a2 a3 : Expr} {kt k2 : Nat} {pt pt2 pos : Pos} {f : γ1 → γ2 → γ3 → List D → Rs R} (calm : X.calm = true)
    (hg1 : PG X a1 (gName i1)) (hg2 : PG X a2 (gName i2)) (hg3 : PG X a3 (gName i3))
    (h1 : ECB X G ρ i o1 e1 w1 ma1) (h2 : ∀ s', ECB X G (ρ.set i (some (.own l (.lst s')))) i o2 e2 w2 (ma2 s')) (h3 : ∀ s', ECB X G (ρ.set i (some (.own l (.lst s')))) i o3 e3 w3 (ma3 s'))
    (hr : ∀ d1 d2 d3 s', BI X G W ρx ((((ρ.set i (some (.own l (.lst s')))).set i1 (some (clOf o1 (w1 d1)))).set i2 (some (clOf o2 (w2 d2)))).set i3 (some (clOf o3 (w3 d3)))) rest pn pl ι (f d1 d2 d3 s'))
    (hi : At ρ i l s := by rfl)
    (hw : swappedStores [.Tuple [a1, a2, a3] kt pt] (.Tuple [e1, e2, e3] k2 pt2) X.env = pure none := by rfl) (hs : swapsWithSole [.Tuple [a1, a2, a3] kt pt] (.Tuple [e1, e2, e3] k2 pt2) pos.line X.env = pure false := by rfl)
    (hs1 : starEach [e1, e2, e3] X.env = (false, eval e1 X.env) :: starEach [e2, e3] X.env := by rfl)
    (hs2 : starEach [e2, e3] X.env = (false, eval e2 X.env) :: starEach [e3] X.env := by rfl)
    (hs3 : starEach [e3] X.env = (false, eval e3 X.env) :: starEach [] X.env := by rfl)
    (ht : (assignEach [.Tuple [a1, a2, a3] kt pt] X.env).map (·.2) = [assign (.Tuple [a1, a2, a3] kt pt) X.env] := by rfl) (hn : (assignEach [a1, a2, a3] X.env).length = 3 := by rfl) (hst : (assignEach [a1, a2, a3] X.env).findIdx? (·.1) = none := by rfl)
    (hq1 : (assignEach [a1, a2, a3] X.env).map (·.2) = assign a1 X.env :: (assignEach [a2, a3] X.env).map (·.2) := by rfl)
    (hq2 : (assignEach [a2, a3] X.env).map (·.2) = assign a2 X.env :: (assignEach [a3] X.env).map (·.2) := by rfl)
    (hq3 : (assignEach [a3] X.env).map (·.2) = assign a3 X.env :: (assignEach [] X.env).map (·.2) := by rfl)
    (hl1 : i1 < ρ.length := by exact Nat.le_of_ble_eq_true rfl) (hl2 : i2 < ρ.length := by exact Nat.le_of_ble_eq_true rfl) (hl3 : i3 < ρ.length := by exact Nat.le_of_ble_eq_true rfl) :
    BI X G W ρx ρ (.Assign [.Tuple [a1, a2, a3] kt pt] (.Tuple [e1, e2, e3] k2 pt2) pos :: rest) pn pl ι (ma1.noX.bind fun u1 => (ma2 u1.2).noX.bind fun u2 => (ma3 u2.2).noX.bind fun u3 => f u1.1 u2.1 u3.1 u3.2) := by
  intro F0 σ F H E hh hp0
  rw [Rs.assoc] at hp0
  obtain ⟨z1, hz1, hp1⟩ := postS_noX hp0
  clear hp0
  rw [Rs.assoc] at hp1
  obtain ⟨z2, hz2, hp2⟩ := postS_noX hp1
  clear hp1
  rw [Rs.assoc] at hp2
  obtain ⟨z3, hz3, hp3⟩ := postS_noX hp2
  clear hp2
  obtain ⟨bx, hbx⟩ := box_at hh hi
  obtain ⟨fb, ow⟩ := holds_box hh hi hbx
  obtain ⟨ob, hob, nt_⟩ := ow.there
  refine any_cons (ps_asg (pe_tup (pa_cons pe_any (pa_cons pe_any (pa_cons pe_any pa_nil hs3) hs2) hs1)) (pg_tup calm (pgs_cons hg1 (pgs_cons hg2 (pgs_cons hg3 pgs_nil hq3) hq2) hq1) hn hst) hs hw ht) ?_
  have bt0 : H bx ≠ none := by rw [hob]; exact fun z => by cases z
  refine h1 F0 σ F H _ bx hh hbx ⟨z1, hz1, fun v1 F1 H1 x1_ r1 w1_ => ?_⟩
  have hh1 := hh.moreB hi hbx x1_ w1_
  have bt1 : H1 bx ≠ none := by obtain ⟨o3, h3, nt_⟩ := x1_.there; rw [h3]; exact fun z => by cases z
  have fr1 : ∀ a, H1 a = none → H a = none := fun a ha => by
    cases h0 : H a with
    | none => rfl
    | some o' =>
      by_cases z : a = bx
      · subst z
        exact absurd ha bt1
      · rw [x1_.same _ _ z h0] at ha
        cases ha
  refine h2 z1.2 F0 σ F1 H1 _ bx hh1 hbx ⟨z2, hz2, fun v2 F2 H2 x2_ r2 w2_ => ?_⟩
  have hh2 := hh1.moreB (at_set hi) hbx x2_ w2_
  rw [List.set_set] at hh2
  have bt2 : H2 bx ≠ none := by obtain ⟨o3, h3, nt_⟩ := x2_.there; rw [h3]; exact fun z => by cases z
  have fr2 : ∀ a, H2 a = none → H1 a = none := fun a ha => by
    cases h0 : H1 a with
    | none => rfl
    | some o' =>
      by_cases z : a = bx
      · subst z
        exact absurd ha bt2
      · rw [x2_.same _ _ z h0] at ha
        cases ha
  refine h3 z2.2 F0 σ F2 H2 _ bx hh2 hbx ⟨z3, hz3, fun v3 F3 H3 x3_ r3 w3_ => ?_⟩
  have hh3 := hh2.moreB (at_set hi) hbx x3_ w3_
  rw [List.set_set] at hh3
  have bt3 : H3 bx ≠ none := by obtain ⟨o3, h3, nt_⟩ := x3_.there; rw [h3]; exact fun z => by cases z
  have fr3 : ∀ a, H3 a = none → H2 a = none := fun a ha => by
    cases h0 : H2 a with
    | none => rfl
    | some o' =>
      by_cases z : a = bx
      · subst z
        exact absurd ha bt3
      · rw [x3_.same _ _ z h0] at ha
        cases ha
  refine ⟨by show 3 ≤ sizeLine; decide, fun p hn0 => ?_⟩
  have e3 : Ext F3 H3 F3 (upd H3 p (.tup [v1, v2, v3])) := Ext.loose hh3.sub _ hn0
  refine ⟨p, [v1, v2, v3], rfl, .inl (.inl upd_same), rfl, ?_⟩
  refine ⟨_, _, rfl, _, _, rfl, _, _, rfl, rfl, ?_⟩
  refine hr z1.1 z2.1 z3.1 z3.2 F0 _ F3 _ E (Holds.setCs (is := [i1, i2, i3]) (Cells.more e3 (Cells.cons (Hn := H1) (CellOk.moreB x3_ bt0 (CellOk.moreB x2_ bt0 r1)) fr1 (fun ho => cell_there r1 ho) (Cells.cons (Hn := H2) (CellOk.moreB x3_ bt1 r2) fr2 (fun ho => cell_there r2 ho) (Cells.cons (Hn := H3) r3 fr3 (fun ho => cell_there r3 ho) (Cells.nil (Hk := H3)))))) (hh3.more e3) (fun a ha => ?_) (fun j hj => by rw [List.length_set]; simp only [List.mem_cons, List.not_mem_nil, or_false] at hj; rcases hj with rfl | rfl | rfl <;> assumption)) hp3
  obtain ⟨g1, g2⟩ := free_of hh a ha
  refine ⟨g1, fun k m e q' => ?_⟩
  rcases set_at q' with ⟨rfl, z⟩ | ⟨n', z⟩
  · exact g2 _ _ _ hi
  · exact g2 _ _ _ z
end
end VL
set_option Elab.async false
set_option linter.all false
set_option maxRecDepth 100000
set_option autoImplicit false
namespace VL
open PySem PySem.Spec L2
open PyProof.Rows hiding St

/-! ### keys -/
def keyOf : D → Option Key
  | .int i => some (.inl i)
  | .str x => some (.inr x)
  | _ => none
def keysOf : List D → Option (List Key)
  | [] => some []
  | d :: ds => (keyOf d).bind fun k => (keysOf ds).map fun ks => k :: ks
def keyD : Key → D
  | .inl i => .int i
  | .inr x => .str x
def isStr : D → Bool
  | .str _ => true
  | _ => false
theorem keyOf_rep {K : PySem.W.Frag} {F : Hp} {v : V} {d : D} {k : Key} (h : keyOf d = some k) (r : Rep K F v d) : v = kV k := by
  cases r with
  | int i => cases h; rfl
  | str x => cases h; rfl
  | _ => cases h
theorem keysOf_rep {K : PySem.W.Frag} {F : Hp} : ∀ {xs : List V} {ds : List D} {ks : List Key}, keysOf ds = some ks → Reps K F xs ds → xs = ks.map kV
  | _, _, _, h, .nil => by cases h; rfl
  | _, d :: ds, ks, h, .cons r rs => by
    simp only [keysOf] at h
    cases e : keyOf d with
    | none => rw [e] at h; cases h
    | some k =>
      rw [e] at h
      cases e2 : keysOf ds with
      | none => rw [e2] at h; cases h
      | some ks2 =>
        rw [e2] at h
        cases h
        rw [keyOf_rep e r, keysOf_rep e2 rs]
        rfl
theorem kV_rep {K : PySem.W.Frag} {F : Hp} (k : Key) : Rep K F (kV k) (keyD k) := by cases k with | inl i => exact .int i | inr x => exact .str x
theorem kV_reps {K : PySem.W.Frag} {F : Hp} : ∀ ks : List Key, Reps K F (ks.map kV) (ks.map keyD)
  | [] => .nil
  | k :: ks => .cons (kV_rep k) (kV_reps ks)
/-- a tuple with a text in it is tracked -/
theorem tup_key {K : PySem.W.Frag} {F H : Hp} {y : V} {ds : List D} {ks : List Key} (s : Same F H) (hy : RepH K F H y (.tup ds)) (hk : keysOf ds = some ks) (hs : ds.any isStr = true) : ∃ b, y = .ref b ∧ F b = some (.tup (ks.map kV)) ∧ H b = some (.tup (ks.map kV)) := by
  rcases hy with hy | ⟨a, _, ho⟩
  · cases hy with
    | tup h l r =>
      have e := keysOf_rep hk r
      subst e
      rcases h with h | ⟨_, h⟩
      · exact ⟨_, rfl, h, s _ _ h⟩
      · exfalso
        have key : ∀ {xs : List V} {ds : List D}, Reps K F xs ds → ds.any isStr = true → ∃ x ∈ xs, ∃ z, x = V.str z := by
          intro xs ds r
          induction ds generalizing xs with
          | nil => intro h; cases h
          | cons d ds ih =>
            intro h
            cases r with
            | cons r1 r2 =>
              rw [List.any_cons, Bool.or_eq_true] at h
              rcases h with h | h
              · cases r1 with
                | str z => exact ⟨_, List.mem_cons_self, z, rfl⟩
                | _ => cases h
              · obtain ⟨x, hx, z⟩ := ih r2 h
                exact ⟨x, List.mem_cons_of_mem _ hx, z⟩
        obtain ⟨x, hx, z, rfl⟩ := key r hs
        obtain ⟨i, hi⟩ := h _ hx
        cases hi
  · cases ho

/-! ### looking into a dict -/
def look {κ : Type} [DecidableEq κ] (es : List (κ × D)) (k : κ) : Option D := (es.find? fun p => decide (p.1 = k)).map (·.2)
theorem look_val {κ : Type} [DecidableEq κ] {K : PySem.W.Frag} {F : Hp} (k : κ) : ∀ {kvs : List (κ × V)} {es : List (κ × D)}, kvs.map (·.1) = es.map (·.1) → Reps K F (kvs.map (·.2)) (es.map (·.2)) → (look es k = none ∧ L2.valV kvs k = none) ∨ ∃ d v, look es k = some d ∧ L2.valV kvs k = some v ∧ Rep K F v d
  | [], [], _, _ => .inl ⟨rfl, rfl⟩
  | [], _ :: _, h, _ => by simp at h
  | _ :: _, [], h, _ => by simp at h
  | (a, v) :: kvs, (b, d) :: es, h, r => by
    simp only [List.map_cons, List.cons.injEq] at h r
    obtain ⟨rfl, h2⟩ := h
    cases r with
    | cons r1 r2 =>
      unfold look L2.valV
      rw [List.find?_cons, List.find?_cons]
      by_cases e : a = k
      · simp only [e, decide_true]
        exact .inr ⟨d, v, rfl, rfl, r1⟩
      · simp only [e, decide_false]
        exact look_val k h2 r2
def dlook : D → D → Option (Option D)
  | .dT es, .tup ks => if ks.any isStr then (keysOf ks).map fun k => look es k else none
  | .dK es, k => (keyOf k).map fun k => look es k
  | _, _ => none
/-- what stands there, by data and by values -/
def OptR (K : PySem.W.Frag) (F : Hp) : Option D → Option V → Prop
  | none, none => True
  | some d, some v => Rep K F v d
  | _, _ => False
theorem dlook_get {K : PySem.W.Frag} {F H : Hp} {x y : V} {dx dy : D} {r : Option D} (s : Same F H) (hx : RepH K F H x dx) (hy : RepH K F H y dy) (h : dlook dx dy = some r) : ∃ a rv, x = .ref a ∧ DGet H a y rv ∧ OptR K F r rv := by
  unfold dlook at h
  split at h
  · split at h
    · rename_i es ks hstr
      cases hk : keysOf ks with
      | none => rw [hk] at h; cases h
      | some k =>
        rw [hk] at h
        cases h
        obtain ⟨b, rfl, _, hb⟩ := tup_key s hy hk hstr
        have fin : ∀ {a : Addr} {kvs : List (List Key × V)}, Rd H a (.dT kvs) → kvs.map (·.1) = es.map (·.1) → Reps K F (kvs.map (·.2)) (es.map (·.2)) → ∃ a' rv, V.ref a = .ref a' ∧ DGet H a' (.ref b) rv ∧ OptR K F (look es k) rv := fun {a kvs} rd h1 h2 => by
          refine ⟨a, L2.valV kvs k, rfl, .inr ⟨kvs, k, b, rd, rfl, hb, rfl⟩, ?_⟩
          rcases look_val k h1 h2 with ⟨q1, q2⟩ | ⟨d, v, q1, q2, q3⟩
          · rw [q1, q2]; trivial
          · rw [q1, q2]; exact q3
        rcases hx with hx | ⟨a, rfl, ho⟩
        · cases hx with
          | dT h1 h2 h3 => exact fin (.inr ⟨_, s _ _ h1⟩) h2 h3
        · cases ho with
          | dT h1 h2 h3 => exact fin (.inl h1) h2 h3
    · cases h
  · rename_i es
    cases hk : keyOf dy with
    | none => rw [hk] at h; cases h
    | some k =>
      rw [hk] at h
      cases h
      have ey : y = kV k := by
        rcases hy with hy | ⟨a, _, ho⟩
        · exact keyOf_rep hk hy
        · cases ho <;> cases hk
      subst ey
      have fin : ∀ {a : Addr} {kvs : List (Key × V)}, Rd H a (.dK kvs) → kvs.map (·.1) = es.map (·.1) → Reps K F (kvs.map (·.2)) (es.map (·.2)) → ∃ a' rv, V.ref a = .ref a' ∧ DGet H a' (kV k) rv ∧ OptR K F (look es k) rv := fun {a kvs} rd h1 h2 => by
        refine ⟨a, L2.valV kvs k, rfl, .inl ⟨kvs, k, rd, rfl, rfl⟩, ?_⟩
        rcases look_val k h1 h2 with ⟨q1, q2⟩ | ⟨d, v, q1, q2, q3⟩
        · rw [q1, q2]; trivial
        · rw [q1, q2]; exact q3
      rcases hx with hx | ⟨a, rfl, ho⟩
      · cases hx with
        | dK h1 h2 h3 => exact fin (.inr ⟨_, s _ _ h1⟩) h2 h3
      · cases ho with
        | dK h1 h2 h3 => exact fin (.inl h1) h2 h3
  · cases h
/-- d[k] -/
def dgetD (x y : D) : Option D := (dlook x y).bind id
def rDix : R2 := fun x y H Q => ∃ a v, x = .ref a ∧ DGet H a y (some v) ∧ Q v H
theorem ix_dict {X : Cx} (hu : X.A.units + 64 < cLine) : IxR X rDix := by
  intro value slice pins s σ H x y v u Q I rx ry h hs
  obtain ⟨a, w, rfl, g, q⟩ := h
  obtain rfl : v = Value.ref a := rx
  exact tail_any (dict_typeIs I g) PySem.F.slot_dict_getitem.lookup (d_getItem (by omega) I g ry fun w' s3 I3 rw' => ⟨w, H, I3, rw', q⟩) hs
theorem dgetD_ok {K : PySem.W.Frag} : R2ok K rDix dgetD := by
  intro x y dx dy F H Q d s hx hy hd k
  unfold dgetD at hd
  cases e : dlook dx dy with
  | none => rw [e] at hd; cases hd
  | some r =>
    rw [e] at hd
    have e2 : r = some d := hd
    subst e2
    obtain ⟨a, rv, rfl, g, o⟩ := dlook_get s hx hy e
    cases rv with
    | none => exact o.elim
    | some v => exact ⟨a, v, rfl, g, k v F H (Ext.refl s) o⟩
/-- k in d, k not in d -/
def dinB (x c : D) : Option Bool := (dlook c x).map fun r => r.isSome
def dinD (x c : D) : Option D := (dinB x c).map .bl
def dnotInB (x c : D) : Option Bool := (dinB x c).map (!·)
def dnotInD (x c : D) : Option D := (dnotInB x c).map .bl
def rDin : R2 := fun x y H Q => ∃ a o, y = .ref a ∧ DGet H a x o ∧ Q (.bl o.isSome) H
def rDnotIn : R2 := fun x y H Q => ∃ a o, y = .ref a ∧ DGet H a x o ∧ Q (.bl (!o.isSome)) H
theorem op_din {X : Cx} (hu : X.A.units + 64 < cLine) : OpR X (compareOp .In) rDin := by
  intro pins s σ H x y v u Q I rx ry h
  obtain ⟨a, o, rfl, g, q⟩ := h
  obtain rfl : u = Value.ref a := ry
  exact d_in (by omega) I g rx fun s3 I3 => ⟨.bl o.isSome, H, I3, rfl, q⟩
theorem op_dnotIn {X : Cx} (hu : X.A.units + 64 < cLine) : OpR X (compareOp .NotIn) rDnotIn := by
  intro pins s σ H x y v u Q I rx ry h
  obtain ⟨a, o, rfl, g, q⟩ := h
  obtain rfl : u = Value.ref a := ry
  exact d_notIn (by omega) I g rx fun s3 I3 => ⟨.bl (!o.isSome), H, I3, rfl, q⟩
theorem OptR.isSome {K : PySem.W.Frag} {F : Hp} {r : Option D} {o : Option V} (h : OptR K F r o) : o.isSome = r.isSome := by
  cases r <;> cases o <;> first | rfl | exact h.elim
theorem dinD_ok {K : PySem.W.Frag} : R2ok K rDin dinD := by
  intro x y dx dy F H Q d s hx hy hd k
  unfold dinD dinB at hd
  cases e : dlook dy dx with
  | none => rw [e] at hd; cases hd
  | some r =>
    rw [e] at hd
    cases hd
    obtain ⟨a, rv, rfl, g, o⟩ := dlook_get s hy hx e
    refine ⟨a, rv, rfl, g, ?_⟩
    rw [o.isSome]
    exact k _ F H (Ext.refl s) (.bl _)
theorem dnotInD_ok {K : PySem.W.Frag} : R2ok K rDnotIn dnotInD := by
  intro x y dx dy F H Q d s hx hy hd k
  unfold dnotInD dnotInB dinB at hd
  cases e : dlook dy dx with
  | none => rw [e] at hd; cases hd
  | some r =>
    rw [e] at hd
    cases hd
    obtain ⟨a, rv, rfl, g, o⟩ := dlook_get s hy hx e
    refine ⟨a, rv, rfl, g, ?_⟩
    rw [o.isSome]
    exact k _ F H (Ext.refl s) (.bl _)
theorem dinD_is : Isb dinD dinB := fun _ _ => rfl
theorem dnotInD_is : Isb dnotInD dnotInB := fun _ _ => rfl
end VL
set_option Elab.async false
set_option linter.all false
set_option maxRecDepth 100000
set_option autoImplicit false
namespace VL
open PySem PySem.Spec L2
open PyProof.Rows hiding St

/-! ### the pairs of a dict with tuples as keys -/
/-- each pair a new tuple; the key's own tuple in it -/
def ItiT (d : Addr) (o : Obj) (kvs : List (List Key × V)) : It :=
  ⟨fun i H => H d = some (.frz o (.dT kvs)) ∧ i < kvs.length,
   fun i H x H' => ∃ (T q : Addr) (k : List Key) (v : V), kvs[i]? = some (k, v) ∧ x = .ref T ∧ H T = none ∧ H q = some (.tup (k.map kV)) ∧ H' = upd H T (.tup [.ref q, v]),
   fun i H => H d = some (.frz o (.dT kvs)) ∧ kvs.length ≤ i⟩
theorem frz_raw {X : Cx} {pins : List (Addr × Obj)} {σ : L2.St} {H : Hp} {s : Shared} {d : Addr} {o : Obj} {kvs : List (List Key × V)} (I : Inv X pins σ H s) (h : H d = some (.frz o (.dT kvs))) :
    (d == sysModules) = false ∧ ∃ (es : Array DictEntry) (ep : Nat), o.data = .dict es ep ∧ DT.Raw s.heap d es ep ∧ es.size = kvs.length ∧
      ∀ (i : Nat) (k : List Key) (v : V), kvs[i]? = some (k, v) → ∃ (en : DictEntry) (q : Addr), es[i]? = some en ∧ en.key = .ref q ∧ H q = some (.tup (k.map kV)) ∧ RelV v en.val := by
  obtain ⟨hd, z, hs, xs, pr, o', es, ep, ho, hx, hdt, he, _⟩ := I.hok d _ h
  rw [hd] at ho
  cases ho
  refine ⟨hs, es, ep, hdt, ⟨o, hd, hx, hdt⟩, ?_, fun i k v e => ?_⟩
  · have l1 : es.size = xs.length := size_of_entries he
    have l2 : kvs.length = xs.length := Paired.length pr
    omega
  · obtain ⟨b, hb, e1, e2, e3⟩ := paired_get pr e
    have q := entry_at he i
    rw [hb] at q
    exact ⟨_, b.2.1, q, rfl, e2, e3⟩
theorem turn_itemsT {P : Program} {w : World} {K : PySem.W.Frag} {d : Addr} {o : Obj} {es : Array DictEntry} {ep : Nat} {kvs : List (List Key × V)} {elts : List Expr} {kk : Nat} {tpos : Pos} (it : Addr) (hod : o.data = .dict es ep) :
    Turn P w K (.Tuple elts kk tpos) (ItiT d o kvs) [it] it (fun i h => ∃ ok ov, IsItemIter h it d i kvs.length ep ok ov) where
  mem := List.mem_singleton_self it
  obj := fun i h st b hb => by
    obtain ⟨k1, v1, e1⟩ := st
    rw [List.mem_singleton.mp hb]
    exact ⟨_, e1, fun v z => nomatch z⟩
  keep := fun i h h' st k => by
    obtain ⟨k1, v1, e1⟩ := st
    exact ⟨k1, v1, k it (List.mem_singleton_self it) _ e1⟩
  item := by
    intro X hP hw hK hc i pins s σ H E I hf st hg
    subst hP hw hK
    obtain ⟨hd, hi⟩ := hg
    obtain ⟨hs, es', ep', hdt, hr, hsz, ent⟩ := frz_raw I hd
    obtain ⟨rfl, rfl⟩ := dict_ep hod hdt
    obtain ⟨⟨k, v⟩, hkv⟩ : ∃ p, kvs[i]? = some p := ⟨kvs[i], List.getElem?_eq_getElem hi⟩
    obtain ⟨en, q, hen, hkey, hq, rv⟩ := ent i k v hkv
    obtain ⟨k1, v1, e1⟩ := st
    have hi2 : i < es'.size := by omega
    have een : es'[i] = en := by
      rw [Array.getElem?_eq_getElem hi2] at hen
      exact Option.some.inj hen
    have hlt : it < s.heap.objs.size := Heap.lt_size e1
    rw [← hsz] at e1
    refine DT.nextI e1 hr hi2 fun h1 ho hT hz hk => ?_
    refine ⟨_, rfl, wpAny_letOwnedTupleGo_items (s := { s with heap := h1 }) ho fun h2 he2 sb => ?_⟩
    have hT2 : h2.get? s.heap.objs.size = some { cls := .type "tuple", data := .seq #[es'[i].key, es'[i].val] } := (sb.2 _ (Nat.ne_of_gt hlt)).trans hT
    have ok2 : ObjOk X.prog X.w (upd H s.heap.objs.size (.tup [.ref q, v])) h2 s.heap.objs.size (.tup [.ref q, v]) := by
      refine ⟨by show 2 ≤ sizeLine; decide, [es'[i].key, es'[i].val], ?_, ⟨_, hT2, rfl, _, rfl⟩⟩
      rw [een]
      exact .cons hkey (.cons rv .nil)
    have I2 : Inv X pins σ (upd H s.heap.objs.size (.tup [.ref q, v])) { s with heap := h2 } :=
      I.turnedNew (t' := s.toks) (ch := [it]) (fun b ob hb e => (sb.2 b (by simpa using hb)).trans (hk b ob (by simpa using hb) e)) hf (Nat.le_refl _) ok2
    refine ⟨.ref s.heap.objs.size, _, I2, rfl, ⟨_, q, k, v, hkv, rfl, I.hok.fresh (Nat.le_refl _), hq, rfl⟩, ⟨es'[i].key, es'[i].val, ?_⟩, fun b hb => ?_⟩
    · rw [← hsz]
      exact he2
    · rw [List.mem_singleton.mp hb, upd_ne (Nat.ne_of_lt hlt)]
      exact (hf it (List.mem_singleton_self it)).1
  done := by
    intro X hP hw hK hc i pins s σ H E I hf st hg
    subst hP hw hK
    obtain ⟨hd, hi⟩ := hg
    obtain ⟨f0, f1, f2, f3, f4, f5⟩ := hf it (List.mem_singleton_self it)
    obtain ⟨hs, es', ep', hdt, hr, hsz, ent⟩ := frz_raw I hd
    obtain ⟨rfl, rfl⟩ := dict_ep hod hdt
    obtain ⟨k1, v1, e1⟩ := st
    rw [← hsz] at e1
    exact DT.endI (I.ok.hd hc) e1 hr (by omega) fun h1 eb => ⟨rfl, I.turned (t' := s.toks) (fun b ob hb e => eb b ob hb e) f0 f1 f3 f4 f5⟩
  self := fun A i s Q E st h => by
    obtain ⟨k1, v1, e1⟩ := st
    exact PySem.W.kcp_self e1 h
def iItemsT (td : TE) : TI := fun σ H R => td σ H fun x H1 => ∃ d o kvs, x = .ref d ∧ H1 d = some (.frz o (.dT kvs)) ∧ R (ItiT d o kvs) H1
section
variable {X : Cx} {e : Expr} {td : TE} {apos cpos : Pos}
theorem pi_itemsT {elts : List Expr} {kk : Nat} {tpos : Pos} (he : PE X e td) (hbase : attributeBase e "items" X.env (eval e X.env) = eval e X.env := by rfl) (hline : (apos.endLine == cpos.line) = true := by rfl) :
    PI X (.Tuple elts kk tpos) (.Call (.Attribute e "items" apos) [] [] cpos) (iItemsT td) := by
  refine ⟨fun pins s σ H R I h => ?_⟩
  refine wpAny_Call_method (T := "dict") (id := "dict.items") hbase rfl hline F.plainAttrs_dict F.slot_dict_items F.type_dict_items (thn (he.run pins s σ H _ I h) fun u s1 ⟨x, H1, I1, rx, d, o, kvs, ex, hd, q⟩ => ?_)
  subst ex
  obtain rfl : u = Value.ref d := rx
  obtain ⟨hs, es, ep, hdt, hr, hsz, ent⟩ := frz_raw I1 hd
  obtain ⟨od, hod, hxd, hdd⟩ := id hr
  refine ⟨hr.typeIs, fun a ea => by cases ea; exact ⟨od, hod, hxd.2.1⟩, ?_⟩
  have I2 : Inv X pins σ H1 { s1 with heap := s1.heap.push { cls := .type "dict_items", data := .fields #[.ref d] } } := I1.kept (t' := s1.toks) fun b ob q => Heap.get?_push_of_some _ q
  have fin : wpAny (model X.prog X.w) X.A (pyIter (.ref s1.heap.objs.size)) (PIE X pins σ (.Tuple elts kk tpos) R) X.xe { s1 with heap := s1.heap.push { cls := .type "dict_items", data := .fields #[.ref d] } } := by
    refine DT.iterI (d := d) (es := es) (ep := ep) ⟨_, Heap.get?_push_size _ rfl, rfl, rfl⟩ (hr.push _) (pi_one (tk := s1.toks) I2 _ (turn_itemsT _ hdt) ⟨.none, .none, ?_⟩ q)
    rw [← hsz]
    exact Heap.get?_push_size _ rfl
  show wpAny _ _ (callWith cpos (.builtin "dict.items") [.ref d] [] []) _ X.xe s1
  exact method_meetsIn F.slot_dict_items F.entry_dict_items rfl (PySem.evalArgs_none ⟨rfl, hr.typeIs, F.args_dict_items_1 _, _, DT.meetsItems (es := es) (ep := ep) hs, hr, fin⟩)
end
end VL
set_option Elab.async false
set_option linter.all false
set_option maxRecDepth 100000
set_option autoImplicit false
namespace VL
open PySem PySem.Spec L2
open PyProof.Rows hiding St

/-! ### walks of dicts -/
theorem fz {F H : Hp} {q : Addr} {ks : List Key} (s : Same F H) (h : H q = some (.tup (ks.map kV))) : ∃ F', Ext F H F' H ∧ F' q = some (.tup (ks.map kV)) := by
  cases e : F q with
  | some o =>
    have z := s _ _ e
    rw [h] at z
    cases z
    exact ⟨F, Ext.refl s, e⟩
  | none =>
    refine ⟨upd F q (.tup (ks.map kV)), ⟨Same.refl H, fun b x y => ?_, same_upd e, fun b x y => ?_⟩, upd_same⟩
    · by_cases n : b = q
      · subst n
        rw [upd_same] at y
        cases y
        exact h
      · rw [upd_ne n] at y
        exact s _ _ y
    · by_cases n : b = q
      · subst n
        rw [upd_same] at y
        cases y
        exact .inr (.inr ⟨⟨ks, rfl⟩, h⟩)
      · rw [upd_ne n] at y
        exact .inl y
def tkey (ks : List Key) : D := .tup (ks.map keyD)
theorem fz_rep {K : PySem.W.Frag} {F : Hp} {q : Addr} {ks : List Key} (h : F q = some (.tup (ks.map kV))) (hl : ks.length ≤ sizeLine) : Rep K F (.ref q) (tkey ks) := .tup (.inl h) (by rw [List.length_map]; exact hl) (kV_reps ks)
theorem pair_at {κ : Type} {K : PySem.W.Frag} {F : Hp} : ∀ {kvs : List (κ × V)} {es : List (κ × D)} {i : Nat} {k : κ} {d : D}, kvs.map (·.1) = es.map (·.1) → Reps K F (kvs.map (·.2)) (es.map (·.2)) → es[i]? = some (k, d) → ∃ v, kvs[i]? = some (k, v) ∧ Rep K F v d
  | [], [], _, _, _, _, _, h => by simp at h
  | [], _ :: _, _, _, _, h, _, _ => by simp at h
  | _ :: _, [], _, _, _, h, _, _ => by simp at h
  | (a, v) :: kvs, (b, e) :: es, i, k, d, h, r, q => by
    simp only [List.map_cons, List.cons.injEq] at h r
    obtain ⟨rfl, h2⟩ := h
    cases r with
    | cons r1 r2 =>
      cases i with
      | zero =>
        simp only [List.getElem?_cons_zero, Option.some.injEq] at q
        cases q
        exact ⟨v, rfl, r1⟩
      | succ j =>
        simp only [List.getElem?_cons_succ] at q ⊢
        exact pair_at h2 r2 q
theorem len_at {κ : Type} {kvs : List (κ × V)} {es : List (κ × D)} (h : kvs.map (·.1) = es.map (·.1)) : kvs.length = es.length := by
  have z := congrArg List.length h
  simpa using z
section
variable {K : PySem.W.Frag} {F : Hp} {a : Addr} {o : Obj}
theorem walks_keysK {kvs : List (Key × V)} {es : List (Key × D)} (h : F a = some (.frz o (.dK kvs))) (h1 : kvs.map (·.1) = es.map (·.1)) (h2 : Reps K F (kvs.map (·.2)) (es.map (·.2))) (hl : es.length ≤ sizeLine) : Walks K (Itk a o kvs) F (es.map fun p => keyD p.1) := by
  refine ⟨by rw [List.length_map]; exact hl, fun F1 H1 e1 e2 => ⟨fun i d q => ?_, e2 _ _ (e1 _ _ h), by rw [List.length_map, len_at h1]; exact Nat.le_refl _⟩⟩
  rw [List.getElem?_map] at q
  cases e : es[i]? with
  | none => rw [e] at q; cases q
  | some p =>
    rw [e] at q
    cases q
    obtain ⟨v, hv, rv⟩ := pair_at h1 h2 e
    refine ⟨⟨e2 _ _ (e1 _ _ h), (List.getElem?_eq_some_iff.mp hv).1⟩, fun x H' y => ?_⟩
    obtain ⟨rfl, k, u, hk, rfl⟩ := y
    rw [hv] at hk
    cases hk
    exact ⟨F1, Ext.refl e2, kV_rep _⟩
theorem walks_keysT {kvs : List (List Key × V)} {es : List (List Key × D)} (h : F a = some (.frz o (.dT kvs))) (h1 : kvs.map (·.1) = es.map (·.1)) (h2 : Reps K F (kvs.map (·.2)) (es.map (·.2))) (hl : es.length ≤ sizeLine) (hk : ∀ p ∈ es, p.1.length ≤ sizeLine) : Walks K (Itkt a o kvs) F (es.map fun p => tkey p.1) := by
  refine ⟨by rw [List.length_map]; exact hl, fun F1 H1 e1 e2 => ⟨fun i d q => ?_, e2 _ _ (e1 _ _ h), by rw [List.length_map, len_at h1]; exact Nat.le_refl _⟩⟩
  rw [List.getElem?_map] at q
  cases e : es[i]? with
  | none => rw [e] at q; cases q
  | some p =>
    rw [e] at q
    cases q
    obtain ⟨v, hv, rv⟩ := pair_at h1 h2 e
    refine ⟨⟨e2 _ _ (e1 _ _ h), (List.getElem?_eq_some_iff.mp hv).1⟩, fun x H' y => ?_⟩
    obtain ⟨rfl, k, u, b, hk', rfl, hb⟩ := y
    rw [hv] at hk'
    cases hk'
    obtain ⟨F2, x2, g2⟩ := fz e2 hb
    exact ⟨F2, x2, fz_rep g2 (hk p (List.mem_of_getElem? e))⟩
theorem walks_valsK {kvs : List (Key × V)} {es : List (Key × D)} (h : F a = some (.frz o (.dK kvs))) (h1 : kvs.map (·.1) = es.map (·.1)) (h2 : Reps K F (kvs.map (·.2)) (es.map (·.2))) (hl : es.length ≤ sizeLine) : Walks K (Itd a o kvs) F (es.map fun p => p.2) := by
  refine ⟨by rw [List.length_map]; exact hl, fun F1 H1 e1 e2 => ⟨fun i d q => ?_, e2 _ _ (e1 _ _ h), by rw [List.length_map, len_at h1]; exact Nat.le_refl _⟩⟩
  rw [List.getElem?_map] at q
  cases e : es[i]? with
  | none => rw [e] at q; cases q
  | some p =>
    rw [e] at q
    cases q
    obtain ⟨v, hv, rv⟩ := pair_at h1 h2 e
    refine ⟨⟨e2 _ _ (e1 _ _ h), (List.getElem?_eq_some_iff.mp hv).1⟩, fun x H' y => ?_⟩
    obtain ⟨rfl, k, hk⟩ := y
    rw [hv] at hk
    cases hk
    exact ⟨F1, Ext.refl e2, rv.mono e1⟩
theorem walks_itemsK {kvs : List (Key × V)} {es : List (Key × D)} (h : F a = some (.frz o (.dK kvs))) (h1 : kvs.map (·.1) = es.map (·.1)) (h2 : Reps K F (kvs.map (·.2)) (es.map (·.2))) (hl : es.length ≤ sizeLine) : Walks K (Iti a o kvs) F (es.map fun p => .tup [keyD p.1, p.2]) := by
  refine ⟨by rw [List.length_map]; exact hl, fun F1 H1 e1 e2 => ⟨fun i d q => ?_, e2 _ _ (e1 _ _ h), by rw [List.length_map, len_at h1]; exact Nat.le_refl _⟩⟩
  rw [List.getElem?_map] at q
  cases e : es[i]? with
  | none => rw [e] at q; cases q
  | some p =>
    rw [e] at q
    cases q
    obtain ⟨v, hv, rv⟩ := pair_at h1 h2 e
    refine ⟨⟨e2 _ _ (e1 _ _ h), (List.getElem?_eq_some_iff.mp hv).1⟩, fun x H' y => ?_⟩
    obtain ⟨T, k, u, hk, rfl, hT, rfl⟩ := y
    rw [hv] at hk
    cases hk
    exact ⟨_, Ext.fresh e2 _ hT, new_tup e2 hT (by show 2 ≤ sizeLine; decide) (.cons (kV_rep _) (.cons (rv.mono e1) .nil))⟩
theorem walks_itemsT {kvs : List (List Key × V)} {es : List (List Key × D)} (h : F a = some (.frz o (.dT kvs))) (h1 : kvs.map (·.1) = es.map (·.1)) (h2 : Reps K F (kvs.map (·.2)) (es.map (·.2))) (hl : es.length ≤ sizeLine) (hk : ∀ p ∈ es, p.1.length ≤ sizeLine) : Walks K (ItiT a o kvs) F (es.map fun p => .tup [tkey p.1, p.2]) := by
  refine ⟨by rw [List.length_map]; exact hl, fun F1 H1 e1 e2 => ⟨fun i d q => ?_, e2 _ _ (e1 _ _ h), by rw [List.length_map, len_at h1]; exact Nat.le_refl _⟩⟩
  rw [List.getElem?_map] at q
  cases e : es[i]? with
  | none => rw [e] at q; cases q
  | some p =>
    rw [e] at q
    cases q
    obtain ⟨v, hv, rv⟩ := pair_at h1 h2 e
    refine ⟨⟨e2 _ _ (e1 _ _ h), (List.getElem?_eq_some_iff.mp hv).1⟩, fun x H' y => ?_⟩
    obtain ⟨T, b, k, u, hk', rfl, hT, hb, rfl⟩ := y
    rw [hv] at hk'
    cases hk'
    obtain ⟨F2, x2, g2⟩ := fz e2 hb
    refine ⟨_, x2.trans (Ext.fresh x2.sub _ hT), new_tup x2.sub hT (by show 2 ≤ sizeLine; decide) (.cons (fz_rep g2 (hk p (List.mem_of_getElem? e))) (.cons ((rv.mono e1).mono x2.ext) .nil))⟩
end
def small {κ : Type} (es : List (κ × D)) : Bool := decide (es.length ≤ sizeLine)
def smallT (es : List (List Key × D)) : Bool := decide (es.length ≤ sizeLine) && es.all fun p => decide (p.1.length ≤ sizeLine)
def dkeys : D → Option (List D)
  | .dT es => if smallT es then some (es.map fun p => tkey p.1) else none
  | .dK es => if small es then some (es.map fun p => keyD p.1) else none
  | _ => none
def dvals : D → Option (List D)
  | .dK es => if small es then some (es.map fun p => p.2) else none
  | _ => none
def ditems : D → Option (List D)
  | .dT es => if smallT es then some (es.map fun p => .tup [tkey p.1, p.2]) else none
  | .dK es => if small es then some (es.map fun p => .tup [keyD p.1, p.2]) else none
  | _ => none
theorem smallT_ok {es : List (List Key × D)} (h : smallT es = true) : es.length ≤ sizeLine ∧ ∀ p ∈ es, p.1.length ≤ sizeLine := by
  obtain ⟨h1, h2⟩ := Bool.and_eq_true_iff.mp h
  exact ⟨of_decide_eq_true h1, fun p hp => of_decide_eq_true (List.all_eq_true.mp h2 p hp)⟩
section
variable {X : Cx} {G : Gd} {W : WX} {ρ : Rho} {e : Expr} {m : Rs D} {apos cpos : Pos}
/-- for k in d -/
theorem it_keys {tg : Expr} (h : EV X G W ρ e m) : IT X G W ρ tg e (m.bind fun d => Rs.of (dkeys d)) := by
  obtain ⟨t, p, q⟩ := h
  refine ⟨_, pi_keys p, fun F0 σ F H R hh hp => ?_⟩
  refine q F0 σ F H _ hh (hp.bind fun d v F' H' e1 r1 hp1 => ?_)
  obtain ⟨ds, hd, k⟩ := hp1.of
  unfold dkeys at hd
  split at hd
  · split at hd
    · rename_i hs
      cases hd
      obtain ⟨s1, s2⟩ := smallT_ok hs
      cases r1 with
      | dT h1 h2 h3 => exact ⟨_, _, rfl, .inr ⟨_, e1.sub _ _ h1, k _ F' H' (Ext.refl e1.sub) (walks_keysT h1 h2 h3 s1 s2)⟩⟩
    · cases hd
  · split at hd
    · rename_i hs
      cases hd
      cases r1 with
      | dK h1 h2 h3 => exact ⟨_, _, rfl, .inl ⟨_, e1.sub _ _ h1, k _ F' H' (Ext.refl e1.sub) (walks_keysK h1 h2 h3 (of_decide_eq_true hs))⟩⟩
    · cases hd
  · cases hd
/-- for v in d.values() -/
theorem it_vals {tg : Expr} (h : EV X G W ρ e m) (hbase : attributeBase e "values" X.env (eval e X.env) = eval e X.env := by rfl) (hline : (apos.endLine == cpos.line) = true := by rfl) : IT X G W ρ tg (.Call (.Attribute e "values" apos) [] [] cpos) (m.bind fun d => Rs.of (dvals d)) := by
  obtain ⟨t, p, q⟩ := h
  refine ⟨_, pi_values p hbase hline, fun F0 σ F H R hh hp => ?_⟩
  refine q F0 σ F H _ hh (hp.bind fun d v F' H' e1 r1 hp1 => ?_)
  obtain ⟨ds, hd, k⟩ := hp1.of
  unfold dvals at hd
  split at hd
  · split at hd
    · rename_i hs
      cases hd
      cases r1 with
      | dK h1 h2 h3 => exact ⟨_, _, _, rfl, e1.sub _ _ h1, k _ F' H' (Ext.refl e1.sub) (walks_valsK h1 h2 h3 (of_decide_eq_true hs))⟩
    · cases hd
  · cases hd
/-- for .. in d.items() -/
theorem it_items {elts : List Expr} {kk : Nat} {tpos : Pos} (h : EV X G W ρ e m) (hbase : attributeBase e "items" X.env (eval e X.env) = eval e X.env := by rfl) (hline : (apos.endLine == cpos.line) = true := by rfl) : IT X G W ρ (.Tuple elts kk tpos) (.Call (.Attribute e "items" apos) [] [] cpos) (m.bind fun d => Rs.of (ditems d)) := by
  obtain ⟨t, p, q⟩ := h
  refine ⟨_, PI.or (pi_items p hbase hline) (pi_itemsT p hbase hline), fun F0 σ F H R hh hp => ?_⟩
  cases m with
  | ex c fs => exact .inl (q F0 σ F H _ hh hp)
  | no => exact hp.elim
  | ok d =>
    obtain ⟨ds, hd, k⟩ := Post.of (o := ditems d) hp
    unfold ditems at hd
    split at hd
    · split at hd
      · rename_i hs
        cases hd
        obtain ⟨s1, s2⟩ := smallT_ok hs
        refine .inr (q F0 σ F H _ hh fun v F' H' e1 r1 => ?_)
        cases r1 with
        | dT h1 h2 h3 => exact ⟨_, _, _, rfl, e1.sub _ _ h1, k _ F' H' e1 (walks_itemsT h1 h2 h3 s1 s2)⟩
      · cases hd
    · split at hd
      · rename_i hs
        cases hd
        refine .inl (q F0 σ F H _ hh fun v F' H' e1 r1 => ?_)
        cases r1 with
        | dK h1 h2 h3 => exact ⟨_, _, _, rfl, e1.sub _ _ h1, k _ F' H' e1 (walks_itemsK h1 h2 h3 (of_decide_eq_true hs))⟩
      · cases hd
    · cases hd
/-- the target (a, b), c -/
def un21 : D → Option (D × D × D)
  | .tup [.tup [a, b], c] => some (a, b, c)
  | _ => none
theorem tt_21 {i j n k1 k2 : Nat} {a b c : Expr} {p1 pos : Pos} (hc : X.calm = true) (ha : PG X a (gName i)) (hb : PG X b (gName j)) (hcc : PG X c (gName n)) (hl : i < ρ.length := by exact Nat.le_of_ble_eq_true rfl) (hl2 : j < ρ.length := by exact Nat.le_of_ble_eq_true rfl) (hl3 : n < ρ.length := by exact Nat.le_of_ble_eq_true rfl)
    (h1 : (assignEach [.Tuple [a, b] k1 p1, c] X.env).map (·.2) = assign (.Tuple [a, b] k1 p1) X.env :: (assignEach [c] X.env).map (·.2) := by rfl) (h2 : (assignEach [c] X.env).map (·.2) = assign c X.env :: (assignEach [] X.env).map (·.2) := by rfl) (hn : (assignEach [.Tuple [a, b] k1 p1, c] X.env).length = 2 := by rfl) (hst : (assignEach [.Tuple [a, b] k1 p1, c] X.env).findIdx? (·.1) = none := by rfl)
    (g1 : (assignEach [a, b] X.env).map (·.2) = assign a X.env :: (assignEach [b] X.env).map (·.2) := by rfl) (g2 : (assignEach [b] X.env).map (·.2) = assign b X.env :: (assignEach [] X.env).map (·.2) := by rfl) (gn : (assignEach [a, b] X.env).length = 2 := by rfl) (gst : (assignEach [a, b] X.env).findIdx? (·.1) = none := by rfl) :
    TT1 X G (.Tuple [.Tuple [a, b] k1 p1, c] k2 pos) ρ [i, j, n] un21 (fun z => ((ρ.set i (some (.val z.1))).set j (some (.val z.2.1))).set n (some (.val z.2.2))) := by
  intro F0 σ F H v d z Q hh r e kk
  refine ⟨_, pg_tup hc (pgs_cons (pg_tup hc (pgs_cons ha (pgs_cons hb pgs_nil g2) g1) gn gst) (pgs_cons hcc pgs_nil h2) h1) hn hst, ?_⟩
  unfold un21 at e
  split at e
  · cases e
    cases r with
    | tup h l r =>
      cases r with
      | cons r1 r =>
        cases r with
        | cons r3 r =>
          cases r
          cases r1 with
          | tup h' l' r' =>
            cases r' with
            | cons s1 r' =>
              cases r' with
              | cons s2 r' =>
                cases r'
                refine ⟨_, _, rfl, SqT.same hh.sub h.sq, rfl, _, _, rfl, ⟨_, _, rfl, SqT.same hh.sub h'.sq, rfl, _, _, rfl, _, _, rfl, rfl, ?_⟩⟩
                refine ⟨_, _, rfl, rfl, ?_⟩
                exact kk _ (fun vs hv => ((wipe_set (hv n (by simp))).trans (wipe_set (hv j (by simp)))).trans (wipe_set (hv i (by simp)))) (((hh.setV s1 hl).setV s2 (by simpa using hl2)).setV r3 (by simpa using hl3))
  · cases e
end
end VL
set_option Elab.async false
set_option linter.all false
set_option maxRecDepth 100000
set_option autoImplicit false
namespace VL
open PySem PySem.Spec L2
open PyProof.Rows hiding St

/-! ### a dict by a comprehension, keys of either kind -/
theorem dput_by {X : Cx} {pins : List (Addr × Obj)} {σ : L2.St} {H H' : Hp} {s : Shared} {E : Value → Shared → Prop} {p : Addr} {y v : V} {u r : Value} {Q : Unit → Shared → Prop} (hu : X.A.units + 1 < cLine) (I : Inv X pins σ H s) (g : DPut H p y v H') (ry : RelV y u) (rv : RelV v r)
    (k : ∀ t, Inv X pins σ H' t → Q () t) : wpAny (model X.prog X.w) X.A (dictSet p u r) Q E s := by
  rcases g with ⟨kvs, q, e, rfl, l, rfl⟩ | ⟨kvs, q, b, e, rfl, eb, l, rfl⟩
  · exact d_dictSet I e l ry rv k
  · cases (show u = Value.ref b from ry)
    obtain ⟨z, hd, xs, rel, dd⟩ := dt_of I.hok e
    have lx : xs.length ≤ sizeLine := Paired.length rel ▸ z
    have lp := length_putK kvs q v
    refine wpAny_dictSet_heap (hsz := lx) (show X.A.units < cLine by omega) (key_of I.hok eb) dd fun t dd2 keep => k _ ?_
    obtain ⟨ob, es, ep, g1, g2, g3, g4, _, g5⟩ := dd2
    refine d_write I (by rw [e]; exact True.intro) keep ⟨ob, g1⟩ ⟨by omega, hd, _, (rel.put q eb rv).keeps fun c ys ec => ?_, ob, es, ep, g1, g2, g3, g4, g5⟩
    rwa [upd_ne (ne_of ec e fun z => nomatch z)]
/-- what a dict comprehension asks: p the new dict, em how it begins -/
def tDx (em : HO) (wi : TI) (g : TG) (tt : TT) (tk tv : TE) (vs : List Nat) : TE := fun σ H Q => wi σ H fun J H1 => ∀ p, H1 p = none → ∃ Inn : Nat → Nat → Hp → Prop, (∃ m, Inn 0 m (upd H1 p em)) ∧ ∀ i m H, Inn i m H →
  (J.stop i H ∧ Q (.ref p) H) ∨ (J.go i H ∧ ∃ Nx : Hp → Prop, (∀ h, Nx h → ∃ m2, m2 < m ∧ Inn (i + 1) m2 h) ∧ ∀ x h, J.yld i H x h → g x (wipe σ vs) h fun σ2 h2 => wipe σ2 vs = wipe σ vs ∧ tt σ2 h2 fun b h3 =>
    if b = true then tk σ2 h3 fun y h4 => tv σ2 h4 fun z h5 => ∃ h6, DPut h5 p y z h6 ∧ Nx h6 else Nx h3)
section
variable {X : Cx}
theorem dx_loop {σ : L2.St} {Q : VK} {kx vx tg iter : Expr} {ifs : List Expr} {scope : Scope} {own : List (Str × Nat)} {pos : Pos} {g : TG} {tt : TT} {tk tv : TE} {RR : Result → Shared → Prop} {J : It} {fp : List Addr} {it p : Addr} {tn : Nat → Heap → Prop}
    {s3 s4 : Shared} {H3 : Hp} {ce : Env} {Inn : Nat → Nat → Hp → Prop} {m0 : Nat} (hu : X.A.units + 1 < cLine) (hc : X.calm = true)
    (T : Turn X.prog X.w X.K tg J fp it tn) (pg : PG (X.blk s3 H3 scope ce fp) tg g) (pt : PTs (X.blk s3 H3 scope ce fp) ifs tt) (pk : PE (X.blk s3 H3 scope ce fp) kx tk) (pv : PE (X.blk s3 H3 scope ce fp) vx tv)
    (I4 : Inv (X.blk s3 H3 scope ce fp) [] (wipe σ (own.map (·.2))) H3 s4) (st4 : tn 0 s4.heap) (nf : ∀ b ∈ fp, H3 b = none) (w0 : Inn 0 m0 H3)
    (turn : ∀ i m H, Inn i m H → (J.stop i H ∧ Q (.ref p) H) ∨ (J.go i H ∧ ∃ Nx : Hp → Prop, (∀ h, Nx h → ∃ m2, m2 < m ∧ Inn (i + 1) m2 h) ∧ ∀ x h, J.yld i H x h → g x (wipe σ (own.map (·.2))) h fun σ2 h2 => wipe σ2 (own.map (·.2)) = wipe σ (own.map (·.2)) ∧ tt σ2 h2 fun b h3 =>
      if b = true then tk σ2 h3 fun y h4 => tv σ2 h4 fun z h5 => ∃ h6, DPut h5 p y z h6 ∧ Nx h6 else Nx h3))
    (fin : ∀ s6 H5, Inv (X.blk s3 H3 scope ce fp) [] (wipe σ (own.map (·.2))) H5 s6 → Q (.ref p) H5 → RR (.ok .next) s6) :
    codeAny (model X.prog X.w) X.A (.compLoop (.DictComp kx vx [⟨tg, iter, ifs, 0⟩] scope pos) 0 (.ref it) (.ref p) ce) RR s4 := by
  have foot : ∀ {τ : L2.St} {h : Hp} {t : Shared}, Inv (X.blk s3 H3 scope ce fp) [] τ h t → (∀ b ∈ fp, h b = none) → ∀ b ∈ fp, FpOk (X.blk s3 H3 scope ce fp) [] h b := by
    intro τ h t J1 nn b hb
    obtain ⟨x1, x2⟩ := J1.ok.exf b hb
    exact ⟨nn b hb, x1, J1.ok.exfs b hb, .inl hb, fun y c e => x2 y c e, fun z hz => absurd (show z ∈ ([] : List (Addr × Obj)) ++ [] from hz) List.not_mem_nil⟩
  refine compLoop_anyD (fun n t => ∃ i h, Inv (X.blk s3 H3 scope ce fp) [] (wipe σ (own.map (·.2))) h t ∧ tn i t.heap ∧ (∀ b ∈ fp, h b = none) ∧ Inn i n h) ?_ m0 ⟨0, H3, I4, st4, nf, w0⟩
  rintro n s5 ⟨i, H5, I5, st5, n5, w5⟩
  rcases turn i n H5 w5 with ⟨stop, done⟩ | ⟨go, Nx, hN, step⟩
  · refine thnF (T.done (X.blk s3 H3 scope ce fp) rfl rfl rfl hc i [] s5 _ H5 (fun _ _ => False) I5 (foot I5 n5) st5 stop) ?_
    rintro r s6 ⟨rfl, I6⟩
    exact fin s6 H5 I6 done
  · refine thnF (T.item (X.blk s3 H3 scope ce fp) rfl rfl rfl hc i [] s5 _ H5 (fun _ _ => False) I5 (foot I5 n5) st5 go) ?_
    rintro r s6 ⟨u, rfl, h6⟩
    refine thnF h6 ?_
    rintro _ s7 ⟨x, H7, I7, r7, y7, st7, n7⟩
    refine thnF (pg.run _ s7 _ H7 x u _ (I7.pinned (foot I7 n7) (T.obj _ _ st7)) r7 (step x H7 y7)) ?_
    rintro _ s8 ⟨σ8, H8, I8, hw8, q8⟩
    refine thnF (pt.run _ s8 σ8 H8 _ I8 q8) ?_
    rintro b s9 ⟨H9, I9, q9⟩
    have next : ∀ {t : Shared} {h : Hp}, Inv (X.blk s3 H3 scope ce fp) ([] ++ pinsAt fp s7.heap) σ8 h t → Nx h → ∃ m, m < n ∧ ∃ i h, Inv (X.blk s3 H3 scope ce fp) [] (wipe σ (own.map (·.2))) h t ∧ tn i t.heap ∧ (∀ b ∈ fp, h b = none) ∧ Inn i m h := by
      intro t h Ih nx
      obtain ⟨m2, lt2, w2⟩ := hN h nx
      have kept : ∀ c ∈ fp, ∀ oc, s7.heap.get? c = some oc → t.heap.get? c = some oc ∧ h c = none := by
        intro c hcm oc ec
        obtain ⟨z1, z2, _⟩ := Ih.pin (c, oc) (List.mem_append_right _ (List.mem_append_right _ (mem_pinsAt hcm ec)))
        exact ⟨z1, z2⟩
      have ln : (wipe σ (own.map (·.2))).length = σ8.length := by rw [← hw8, wipe_length]
      refine ⟨m2, lt2, i + 1, h, (Ih.unpinned (pins := [])).weak ln ?_, T.keep _ _ _ st7 fun c hcm oc ec => (kept c hcm oc ec).1, ?_, w2⟩
      · intro j v ej
        rw [← hw8] at ej
        exact (wipe_some ej).1
      · intro c hcm
        obtain ⟨oc, ec, _⟩ := T.obj _ _ st7 c hcm
        exact (kept c hcm oc ec).2
    cases b with
    | false =>
      rw [if_neg Bool.false_ne_true] at q9 ⊢
      exact next I9 q9
    | true =>
      rw [if_pos rfl] at q9 ⊢
      refine thnF (pk.run _ s9 σ8 H9 _ I9 q9) ?_
      rintro uk s10 ⟨yk, H10, I10, r10, q10⟩
      refine thnF (pv.run _ s10 σ8 H10 _ I10 q10) ?_
      rintro uv s11 ⟨yv, H11, I11, r11, h6, put, nx⟩
      exact dput_by (X := X.blk s3 H3 scope ce fp) hu I11 put r10 r11 fun t It => next It nx
theorem dx_core {em : HO} {kx vx tg iter : Expr} {ifs : List Expr} {scope : Scope} {own : List (Str × Nat)} {pos pos2 : Pos} {wi : TI} {g : TG} {tt : TT} {tk tv : TE} {pins : List (Addr × Obj)} {s : Shared} {σ : L2.St} {H : Hp} {Q : VK} {use : Option (Value → Sem Unit)} {Qf : Value → Shared → Prop} (hem : em = .dK [] ∨ em = .dT []) (hu : X.A.units + 1 < cLine) (hc : X.calm = true) (hN : X.N.Nodup) (I : Inv X pins σ H s) (hi : PI X tg iter wi) (ok : BlkOk X.N X.env.scope scope own)
    (hg : ∀ s H C cl fp, PG (XB X scope s H C cl fp) tg g) (ht : ∀ s H C cl fp, PTs (XB X scope s H C cl fp) ifs tt) (hk : ∀ s H C cl fp, PE (XB X scope s H C cl fp) kx tk) (he : ∀ s H C cl fp, PE (XB X scope s H C cl fp) vx tv) (hs : ∀ x, foldedSetIterable iter X.env x = pure x)
    (h : tDx em wi g tt tk tv (own.map (·.2)) σ H Q)
    (hRR : ∀ p C t m h5, Inv X pins σ h5 t → Q (.ref p) h5 → t.heap.Ns C m → FpOk X pins h5 C → compPost (model X.prog X.w) X.A X.xe use Qf (.ref p) C (.ok .next) t) :
    wpAny (model X.prog X.w) X.A (comprehension (.DictComp kx vx [⟨tg, iter, ifs, 0⟩] scope pos) scope X.env pos2 newDict false (eval iter X.env) use) Qf X.xe s := by
  have free_ : ∀ y ∈ scope.names, y.2 = .free → ∃ c, X.env.cells.lookup y.1 = some c := by
    intro y hy e
    rcases ok.free y hy e with z | z
    · exact I.ok.has _ (.inl z)
    · exact I.ok.has _ (.inr z)
  refine wpAny_comprehension_free (use := use) rfl hs (closure_ok free_) ok.kind (fun y hy e => by rw [ok.uniq y hy, e]) (thn (hi.run pins s σ H _ I h) fun xv s1 hx => thn hx fun itv s2 h2 => ?_)
  obtain ⟨it, fp, tn, J, H2, rfl, I2, T, st2, f2, q⟩ := h2
  refine wpAny_newObj_type (newEnv_comp ?_)
  generalize hp : s2.heap.objs.size = p
  have hpn : H2 p = none := I2.hok.fresh (Nat.le_of_eq hp)
  obtain ⟨Inn, ⟨m0, w0⟩, turn⟩ := q p hpn
  generalize hs3 : ({ s2 with heap := s2.heap.push { cls := .type "dict", data := .dict #[] } } : Shared) = s3
  have I3 : Inv X pins σ (upd H2 p em) s3 := by
    rw [← hs3]
    refine I2.laid (t' := s2.toks) (fun b o e => Heap.get?_push_of_some _ e) (Nat.le_of_eq hp) ?_
    rw [← hp]
    rcases hem with rfl | rfl
    · exact dk_empty s2.heap I2.big
    · exact dt_empty s2.heap I2.big
  have eh3 : s3.heap = s2.heap.push { cls := .type "dict", data := .dict #[] } := by rw [← hs3]
  have f3 : ∀ b ∈ fp, FpOk X pins (upd H2 p em) b ∧ b < s3.heap.objs.size := by
    intro b hb
    obtain ⟨ob, eb, _⟩ := T.obj _ _ st2 b hb
    have lt := Heap.lt_size eb
    refine ⟨⟨?_, (f2 b hb).2⟩, by rw [eh3, Heap.size_push]; exact Nat.lt_succ_of_lt lt⟩
    rw [upd_ne (hp ▸ Nat.ne_of_lt lt)]
    exact (f2 b hb).1
  have st3 : tn 0 s3.heap := T.keep _ _ _ st2 fun b _ o e => by rw [eh3]; exact Heap.get?_push_of_some _ e
  have I4 := block_start I3 ok hN f3
  have pg := hg s3 (upd H2 p em) s3.heap.objs.size (cellsFrom (s3.heap.objs.size + 1) scope.names (cloFrom X.env.cells scope.names [])) fp
  have pt := ht s3 (upd H2 p em) s3.heap.objs.size (cellsFrom (s3.heap.objs.size + 1) scope.names (cloFrom X.env.cells scope.names [])) fp
  have pk := hk s3 (upd H2 p em) s3.heap.objs.size (cellsFrom (s3.heap.objs.size + 1) scope.names (cloFrom X.env.cells scope.names [])) fp
  have pv := he s3 (upd H2 p em) s3.heap.objs.size (cellsFrom (s3.heap.objs.size + 1) scope.names (cloFrom X.env.cells scope.names [])) fp
  have st4 : tn 0 (pushCells (s3.heap.push { cls := .type "dict", data := .dict #[] }) scope.names) := T.keep _ _ _ st3 fun b _ o e => pushCells_keeps _ _ _ _ (Heap.get?_push_of_some _ e)
  have loop : codeAny (model X.prog X.w) X.A (.compLoop (.DictComp kx vx [⟨tg, iter, ifs, 0⟩] scope pos) 0 (.ref it) (.ref p) (compEnvC scope (cellsFrom (s3.heap.objs.size + 1) scope.names (cloFrom X.env.cells scope.names [])) s3.heap.objs.size X.env)) (compPost (model X.prog X.w) X.A X.xe use Qf (.ref p) s3.heap.objs.size) { s3 with heap := pushCells (s3.heap.push { cls := .type "dict", data := .dict #[] }) scope.names } := by
    refine dx_loop (Q := Q) (own := own) (σ := σ) hu hc T pg pt pk pv I4 st4 (fun b hb => (f3 b hb).1.1) w0 turn fun s6 H5 I6 qq => ?_
    have I7 : Inv X pins σ H5 s6 := I3.call' (ch := fp) I6.os I6.base I6.hok I6.bare fun b hb => by
      obtain ⟨y0, y1, y2, y3, y4, y5⟩ := (f3 b hb).1
      exact ⟨y3, y1, y4, y5⟩
    have nC : H5 s3.heap.objs.size = none := I6.free
    obtain ⟨mm, hn, _⟩ := I6.loc
    exact hRR p s3.heap.objs.size s6 mm H5 I7 qq hn (I3.fpOk (Nat.le_refl _) nC)
  exact codeAny_compStart_dict loop (T.self X.A 0 _ _ _ st4 loop)
theorem pe_dx {em : HO} {kx vx tg iter : Expr} {ifs : List Expr} {scope : Scope} {own : List (Str × Nat)} {pos : Pos} {wi : TI} {g : TG} {tt : TT} {tk tv : TE} (hem : em = .dK [] ∨ em = .dT []) (hu : X.A.units + 1 < cLine) (hc : X.calm = true) (hN : X.N.Nodup) (hi : PI X tg iter wi) (ok : BlkOk X.N X.env.scope scope own)
    (hg : ∀ s H C cl fp, PG (XB X scope s H C cl fp) tg g) (ht : ∀ s H C cl fp, PTs (XB X scope s H C cl fp) ifs tt) (hk : ∀ s H C cl fp, PE (XB X scope s H C cl fp) kx tk) (he : ∀ s H C cl fp, PE (XB X scope s H C cl fp) vx tv) (hs : ∀ x, foldedSetIterable iter X.env x = pure x := by intro _; rfl) :
    PE X (.DictComp kx vx [⟨tg, iter, ifs, 0⟩] scope pos) (tDx em wi g tt tk tv (own.map (·.2))) := by
  refine ⟨fun pins s σ H Q I h => ?_⟩
  rw [arm_eval_DictComp]
  refine dx_core hem hu hc hN I hi ok hg ht hk he hs h fun p C t m h5 I5 q hn f => ⟨m, hn, fun h2 sb => ?_⟩
  obtain ⟨y0, y1, y2, y3, y4, y5⟩ := f
  exact ⟨.ref p, h5, I5.turned (t' := t.toks) (fun b o hb e => (sb.2 b hb).trans e) y0 y1 y3 y4 y5, rfl, q⟩
/-- name = {..} on one line, the name a local -/
theorem ps_setDx {em : HO} {i : Nat} {y : Str} {py spos : Pos} {kx vx tg iter : Expr} {ifs : List Expr} {scope : Scope} {own : List (Str × Nat)} {pos : Pos} {wi : TI} {g : TG} {tt : TT} {tk tv : TE} (hem : em = .dK [] ∨ em = .dT []) (hu : X.A.units + 1 < cLine) (hc : X.calm = true) (hN : X.N.Nodup) (hy : X.N[i]? = some y) (hyl : X.env.scope.names.lookup y = some .local)
    (hsw : swapsWith (.DictComp kx vx [⟨tg, iter, ifs, 0⟩] scope pos) (some (.Name y py)) spos.line X.env = pure true) (hi : PI X tg iter wi) (ok : BlkOk X.N X.env.scope scope own)
    (hg : ∀ s H C cl fp, PG (XB X scope s H C cl fp) tg g) (ht : ∀ s H C cl fp, PTs (XB X scope s H C cl fp) ifs tt) (hk : ∀ s H C cl fp, PE (XB X scope s H C cl fp) kx tk) (he : ∀ s H C cl fp, PE (XB X scope s H C cl fp) vx tv) (hs : ∀ x, foldedSetIterable iter X.env x = pure x := by intro _; rfl) :
    PS X (.Assign [.Name y py] (.DictComp kx vx [⟨tg, iter, ifs, 0⟩] scope pos) spos) (tAsg (tDx em wi g tt tk tv (own.map (·.2))) (gName i)) := by
  refine ⟨fun pins s σ H E I h => ?_⟩
  rw [exec_Assign_Name_used (hs := hsw)]; apply wpAny_bind; apply wpAny_standAt; apply wpAny_bind
  show wpAny _ X.A (do let _ ← comprehension (.DictComp kx vx [⟨tg, iter, ifs, 0⟩] scope pos) scope X.env (firstIterPos [⟨tg, iter, ifs, 0⟩] pos) newDict false (eval iter X.env) (some (assign (.Name y py) X.env))) _ _ s
  have h : tDx em wi g tt tk tv (own.map (·.2)) σ H (fun x H1 => gName i x σ H1 E.nx) := h
  refine wpAny_bind (thn (dx_core (Qf := fun _ t => SP X pins E .next t) hem hu hc hN I hi ok hg ht hk he hs h fun p C t m h5 I5 q hn f => ?_) fun _ t hq => wpAny_pure (wpAny_pure hq))
  show wpAny _ _ (assign (.Name y py) X.env (.ref p)) _ _ _
  refine wpAny_assign_Name (store_ok2 (v := V.ref p) I5 hN hy (.inl hyl) rfl ?_ (.inr hyl))
  rintro s2 I2 ⟨a, sb, ha⟩
  obtain ⟨y0, y1, y2, y3, y4, y5⟩ := f
  have apart : C ≠ a := by
    rcases ha with z | z
    · exact z ▸ y1
    · exact fun e => y4 y a z e.symm
  exact ⟨m, hn.sameBut sb apart, fun h3 sb3 => ⟨_, h5, I2.turned (t' := s2.toks) (fun b o hb e => (sb3.2 b hb).trans e) y0 y1 y3 y4 y5, q⟩⟩
theorem sw_trueD {kx vx : Expr} {gs : List Comprehension} {scope : Scope} {pos py : Pos} {y : Str} {l : Nat} {env : Env} (hk : env.scope.kind = .function) (hy : env.scope.names.lookup y = some .local) (hl : (py.line == pos.line) = true)
    (ha : (scope.names.any fun (n, k) => n == y && (k == .local || k == .cell)) = false) : swapsWith (.DictComp kx vx gs scope pos) (some (.Name y py)) l env = pure true := by
  have isl : env.kindOf y = some .local := hy
  have isf : env.blockKind = .function := by unfold Env.blockKind; simp [hk]
  simp only [swapsWith, isf, isl, ha, hl, Expr.pos]
  rfl
end
end VL
set_option Elab.async false
set_option linter.all false
set_option maxRecDepth 100000
set_option autoImplicit false
namespace VL
open PySem PySem.Spec L2
open PyProof.Rows hiding St

/-! ### putting into a dict -/
def putE {κ : Type} [DecidableEq κ] (es : List (κ × D)) (k : κ) (d : D) : List (κ × D) :=
  if (es.any fun p => decide (p.1 = k)) then es.map (fun p => if p.1 = k then (p.1, d) else p) else es ++ [(k, d)]
theorem put_repl {κ : Type} [DecidableEq κ] {K : PySem.W.Frag} {F : Hp} {k : κ} {v : V} {d : D} (rv : Rep K F v d) : ∀ {kvs : List (κ × V)} {es : List (κ × D)}, kvs.map (·.1) = es.map (·.1) → Reps K F (kvs.map (·.2)) (es.map (·.2)) →
    (kvs.map (fun p => if p.1 = k then (p.1, v) else p)).map (·.1) = (es.map (fun p => if p.1 = k then (p.1, d) else p)).map (·.1) ∧ Reps K F ((kvs.map (fun p => if p.1 = k then (p.1, v) else p)).map (·.2)) ((es.map (fun p => if p.1 = k then (p.1, d) else p)).map (·.2)) ∧ (kvs.any fun p => decide (p.1 = k)) = es.any fun p => decide (p.1 = k)
  | [], [], _, _ => ⟨rfl, .nil, rfl⟩
  | [], _ :: _, h, _ => by simp at h
  | _ :: _, [], h, _ => by simp at h
  | (a, u) :: kvs, (b, e) :: es, h, r => by
    simp only [List.map_cons, List.cons.injEq] at h r
    obtain ⟨rfl, h2⟩ := h
    cases r with
    | cons r1 r2 =>
      obtain ⟨i1, i2, i3⟩ := put_repl rv h2 r2
      by_cases z : a = k
      · simp only [List.map_cons, z, if_true, List.any_cons, decide_true, Bool.true_or]
        exact ⟨by rw [i1], .cons rv i2, trivial⟩
      · simp only [List.map_cons, z, if_false, List.any_cons, decide_false, Bool.false_or]
        exact ⟨by rw [i1], .cons r1 i2, i3⟩
theorem put_ok {κ : Type} [DecidableEq κ] {K : PySem.W.Frag} {F : Hp} {k : κ} {v : V} {d : D} {kvs : List (κ × V)} {es : List (κ × D)} (rv : Rep K F v d) (h : kvs.map (·.1) = es.map (·.1)) (r : Reps K F (kvs.map (·.2)) (es.map (·.2))) :
    (putK kvs k v).map (·.1) = (putE es k d).map (·.1) ∧ Reps K F ((putK kvs k v).map (·.2)) ((putE es k d).map (·.2)) := by
  obtain ⟨i1, i2, i3⟩ := put_repl (k := k) rv h r
  unfold putK putE
  rw [i3]
  split
  · exact ⟨i1, i2⟩
  · simp only [List.map_append, List.map_cons, List.map_nil, h]
    exact ⟨trivial, r.append (.one rv)⟩
def dputD : D → D → D → Option D
  | .dT es, .tup ks, v => if ks.any isStr then (keysOf ks).bind fun k => if es.length < sizeLine then some (.dT (putE es k v)) else none else none
  | .dK es, k, v => (keyOf k).bind fun k => if es.length < sizeLine then some (.dK (putE es k v)) else none
  | _, _, _ => none
theorem Own.dput {K : PySem.W.Frag} {F H : Hp} {a : Addr} {y v : V} {d dk dv d' : D} (s : Same F H) (ho : Own K F H a d) (ry : Rep K F y dk) (rv : Rep K F v dv) (h : dputD d dk dv = some d') : ∃ o, DPut H a y v (upd H a o) ∧ Own K F (upd H a o) a d' := by
  unfold dputD at h
  split at h
  · split at h
    · rename_i es ks hstr
      cases hk : keysOf ks with
      | none => rw [hk] at h; cases h
      | some k =>
        rw [hk] at h
        simp only [Option.bind_some] at h
        split at h
        · rename_i hl
          cases h
          obtain ⟨b, rfl, _, hb⟩ := tup_key s (.inl ry) hk hstr
          cases ho with
          | dT h1 h2 h3 =>
            obtain ⟨p1, p2⟩ := put_ok (k := k) rv h2 h3
            exact ⟨_, .inr ⟨_, k, b, h1, rfl, hb, by rw [len_at h2]; exact hl, rfl⟩, .dT upd_same p1 p2⟩
        · cases h
    · cases h
  · rename_i es
    cases hk : keyOf dk with
    | none => rw [hk] at h; cases h
    | some k =>
      rw [hk] at h
      simp only [Option.bind_some] at h
      split at h
      · rename_i hl
        cases h
        have ey := keyOf_rep hk ry
        subst ey
        cases ho with
        | dK h1 h2 h3 =>
          obtain ⟨p1, p2⟩ := put_ok (k := k) rv h2 h3
          exact ⟨_, .inl ⟨_, k, h1, rfl, by rw [len_at h2]; exact hl, rfl⟩, .dK upd_same p1 p2⟩
      · cases h
  · cases h
/-! ### {k: v for ..} -/
def compD {γ : Type} (u : D → Option γ) (fc : γ → Rs Bool) (fk fv : γ → Rs D) : List D → D → Rs D
  | [], acc => .ok acc
  | d :: ds, acc => (Rs.of (u d)).bind fun y => (fc y).noX.bind fun b => if b then (fk y).noX.bind fun k => (fv y).noX.bind fun v => (Rs.of (dputD acc k v)).bind fun acc' => compD u fc fk fv ds acc' else compD u fc fk fv ds acc
section
variable {X : Cx} {G : Gd} {W : WX} {ρ : Rho}
theorem dx_read {γ : Type} {em : HO} {em0 : D} {u : D → Option γ} {p : γ → Rho} {is vs : List Nat} {tg kx vx : Expr} {ifs : List Expr} {scope : Scope} {wi : TI} {mi : Rs (List D)} {fc : γ → Rs Bool} {fk fv : γ → Rs D}
    (hem : ∀ F H a, H a = some em → Own X.K F H a em0) (hnt : nT em)
    (qI : ∀ F0 σ F H R, Holds X.K (G.at F0) ρ σ F H → Post X.K (fun F' _ J ds => Walks X.K J F' ds) (fun c d H => W c d σ H) F H R mi → wi σ H R) (his : ∀ i ∈ is, i ∈ vs)
    (ht : ∀ s H C cl fp, TT1 (XB X scope s H C cl fp) G tg (rWipe ρ vs) is u p) (hc : ∀ s H C cl fp y, TVs (XB X scope s H C cl fp) G W0 (p y) ifs (fc y)) (hk : ∀ s H C cl fp y, EV (XB X scope s H C cl fp) G W0 (p y) kx (fk y)) (he : ∀ s H C cl fp y, EV (XB X scope s H C cl fp) G W0 (p y) vx (fv y))
    {F0 : Hp} {σ : L2.St} {F H : Hp} {Q : VK} (hh : Holds X.K (G.at F0) ρ σ F H) (hp : Post X.K (fun F' H' v g => CellOk X.K H F' H' true v g) (fun c d H => W c d σ H) F H Q (mi.bind fun items => compD u fc fk fv items em0)) :
    tDx em wi (gAll X scope tg) (ttAll X scope ifs) (teAll X scope kx) (teAll X scope vx) vs σ H Q := by
  refine qI F0 σ F H _ hh ?_
  cases mi with
  | ex c fs => exact hp
  | no => exact hp
  | ok items =>
  intro J F1 H1 e1 hw D0 hD
  have hh1 := hh.more e1
  have hDH : H D0 = none := e1.same.free hD
  have h0 := hh1.toGnd.free0 hD
  have hno := fun j l e q => hh1.notOwn hD j l e q
  have hFD : F1 D0 = none := sub_none e1.sub hD
  refine ⟨fun i m H2 => m = items.length - i ∧ i ≤ items.length ∧ ∃ F2 acc, Holds X.K (G.at F0) ρ σ F2 H2 ∧ Ext F1 H1 F2 H2 ∧ F2 D0 = none ∧ Own X.K F2 H2 D0 acc ∧
      Post X.K (fun F' H' v g => CellOk X.K H F' H' true v g) (fun c d H => W c d σ H) F H Q (compD u fc fk fv (items.drop i) acc), ⟨items.length, by simp, Nat.zero_le _, F1, em0, hh1.free hFD h0 hno, Ext.beside (Ext.refl e1.sub) hD hFD, hFD, hem _ _ _ upd_same, by rw [List.drop_zero]; exact hp⟩, ?_⟩
  rintro i m H2 ⟨rfl, hil, F2, acc, hh2, x2, f2, o2, hp2⟩
  obtain ⟨wgo, wstop⟩ := hw.2 F2 H2 x2.ext hh2.sub
  by_cases hlt : i < items.length
  · have hg : items[i]? = some items[i] := List.getElem?_eq_getElem hlt
    obtain ⟨g1, g2⟩ := wgo i _ hg
    rw [List.drop_eq_getElem_cons hlt] at hp2
    refine .inr ⟨g1, fun H' => ∃ F' acc', Holds X.K (G.at F0) ρ σ F' H' ∧ Ext F1 H1 F' H' ∧ F' D0 = none ∧ Own X.K F' H' D0 acc' ∧ Post X.K (fun F' H' v g => CellOk X.K H F' H' true v g) (fun c d H => W c d σ H) F H Q (compD u fc fk fv (items.drop (i + 1)) acc'),
      fun H' ⟨F', acc', q1, q2, q3, q4, q5⟩ => ⟨items.length - (i + 1), by omega, rfl, hlt, F', acc', q1, q2, q3, q4, q5⟩, fun x H' y => ?_⟩
    obtain ⟨F3, e3, r3⟩ := g2 x H' y
    have hh3 := hh2.more e3
    have o3 := o2.ext e3
    obtain ⟨c2, q2', t2⟩ := o2.there
    have f3 := e3.stays f2 q2' t2
    simp only [compD] at hp2
    cases hu : u items[i] with
    | none =>
      rw [hu] at hp2
      exact hp2.elim
    | some y =>
      rw [hu] at hp2
      simp only [Rs.of_some, Rs.bind_ok] at hp2
      intro s' H0' C' cl' fp'
      refine ht s' H0' C' cl' fp' F0 _ F3 H' x _ y _ (hh3.wipe vs) r3 hu fun σ4 w4 hh4 => ⟨?_, ?_⟩
      · rw [w4 vs his]
        exact wipe_wipe fun i hi => hi
      intro s5 H05 C5 cl5 fp5
      obtain ⟨t5, p5, q5⟩ := hc s5 H05 C5 cl5 fp5 y
      refine ⟨t5, p5, q5 F0 σ4 F3 H' _ hh4 (post_noX (fun b hb v F4 H4 e4 rb => ?_) fun hn => ?_)⟩
      · cases rb
        rw [hb] at hp2
        simp only [Rs.noX_ok, Rs.bind_ok] at hp2
        have hh4' := hh3.more e4
        have o4 := o3.ext e4
        obtain ⟨c3, q3', t3⟩ := o3.there
        have f4 := e4.stays f3 q3' t3
        cases b with
        | true =>
          refine iteT ?_
          intro s6 H06 C6 cl6 fp6
          obtain ⟨t6, p6, q6⟩ := hk s6 H06 C6 cl6 fp6 y
          simp only [if_true] at hp2
          refine ⟨t6, p6, q6 F0 σ4 F4 H4 _ (hh4.more e4) (post_noX (fun dk hdk vk F5 H5 e5 r5 => ?_) fun hn => ?_)⟩
          · rw [hdk] at hp2
            simp only [Rs.noX_ok, Rs.bind_ok] at hp2
            obtain ⟨c4, q4', t4⟩ := o4.there
            have f5 := e5.stays f4 q4' t4
            have o5 := o4.ext e5
            intro s7 H07 C7 cl7 fp7
            obtain ⟨t7, p7, q7⟩ := he s7 H07 C7 cl7 fp7 y
            refine ⟨t7, p7, q7 F0 σ4 F5 H5 _ ((hh4.more e4).more e5) (post_noX (fun dv hdv vv F6 H6 e6 r6 => ?_) fun hn => ?_)⟩
            · rw [hdv] at hp2
              simp only [Rs.noX_ok, Rs.bind_ok] at hp2
              obtain ⟨c5, q5', t5'⟩ := o5.there
              have f6 := e6.stays f5 q5' t5'
              have o6 := o5.ext e6
              cases hpt : dputD acc dk dv with
              | none => rw [hpt] at hp2; exact hp2.elim
              | some acc' =>
                rw [hpt] at hp2
                obtain ⟨oo, put, o7⟩ := o6.dput e6.sub (r5.mono e6.ext) r6 hpt
                exact ⟨_, put, F6, acc', ((hh4'.more e5).more e6).free f6 h0 hno, Ext.beside (x2.trans (e3.trans (e4.trans (e5.trans e6)))) hD f6, f6, o7, hp2⟩
            · rw [hn] at hp2
              exact hp2.elim
          · rw [hn] at hp2
            exact hp2.elim
        | false =>
          refine iteF ⟨F4, acc, hh4', x2.trans (e3.trans e4), f4, o4, ?_⟩
          simpa using hp2
      · rw [hn] at hp2
        exact hp2.elim
  · have ei : i = items.length := by omega
    subst ei
    rw [List.drop_length] at hp2
    simp only [compD] at hp2
    exact .inl ⟨wstop, hp2 (.ref D0) F2 H2 (e1.trans x2) ⟨D0, rfl, hDH, f2, o2⟩⟩
theorem ec_dictT {γ : Type} {u : D → Option γ} {p : γ → Rho} {is : List Nat} {own : List (Str × Nat)} {tg iter kx vx : Expr} {ifs : List Expr} {scope : Scope} {pos : Pos} {mi : Rs (List D)} {fc : γ → Rs Bool} {fk fv : γ → Rs D} (hu : X.A.units + 64 < cLine)
    (calm : X.calm = true) (nd : X.N.Nodup) (hi : IT X G W ρ tg iter mi) (ok : BlkOk X.N X.env.scope scope own) (his : ∀ i ∈ is, i ∈ own.map (·.2))
    (ht : ∀ s H C cl fp, TT1 (XB X scope s H C cl fp) G tg (rWipe ρ (own.map (·.2))) is u p) (hc : ∀ s H C cl fp y, TVs (XB X scope s H C cl fp) G W0 (p y) ifs (fc y)) (hk : ∀ s H C cl fp y, EV (XB X scope s H C cl fp) G W0 (p y) kx (fk y)) (he : ∀ s H C cl fp y, EV (XB X scope s H C cl fp) G W0 (p y) vx (fv y))
    (hs : ∀ x, foldedSetIterable iter X.env x = pure x := by intro _; rfl) : EC X G W ρ true (.DictComp kx vx [⟨tg, iter, ifs, 0⟩] scope pos) (fun d => d) (mi.bind fun items => compD u fc fk fv items (.dT [])) := by
  obtain ⟨wi, pI, qI⟩ := hi
  exact ⟨_, pe_dx (.inr rfl) (by omega) calm nd pI ok hgAll htAll heAll heAll hs, fun F0 σ F H Q hh hp => dx_read (fun F H a h => .dT h rfl .nil) (fun _ z => nomatch z) qI his ht hc hk he hh hp⟩
theorem ec_dictK {γ : Type} {u : D → Option γ} {p : γ → Rho} {is : List Nat} {own : List (Str × Nat)} {tg iter kx vx : Expr} {ifs : List Expr} {scope : Scope} {pos : Pos} {mi : Rs (List D)} {fc : γ → Rs Bool} {fk fv : γ → Rs D} (hu : X.A.units + 64 < cLine)
    (calm : X.calm = true) (nd : X.N.Nodup) (hi : IT X G W ρ tg iter mi) (ok : BlkOk X.N X.env.scope scope own) (his : ∀ i ∈ is, i ∈ own.map (·.2))
    (ht : ∀ s H C cl fp, TT1 (XB X scope s H C cl fp) G tg (rWipe ρ (own.map (·.2))) is u p) (hc : ∀ s H C cl fp y, TVs (XB X scope s H C cl fp) G W0 (p y) ifs (fc y)) (hk : ∀ s H C cl fp y, EV (XB X scope s H C cl fp) G W0 (p y) kx (fk y)) (he : ∀ s H C cl fp y, EV (XB X scope s H C cl fp) G W0 (p y) vx (fv y))
    (hs : ∀ x, foldedSetIterable iter X.env x = pure x := by intro _; rfl) : EC X G W ρ true (.DictComp kx vx [⟨tg, iter, ifs, 0⟩] scope pos) (fun d => d) (mi.bind fun items => compD u fc fk fv items (.dK [])) := by
  obtain ⟨wi, pI, qI⟩ := hi
  exact ⟨_, pe_dx (.inl rfl) (by omega) calm nd pI ok hgAll htAll heAll heAll hs, fun F0 σ F H Q hh hp => dx_read (fun F H a h => .dK h rfl .nil) (fun _ z => nomatch z) qI his ht hc hk he hh hp⟩
/-! ### a new dict as data -/
def tLk (t : TE) : TE := fun σ H Q => t σ H fun v H1 => Q v H1 ∨ ∃ a u, v = .ref a ∧ H1 a = some u ∧ Mut (some u) ∧ ∀ od, Q v (upd H1 a (.frz od u))
theorem pe_lk {e : Expr} {t : TE} (h : PE X e t) : PE X e (tLk t) := by
  refine ⟨fun pins s σ H Q I hw => thn (h.run pins s σ H _ I hw) fun uv s1 ⟨x, H1, I1, rx, q⟩ => ?_⟩
  rcases q with q | ⟨a, u, ex, h1, mu, q⟩
  · exact ⟨x, H1, I1, rx, q⟩
  · obtain ⟨od, I2⟩ := I1.lock h1 mu
    exact ⟨x, _, I2, rx, q od⟩
theorem EC.ev {e : Expr} {m : Rs D} (h : EC X G W ρ true e (fun d => d) m) : EV X G W ρ e m := by
  obtain ⟨t, p, q⟩ := h
  refine ⟨_, pe_lk p, fun F0 σ F H Q hh hp => q F0 σ F H _ hh ?_⟩
  cases m with
  | ex c fs => exact hp
  | no => exact hp
  | ok d =>
    intro v F' H' e1 r1
    obtain ⟨a, rfl, hn, hf, ho⟩ := r1
    have nw : ∀ (o : HO) (b : Addr) (x : HO), upd F' a o b = some x → F b = some x ∨ Nw H b x := fun o b x y => by
      by_cases z : b = a
      · subst z
        exact .inr (.inl hn)
      · rw [upd_ne z] at y
        exact e1.new _ _ y
    cases hd : d.frzd with
    | true =>
      obtain ⟨o, ha, hr⟩ := ho.rep hd e1.sub hf
      refine .inl (hp _ (upd F' a o) H' ⟨e1.same, fun b x y => ?_, e1.ext.trans (same_upd hf), nw o⟩ hr)
      by_cases z : b = a
      · subst z
        rw [upd_same] at y
        cases y
        exact ha
      · rw [upd_ne z] at y
        exact e1.sub _ _ y
    | false =>
      have key : ∃ u, H' a = some u ∧ Mut (some u) ∧ ∀ od, Rep X.K (upd F' a (.frz od u)) (.ref a) d := by
        cases ho with
        | lst _ _ _ => cases hd
        | obj _ _ _ => cases hd
        | dT h l r => exact ⟨_, h, True.intro, fun od => .dT upd_same l (r.mono (same_upd hf))⟩
        | dK h l r => exact ⟨_, h, True.intro, fun od => .dK upd_same l (r.mono (same_upd hf))⟩
      obtain ⟨u, hu, mu, hr⟩ := key
      refine .inr ⟨a, u, rfl, hu, mu, fun od => hp _ (upd F' a (.frz od u)) (upd H' a (.frz od u)) ⟨fun b x y => ?_, sub_upd e1.sub a _, e1.ext.trans (same_upd hf), nw _⟩ (hr od)⟩
      rw [upd_ne (ne_of_none y hn)]
      exact e1.same _ _ y
/-- a display without items -/
theorem ec_newT {pos : Pos} : EC X G W ρ true (.Dict [] [] pos) (fun d => d) (.ok (.dT [])) :=
  ⟨_, pe_dnewT, fun F0 σ F H Q hh hp p hn => hp _ F _ (Ext.loose hh.sub _ hn) ⟨p, rfl, hn, sub_none hh.sub hn, .dT upd_same rfl .nil⟩⟩
theorem ec_newK {pos : Pos} : EC X G W ρ true (.Dict [] [] pos) (fun d => d) (.ok (.dK [])) :=
  ⟨_, pe_dnewK, fun F0 σ F H Q hh hp p hn => hp _ F _ (Ext.loose hh.sub _ hn) ⟨p, rfl, hn, sub_none hh.sub hn, .dK upd_same rfl .nil⟩⟩
/-! ### d.get(k, x) -/
def isDict : D → Option D
  | .dT es => some (.dT es)
  | .dK es => some (.dK es)
  | _ => none
def getOr (d k x : D) : Option D := (dlook d k).map fun r => r.getD x
theorem isD_of {K : PySem.W.Frag} {F H : Hp} {x : V} {d e : D} (s : Same F H) (h : RepH K F H x d) (hd : isDict d = some e) : ∃ a, x = .ref a ∧ IsD H a ∧ e = d := by
  unfold isDict at hd
  split at hd
  · cases hd
    rcases h with h | ⟨a, rfl, h⟩
    · cases h with
      | dT h1 _ _ => exact ⟨_, rfl, .inr ⟨_, .inr ⟨_, s _ _ h1⟩⟩, rfl⟩
    · cases h with
      | dT h1 _ _ => exact ⟨_, rfl, .inr ⟨_, .inl h1⟩, rfl⟩
  · cases hd
    rcases h with h | ⟨a, rfl, h⟩
    · cases h with
      | dK h1 _ _ => exact ⟨_, rfl, .inl ⟨_, .inr ⟨_, s _ _ h1⟩⟩, rfl⟩
    · cases h with
      | dK h1 _ _ => exact ⟨_, rfl, .inl ⟨_, .inl h1⟩, rfl⟩
  · cases hd
theorem ev_dget2 {o k x : Expr} {mo mk mx : Rs D} {apos cpos : Pos} (hu : X.A.units + 64 < cLine) (ho : EO X G W ρ o mo) (hk : EV X G W ρ k mk) (hx : EV X G W ρ x mx) (m : M2 X o "get" apos k x cpos := by exact ⟨rfl, rfl, rfl, rfl⟩) :
    EV X G W ρ (.Call (.Attribute o "get" apos) [k, x] [] cpos) (mo.bind fun d => (Rs.of (isDict d)).bind fun d => mk.bind fun k => mx.bind fun x => Rs.of (getOr d k x)) := by
  obtain ⟨t1, p1, q1⟩ := ho
  obtain ⟨t2, p2, q2⟩ := hk
  obtain ⟨t3, p3, q3⟩ := hx
  refine ⟨_, pe_dget2 (by omega) p1 p2 p3 m, fun F0 σ F H Q hh hp => ?_⟩
  refine q1 F0 σ F H _ hh (hp.bind fun d v F1 H1 e1 r1 hp1 => ?_)
  cases hd : isDict d with
  | none => rw [hd] at hp1; exact hp1.elim
  | some d2 =>
    rw [hd] at hp1
    obtain ⟨a, rfl, hD, rfl⟩ := isD_of e1.sub r1 hd
    refine ⟨a, rfl, hD, ?_⟩
    refine q2 F0 σ F1 H1 _ (hh.more e1) (Post.bind (f := fun k => mx.bind fun x => Rs.of (getOr d2 k x)) hp1 fun dk vk F2 H2 e2 r2 hp2 => ?_)
    refine q3 F0 σ F2 H2 _ ((hh.more e1).more e2) (hp2.bind fun dx vx F3 H3 e3 r3 hp3 => ?_)
    obtain ⟨d3, hd3, kk⟩ := hp3.of
    unfold getOr at hd3
    cases e : dlook d2 dk with
    | none => rw [e] at hd3; cases hd3
    | some r =>
      rw [e] at hd3
      cases hd3
      obtain ⟨a', rv, ea, g, o⟩ := dlook_get e3.sub ((r1.more e2).more e3) (.inl (r2.mono e3.ext)) e
      cases ea
      refine ⟨rv, g, ?_⟩
      cases r with
      | none =>
        cases rv with
        | none => exact kk _ F3 H3 (Ext.refl e3.sub) r3
        | some w => exact o.elim
      | some d4 =>
        cases rv with
        | none => exact o.elim
        | some w => exact kk _ F3 H3 (Ext.refl e3.sub) o
end
/-! ### statements -/
section
variable {X : Cx} {G : Gd} {W : WX} {ρx ρ : Rho} {rest sts : List Stmt} {α β R : Type} {pn : α → Rho} {pl : β → Rho} {ι : R → Fl α β}
/-- x = a new dict -/
theorem bi_newd {i : Nat} {x : Str} {e : Expr} {pos pos' : Pos} {m : Rs D} {f : D → Rs R} (nd : X.N.Nodup) (h : EC X G W ρ true e (fun d => d) m) (hr : ∀ d, BI X G W ρx (ρ.set i (some (.own true d))) rest pn pl ι (f d)) (hi : X.N[i]? = some x := by rfl) (hx : Loc X.env.scope x := by first | exact Or.inl rfl | exact Or.inr rfl) (hs : swapsWith e (some (.Name x pos')) pos.line X.env = pure false := by rfl)
    (hf : X.fn x = true ∨ X.env.scope.names.lookup x = some .local := by first | exact .inl rfl | exact .inr rfl) (hl : i < ρ.length := by exact Nat.le_of_ble_eq_true rfl) (wx : Wk ρ ρx := by first | exact Wk.nil | exact Wk.refl | (repeat (first | exact Wk.nil | apply Wk.keep | apply Wk.drop))) :
    BI X G W ρx ρ (.Assign [.Name x pos'] e pos :: rest) pn pl ι (m.bind f) := by
  obtain ⟨t, p, q⟩ := h
  intro F0 σ F H E hh hp
  rw [Rs.assoc] at hp
  refine any_cons (ps_set nd hi hx p hs hf) (q F0 σ F H _ hh (post_seq hh wx hp fun d v F' H' e1 r1 hp1 => ?_))
  exact hr d F0 _ F' H' E ((hh.more e1).setC r1 (fun a _ ha => free_of hh a ha) hl) hp1
/-- d[k] = v -/
theorem bi_dput {i : Nat} {x : Str} {e k : Expr} {xpos spos pos : Pos} {l : Bool} {c : D} {m mk : Rs D} {f : D → Rs R} (hu : X.A.units + 64 < cLine) (hv : PE X (.Name x xpos) (tVar i)) (he : EV X G W ρ e m) (hk : EV X G W ρ k mk) (hr : ∀ d, BI X G W ρx (ρ.set i (some (.own l d))) rest pn pl ι (f d))
    (hi : ρ[i]? = some (some (.own l c)) := by rfl) (hs : swapsWith e (some (.Subscript (.Name x xpos) k spos)) pos.line X.env = pure false := by rfl) (wx : Wk ρ ρx := by first | exact Wk.nil | exact Wk.refl | (repeat (first | exact Wk.nil | apply Wk.keep | apply Wk.drop))) :
    BI X G W ρx ρ (.Assign [.Subscript (.Name x xpos) k spos] e pos :: rest) pn pl ι (m.bind fun v => mk.bind fun k => (Rs.of (dputD c k v)).bind f) := by
  obtain ⟨te, pe, qe⟩ := he
  obtain ⟨tk, pk, qk⟩ := hk
  intro F0 σ F H E hh hp
  have e2 : ((m.bind fun v => mk.bind fun k => (Rs.of (dputD c k v)).bind f).bind fun r => (.ok (ι r) : Rs (Fl α β))) = m.bind fun v => mk.bind fun k => (Rs.of (dputD c k v)).bind fun d => (f d).bind fun r => .ok (ι r) := by simp only [Rs.assoc]
  rw [e2] at hp
  refine any_cons (ps_dput (by omega) hv pk pe hs) ?_
  refine qe F0 σ F H _ hh (post_seq hh wx hp fun dv v F1 H1 e1 r1 hp1 => ?_)
  have hh1 := hh.more e1
  obtain ⟨a, ha, hf, h0, ow⟩ := hh1.own i l c hi
  refine ⟨_, ha, ?_⟩
  refine qk F0 σ F1 H1 _ hh1 (post_seq hh1 wx hp1 fun dk y F2 H2 x2 r2 hp2 => ?_)
  cases hd : dputD c dk dv with
  | none => rw [hd] at hp2; exact hp2.elim
  | some d =>
    rw [hd] at hp2
    obtain ⟨o, put, o7⟩ := (ow.ext x2).dput x2.sub r2 (r1.mono x2.ext) hd
    refine ⟨a, _, rfl, put, ?_⟩
    exact hr d F0 σ F2 _ E ((hh1.more x2).write hi ha o7) hp2
end
end VL
namespace VL
open PySem PySem.Spec L2
open PyProof.Rows hiding St
/-- the kind of an older dict -/
def emptyOf : D → Option D
  | .dT _ => some (.dT [])
  | .dK _ => some (.dK [])
  | _ => none
theorem PE.or {X : Cx} {e : Expr} {t1 t2 : TE} (h1 : PE X e t1) (h2 : PE X e t2) : PE X e (fun σ H Q => t1 σ H Q ∨ t2 σ H Q) := ⟨fun pins s σ H Q I h => by
  rcases h with h | h
  · exact h1.run pins s σ H Q I h
  · exact h2.run pins s σ H Q I h⟩
theorem ec_dictS {X : Cx} {G : Gd} {W : WX} {ρ : Rho} {γ : Type} {src : D} {u : D → Option γ} {p : γ → Rho} {is : List Nat} {own : List (Str × Nat)} {tg iter kx vx : Expr} {ifs : List Expr} {scope : Scope} {pos : Pos} {mi : Rs (List D)} {fc : γ → Rs Bool} {fk fv : γ → Rs D} (hu : X.A.units + 64 < cLine)
    (calm : X.calm = true) (nd : X.N.Nodup) (hi : IT X G W ρ tg iter mi) (ok : BlkOk X.N X.env.scope scope own) (his : ∀ i ∈ is, i ∈ own.map (·.2))
    (ht : ∀ s H C cl fp, TT1 (XB X scope s H C cl fp) G tg (rWipe ρ (own.map (·.2))) is u p) (hc : ∀ s H C cl fp y, TVs (XB X scope s H C cl fp) G W0 (p y) ifs (fc y)) (hk : ∀ s H C cl fp y, EV (XB X scope s H C cl fp) G W0 (p y) kx (fk y)) (he : ∀ s H C cl fp y, EV (XB X scope s H C cl fp) G W0 (p y) vx (fv y))
    (hs : ∀ x, foldedSetIterable iter X.env x = pure x := by intro _; rfl) : EC X G W ρ true (.DictComp kx vx [⟨tg, iter, ifs, 0⟩] scope pos) (fun d => d) ((Rs.of (emptyOf src)).bind fun em => mi.bind fun items => compD u fc fk fv items em) := by
  obtain ⟨t1, p1, q1⟩ := ec_dictT (pos := pos) hu calm nd hi ok his ht hc hk he hs
  obtain ⟨t2, p2, q2⟩ := ec_dictK (pos := pos) hu calm nd hi ok his ht hc hk he hs
  refine ⟨_, PE.or p1 p2, fun F0 σ F H Q hh hp => ?_⟩
  cases src with
  | dT es => exact .inl (q1 F0 σ F H Q hh hp)
  | dK es => exact .inr (q2 F0 σ F H Q hh hp)
  | _ => exact hp.elim
end VL
set_option Elab.async false
set_option linter.all false
set_option maxRecDepth 100000
set_option autoImplicit false
namespace VL
open PySem PySem.Spec L2
open PyProof.Rows hiding St
section
variable {X : Cx} {G : Gd} {W : WX} {ρx ρ : Rho} {rest sts : List Stmt} {α β R : Type} {pn : α → Rho} {pl : β → Rho} {ι : R → Fl α β}
/-- the last of a list, and the list without it -/
def popE (ys : List D) : Option (D × List D) := (ys[ys.length - 1]?).map fun d => (d, ys.dropLast)
theorem Reps.dropLast {K : PySem.W.Frag} {F : Hp} : ∀ {xs : List V} {ds : List D}, Reps K F xs ds → Reps K F xs.dropLast ds.dropLast
  | _, _, .nil => .nil
  | _, _, .cons a .nil => .nil
  | _, _, .cons a (.cons c d) => .cons a (Reps.dropLast (.cons c d))
/-- x = y.pop() -/
theorem bk_pop {j k : Nat} {x y : Str} {ypos bpos dpos pos pos' : Pos} {l3 : Bool} {ys : List D} {f : D → List D → Rs (Fl α β)} (nd : X.N.Nodup) (hy : PE X (.Name y ypos) (tVar k))
    (hr : ∀ d ys', BK X G W ρx ((ρ.set k (some (.own l3 (.lst ys')))).set j (some (.val d))) rest pn pl (f d ys')) (hk : At ρ k l3 ys := by rfl) (hj : X.N[j]? = some x := by rfl)
    (hx : Loc X.env.scope x := by first | exact Or.inl rfl | exact Or.inr rfl)
    (hbase2 : attributeBase (.Name y ypos) "pop" X.env (eval (.Name y ypos) X.env) = eval (.Name y ypos) X.env := by rfl) (hline2 : (bpos.endLine == dpos.line) = true := by rfl)
    (hs : swapsWith (.Call (.Attribute (.Name y ypos) "pop" bpos) [] [] dpos) (some (.Name x pos')) pos.line X.env = pure false := by rfl) (hf : X.fn x = true ∨ X.env.scope.names.lookup x = some .local := by first | exact .inl rfl | exact .inr rfl) (hl : j < ρ.length := by exact Nat.le_of_ble_eq_true rfl) :
    BK X G W ρx ρ (.Assign [.Name x pos'] (.Call (.Attribute (.Name y ypos) "pop" bpos) [] [] dpos) pos :: rest) pn pl ((Rs.of (popE ys)).bind fun q => f q.1 q.2) := by
  intro F0 σ F H E hh hp
  refine any_cons (ps_set nd hj hx (pe_bm0 PySem.F.plainAttrs_list PySem.F.slot_list_pop PySem.F.type_list_pop mt_pop hy hbase2 hline2) hs hf) ?_
  obtain ⟨ay, y1, y2, y3, y4⟩ := hh.own k l3 _ hk
  obtain ⟨vs, y5, ly, ry⟩ := y4.asL
  unfold popE at hp
  cases hg : ys[ys.length - 1]? with
  | none => rw [hg] at hp; exact hp.elim
  | some d =>
    rw [hg] at hp
    obtain ⟨w, hw1, hw2⟩ := ry.get hg
    refine ⟨.ref ay, y1, .inl ⟨rfl, _, SqL.of y5⟩, ay, vs, w, rfl, rfl, y5, by rw [ry.length]; exact hw1, ?_⟩
    have hh2 := hh.write hk y1 (o := .lst vs.dropLast) (d' := .lst ys.dropLast) (.lst upd_same (by rw [List.length_dropLast]; omega) ry.dropLast)
    exact hr _ _ F0 _ F _ E (hh2.setV hw2 (by rw [List.length_set]; exact hl)) hp
theorem bi_pop {j k : Nat} {x y : Str} {ypos bpos dpos pos pos' : Pos} {l3 : Bool} {ys : List D} {f : D → List D → Rs R} (nd : X.N.Nodup) (hy : PE X (.Name y ypos) (tVar k))
    (hr : ∀ d ys', BI X G W ρx ((ρ.set k (some (.own l3 (.lst ys')))).set j (some (.val d))) rest pn pl ι (f d ys')) (hk : At ρ k l3 ys := by rfl) (hj : X.N[j]? = some x := by rfl)
    (hx : Loc X.env.scope x := by first | exact Or.inl rfl | exact Or.inr rfl)
    (hbase2 : attributeBase (.Name y ypos) "pop" X.env (eval (.Name y ypos) X.env) = eval (.Name y ypos) X.env := by rfl) (hline2 : (bpos.endLine == dpos.line) = true := by rfl)
    (hs : swapsWith (.Call (.Attribute (.Name y ypos) "pop" bpos) [] [] dpos) (some (.Name x pos')) pos.line X.env = pure false := by rfl) (hf : X.fn x = true ∨ X.env.scope.names.lookup x = some .local := by first | exact .inl rfl | exact .inr rfl) (hl : j < ρ.length := by exact Nat.le_of_ble_eq_true rfl) :
    BI X G W ρx ρ (.Assign [.Name x pos'] (.Call (.Attribute (.Name y ypos) "pop" bpos) [] [] dpos) pos :: rest) pn pl ι ((Rs.of (popE ys)).bind fun q => f q.1 q.2) := by
  unfold BI
  rw [Rs.assoc]
  exact bk_pop nd hy hr hk hj hx hbase2 hline2 hs hf hl
/-! ### a dict by a comprehension, put into a local at once -/
def ACd (X : Cx) (G : Gd) (W : WX) (ρ : Rho) (st : Stmt) (i : Nat) (m : Rs D) : Prop :=
  ∃ te, PS X st (tAsg te (gName i)) ∧ ∀ F0 σ F H Q, Holds X.K (G.at F0) ρ σ F H → Post X.K (fun F' H' v d => CellOk X.K H F' H' true v d) (fun c d H => W c d σ H) F H Q m → te σ H Q
theorem bi_newdS {i : Nat} {st : Stmt} {m : Rs D} {f : D → Rs R} (h : ACd X G W ρ st i m) (hr : ∀ d, BI X G W ρx (ρ.set i (some (.own true d))) rest pn pl ι (f d)) (hl : i < ρ.length := by exact Nat.le_of_ble_eq_true rfl) (wx : Wk ρ ρx := by first | exact Wk.nil | exact Wk.refl | (repeat (first | exact Wk.nil | apply Wk.keep | apply Wk.drop))) :
    BI X G W ρx ρ (st :: rest) pn pl ι (m.bind f) := by
  obtain ⟨t, p, q⟩ := h
  intro F0 σ F H E hh hp
  rw [Rs.assoc] at hp
  refine any_cons p (q F0 σ F H _ hh (post_seq hh wx hp fun d v F' H' e1 r1 hp1 => ?_))
  exact hr d F0 _ F' H' E ((hh.more e1).setC r1 (fun a _ ha => free_of hh a ha) hl) hp1
theorem as_dictT {γ : Type} {i : Nat} {y : Str} {py spos : Pos} {u : D → Option γ} {p : γ → Rho} {is : List Nat} {own : List (Str × Nat)} {tg iter kx vx : Expr} {ifs : List Expr} {scope : Scope} {pos : Pos} {mi : Rs (List D)} {fc : γ → Rs Bool} {fk fv : γ → Rs D} (hu : X.A.units + 64 < cLine)
    (calm : X.calm = true) (nd : X.N.Nodup) (hi : IT X G W ρ tg iter mi) (ok : BlkOk X.N X.env.scope scope own) (his : ∀ i ∈ is, i ∈ own.map (·.2))
    (ht : ∀ s H C cl fp, TT1 (XB X scope s H C cl fp) G tg (rWipe ρ (own.map (·.2))) is u p) (hc : ∀ s H C cl fp y, TVs (XB X scope s H C cl fp) G W0 (p y) ifs (fc y)) (hk : ∀ s H C cl fp y, EV (XB X scope s H C cl fp) G W0 (p y) kx (fk y)) (he : ∀ s H C cl fp y, EV (XB X scope s H C cl fp) G W0 (p y) vx (fv y))
    (hy : X.N[i]? = some y := by rfl) (hyl : X.env.scope.names.lookup y = some .local := by rfl) (hsw : swapsWith (.DictComp kx vx [⟨tg, iter, ifs, 0⟩] scope pos) (some (.Name y py)) spos.line X.env = pure true := by exact sw_trueD rfl rfl rfl (by decide +kernel))
    (hs : ∀ x, foldedSetIterable iter X.env x = pure x := by intro _; rfl) : ACd X G W ρ (.Assign [.Name y py] (.DictComp kx vx [⟨tg, iter, ifs, 0⟩] scope pos) spos) i (mi.bind fun items => compD u fc fk fv items (.dT [])) := by
  obtain ⟨wi, pI, qI⟩ := hi
  exact ⟨_, ps_setDx (.inr rfl) (by omega) calm nd hy hyl hsw pI ok hgAll htAll heAll heAll hs, fun F0 σ F H Q hh hp => dx_read (fun F H a h => .dT h rfl .nil) (fun _ z => nomatch z) qI his ht hc hk he hh hp⟩
theorem as_dictK {γ : Type} {i : Nat} {y : Str} {py spos : Pos} {u : D → Option γ} {p : γ → Rho} {is : List Nat} {own : List (Str × Nat)} {tg iter kx vx : Expr} {ifs : List Expr} {scope : Scope} {pos : Pos} {mi : Rs (List D)} {fc : γ → Rs Bool} {fk fv : γ → Rs D} (hu : X.A.units + 64 < cLine)
    (calm : X.calm = true) (nd : X.N.Nodup) (hi : IT X G W ρ tg iter mi) (ok : BlkOk X.N X.env.scope scope own) (his : ∀ i ∈ is, i ∈ own.map (·.2))
    (ht : ∀ s H C cl fp, TT1 (XB X scope s H C cl fp) G tg (rWipe ρ (own.map (·.2))) is u p) (hc : ∀ s H C cl fp y, TVs (XB X scope s H C cl fp) G W0 (p y) ifs (fc y)) (hk : ∀ s H C cl fp y, EV (XB X scope s H C cl fp) G W0 (p y) kx (fk y)) (he : ∀ s H C cl fp y, EV (XB X scope s H C cl fp) G W0 (p y) vx (fv y))
    (hy : X.N[i]? = some y := by rfl) (hyl : X.env.scope.names.lookup y = some .local := by rfl) (hsw : swapsWith (.DictComp kx vx [⟨tg, iter, ifs, 0⟩] scope pos) (some (.Name y py)) spos.line X.env = pure true := by exact sw_trueD rfl rfl rfl (by decide +kernel))
    (hs : ∀ x, foldedSetIterable iter X.env x = pure x := by intro _; rfl) : ACd X G W ρ (.Assign [.Name y py] (.DictComp kx vx [⟨tg, iter, ifs, 0⟩] scope pos) spos) i (mi.bind fun items => compD u fc fk fv items (.dK [])) := by
  obtain ⟨wi, pI, qI⟩ := hi
  exact ⟨_, ps_setDx (.inl rfl) (by omega) calm nd hy hyl hsw pI ok hgAll htAll heAll heAll hs, fun F0 σ F H Q hh hp => dx_read (fun F H a h => .dK h rfl .nil) (fun _ z => nomatch z) qI his ht hc hk he hh hp⟩
theorem PS.or {st : Stmt} {t1 t2 : TS} (h1 : PS X st t1) (h2 : PS X st t2) : PS X st (fun D σ H => t1 D σ H ∨ t2 D σ H) := ⟨fun pins s σ H Q I h => by
  rcases h with h | h
  · exact h1.run pins s σ H Q I h
  · exact h2.run pins s σ H Q I h⟩
theorem as_dictS {γ : Type} {src : D} {i : Nat} {y : Str} {py spos : Pos} {u : D → Option γ} {p : γ → Rho} {is : List Nat} {own : List (Str × Nat)} {tg iter kx vx : Expr} {ifs : List Expr} {scope : Scope} {pos : Pos} {mi : Rs (List D)} {fc : γ → Rs Bool} {fk fv : γ → Rs D} (hu : X.A.units + 64 < cLine)
    (calm : X.calm = true) (nd : X.N.Nodup) (hi : IT X G W ρ tg iter mi) (ok : BlkOk X.N X.env.scope scope own) (his : ∀ i ∈ is, i ∈ own.map (·.2))
    (ht : ∀ s H C cl fp, TT1 (XB X scope s H C cl fp) G tg (rWipe ρ (own.map (·.2))) is u p) (hc : ∀ s H C cl fp y, TVs (XB X scope s H C cl fp) G W0 (p y) ifs (fc y)) (hk : ∀ s H C cl fp y, EV (XB X scope s H C cl fp) G W0 (p y) kx (fk y)) (he : ∀ s H C cl fp y, EV (XB X scope s H C cl fp) G W0 (p y) vx (fv y))
    (hy : X.N[i]? = some y := by rfl) (hyl : X.env.scope.names.lookup y = some .local := by rfl) (hsw : swapsWith (.DictComp kx vx [⟨tg, iter, ifs, 0⟩] scope pos) (some (.Name y py)) spos.line X.env = pure true := by exact sw_trueD rfl rfl rfl (by decide +kernel))
    (hs : ∀ x, foldedSetIterable iter X.env x = pure x := by intro _; rfl) : ACd X G W ρ (.Assign [.Name y py] (.DictComp kx vx [⟨tg, iter, ifs, 0⟩] scope pos) spos) i ((Rs.of (emptyOf src)).bind fun em => mi.bind fun items => compD u fc fk fv items em) := by
  obtain ⟨t1, p1, q1⟩ := as_dictT (pos := pos) hu calm nd hi ok his ht hc hk he hy hyl hsw hs
  obtain ⟨t2, p2, q2⟩ := as_dictK (pos := pos) hu calm nd hi ok his ht hc hk he hy hyl hsw hs
  refine ⟨fun σ H Q => t1 σ H Q ∨ t2 σ H Q, PS.or p1 p2, fun F0 σ F H Q hh hp => ?_⟩
  cases src with
  | dT es => exact .inl (q1 F0 σ F H Q hh hp)
  | dK es => exact .inr (q2 F0 σ F H Q hh hp)
  | _ => exact hp.elim
end
end VL
set_option Elab.async false
set_option linter.all false
set_option maxRecDepth 100000
set_option autoImplicit false
namespace VL
open PySem PySem.Spec L2
open PyProof.Rows hiding St

/-! ### how often data stands in a list -/
def rCntD (K : PySem.W.Frag) : V → List V → Hp → VK → Prop := fun x xs H Q => ∃ (a : Addr) (y : V) (d : PyData) (ds : List PyData), x = V.ref a ∧ xs = [y] ∧ Dp K H (V.ref a) (.list ds) ∧ Dp K H y d ∧ SeqAt.shaped (.list ds) = true ∧ SeqAt.shaped d = true ∧ Q (.int ((ds.countP fun z => PyData.eqv z d : Nat) : Int)) H
theorem mt_countD {X : Cx} (hu : X.A.units + 65 < cLine) : MtR X "list.count" (rCntD X.K) := by
  intro pins s σ H x xs v us Q I rx rxs h
  obtain ⟨a, y, d, ds, rfl, rfl, hl, hy, sl, sd, q⟩ := h
  cases rx
  obtain ⟨uy, rfl, ry⟩ := rxs.one
  obtain ⟨bs, r1⟩ := Dp.reads I d y uy hy ry
  have lay : PyData.canLayAll0 ds = true := SeqAt.canLay_of_shaped sl
  cases hl with
  | lst hs ha =>
    obtain ⟨its, rv, ⟨⟨cls, dd, data, sls⟩, n, ho, hc, hdn, hdt⟩, hlen⟩ := I.list hs
    simp only at hc hdt
    subst hc hdt
    obtain ⟨as, h4⟩ := Dp.readsAll I ds _ its ha rv
    have same : its.map (SeqAt.readOf s.heap) = ds := SeqAt.readsAll_map ds its as lay h4
    have cnt : its.toArray.toList.countP (fun u => PyData.eqv (SeqAt.readOf s.heap u) d) = ds.countP fun z => PyData.eqv z d := by
      rw [← same, List.countP_map]
      rfl
    refine call_meets PySem.F.slot_list_count ⟨_, ho, rfl⟩ PySem.F.entry_list_count (PySem.F.args_list_count_2 _ _)
      (SeqAt.list_countAt a its.toArray n dd sls uy (fun u => PyData.eqv (SeqAt.readOf s.heap u) d)) ⟨ho, SeqAt.items_eqAt (vs := its.toArray) (show ReadsAll s.heap its.toArray.toList ds as from h4) r1 lay (SeqAt.canLay_of_shaped sd) (room_in_shaped sd hu), ?_⟩
    rw [cnt]
    exact ⟨.int _, H, I.tok _, ⟨_, rfl⟩, q⟩
def asLs : D → Option (List D)
  | .lst ds => some ds
  | _ => none
def cntD (ds : List D) (y : D) : Option D := if y.okD && (D.lst ds).okD then some (.int (((pys ds).countP fun z => PyData.eqv z y.py : Nat) : Int)) else none
theorem ev_count {X : Cx} {G : Gd} {W : WX} {ρ : Rho} {o e : Expr} {mo me : Rs D} {apos pos : Pos} {k : Nat} (hr : Room k X.A) (ho : EO X G W ρ o mo) (he : EV X G W ρ e me)
    (hbase : attributeBase o "count" X.env (eval o X.env) = eval o X.env := by rfl)
    (hfew : ((backTo pos (starEach [e] X.env)).all (fun x => !x.1) && (backToKw pos (keywordEach [] X.env)).all (fun x => x.1.isSome) && decide ([e].length + ([] : List Keyword).length + (if ([] : List Keyword).isEmpty then 0 else 1) < 30)) = true := by rfl)
    (hst : starEach [e] X.env = (false, eval e X.env) :: starEach [] X.env := by rfl) (hline : (apos.endLine == pos.line) = true := by rfl) :
    EV X G W ρ (.Call (.Attribute o "count" apos) [e] [] pos) (mo.bind fun x => (Rs.of (asLs x)).bind fun ds => me.bind fun y => Rs.of (cntD ds y)) := by
  obtain ⟨to, po, qo⟩ := ho
  obtain ⟨te, pe, qe⟩ := he
  refine ⟨_, pe_bm PySem.F.plainAttrs_list PySem.F.slot_list_count PySem.F.type_list_count (mt_countD (room65 hr)) po (pa_cons pe pa_nil hst) hbase hfew hline hst rfl, fun F0 σ F H Q hh hp => qo F0 σ F H _ hh (hp.bind fun x v F1 H1 e1 r1 hp1 => ?_)⟩
  cases x with
  | lst ds =>
    obtain ⟨a, xs, rfl, ha, la, ra⟩ := r1.lst e1.sub
    refine ⟨.inl ⟨rfl, _, SqL.of ha⟩, qe F0 σ F1 H1 _ (hh.more e1) (Post.bind (m := me) hp1 fun y u F2 H2 e2 r2 hp2 => ?_)⟩
    obtain ⟨d, hd, kk⟩ := Post.of hp2
    unfold cntD at hd
    split at hd
    · rename_i hc
      cases hd
      rw [Bool.and_eq_true] at hc
      obtain ⟨c1, c2⟩ := Bool.and_eq_true_iff.mp hc.1
      obtain ⟨c3, c4⟩ := Bool.and_eq_true_iff.mp hc.2
      have hd2 := (RepH.more r1 e2).dp e2.sub c3
      simp only [D.py] at hd2 c4
      exact ⟨a, u, _, _, rfl, rfl, hd2, (RepH.dp e2.sub (.inl r2) c1), c4, c2, kk _ F2 H2 (Ext.refl e2.sub) (.int _)⟩
    · cases hd
  | _ => exact hp1.elim
end VL
set_option Elab.async false
set_option linter.all false
set_option maxRecDepth 100000
set_option autoImplicit false
namespace VL
open PySem PySem.Spec L2
open PyProof.Rows hiding St

/-! ### comprehensions with two fors -/
def compI {γ : Type} (u : D → Option γ) (fc : γ → Rs Bool) (fl : γ → Rs (List D)) : List D → Rs (List D)
  | [] => .ok []
  | d :: ds => (Rs.of (u d)).bind fun y => (fc y).noX.bind fun b => if b then (fl y).noX.bind fun e => (compI u fc fl ds).bind fun es => .ok (e ++ es) else compI u fc fl ds
theorem compI_nx {γ : Type} {u : D → Option γ} {fc : γ → Rs Bool} {fl : γ → Rs (List D)} : ∀ (ds : List D) (c : Str) (fs : List (Str × D)), compI u fc fl ds ≠ .ex c fs
  | [], c, fs => fun h => by cases h
  | d :: ds, c, fs => fun h => by
    have ih := compI_nx (u := u) (fc := fc) (fl := fl) ds
    simp only [compI] at h
    cases hu : u d with
    | none =>
      rw [hu] at h
      cases h
    | some y =>
      rw [hu] at h
      simp only [Rs.of_some, Rs.bind_ok] at h
      cases hb : fc y with
      | no =>
        rw [hb] at h
        cases h
      | ex _ _ =>
        rw [hb] at h
        cases h
      | ok b =>
        rw [hb] at h
        simp only [Rs.noX_ok, Rs.bind_ok] at h
        cases b with
        | false =>
          simp only [Bool.false_eq_true, if_false] at h
          exact ih c fs h
        | true =>
          simp only [if_true] at h
          cases he : fl y with
          | no =>
            rw [he] at h
            cases h
          | ex _ _ =>
            rw [he] at h
            cases h
          | ok e =>
            rw [he] at h
            simp only [Rs.noX_ok, Rs.bind_ok] at h
            cases hr : compI u fc fl ds with
            | ok es =>
              rw [hr] at h
              cases h
            | ex c' fs' => exact ih c' fs' hr
            | no =>
              rw [hr] at h
              cases h
/-- the owned cells of ρ are those of ρ0 beside vs -/
def OwnB (ρ0 : Rho) (vs : List Nat) (ρ : Rho) : Prop := ∀ (j : Nat) (l : Bool) (e : D), ρ[j]? = some (some (.own l e)) → j ∉ vs ∧ ρ0[j]? = some (some (.own l e))
theorem OwnB.wipe {ρ : Rho} {vs : List Nat} : OwnB ρ vs (rWipe ρ vs) := fun j l e h => rWipe_at h
theorem OwnB.val {ρ0 ρ : Rho} {vs : List Nat} {i : Nat} {d : D} (h : OwnB ρ0 vs ρ) : OwnB ρ0 vs (ρ.set i (some (.val d))) := fun j l e q => by
  rcases set_at q with ⟨_, z⟩ | ⟨_, z⟩
  · cases z
  · exact h j l e z
section
variable {X : Cx} {G : Gd} {W : WX} {ρ : Rho}
abbrev iAll (X : Cx) (scope : Scope) (tg it : Expr) : TI := fun σ H R => ∀ s H0 C cl fp, tAnyI (XB X scope s H0 C cl fp) tg it σ H R
theorem hiAll {scope : Scope} {tg it : Expr} (s : Shared) (H : Hp) (C : Addr) (cl : List (Str × Addr)) (fp : List Addr) : PI (XB X scope s H C cl fp) tg it (iAll X scope tg it) :=
  ⟨fun pins s1 σ H1 R I h => by
    obtain ⟨w, p, q⟩ := h s H C cl fp
    exact p.run pins s1 σ H1 R I q⟩
theorem lc2_read {γ δ : Type} {u : D → Option γ} {p : γ → Rho} {is vs : List Nat} {u1 : D → Option δ} {p1 : γ → δ → Rho} {is1 vs1 : List Nat} {tg elt tg1 iter1 : Expr} {ifs ifs1 : List Expr} {scope : Scope} {wi : TI} {mi : Rs (List D)} {fc : γ → Rs Bool} {mi1 : γ → Rs (List D)} {fc1 : γ → δ → Rs Bool} {fe : γ → δ → Rs D}
    (qI : ∀ F0 σ F H R, Holds X.K (G.at F0) ρ σ F H → Post X.K (fun F' _ J ds => Walks X.K J F' ds) (fun c d H => W c d σ H) F H R mi → wi σ H R) (his : ∀ i ∈ is, i ∈ vs) (his1 : ∀ i ∈ is1, i ∈ vs1)
    (ht : ∀ s H C cl fp, TT1 (XB X scope s H C cl fp) G tg (rWipe ρ vs) is u p) (ho : ∀ y, OwnB ρ vs (p y)) (hc : ∀ s H C cl fp y, TVs (XB X scope s H C cl fp) G W0 (p y) ifs (fc y))
    (hi1 : ∀ s H C cl fp y, IT (XB X scope s H C cl fp) G W0 (p y) tg1 iter1 (mi1 y)) (ht1 : ∀ s H C cl fp y, TT1 (XB X scope s H C cl fp) G tg1 (rWipe (p y) vs1) is1 u1 (p1 y))
    (hc1 : ∀ s H C cl fp y z, TVs (XB X scope s H C cl fp) G W0 (p1 y z) ifs1 (fc1 y z)) (he : ∀ s H C cl fp y z, EV (XB X scope s H C cl fp) G W0 (p1 y z) elt (fe y z))
    {F0 : Hp} {σ : St} {F H : Hp} {Q : VK} (hh : Holds X.K (G.at F0) ρ σ F H)
    (hp : Post X.K (RN X.K H) (fun c d H => W c d σ H) F H Q (mi.bind fun items => (compI u fc (fun y => (mi1 y).bind fun l => compM u1 (fc1 y) (fe y) l) items).bind fun es => Rs.of (lenR es))) :
    tLc2 wi (gAll X scope tg) (ttAll X scope ifs) (iAll X scope tg1 iter1) (gAll X scope tg1) (ttAll X scope ifs1) (teAll X scope elt) vs vs1 σ H Q := by
  refine qI F0 σ F H _ hh ?_
  cases mi with
  | ex c fs => exact hp
  | no => exact hp
  | ok items =>
  generalize hfl : (fun y => (mi1 y).bind fun l => compM u1 (fc1 y) (fe y) l) = fl at hp
  intro J F1 H1 e1 hw D0 hD
  have hh1 := hh.more e1
  have hDH : H D0 = none := e1.same.free hD
  have h0 := hh1.toGnd.free0 hD
  have hno := fun j l e q => hh1.notOwn hD j l e q
  have hFD : F1 D0 = none := sub_none e1.sub hD
  refine ⟨fun i m H2 => m = items.length - i ∧ i ≤ items.length ∧ ∃ F2 acc, Holds X.K (G.at F0) ρ σ F2 H2 ∧ Ext F1 H1 F2 H2 ∧ F2 D0 = none ∧ Own X.K F2 H2 D0 (.lst acc) ∧
      Post X.K (RN X.K H) (fun c d H => W c d σ H) F H Q ((compI u fc fl (items.drop i)).bind fun es => Rs.of (lenR (acc ++ es))), ⟨items.length, by simp, Nat.zero_le _, F1, [], hh1.free hFD h0 hno, Ext.beside (Ext.refl e1.sub) hD hFD, hFD, .lst upd_same (Nat.zero_le _) .nil, ?_⟩, ?_⟩
  · rw [List.drop_zero]
    exact hp
  · rintro i m H2 ⟨rfl, hil, F2, acc, hh2, x2, f2, o2, hp2⟩
    obtain ⟨wgo, wstop⟩ := hw.2 F2 H2 x2.ext hh2.sub
    by_cases hlt : i < items.length
    · have hg : items[i]? = some items[i] := List.getElem?_eq_getElem hlt
      obtain ⟨g1, g2⟩ := wgo i _ hg
      rw [List.drop_eq_getElem_cons hlt] at hp2
      refine .inr ⟨g1, fun H' => ∃ F' acc', Holds X.K (G.at F0) ρ σ F' H' ∧ Ext F1 H1 F' H' ∧ F' D0 = none ∧ Own X.K F' H' D0 (.lst acc') ∧ Post X.K (RN X.K H) (fun c d H => W c d σ H) F H Q ((compI u fc fl (items.drop (i + 1))).bind fun es => Rs.of (lenR (acc' ++ es))),
        fun H' ⟨F', acc', q1, q2, q3, q4, q6⟩ => ⟨items.length - (i + 1), by omega, rfl, hlt, F', acc', q1, q2, q3, q4, q6⟩, fun x H' y => ?_⟩
      obtain ⟨F3, e3, r3⟩ := g2 x H' y
      have hh3 := hh2.more e3
      have o3 := o2.ext e3
      obtain ⟨xs2, q2', _, _⟩ := o2.asL
      have f3 := e3.stays f2 q2' (fun _ z => nomatch z)
      simp only [compI] at hp2
      generalize hC : compI u fc fl (items.drop (i + 1)) = mC at hp2 ⊢
      cases hu : u items[i] with
      | none =>
        rw [hu] at hp2
        exact hp2.elim
      | some y =>
        rw [hu] at hp2
        simp only [Rs.of_some, Rs.bind_ok] at hp2
        intro s' H0' C' cl' fp'
        refine ht s' H0' C' cl' fp' F0 _ F3 H' x _ y _ (hh3.wipe vs) r3 hu fun σ4 w4 hh4 => ?_
        have w4' : L2.wipe σ4 vs = L2.wipe σ vs := by
          rw [w4 vs his]
          exact wipe_wipe fun i hi => hi
        have hnoy : ∀ (j : Nat) (l : Bool) (e : D), (p y)[j]? = some (some (.own l e)) → σ4[j]? ≠ some (some (.ref D0)) := fun j l e q => by
          obtain ⟨n1, q1⟩ := ho y j l e q
          have e1 := wipe_get (σ := σ4) n1
          rw [w4', wipe_get n1] at e1
          rw [← e1]
          exact hno j l e q1
        refine ⟨w4', ?_⟩
        intro s5 H05 C5 cl5 fp5
        obtain ⟨t5, p5, q5⟩ := hc s5 H05 C5 cl5 fp5 y
        refine ⟨t5, p5, q5 F0 σ4 F3 H' _ hh4 (post_noX (fun b hb v F4 H4 e4 rb => ?_) fun hn => ?_)⟩
        · cases rb
          rw [hb] at hp2
          simp only [Rs.noX_ok, Rs.bind_ok] at hp2
          have hh4' := hh3.more e4
          have hh4y := hh4.more e4
          have o4 := o3.ext e4
          obtain ⟨xs3, q3', _, _⟩ := o3.asL
          have f4 := e4.stays f3 q3' (fun _ z => nomatch z)
          cases b with
          | true =>
            refine iteT ?_
            simp only [if_true] at hp2
            rw [← hfl] at hp2
            have hp2 : Post X.K (RN X.K H) (fun c d H => W c d σ H) F H Q ((((mi1 y).bind fun l => compM u1 (fc1 y) (fe y) l).noX.bind fun e => mC.bind fun es => (Rs.ok (e ++ es) : Rs (List D))).bind fun es => Rs.of (lenR (acc ++ es))) := hp2
            intro s6 H06 C6 cl6 fp6
            obtain ⟨wi6, p6, q6⟩ := hi1 s6 H06 C6 cl6 fp6 y
            refine ⟨wi6, p6, q6 F0 σ4 F4 H4 _ hh4y (post_noX (fun ds hd J1 F5 H5 e5 hw1 => ?_) fun hn => ?_)⟩
            · rw [hd] at hp2
              simp only [Rs.bind_ok] at hp2
              have o5 := o4.ext e5
              obtain ⟨xs4, q4', _, _⟩ := o4.asL
              have f5 := e5.stays f4 q4' (fun _ z => nomatch z)
              refine ⟨fun j k H6 => k = ds.length - j ∧ j ≤ ds.length ∧ ∃ F6 acc6, Holds X.K (G.at F0) ρ σ F6 H6 ∧ Holds X.K (G.at F0) (p y) σ4 F6 H6 ∧ Ext F1 H1 F6 H6 ∧ Same F5 F6 ∧ F6 D0 = none ∧ Own X.K F6 H6 D0 (.lst acc6) ∧
                Post X.K (RN X.K H) (fun c d H => W c d σ H) F H Q ((compM u1 (fc1 y) (fe y) (ds.drop j)).noX.bind fun e => mC.bind fun es => Rs.of (lenR (acc6 ++ (e ++ es)))), ⟨ds.length, by simp, Nat.zero_le _, F5, acc, hh4'.more e5, hh4y.more e5, x2.trans (e3.trans (e4.trans e5)), Same.refl F5, f5, o5, ?_⟩, ?_⟩
              · rw [List.drop_zero]
                have ea : (((compM u1 (fc1 y) (fe y) ds).noX.bind fun e => mC.bind fun es => (.ok (e ++ es) : Rs (List D))).bind fun es => Rs.of (lenR (acc ++ es))) = ((compM u1 (fc1 y) (fe y) ds).noX.bind fun e => mC.bind fun es => Rs.of (lenR (acc ++ (e ++ es)))) := by
                  cases compM u1 (fc1 y) (fe y) ds with
                  | ok e => cases mC <;> rfl
                  | ex _ _ => rfl
                  | no => rfl
                rw [← ea]
                exact hp2
              · rintro j k H6 ⟨rfl, hjl, F6, acc6, k1, k2, k3, k3', k4, k5, k6⟩
                obtain ⟨wgo1, wstop1⟩ := hw1.2 F6 H6 k3' k1.sub
                by_cases hltj : j < ds.length
                · have hgj : ds[j]? = some ds[j] := List.getElem?_eq_getElem hltj
                  obtain ⟨g1j, g2j⟩ := wgo1 j _ hgj
                  rw [List.drop_eq_getElem_cons hltj] at k6
                  refine .inr ⟨g1j, fun H7 => ∃ F7 acc7, Holds X.K (G.at F0) ρ σ F7 H7 ∧ Holds X.K (G.at F0) (p y) σ4 F7 H7 ∧ Ext F1 H1 F7 H7 ∧ Same F5 F7 ∧ F7 D0 = none ∧ Own X.K F7 H7 D0 (.lst acc7) ∧
                    Post X.K (RN X.K H) (fun c d H => W c d σ H) F H Q ((compM u1 (fc1 y) (fe y) (ds.drop (j + 1))).noX.bind fun e => mC.bind fun es => Rs.of (lenR (acc7 ++ (e ++ es)))),
                    fun H7 ⟨F7, acc7, z1, z2, z3, z4, z5, z6, z7⟩ => ⟨ds.length - (j + 1), by omega, rfl, hltj, F7, acc7, z1, z2, z3, z4, z5, z6, z7⟩, fun x7 H7 y7 => ?_⟩
                  obtain ⟨F7, e7, r7⟩ := g2j x7 H7 y7
                  have hh7 := k1.more e7
                  have hh7y := k2.more e7
                  have o7 := k5.ext e7
                  obtain ⟨xs6, q6', _, _⟩ := k5.asL
                  have f7 := e7.stays k4 q6' (fun _ z => nomatch z)
                  simp only [compM] at k6
                  cases hu1 : u1 ds[j] with
                  | none =>
                    rw [hu1] at k6
                    exact k6.elim
                  | some z =>
                    rw [hu1] at k6
                    simp only [Rs.of_some, Rs.bind_ok] at k6
                    intro s8 H08 C8 cl8 fp8
                    refine ht1 s8 H08 C8 cl8 fp8 y F0 _ F7 H7 x7 _ z _ (hh7y.wipe vs1) r7 hu1 fun σ8 w8 hh8 => ⟨?_, ?_⟩
                    · rw [w8 vs1 his1]
                      exact wipe_wipe fun i hi => hi
                    intro s9 H09 C9 cl9 fp9
                    obtain ⟨t9, p9, q9⟩ := hc1 s9 H09 C9 cl9 fp9 y z
                    refine ⟨t9, p9, q9 F0 σ8 F7 H7 _ hh8 (post_noX (fun b9 hb9 v9 F9 H9 e9 rb9 => ?_) fun hn => ?_)⟩
                    · cases rb9
                      rw [hb9] at k6
                      simp only [Rs.noX_ok, Rs.bind_ok] at k6
                      have hh9 := hh7.more e9
                      have hh9y := hh7y.more e9
                      have hh9z := hh8.more e9
                      have o9 := o7.ext e9
                      obtain ⟨xs7, q7', _, _⟩ := o7.asL
                      have f9 := e9.stays f7 q7' (fun _ z => nomatch z)
                      cases b9 with
                      | true =>
                        refine iteT ?_
                        simp only [if_true] at k6
                        intro s10 H010 C10 cl10 fp10
                        obtain ⟨t10, p10, q10⟩ := he s10 H010 C10 cl10 fp10 y z
                        refine ⟨t10, p10, q10 F0 σ8 F9 H9 _ hh9z (post_noX (fun d hd10 v10 F10 H10 e10 r10 => ?_) fun hn => ?_)⟩
                        · rw [hd10] at k6
                          simp only [Rs.noX_ok, Rs.bind_ok] at k6
                          have hh10 := hh9.more e10
                          have hh10y := hh9y.more e10
                          have o10 := o9.ext e10
                          obtain ⟨xs9, q9', _, _⟩ := o9.asL
                          have f10 := e10.stays f9 q9' (fun _ z => nomatch z)
                          obtain ⟨xs10, q10', l10, r10'⟩ := o10.asL
                          have ea : (((compM u1 (fc1 y) (fe y) (ds.drop (j + 1))).bind fun es => (.ok (d :: es) : Rs (List D))).noX.bind fun e => mC.bind fun es => Rs.of (lenR (acc6 ++ (e ++ es)))) = ((compM u1 (fc1 y) (fe y) (ds.drop (j + 1))).noX.bind fun e => mC.bind fun es => Rs.of (lenR (acc6 ++ [d] ++ (e ++ es)))) := by
                            cases compM u1 (fc1 y) (fe y) (ds.drop (j + 1)) with
                            | ok e =>
                              cases mC with
                              | ok es => simp [List.append_assoc]
                              | ex _ _ => rfl
                              | no => rfl
                            | ex _ _ => rfl
                            | no => rfl
                          rw [ea] at k6
                          have lx : xs10.length < sizeLine := by
                            rw [r10'.length]
                            cases hM : compM u1 (fc1 y) (fe y) (ds.drop (j + 1)) with
                            | ok e =>
                              cases hmC : mC with
                              | ok es =>
                                rw [hM, hmC] at k6
                                simp only [Rs.noX_ok, Rs.bind_ok] at k6
                                obtain ⟨ds', hds, _⟩ := Post.of k6
                                have := (lenR_some hds).1
                                simp only [List.length_append, List.length_singleton] at this
                                omega
                              | ex c fs =>
                                exact absurd (hC.trans hmC) (compI_nx _ c fs)
                              | no =>
                                rw [hM, hmC] at k6
                                exact k6.elim
                            | ex _ _ =>
                              rw [hM] at k6
                              exact k6.elim
                            | no =>
                              rw [hM] at k6
                              exact k6.elim
                          refine ⟨xs10, q10', lx, F10, acc6 ++ [d], hh10.free f10 h0 hno, hh10y.free f10 h0 hnoy, Ext.beside (k3.trans (e7.trans (e9.trans e10))) hD f10, k3'.trans (e7.ext.trans (e9.ext.trans e10.ext)), f10, .lst upd_same ?_ (r10'.append (.one r10)), k6⟩
                          rw [List.length_append, List.length_singleton]
                          exact lx
                        · rw [hn] at k6
                          exact k6.elim
                      | false =>
                        refine iteF ⟨F9, acc6, hh9, hh9y, k3.trans (e7.trans e9), k3'.trans (e7.ext.trans e9.ext), f9, o9, ?_⟩
                        simpa using k6
                    · rw [hn] at k6
                      exact k6.elim
                · have ej : j = ds.length := by omega
                  subst ej
                  rw [List.drop_length] at k6
                  simp only [compM, Rs.noX_ok, Rs.bind_ok, List.nil_append] at k6
                  exact .inl ⟨wstop1, F6, acc6, k1, k3, k4, k5, k6⟩
            · cases hm : mi1 y with
              | ok ds =>
                rw [hm] at hn
                cases hn
              | ex _ _ =>
                rw [hm] at hp2
                exact hp2.elim
              | no =>
                rw [hm] at hp2
                exact hp2.elim
          | false =>
            refine iteF ⟨F4, acc, hh4', x2.trans (e3.trans e4), f4, o4, ?_⟩
            simpa using hp2
        · rw [hn] at hp2
          exact hp2.elim
    · have ei : i = items.length := by omega
      subst ei
      rw [List.drop_length] at hp2
      simp only [compI, Rs.bind_ok, List.append_nil] at hp2
      obtain ⟨ds', hds, kk⟩ := Post.of hp2
      obtain ⟨_, rfl⟩ := lenR_some hds
      exact .inl ⟨wstop, kk (.ref D0) F2 H2 (e1.trans x2) ⟨D0, rfl, hDH, f2, o2⟩⟩
theorem ef_comp2 {γ δ : Type} {u : D → Option γ} {p : γ → Rho} {is : List Nat} {own : List (Str × Nat)} {u1 : D → Option δ} {p1 : γ → δ → Rho} {is1 : List Nat} {tg iter elt tg1 iter1 : Expr} {ifs ifs1 : List Expr} {scope : Scope} {pos : Pos} {mi : Rs (List D)} {fc : γ → Rs Bool} {mi1 : γ → Rs (List D)} {fc1 : γ → δ → Rs Bool} {fe : γ → δ → Rs D}
    (calm : X.calm = true) (nd : X.N.Nodup) (hi : IT X G W ρ tg iter mi) (ok : BlkOk X.N X.env.scope scope own) (his : ∀ i ∈ is, i ∈ own.map (·.2)) (his1 : ∀ i ∈ is1, i ∈ own.map (·.2))
    (ht : ∀ s H C cl fp, TT1 (XB X scope s H C cl fp) G tg (rWipe ρ (own.map (·.2))) is u p) (hc : ∀ s H C cl fp y, TVs (XB X scope s H C cl fp) G W0 (p y) ifs (fc y))
    (hi1 : ∀ s H C cl fp y, IT (XB X scope s H C cl fp) G W0 (p y) tg1 iter1 (mi1 y)) (ht1 : ∀ s H C cl fp y, TT1 (XB X scope s H C cl fp) G tg1 (rWipe (p y) is1) is1 u1 (p1 y))
    (hc1 : ∀ s H C cl fp y z, TVs (XB X scope s H C cl fp) G W0 (p1 y z) ifs1 (fc1 y z)) (he : ∀ s H C cl fp y z, EV (XB X scope s H C cl fp) G W0 (p1 y z) elt (fe y z)) (ho : ∀ y, OwnB ρ (own.map (·.2)) (p y))
    (hs : ∀ x, foldedSetIterable iter X.env x = pure x := by intro _; rfl) (hs1 : ∀ env x, foldedSetIterable iter1 env x = pure x := by intro _ _; rfl) :
    EF X G W ρ (.ListComp elt [⟨tg, iter, ifs, 0⟩, ⟨tg1, iter1, ifs1, 0⟩] scope pos) (mi.bind fun items => (compI u fc (fun y => (mi1 y).bind fun l => compM u1 (fc1 y) (fe y) l) items).bind fun es => Rs.of (lenR es)) := by
  obtain ⟨wi, pI, qI⟩ := hi
  exact ⟨_, pe_lc2 calm nd pI ok his1 hgAll htAll hiAll hgAll htAll heAll hs hs1, fun F0 σ F H Q hh hp => lc2_read qI his (fun i h => h) ht ho hc hi1 ht1 hc1 he hh hp⟩
theorem af_comp2 {γ δ : Type} {i : Nat} {y : Str} {py spos : Pos} {u : D → Option γ} {p : γ → Rho} {is : List Nat} {own : List (Str × Nat)} {u1 : D → Option δ} {p1 : γ → δ → Rho} {is1 : List Nat} {tg iter elt tg1 iter1 : Expr} {ifs ifs1 : List Expr} {scope : Scope} {pos : Pos} {mi : Rs (List D)} {fc : γ → Rs Bool} {mi1 : γ → Rs (List D)} {fc1 : γ → δ → Rs Bool} {fe : γ → δ → Rs D}
    (calm : X.calm = true) (nd : X.N.Nodup) (hi : IT X G W ρ tg iter mi) (ok : BlkOk X.N X.env.scope scope own) (his : ∀ i ∈ is, i ∈ own.map (·.2)) (his1 : ∀ i ∈ is1, i ∈ own.map (·.2))
    (ht : ∀ s H C cl fp, TT1 (XB X scope s H C cl fp) G tg (rWipe ρ (own.map (·.2))) is u p) (hc : ∀ s H C cl fp y, TVs (XB X scope s H C cl fp) G W0 (p y) ifs (fc y))
    (hi1 : ∀ s H C cl fp y, IT (XB X scope s H C cl fp) G W0 (p y) tg1 iter1 (mi1 y)) (ht1 : ∀ s H C cl fp y, TT1 (XB X scope s H C cl fp) G tg1 (rWipe (p y) is1) is1 u1 (p1 y))
    (hc1 : ∀ s H C cl fp y z, TVs (XB X scope s H C cl fp) G W0 (p1 y z) ifs1 (fc1 y z)) (he : ∀ s H C cl fp y z, EV (XB X scope s H C cl fp) G W0 (p1 y z) elt (fe y z)) (ho : ∀ y, OwnB ρ (own.map (·.2)) (p y))
    (hy : X.N[i]? = some y := by rfl) (hyl : X.env.scope.names.lookup y = some .local := by rfl) (hsw : swapsWith (.ListComp elt [⟨tg, iter, ifs, 0⟩, ⟨tg1, iter1, ifs1, 0⟩] scope pos) (some (.Name y py)) spos.line X.env = pure true := by exact sw_true rfl rfl rfl (by decide +kernel))
    (hs : ∀ x, foldedSetIterable iter X.env x = pure x := by intro _; rfl) (hs1 : ∀ env x, foldedSetIterable iter1 env x = pure x := by intro _ _; rfl) :
    AF X G W ρ (.Assign [.Name y py] (.ListComp elt [⟨tg, iter, ifs, 0⟩, ⟨tg1, iter1, ifs1, 0⟩] scope pos) spos) i (mi.bind fun items => (compI u fc (fun y => (mi1 y).bind fun l => compM u1 (fc1 y) (fe y) l) items).bind fun es => Rs.of (lenR es)) := by
  obtain ⟨wi, pI, qI⟩ := hi
  exact ⟨_, ps_setLc2 calm nd hy hyl hsw pI ok his1 hgAll htAll hiAll hgAll htAll heAll hs hs1, fun F0 σ F H Q hh hp => lc2_read qI his (fun i h => h) ht ho hc hi1 ht1 hc1 he hh hp⟩
theorem EV.to {e : Expr} {m : Rs D} (m' : Rs D) (h : EV X G W ρ e m) (q : m = m') : EV X G W ρ e m' := q ▸ h
end
end VL
set_option Elab.async false
set_option linter.all false
set_option maxRecDepth 100000
set_option autoImplicit false
set_option maxHeartbeats 2000001
/-! ### an own exception class called with keywords -/
namespace PySem
namespace VX
open Builtin Builtin.ObjectAttr PySem.W PySem.Calls PyProof.Rows PySem.HandSPX
section
variable {P : Program} {w : World} {A : Around} {E : Value → Shared → Prop} {R : Result → Shared → Prop} {hp : Heap} {gs : Array GenState} {dr : Drawn} {tk : Nat} {o5 : OsState} {nm q : Str} {C N : Addr} {bs mr mrB : List Value} {hd : Bool} {sn : List Str} {su : List Value} {ab : Bool} {co : Option Bool} {dd : Option Addr} {c0 c1 c2 c3 c5 : Option Value} {B nid iid : String}
variable {us : List Value} {kw : List (Str × Value)}
theorem chk_new {M : Model} {Q : Unit → Shared → Prop} (F : ExcBaseFacts B nid iid mrB) (hT : ∀ Y : String, mr.contains (.type Y) = mrB.contains (.type Y))
    (hC : hp.get? C = some (excClassObj nm q C N bs mr hd sn su ab co dd c0 c1 c2 c3 c5 nid)) (hq : Q () ⟨hp, gs, dr, tk, o5⟩) : wpAny M A (checkBuiltinCall nid ⟨.ref C :: us, kw⟩) Q E ⟨hp, gs, dr, tk, o5⟩ := by
  have hin : (Value.ref C :: mr).contains (.type B) = true := by
    rw [List.contains_cons, hT, F.hasB]
    exact Bool.or_true _
  have hsh := F.noStar
  simp only [checkBuiltinCall, F.newRow, F.newSplit, F.newKind]
  repeat (first | refine wpAny_staticBase_exc hC ?_ | refine wpAny_loadPart_at hC ?_ | (refine wpAny_isSubtype_exc hC ?_; rw [hin]) | refine wpAny_madeBy_exc hC ?_ | simp only [if_false, bne_self_eq_false, Bool.false_eq_true] | wp_step)
  exact hq
theorem new_kw (F : ExcBaseFacts B nid iid mrB) (hT : ∀ Y : String, mr.contains (.type Y) = mrB.contains (.type Y)) (hC : hp.get? C = some (excClassObj nm q C N bs mr hd sn su ab co dd c0 c1 c2 c3 c5 nid))
    (hq : R (.ok (.ret (.ref (hp.objs.size + 1)))) ⟨(hp.push (kdv_tup us)).push (excO C hp.objs.size), gs, dr, tk, o5⟩) (hu : us.length ≤ sizeLine) :
    codeAny (model P w) A (.builtin nid ⟨.ref C :: us, kw⟩) R ⟨hp, gs, dr, tk, o5⟩ := by
  have e0 := F.ends
  have iB : (Value.ref C :: mr).contains (.type B) = true := by
    rw [List.contains_cons, hT, F.hasB]
    exact Bool.or_true _
  have iA : (Value.ref C :: mr).contains (.type "AttributeError") = false := by
    rw [List.contains_cons, hT, F.noAttr]
    rfl
  have iN : (Value.ref C :: mr).contains (.type "NameError") = false := by
    rw [List.contains_cons, hT, F.noName]
    rfl
  refine codeAny_builtinAt F.entry ?_; unfold «BaseException.__new__»
  refine wpAt_bind ?_; show wpAt _ _ _ (stack >>= _) _ _ _
  refine wpAt_bind (wpAt_stack fun p q' => wpAt_of_wpAny ?_)
  wp_walk
  refine wpAt_of_wpAny ?_
  rw [F.owner]
  repeat (first | with_reducible refine wpAny_loadPart_at hC ?_ | with_reducible refine wpAny_madeHere_exc F.canon hC ?_ | (with_reducible refine wpAny_isSubtype_exc hC ?_; first | rw [iB] | rw [iN] | rw [iA]) | wp_step)
  show R _ _
  rw [Heap.size_push]
  exact hq
theorem type_kw {fI : Addr} {Q : Fin → Shared → Prop} (F : ExcBaseFacts B nid iid mrB) (hT : ∀ Y : String, mr.contains (.type Y) = mrB.contains (.type Y)) (hC : hp.get? C = some (excClassObj nm q C N bs mr hd sn su ab co dd c0 c1 c2 c3 c5 nid))
    (hi : Looks (model P w) hp (typeLookup (.ref C) "__init__") (some (.ref fI))) (hb : ∀ x, Looks (model P w) hp (bindSpecial (.ref fI) x) (.ref fI, [x])) (hu : us.length ≤ sizeLine)
    (hq : codeAny (model P w) A (.call (.ref fI) ⟨.ref (hp.objs.size + 1) :: us, kw⟩) (fun r s' => match r with
      | .error e => E e s'
      | .ok (.ret v) => v = .none ∧ Q (.done (.ret (.ref (hp.objs.size + 1)))) s'
      | .ok _ => False) ⟨(hp.push (kdv_tup us)).push (excO C hp.objs.size), gs, dr, tk, o5⟩) :
    wpAny (model P w) A (Builtin.«type.__call__» ⟨.ref C :: us, kw⟩) Q E ⟨hp, gs, dr, tk, o5⟩ := by
  repeat (first | with_reducible refine wpAny_madeBy_exc hC ?_ | with_reducible refine wpAny_loadPart_at hC ?_ | wp_step)
  refine codeAny_call_builtin_code (Code.quiet_builtin _ F.quiet) (chk_new F hT hC ?_)
  refine new_kw F hT hC ?_ hu
  show wpAny _ _ _ _ _ _
  have kp : ∀ b o, hp.get? b = some o → ((hp.push (kdv_tup us)).push (excO C hp.objs.size)).get? b = some o := fun b o e => Heap.get?_push_of_some _ (Heap.get?_push_of_some _ e)
  have hC2 := kp _ _ hC
  have hnew : ((hp.push (kdv_tup us)).push (excO C hp.objs.size)).get? (hp.objs.size + 1) = some (excO C hp.objs.size) := by heap_get
  have iC : (Value.ref C :: mr).contains (.ref C) = true := by simp
  have i2 := hi.keeps kp
  have b2 := (hb (.ref (hp.objs.size + 1))).keeps kp
  unfold isInstance
  repeat (first | with_reducible refine wpAny_loadPart_at hnew ?_ | (with_reducible refine wpAny_isSubtype_exc hC2 ?_; rw [iC]) | wp_step)
  show wpAny _ _ (typeLookup (.ref C) _) _ _ _; refine i2.at ?_
  refine wpAny_holding (wpAny_bind (b2.at ?_))
  refine wpAny_bind (wpAny_call (codeAny_mono hq fun rr s2 zz => ?_))
  rcases rr with er | (vr | _ | _ | _) <;> first | exact zz | exact zz.elim | skip
  obtain ⟨rfl, zz⟩ := zz
  first
    | exact wpAny_pure (wpAny_pure zz)
    | (wp_walk; exact zz)
theorem call_kw {fI : Addr} (F : ExcBaseFacts B nid iid mrB) (hT : ∀ Y : String, mr.contains (.type Y) = mrB.contains (.type Y)) (hC : hp.get? C = some (excClassObj nm q C N bs mr hd sn su ab co dd c0 c1 c2 c3 c5 nid))
    (hi : Looks (model P w) hp (typeLookup (.ref C) "__init__") (some (.ref fI))) (hb : ∀ x, Looks (model P w) hp (bindSpecial (.ref fI) x) (.ref fI, [x])) (hu : us.length ≤ sizeLine)
    (hq : codeAny (model P w) (A.under (.builtin "type.__call__" ⟨.ref C :: us, kw⟩)) (.call (.ref fI) ⟨.ref (hp.objs.size + 1) :: us, kw⟩) (InitBack (hp.objs.size + 1) R) ⟨(hp.push (kdv_tup us)).push (excO C hp.objs.size), gs, dr, tk, o5⟩) :
    codeAny (model P w) A (.call (.ref C) ⟨us, kw⟩) R ⟨hp, gs, dr, tk, o5⟩ := by
  have f1 := tc_lookup
  have f2 := tc_bind (.ref C)
  have hTy : (⟨hp, gs, dr, tk, o5⟩ : Shared).TypeIs (.ref C) "type" := ⟨_, hC, rfl⟩
  refine codeAny_of_tree ?_; show wpAny _ _ (callAny (.ref C) _) _ _ _
  repeat (any_goals (first | with_reducible refine wpAny_loadPart_at hC ?_ | assumption | wp_step))
  refine ⟨rfl, ?_⟩
  refine codeAny_call_builtin_at (Code.quiet_builtin _ (by decide +kernel)) entry_typeCall (wpAny_check_type_call_sub hC (type_kw F hT hC hi hb hu ?_))
  refine codeAny_mono hq fun rr s2 zz => ?_
  rcases rr with er | (vr | _ | _ | _) <;> exact zz
end
end VX
end PySem

namespace VL
open PySem PySem.Spec L2
open PyProof.Rows hiding St
/-- C(.., k = v, ..) of an own exception class, its __init__ keeping sp: what is told of it -/
def tMkK (C : Addr) (n m : Nat) (sp : Sp) (gV : List V → List V → List V) (t tk : TA) : L2.St → Hp → XK → Prop := fun σ H Q => t σ H fun vs H1 => tk σ H1 fun zs H2 => vs.length = n ∧ zs.length = m ∧ ∀ a, H2 a = none → sp (gV (.ref a :: vs) zs) (upd H2 a (exo a C none))
  (fun v H3 => v = .non ∧ ∃ (d : Addr) (fs : List (Str × V)), H3 a = some (exo a C (some d)) ∧ H3 d = some (exd d fs) ∧ H2 d = none ∧ Q (.ref C) (some d) (upd (del H3 a) d (.xd fs))) (fun _ _ _ => False)
section
variable {X : Cx} {CX : CXT} {k n : Nat} {fI C : Addr} {fd : FuncData} {ps ks : List Str} {sp : Sp} {x : Str} {p pos : Pos} {e : Expr} {es : List Expr} {kws : List Keyword} {t tk : TA} {g : List Value → List Value → List Value} {gV : List V → List V → List V}
theorem run_exc {pins : List (Addr × Obj)} {σ : L2.St} {H : Hp} {s : Shared} {Q : XK} {us ws : List Value} {vs zs : List V} (T : OexC X.K C) (iC : PySem.W.findIn X.K (.ref C) "__init__" = some (some (.ref fI))) (tI : PySem.W.typeIn X.K (.ref fI) = some (.type "function"))
    (F1 : FnOk X.prog X.w X.K X.mg X.base CX k fI fd ps sp) (hr : Room (k + 1) X.A) (hb : KBn X.K fd ps (n + 1) ks g gV) (hx : Passes CX X (fun _ _ _ => False)) (I1 : Inv X pins σ H s) (r : Vals vs us) (rz : Vals zs ws) (l1 : vs.length = n) (l2 : zs.length = ks.length) (hn : n ≤ 1000)
    (h : ∀ a, H a = none → sp (gV (.ref a :: vs) zs) (upd H a (exo a C none)) (fun v H3 => v = .non ∧ ∃ (d : Addr) (fs : List (Str × V)), H3 a = some (exo a C (some d)) ∧ H3 d = some (exd d fs) ∧ H d = none ∧ Q (.ref C) (some d) (upd (del H3 a) d (.xd fs))) (fun _ _ _ => False)) :
    wpAny (model X.prog X.w) X.A (call (.ref C) us (ks.zip ws)) (MkP X pins σ Q) X.xe s := by
  obtain ⟨n0, q0, N0, b0, bm, s0, u0, a0, c0, d0, k0, k1, k2, k3, k5, hC, hbm⟩ := T.cls
  obtain ⟨hp, gg, dr, tt, os⟩ := s
  have hsz := Nat.le_succ hp.objs.size
  have hq := h (hp.objs.size + 1) (I1.hok.fresh hsz)
  have kk : ∀ b o, hp.get? b = some o → ((hp.push (PySem.W.kdv_tup us)).push (PySem.HandSPX.excO C hp.objs.size)).get? b = some o := fun b o z => Heap.get?_push_of_some _ (Heap.get?_push_of_some _ z)
  have hg : ((hp.push (PySem.W.kdv_tup us)).push (PySem.HandSPX.excO C hp.objs.size)).get? (hp.objs.size + 1) = some (PySem.HandSPX.excO C hp.objs.size) := by heap_get
  have I2 : Inv X pins σ (upd H (hp.objs.size + 1) (exo (hp.objs.size + 1) C none)) ⟨(hp.push (PySem.W.kdv_tup us)).push (PySem.HandSPX.excO C hp.objs.size), gg, dr, tt, os⟩ :=
    I1.laid (o := exo (hp.objs.size + 1) C none) (a := hp.objs.size + 1) (t' := tt) (h' := (hp.push (PySem.W.kdv_tup us)).push (PySem.HandSPX.excO C hp.objs.size)) kk hsz (exo_ok hg)
  have r1 : Vals (V.ref (hp.objs.size + 1) :: vs) (Value.ref (hp.objs.size + 1) :: us) := .cons rfl r
  have r2 := hb.rel r1 rz
  have n1 : (Value.ref (hp.objs.size + 1) :: us).length = n + 1 := by
    rw [List.length_cons, ← l1, r.length]
  have hul : us.length ≤ sizeLine := by
    rw [← r.length, l1, sizeLine_eq]
    omega
  refine wpAny_call (PySem.VX.call_kw F.excBase_ValueError (fun Y => PySem.HandSPX.refsVE_contains Y bm hbm) (I1.kIn _ _ hC) (PySem.W.looks_findIn I1.kIn iC) (fun y => PySem.W.bind_fn I1.kIn y tI) hul
    (codeAny_mono (F1.run _ X.stack _ _ ⟨Value.ref (hp.objs.size + 1) :: us, ks.zip ws⟩ (g (Value.ref (hp.objs.size + 1) :: us) ws) _ _ (fun _ _ _ => False) (hr.make C us (ks.zip ws)) (I2.env0.make C us (ks.zip ws)) (hb.to _ (Value.ref (hp.objs.size + 1) :: us) ws I2.kIn n1 (rz.length.symm.trans l2)) r2 hq) fun rr s3 hq3 => ?_))
  cases rr with
  | error er => exact hx pins σ _ _ er s3 I2 hq3
  | ok fl =>
    cases fl with
    | ret u =>
      obtain ⟨v, H3, os2, bare2, un2, hok2, rv, ev, d, fs, ea, ed, hd1, q2⟩ := hq3
      subst ev
      obtain ⟨h3, g3, d3, t3, o3⟩ := s3
      exact ⟨rv, mk_end (T := raises_own T.exC T.tyC) I1 hsz kk un2 hok2 os2 bare2 ea ed hd1 q2⟩
    | next => exact hq3.elim
    | brk => exact hq3.elim
    | cont => exact hq3.elim
theorem pmk_kw0 (T : OexC X.K C) (iC : PySem.W.findIn X.K (.ref C) "__init__" = some (some (.ref fI))) (tI : PySem.W.typeIn X.K (.ref fI) = some (.type "function")) (F1 : FnOk X.prog X.w X.K X.mg X.base CX k fI fd ps sp) (hr : Room (k + 1) X.A) (hb : KBn X.K fd ps 1 ks g gV) (hx : Passes CX X (fun _ _ _ => False))
    (hg : Gl X x) (hm : X.mg x = some (.ref C)) (hkw : PK X kws tk) (hall : (backToKw pos (keywordEach kws X.env)).all (·.1.isSome) = true := by rfl) (hks : (backToKw pos (keywordEach kws X.env)).filterMap (·.1) = ks := by rfl) (hdb : (x == ("__debug__" : Str)) = false := by decide)
    (hpl : ((backTo pos (starEach [] X.env)).any (·.1) || (backToKw pos (keywordEach kws X.env)).any (·.1.isNone)) = false := by rfl) : PMk X (.Call (.Name x p) [] kws pos) (tMkK C 0 ks.length sp gV tNil tk) := by
  intro pins s σ H Q I h
  refine wpAny_Call_Name_kw (ld_glob I hg hm ?_ hdb)
  refine PySem.W.callWith_KW0 (h₀ := X.base) I.ok.mod.kin T.kC hall (thn (hkw.run pos pins s σ H _ I h) fun ws s2 ⟨zs, H2, I2, rz, l1, l2, q2⟩ => ⟨I2.kIn, ?_⟩) hpl
  rw [hks]
  exact run_exc (us := []) (vs := []) T iC tI F1 hr hb hx I2 .nil rz rfl l2 (by decide) q2
/-- an exception that is made is a value -/
theorem pe_made {t : L2.St → Hp → XK → Prop} (he : PMk X e t) : PE X e (fun σ H Q => t σ H fun cls d H' => ∀ a, H' a = none → Q (.ref a) (upd H' a (xO cls d a))) := by
  refine ⟨fun pins s σ H Q I h => wpAny_mono (he pins s σ H _ I h) (fun u s' hu => ?_) fun _ _ z => z⟩
  obtain ⟨a, oe, vs, sI, H', cls, d, rfl, J, kp, hne, ha, hz, hd, h1, na, os, ag, r, q⟩ := hu
  have J2 := J.laidN (t' := sI.toks) (o := xO cls d a) kp hne na (xO_ok ha hz hd)
  exact ⟨.ref a, _, ⟨J2.ok, os.trans J.os, ag, J2.base, J2.loc, J2.cell, J2.free, J2.freeC, J2.pin, J2.hok, J2.len⟩, rfl, q a na⟩
end
end VL
set_option Elab.async false
set_option linter.all false
set_option maxRecDepth 100000
set_option autoImplicit false
set_option maxHeartbeats 1000000
namespace VL
open PySem PySem.Spec L2
open PyProof.Rows hiding St

/-! ### an error without arguments: self.f = () -/
def spX0 (K : PySem.W.Frag) (c f : Str) : Sp := fun vs H Q E => ∃ a : Addr, vs = [.ref a] ∧ H a = some (exo a (He.ga K c) none) ∧ ∀ p dx, H p = none → upd H p (.tup []) dx = none → dx ≠ a → Q .non (upd (upd (upd H p (.tup [])) dx (exd dx [(f, .ref p)])) a (exo a (He.ga K c) (some dx)))
theorem keeps_xinit0 {P : Program} {w : World} {K : PySem.W.Frag} {mg : Str → Option Value} {base : Heap} {x qual : Str} {params : Arguments} {body : List Stmt} {scope : Scope} {dvs : List V} {kws : List (Str × V)} {fa : Addr} {fd : FuncData} {k : Nat} {c sn f : Str} {spos apos tpos pos : Pos} {cx}
    (Fd : FunD K x qual params body scope dvs kws fa fd) (S : FnScope [sn] [sn] scope) (hbody : body = [.Assign [.Attribute (.Name sn spos) f apos] (.Tuple [] cx tpos) pos]) (hs1 : Vis scope sn) (hd1 : (sn == ("__debug__" : Str)) = false) (hd3 : (sn == ("__classdict__" : Str)) = false) (T : OexC K (He.ga K c)) (hno : PySem.W.findIn K (.ref (He.ga K c)) f = some none) :
    FnOk P w K mg base (L2.CX P w) (k + 1) fa fd [sn] (spX0 K c f) := by
  subst hbody
  refine Fd.ok S (fun vs H Q E h => ?_) (fun cdv A outer s H vs Q E hr h => ?_)
  · obtain ⟨a, rfl, _⟩ := h
    rfl
  · obtain ⟨a, rfl, he, q⟩ := h
    refine ⟨_, pss_one (ps_ost (pe_var (i := 0) rfl hs1 hd1 hd3) (pe_tup pa_nil)), ?_⟩
    refine ⟨Nat.zero_le _, fun p hp => ⟨.ref a, rfl, a, He.ga K c, rfl, T, hno, .inl ⟨?_, fun dx n1 n2 => q p dx hp n1 n2⟩⟩⟩
    rw [upd_ne (ne_of_none he hp)]
    exact he
section
variable {X : Cx} {G : Gd} {W : WX} {ρ : Rho} {c f sn pn : Str} {e : Expr} {m : Rs D} {p pos kpos : Pos} {fI : Addr} {fd : FuncData} {k : Nat}
/-- C(e) as a value -/
theorem ev_exc1 (T : OexC X.K (He.ga X.K c)) (iC : PySem.W.findIn X.K (.ref (He.ga X.K c)) "__init__" = some (some (.ref fI))) (tI : PySem.W.typeIn X.K (.ref fI) = some (.type "function")) (F1 : FnOk X.prog X.w X.K X.mg X.base (L2.CX X.prog X.w) k fI fd [sn, pn] (spX X.K c f)) (hr : Room (k + 1) X.A) (hb : Binds X.K fd [sn, pn] [])
    (hm : X.mg c = some (.ref (He.ga X.K c))) (he : EV X G W ρ e m) (hg : Gl X c := by rfl) (hdb : (c == ("__debug__" : Str)) = false := by decide) (hs : starEach [e] X.env = (false, eval e X.env) :: starEach [] X.env := by rfl) :
    EV X G W ρ (.Call (.Name c p) [e] [] pos) (m.bind fun d => .ok (.exn c [(f, d)])) := by
  obtain ⟨te, pe, q⟩ := he
  refine ⟨_, pe_made (pmk_oex T iC tI F1 hr hb .nil (passes_no (P := X.prog) (w := X.w)) hg hm (pa_cons pe pa_nil hs) hdb hs), fun F0 σ F H Q hh hp => q F0 σ F H _ hh (hp.bind fun d v F' H' e1 r1 hp1 => ?_)⟩
  refine ⟨by show 1 ≤ 1000; decide, fun a na => ⟨a, v, rfl, upd_same, fun dx n1 n2 => ⟨rfl, dx, [(f, v)], upd_same, by rw [upd_ne n2, upd_same], by rwa [upd_ne n2] at n1, fun a2 na2 => ?_⟩⟩⟩
  have nd : H' dx = none := by rwa [upd_ne n2] at n1
  have eH : upd (del (upd (upd (upd H' a (exo a (He.ga X.K c) none)) dx (exd dx [(f, v)])) a (exo a (He.ga X.K c) (some dx))) a) dx (.xd [(f, v)]) = upd H' dx (.xd [(f, v)]) := by
    funext b
    by_cases h1 : b = dx
    · subst h1; rw [upd_same, upd_same]
    · rw [upd_ne h1, upd_ne h1]
      by_cases h2 : b = a
      · subst h2; rw [del_same, na]
      · rw [del_ne h2, upd_ne h2, upd_ne h1, upd_ne h2]
  rw [eH] at na2 ⊢
  have e2 := Ext.fresh e1.sub (.xd [(f, v)]) nd
  have e3 := Ext.fresh e2.sub (xO (.ref (He.ga X.K c)) (some dx) a2) na2
  have nF : dx ≠ a2 := fun z => by rw [z, upd_same] at na2; cases na2
  exact hp1 _ _ _ (e2.trans e3) (.exn (vs := [(f, v)]) upd_same (by rw [upd_ne nF]; exact upd_same) rfl (.cons (r1.mono (e2.trans e3).ext) .nil))
/-- C(k = e) as a value -/
theorem ev_excK (T : OexC X.K (He.ga X.K c)) (iC : PySem.W.findIn X.K (.ref (He.ga X.K c)) "__init__" = some (some (.ref fI))) (tI : PySem.W.typeIn X.K (.ref fI) = some (.type "function")) (F1 : FnOk X.prog X.w X.K X.mg X.base (L2.CX X.prog X.w) k fI fd [sn, pn] (spX X.K c f)) (hr : Room (k + 1) X.A) (hb : KBn X.K fd [sn, pn] 1 [pn] (gOf [0]) (gOf [0]))
    (hm : X.mg c = some (.ref (He.ga X.K c))) (he : EV X G W ρ e m) (hg : Gl X c := by rfl) (hall : (backToKw pos (keywordEach [⟨some pn, e, kpos⟩] X.env)).all (·.1.isSome) = true := by rfl) (hks : (backToKw pos (keywordEach [⟨some pn, e, kpos⟩] X.env)).filterMap (·.1) = [pn] := by rfl) (hdb : (c == ("__debug__" : Str)) = false := by decide)
    (hpl : ((backTo pos (starEach [] X.env)).any (·.1) || (backToKw pos (keywordEach [⟨some pn, e, kpos⟩] X.env)).any (·.1.isNone)) = false := by rfl) :
    EV X G W ρ (.Call (.Name c p) [] [⟨some pn, e, kpos⟩] pos) (m.bind fun d => .ok (.exn c [(f, d)])) := by
  obtain ⟨te, pe, q⟩ := he
  refine ⟨_, pe_made (pmk_kw0 T iC tI F1 hr hb (passes_no (P := X.prog) (w := X.w)) hg hm (pk_cons pe pk_nil) hall hks hdb hpl), fun F0 σ F H Q hh hp => q F0 σ F H _ hh (hp.bind fun d v F' H' e1 r1 hp1 => ?_)⟩
  refine ⟨rfl, rfl, fun a na => ⟨a, v, rfl, upd_same, fun dx n1 n2 => ⟨rfl, dx, [(f, v)], upd_same, by rw [upd_ne n2, upd_same], by rwa [upd_ne n2] at n1, fun a2 na2 => ?_⟩⟩⟩
  have nd : H' dx = none := by rwa [upd_ne n2] at n1
  have eH : upd (del (upd (upd (upd H' a (exo a (He.ga X.K c) none)) dx (exd dx [(f, v)])) a (exo a (He.ga X.K c) (some dx))) a) dx (.xd [(f, v)]) = upd H' dx (.xd [(f, v)]) := by
    funext b
    by_cases h1 : b = dx
    · subst h1; rw [upd_same, upd_same]
    · rw [upd_ne h1, upd_ne h1]
      by_cases h2 : b = a
      · subst h2; rw [del_same, na]
      · rw [del_ne h2, upd_ne h2, upd_ne h1, upd_ne h2]
  rw [eH] at na2 ⊢
  have e2 := Ext.fresh e1.sub (.xd [(f, v)]) nd
  have e3 := Ext.fresh e2.sub (xO (.ref (He.ga X.K c)) (some dx) a2) na2
  have nF : dx ≠ a2 := fun z => by rw [z, upd_same] at na2; cases na2
  exact hp1 _ _ _ (e2.trans e3) (.exn (vs := [(f, v)]) upd_same (by rw [upd_ne nF]; exact upd_same) rfl (.cons (r1.mono (e2.trans e3).ext) .nil))
/-- C() as a value -/
theorem ev_exc0 (T : OexC X.K (He.ga X.K c)) (iC : PySem.W.findIn X.K (.ref (He.ga X.K c)) "__init__" = some (some (.ref fI))) (tI : PySem.W.typeIn X.K (.ref fI) = some (.type "function")) (F1 : FnOk X.prog X.w X.K X.mg X.base (L2.CX X.prog X.w) k fI fd [sn] (spX0 X.K c f)) (hr : Room (k + 1) X.A) (hb : KBn X.K fd [sn] 1 [] (gOf []) (gOf []))
    (hm : X.mg c = some (.ref (He.ga X.K c))) (hg : Gl X c := by rfl) (hall : (backToKw pos (keywordEach [] X.env)).all (·.1.isSome) = true := by rfl) (hks : (backToKw pos (keywordEach [] X.env)).filterMap (·.1) = [] := by rfl) (hdb : (c == ("__debug__" : Str)) = false := by decide)
    (hpl : ((backTo pos (starEach [] X.env)).any (·.1) || (backToKw pos (keywordEach [] X.env)).any (·.1.isNone)) = false := by rfl) :
    EV X G W ρ (.Call (.Name c p) [] [] pos) (.ok (.exn c [(f, .tup [])])) := by
  refine ⟨_, pe_made (pmk_kw0 T iC tI F1 hr hb (passes_no (P := X.prog) (w := X.w)) hg hm pk_nil hall hks hdb hpl), fun F0 σ F H Q hh hp1 => ?_⟩
  refine ⟨rfl, rfl, fun a na => ⟨a, rfl, upd_same, fun q dx n0 n1 n2 => ⟨rfl, dx, [(f, .ref q)], upd_same, by rw [upd_ne n2, upd_same], ?_, fun a2 na2 => ?_⟩⟩⟩
  · have n3 : dx ≠ q := fun z => by rw [z, upd_same] at n1; cases n1
    rwa [upd_ne n3, upd_ne n2] at n1
  have n3 : dx ≠ q := fun z => by rw [z, upd_same] at n1; cases n1
  have n4 : q ≠ a := fun z => by rw [z, upd_same] at n0; cases n0
  have nq : H q = none := by rwa [upd_ne n4] at n0
  have nd : upd H q (.tup []) dx = none := by
    rw [upd_ne n3, upd_ne n2] at n1
    rw [upd_ne n3]
    exact n1
  have eH : upd (del (upd (upd (upd (upd H a (exo a (He.ga X.K c) none)) q (.tup [])) dx (exd dx [(f, .ref q)])) a (exo a (He.ga X.K c) (some dx))) a) dx (.xd [(f, .ref q)]) = upd (upd H q (.tup [])) dx (.xd [(f, .ref q)]) := by
    funext b
    by_cases h1 : b = dx
    · subst h1; rw [upd_same, upd_same]
    · rw [upd_ne h1, upd_ne h1]
      by_cases h2 : b = a
      · subst h2; rw [del_same, upd_ne (Ne.symm n4), na]
      · rw [del_ne h2, upd_ne h2, upd_ne h1]
        by_cases h3 : b = q
        · subst h3; rw [upd_same, upd_same]
        · rw [upd_ne h3, upd_ne h3, upd_ne h2]
  rw [eH] at na2 ⊢
  have e1 := Ext.fresh hh.sub (.tup []) nq
  have e2 := Ext.fresh e1.sub (.xd [(f, .ref q)]) nd
  have e3 := Ext.fresh e2.sub (xO (.ref (He.ga X.K c)) (some dx) a2) na2
  have nF : dx ≠ a2 := fun z => by rw [z, upd_same] at na2; cases na2
  have r0 : Rep X.K (upd F q (.tup [])) (.ref q) (.tup []) := .tup (.inl upd_same) (Nat.zero_le _) .nil
  exact hp1 _ _ _ ((e1.trans e2).trans e3) (.exn (vs := [(f, .ref q)]) upd_same (by rw [upd_ne nF]; exact upd_same) rfl (.cons (r0.mono (e2.trans e3).ext) .nil))
end
end VL
set_option Elab.async false
set_option linter.all false
set_option maxRecDepth 100000
set_option autoImplicit false
namespace VL
open PySem PySem.Spec L2
open PyProof.Rows hiding St

/-! ### tests of own error classes -/
def oexIn (K : PySem.W.Frag) (C : Addr) : Bool := match K.lookup C with
  | some ⟨.type "type", _, .cls cd, sl⟩ => (match cd.mro, sl.toList with
    | .ref C' :: bm, [_, _, _, _, some (.builtin n), _] => C' == C && (n == "ValueError.__new__" && (!cd.hasDel && (cd.hasDict && PySem.HandSPX.refsVE bm)))
    | _, _ => false)
  | _ => false
theorem oexIn_ok {K : PySem.W.Frag} {C : Addr} (q : oexIn K C = true) : ∃ nm q N bs bm sn sub ab col dd k0 k1 k2 k3 k5, K.lookup C = some (excClassObj nm q C N bs bm true sn sub ab col dd k0 k1 k2 k3 k5 "ValueError.__new__") ∧ PySem.HandSPX.refsVE bm = true := by
  unfold oexIn at q
  split at q
  · rename_i dd cd sl ho
    split at q
    · rename_i C' bm k0 k1 k2 k3 n k5 hm hs
      simp only [Bool.and_eq_true, beq_iff_eq, Bool.not_eq_true'] at q
      obtain ⟨rfl, rfl, hdel, hhd, hbm⟩ := q
      obtain ⟨nm, bs, mro, ns, qn, hd, sn, sub, ab, col, del⟩ := cd
      dsimp only at hm hdel hhd
      subst hm hdel hhd
      have hsl : sl = #[k0, k1, k2, k3, some (.builtin "ValueError.__new__"), k5] := by
        obtain ⟨l⟩ := sl
        simp only at hs
        rw [hs]
      subst hsl
      exact ⟨nm, qn, ns, bs, bm, sn, sub, ab, col, dd, k0, k1, k2, k3, k5, ho, hbm⟩
    · cases q
  · cases q
def oexB (x : Str) : FrB := fun K => oexIn K (He.ga K x) && (He.eqO (PySem.W.findIn K (.ref (He.ga K x)) "__setattr__") (some (some (.builtin "object.__setattr__"))) && (decide (PySem.W.subIn K (.ref (He.ga K x)) (.type "BaseException") = some true) && (decide (PySem.W.typeIn K (.ref (He.ga K x)) = some (.type "type")) && PySem.W.keepIn K (.ref (He.ga K x)))))
theorem oexB_ok {x : Str} {K : PySem.W.Frag} (h : oexB x K = true) : OexC K (He.ga K x) := by
  obtain ⟨h1, h⟩ := He.ba h
  obtain ⟨h2, h⟩ := He.ba h
  obtain ⟨h3, h⟩ := He.ba h
  obtain ⟨h4, h5⟩ := He.ba h
  exact ⟨oexIn_ok h1, He.eqO_ok h2, of_decide_eq_true h3, of_decide_eq_true h4, h5⟩
def xicB (x : Str) : FrB := fun K => He.eqO (PySem.W.findIn K (.ref (He.ga K x)) "__init__") (some (some (.ref (He.ma K (He.ga K x) "__init__")))) && decide (PySem.W.typeIn K (.ref (He.ma K (He.ga K x) "__init__")) = some (.type "function"))
theorem xicB_ok {x : Str} {K : PySem.W.Frag} (h : xicB x K = true) : PySem.W.findIn K (.ref (He.ga K x)) "__init__" = some (some (.ref (He.ma K (He.ga K x) "__init__"))) ∧ PySem.W.typeIn K (.ref (He.ma K (He.ga K x) "__init__")) = some (.type "function") := by
  obtain ⟨h1, h2⟩ := He.ba h
  exact ⟨He.eqO_ok h1, of_decide_eq_true h2⟩
def noatB (x f : Str) : FrB := fun K => (He.Fa.noat x f).ok K
def xfcB (x : Str) : FrB := fun K => xfB K (He.ga K x)
def exmB (x y : Str) (b : Bool) : FrB := fun K => (He.Fa.exm x y b).ok K
def exmTB (x : Str) (y : String) (b : Bool) : FrB := fun K => decide (PySem.W.exmOne K (.ref (He.ga K x)) (.type y) = some b)
def kitB1 (x y : Str) (b : Bool) : FrB := fun K => decide (PySem.W.kitOne K (.ref (He.ga K x)) (.ref (He.ga K y)) = some b)
def kitTB1 (x : Str) (y : String) (b : Bool) : FrB := fun K => decide (PySem.W.kitOne K (.ref (He.ga K x)) (.type y) = some b)
def kitNB1 (y : Str) (b : Bool) : FrB := fun K => decide (PySem.W.kitOne K (.type "NoneType") (.ref (He.ga K y)) = some b)
def kitNTB1 (y : String) (b : Bool) : FrB := fun K => decide (PySem.W.kitOne K (.type "NoneType") (.type y) = some b)
def exiBn (x : Str) : FrB := exiB fun K => He.ga K x
end VL
set_option Elab.async false
set_option linter.all false
set_option maxRecDepth 100000
set_option autoImplicit false
namespace VL
open PySem PySem.Spec

/-! ### plain: comprehensions and loops over mapped lists -/
theorem compM_map {α γ : Type} {u : D → Option γ} {fc : γ → Rs Bool} {fe : γ → Rs D} (e : α → D) (g : α → γ) (p : α → Bool) (h : α → D) :
    ∀ xs : List α, (∀ x ∈ xs, u (e x) = some (g x)) → (∀ x ∈ xs, fc (g x) = .ok (p x)) → (∀ x ∈ xs, p x = true → fe (g x) = .ok (h x)) → compM u fc fe (xs.map e) = .ok ((xs.filter p).map h)
  | [], _, _, _ => rfl
  | x :: xs, h1, h2, h3 => by
    have ih := compM_map e g p h xs (fun y hy => h1 y (List.mem_cons_of_mem _ hy)) (fun y hy => h2 y (List.mem_cons_of_mem _ hy)) (fun y hy => h3 y (List.mem_cons_of_mem _ hy))
    have m : x ∈ x :: xs := List.mem_cons_self
    simp only [List.map_cons, compM, h1 x m, Rs.of_some, Rs.bind_ok, h2 x m, Rs.noX_ok, ih]
    cases hp : p x with
    | true => simp [h3 x m hp, List.filter_cons, hp]
    | false => simp [List.filter_cons, hp]
/-- .. without a test -/
theorem compM_all {α : Type} {fe : D → Rs D} (e h : α → D) (xs : List α) (h3 : ∀ x ∈ xs, fe (e x) = .ok (h x)) : compM some (fun _ => .ok true) fe (xs.map e) = .ok (xs.map h) := by
  have z := compM_map (u := some) (fc := fun _ => .ok true) (fe := fe) e e (fun _ => true) h xs (fun _ _ => rfl) (fun _ _ => rfl) (fun x hx _ => h3 x hx)
  rw [z, List.filter_eq_self.mpr (fun _ _ => rfl)]
theorem compM_allU {α γ : Type} {u : D → Option γ} {fe : γ → Rs D} (e : α → D) (g : α → γ) (h : α → D) (xs : List α) (h1 : ∀ x ∈ xs, u (e x) = some (g x)) (h3 : ∀ x ∈ xs, fe (g x) = .ok (h x)) : compM u (fun _ => .ok true) fe (xs.map e) = .ok (xs.map h) := by
  have z := compM_map (u := u) (fc := fun _ => .ok true) (fe := fe) e g (fun _ => true) h xs h1 (fun _ _ => rfl) (fun x hx _ => h3 x hx)
  rw [z, List.filter_eq_self.mpr (fun _ _ => rfl)]
theorem foldM_map {α σ ε : Type} {f : ε → D → Rs ε} (e : α → D) (b : σ → ε) (g : σ → α → σ) : ∀ (xs : List α) (z : σ), (∀ z, ∀ x ∈ xs, f (b z) (e x) = .ok (b (g z x))) → foldM f (xs.map e) (b z) = .ok (b (xs.foldl g z))
  | [], _, _ => rfl
  | x :: xs, z, h => by
    simp only [List.map_cons, foldM, h z x List.mem_cons_self, Rs.bind_ok, List.foldl_cons]
    exact foldM_map e b g xs _ fun z y hy => h z y (List.mem_cons_of_mem _ hy)
/-- an invariant over what is taken -/
theorem foldM_inv {α ε : Type} {f : ε → D → Rs ε} (e : α → D) (I : List α → ε → Prop) (all : List α) : ∀ (xs pre : List α) (z : ε), all = pre ++ xs → I pre z → (∀ pre x post z, all = pre ++ x :: post → I pre z → ∃ z', f z (e x) = .ok z' ∧ I (pre ++ [x]) z') →
    ∃ z', foldM f (xs.map e) z = .ok z' ∧ I all z'
  | [], pre, z, ha, h0, _ => ⟨z, rfl, by rw [ha, List.append_nil]; exact h0⟩
  | x :: xs, pre, z, ha, h0, h => by
    obtain ⟨z1, e1, i1⟩ := h pre x xs z ha h0
    obtain ⟨z2, e2, i2⟩ := foldM_inv e I all xs (pre ++ [x]) z1 (by rw [ha, List.append_assoc]; rfl) i1 h
    refine ⟨z2, ?_, i2⟩
    simp only [List.map_cons, foldM, e1, Rs.bind_ok, e2]
theorem foldM_ix {α ε : Type} {f : ε → D → Rs ε} (e : α → D) (I : Nat → ε → Prop) : ∀ (xs : List α) (k : Nat) (z : ε), I k z → (∀ j z, ∀ x ∈ xs, j < k + xs.length → I j z → ∃ z', f z (e x) = .ok z' ∧ I (j + 1) z') →
    ∃ z', foldM f (xs.map e) z = .ok z' ∧ I (k + xs.length) z'
  | [], k, z, h0, _ => ⟨z, rfl, h0⟩
  | x :: xs, k, z, h0, h => by
    obtain ⟨z1, e1, i1⟩ := h k z x List.mem_cons_self (by simp only [List.length_cons]; omega) h0
    obtain ⟨z2, e2, i2⟩ := foldM_ix e I xs (k + 1) z1 i1 fun j z y hy hj hi => h j z y (List.mem_cons_of_mem _ hy) (by simp only [List.length_cons]; omega) hi
    refine ⟨z2, ?_, ?_⟩
    · simp only [List.map_cons, foldM, e1, Rs.bind_ok, e2]
    · simp only [List.length_cons]
      rw [show k + (xs.length + 1) = k + 1 + xs.length by omega]
      exact i2
/-- a comprehension with draws -/
theorem compBM_ix {α γ : Type} {u : D → Option γ} {fe : γ → List D → Rs (D × List D)} (e : α → D) (g : α → γ) (I : Nat → List D → Prop) (J : α → D → Prop) : ∀ (xs : List α) (k : Nat) (s : List D), I k s → (∀ x ∈ xs, u (e x) = some (g x)) →
    (∀ j s, ∀ x ∈ xs, j < k + xs.length → I j s → ∃ d s', fe (g x) s = .ok (d, s') ∧ J x d ∧ I (j + 1) s') → ∃ ds s', compBM u (fun _ s => .ok (true, s)) fe (xs.map e) s = .ok (ds, s') ∧ ds.length = xs.length ∧ (∀ p ∈ xs.zip ds, J p.1 p.2) ∧ I (k + xs.length) s'
  | [], k, s, h0, _, _ => ⟨[], s, rfl, rfl, fun p hp => by simp at hp, h0⟩
  | x :: xs, k, s, h0, hu, h => by
    obtain ⟨d, s1, e1, j1, i1⟩ := h k s x List.mem_cons_self (by simp only [List.length_cons]; omega) h0
    obtain ⟨ds, s2, e2, l2, j2, i2⟩ := compBM_ix e g I J xs (k + 1) s1 i1 (fun y hy => hu y (List.mem_cons_of_mem _ hy)) fun j s y hy hj hi => h j s y (List.mem_cons_of_mem _ hy) (by simp only [List.length_cons]; omega) hi
    refine ⟨d :: ds, s2, ?_, by simp [l2], fun p hp => ?_, ?_⟩
    · simp only [List.map_cons, compBM, hu x List.mem_cons_self, Rs.of_some, Rs.bind_ok, Rs.noX_ok, if_true, e1, e2]
    · rcases List.mem_cons.mp (show p ∈ (x, d) :: xs.zip ds from hp) with rfl | hp
      · exact j1
      · exact j2 p hp
    · simp only [List.length_cons]
      rw [show k + (xs.length + 1) = k + 1 + xs.length by omega]
      exact i2
/-- a loop that asks and goes on -/
theorem loopM_on {α β : Type} {f : Unit → D → Rs (Fl Unit Unit)} (e : α → D) : ∀ xs : List α, (∀ x ∈ xs, f () (e x) = .ok (.nx ())) → loopM (β := β) f (xs.map e) () = .ok (.nx ())
  | [], _ => rfl
  | x :: xs, h => by
    simp only [List.map_cons, loopM, h x List.mem_cons_self, Rs.bind_ok]
    exact loopM_on e xs fun y hy => h y (List.mem_cons_of_mem _ hy)
theorem loopM_inv {α ε β : Type} {f : ε → D → Rs (Fl ε ε)} (e : α → D) (I : Nat → ε → Prop) : ∀ (xs : List α) (k : Nat) (z : ε), I k z → (∀ j z, ∀ x ∈ xs, j < k + xs.length → I j z → ∃ z', f z (e x) = .ok (.nx z') ∧ I (j + 1) z') →
    ∃ z', loopM (β := β) f (xs.map e) z = .ok (.nx z') ∧ I (k + xs.length) z'
  | [], k, z, h0, _ => ⟨z, rfl, h0⟩
  | x :: xs, k, z, h0, h => by
    obtain ⟨z1, e1, i1⟩ := h k z x List.mem_cons_self (by simp only [List.length_cons]; omega) h0
    obtain ⟨z2, e2, i2⟩ := loopM_inv (β := β) e I xs (k + 1) z1 i1 fun j z y hy hj hi => h j z y (List.mem_cons_of_mem _ hy) (by simp only [List.length_cons]; omega) hi
    refine ⟨z2, ?_, ?_⟩
    · simp only [List.map_cons, loopM, e1, Rs.bind_ok, e2]
    · simp only [List.length_cons]
      rw [show k + (xs.length + 1) = k + 1 + xs.length by omega]
      exact i2

/-! ### lists of ints, truth values, texts -/
theorem intsD_map : ∀ ns : List Int, intsD (ns.map .int) = some ns
  | [] => rfl
  | n :: ns => by simp only [List.map_cons, intsD, intsD_map ns, Option.map_some]
theorem boolsD_map : ∀ ns : List Bool, boolsD (ns.map .bl) = some ns
  | [] => rfl
  | n :: ns => by simp only [List.map_cons, boolsD, boolsD_map ns, Option.map_some]
theorem strsD_map : ∀ ns : List Str, strsD (ns.map .str) = some ns
  | [] => rfl
  | n :: ns => by simp only [List.map_cons, strsD, strsD_map ns, Option.map_some]
theorem sumD_map (ns : List Int) : sumD [.lst (ns.map .int)] = some (.int ns.sum) := by simp only [sumD, intsD_map, Option.map_some]
theorem allD_map (bs : List Bool) : allD [.lst (bs.map .bl)] = some (.bl (bs.all id)) := by simp only [allD, boolsD_map, Option.map_some]
theorem anyD_map (bs : List Bool) : anyD [.lst (bs.map .bl)] = some (.bl (bs.any id)) := by simp only [anyD, boolsD_map, Option.map_some]
theorem allD_of {α : Type} (xs : List α) (f : α → Bool) : allD [.lst (xs.map fun x => .bl (f x))] = some (.bl (xs.all f)) := by
  have z := allD_map (xs.map f)
  rw [List.map_map] at z
  rw [show (fun x => D.bl (f x)) = (D.bl ∘ f) from rfl, z]
  simp [List.all_map]
theorem sumD_of {α : Type} (xs : List α) (f : α → Int) : sumD [.lst (xs.map fun x => .int (f x))] = some (.int (xs.map f).sum) := by
  have z := sumD_map (xs.map f)
  rw [List.map_map] at z
  exact z
theorem zipL_map {α β : Type} (f : α → D) (g : β → D) : ∀ (xs : List α) (ys : List β), zipL (xs.map f) (ys.map g) = (xs.zip ys).map fun p => .tup [f p.1, g p.2]
  | [], _ => by simp [zipL]
  | _ :: _, [] => by simp [zipL]
  | x :: xs, y :: ys => by simp only [List.map_cons, zipL, zipL_map f g xs ys, List.zip_cons_cons]
theorem enumL_map {α : Type} (f : α → D) : ∀ (xs : List α) (i : Nat), enumL i (xs.map f) = (xs.zipIdx i).map fun p => .tup [.int (p.2 : Int), f p.1]
  | [], _ => rfl
  | x :: xs, i => by simp only [List.map_cons, enumL, enumL_map f xs (i + 1), List.zipIdx_cons, Int.zero_add]

/-! ### tests -/
@[simp] theorem asB_bl (b : Bool) : asB (.bl b) = some b := rfl
@[simp] theorem eqB_int (i j : Int) : eqB (.int i) (.int j) = some (decide (i = j)) := by
  unfold eqB
  show (if (D.int i).okD && (D.int j).okD then some (PyData.eqv (D.int i).py (D.int j).py) else none) = _
  have h : ∀ k : Int, (D.int k).okD = true := fun k => by simp [D.okD, D.isData, D.py, SeqAt.shaped, PyData.canLay0, PyData.depth]
  rw [h, h]
  simp only [D.py, PyData.eqv, Bool.and_self, if_true]
  congr 1
@[simp] theorem eqB_bl (i j : Bool) : eqB (.bl i) (.bl j) = some (i == j) := by cases i <;> cases j <;> rfl
@[simp] theorem eqB_str (x y : Str) : eqB (.str x) (.str y) = some (decide (x = y)) := rfl
theorem eqB_non : eqB .non .non = some true := rfl
@[simp] theorem neB_int (i j : Int) : neB (.int i) (.int j) = some (!decide (i = j)) := by simp [neB]
@[simp] theorem neB_bl (i j : Bool) : neB (.bl i) (.bl j) = some (!(i == j)) := by simp [neB]
@[simp] theorem neB_str (x y : Str) : neB (.str x) (.str y) = some (!decide (x = y)) := by simp [neB]
@[simp] theorem eqD_int (i j : Int) : eqD (.int i) (.int j) = some (.bl (decide (i = j))) := by simp [eqD]
@[simp] theorem eqD_bl (i j : Bool) : eqD (.bl i) (.bl j) = some (.bl (i == j)) := by simp [eqD]
@[simp] theorem eqD_str (x y : Str) : eqD (.str x) (.str y) = some (.bl (decide (x = y))) := by simp [eqD]
@[simp] theorem neD_int (i j : Int) : neD (.int i) (.int j) = some (.bl (!decide (i = j))) := by simp [neD]
@[simp] theorem neD_str (i j : Str) : neD (.str i) (.str j) = some (.bl (!decide (i = j))) := by simp [neD]
@[simp] theorem ltB_int (i j : Int) : ltB (.int i) (.int j) = some (decide (i < j)) := rfl
@[simp] theorem leB_int (i j : Int) : leB (.int i) (.int j) = some (decide (i ≤ j)) := rfl
@[simp] theorem gtB_int (i j : Int) : gtB (.int i) (.int j) = some (decide (j < i)) := rfl
@[simp] theorem geB_int (i j : Int) : geB (.int i) (.int j) = some (decide (j ≤ i)) := rfl
@[simp] theorem geD_int (i j : Int) : geD (.int i) (.int j) = some (.bl (decide (j ≤ i))) := rfl
@[simp] theorem ltD_int (i j : Int) : ltD (.int i) (.int j) = some (.bl (decide (i < j))) := rfl
@[simp] theorem leD_int (i j : Int) : leD (.int i) (.int j) = some (.bl (decide (i ≤ j))) := rfl
@[simp] theorem gtD_int (i j : Int) : gtD (.int i) (.int j) = some (.bl (decide (j < i))) := rfl
@[simp] theorem ltD_str (x y : Str) : ltD (.str x) (.str y) = some (.bl (decide (x.cps.toList < y.cps.toList))) := rfl
@[simp] theorem addD_int (i j : Int) : addD (.int i) (.int j) = some (.int (i + j)) := rfl
@[simp] theorem subD_int (i j : Int) : subD (.int i) (.int j) = some (.int (i - j)) := rfl
@[simp] theorem negD_int (i : Int) : negD (.int i) = some (.int (-i)) := rfl
@[simp] theorem intD_int (i : Int) : intD [.int i] = some (.int i) := rfl
theorem log2_lt {n k : Nat} (h : n < 2 ^ k) (hk : 0 < k) : n.log2 < k := by
  by_cases h0 : n = 0
  · subst h0
    simp
    exact hk
  · exact (Nat.log2_lt h0).mpr h
theorem mulD_int {i j : Int} {a b : Nat} (hi : i.natAbs < 2 ^ a) (hj : j.natAbs < 2 ^ b) (h : a + b ≤ 134000000) (ha : 0 < a) (hb : 0 < b) : mulD (.int i) (.int j) = some (.int (i * j)) := by
  have h1 := log2_lt hi ha
  have h2 := log2_lt hj hb
  simp only [mulD]
  rw [if_pos (by omega)]
theorem modD_int {i j : Int} (h : 0 < j) : modD (.int i) (.int j) = some (.int (i % j)) := by
  simp only [modD]
  rw [if_pos (by omega), Int.fmod_eq_emod_of_nonneg _ (by omega)]
theorem fdivD_int {i j : Int} (h : 0 < j) (hl : j.natAbs < 2 ^ 9000) : fdivD (.int i) (.int j) = some (.int (i / j)) := by
  simp only [fdivD]
  rw [if_pos ⟨by omega, log2_lt hl (by decide)⟩, Int.fdiv_eq_ediv_of_nonneg _ (by omega)]
theorem idxD_tup (xs : List D) (n : Nat) (d : D) (h : xs[n]? = some d) : idxD (.tup xs) (.int n) = some d := by
  have hl : n < xs.length := (List.getElem?_eq_some_iff.mp h).1
  simp only [idxD, L2.atI, L2.ixN]
  rw [if_pos (by omega), if_pos (by omega)]
  simpa using h
theorem idxD_lst (xs : List D) (n : Nat) (d : D) (h : xs[n]? = some d) : idxD (.lst xs) (.int n) = some d := by
  have hl : n < xs.length := (List.getElem?_eq_some_iff.mp h).1
  simp only [idxD, L2.atI, L2.ixN]
  rw [if_pos (by omega), if_pos (by omega)]
  simpa using h
theorem line_ge : 1000000 ≤ sizeLine := by rw [sizeLine_eq]; omega
theorem zipL_self : ∀ xs : List D, zipL xs xs = xs.map fun x => .tup [x, x]
  | [] => rfl
  | x :: xs => by simp only [zipL, zipL_self xs, List.map_cons]
theorem erase_perm {α : Type} : ∀ (xs : List α) (q : Nat) (h : q < xs.length), (xs[q] :: xs.eraseIdx q).Perm xs
  | [], q, h => by simp at h
  | x :: xs, 0, h => .refl _
  | x :: xs, q + 1, h => by
    have z := erase_perm xs q (Nat.lt_of_succ_lt_succ h)
    simp only [List.getElem_cons_succ, List.eraseIdx_cons_succ]
    exact (List.Perm.swap x _ _).trans (z.cons x)
theorem erase_map {α β : Type} (f : α → β) : ∀ (xs : List α) (q : Nat), (xs.map f).eraseIdx q = (xs.eraseIdx q).map f
  | [], _ => by simp
  | x :: xs, 0 => by simp
  | x :: xs, q + 1 => by simp [erase_map f xs q]
theorem popL_nat {xs : List D} {q : Nat} (h : q < xs.length) : popL xs (.int q) = some (xs[q], xs.eraseIdx q) := by
  simp only [popL, L2.ixN]
  rw [if_pos (by omega), if_pos (by omega)]
  simp [h]
theorem appL_ok {xs : List D} {d : D} (h : xs.length < 1000000) : appL xs d = some (xs ++ [d]) := by
  unfold appL
  rw [if_pos (Nat.lt_of_lt_of_le h line_ge)]
theorem rangeD_nat {n : Nat} (h : n < 1000000) : rangeD (.int n) = some ((List.range n).map fun (i : Nat) => D.int (0 + (i : Int))) := by
  simp only [rangeD]
  rw [if_pos (by omega)]
  rfl
theorem minD_nat {k : Int} {n : Nat} (hk : 0 ≤ k) : minD [.int k, .int (n : Int)] = some (.int ((min k.toNat n : Nat) : Int)) := by
  simp only [minD]
  congr 2
  split <;> omega
/-! ### boxes of three -/
theorem idx3_0 (x y z : D) : idxD (.lst [x, y, z]) (.int 0) = some x := rfl
theorem idx3_1 (x y z : D) : idxD (.lst [x, y, z]) (.int 1) = some y := rfl
theorem idx3_2 (x y z : D) : idxD (.lst [x, y, z]) (.int 2) = some z := rfl
theorem set3_0 (x y z w : D) : setL [x, y, z] (.int 0) w = some [w, y, z] := rfl
theorem set3_2 (x y z w : D) : setL [x, y, z] (.int 2) w = some [x, y, w] := rfl
theorem tix3_0 (x y z : D) : idxD (.tup [x, y, z]) (.int 0) = some x := rfl
theorem tix3_1 (x y z : D) : idxD (.tup [x, y, z]) (.int 1) = some y := rfl
theorem tix3_2 (x y z : D) : idxD (.tup [x, y, z]) (.int 2) = some z := rfl
theorem tsl3 (x y z : D) : sliceD (.tup [x, y, z]) none (some 2) = some (.tup [x, y]) := rfl
def Box (N : Nat) (s : List D) : Prop := ∃ a b c : Int, s = [.int a, .int b, .int c] ∧ 0 ≤ a ∧ 0 ≤ b ∧ b < 2 ^ 70 ∧ 0 ≤ c ∧ c ≤ N
theorem Box.mono {N M : Nat} {s : List D} (h : Box N s) (hm : N ≤ M) : Box M s := by
  obtain ⟨a, b, c, e, h1, h2, h3, h4, h5⟩ := h
  exact ⟨a, b, c, e, h1, h2, h3, h4, by omega⟩
end VL
set_option Elab.async false
set_option linter.all false
set_option maxRecDepth 100000
set_option autoImplicit false
namespace VL
open PySem PySem.Spec

/-! ### a plain sort -/
section
variable {α β : Type} {le : α → α → Bool}
theorem insW_perm (x : α) : ∀ l : List α, (insW le x l).Perm (x :: l)
  | [] => .refl _
  | y :: ys => by
    unfold insW
    split
    · exact .refl _
    · exact ((insW_perm x ys).cons y).trans (.swap x y ys)
theorem isortW_perm : ∀ l : List α, (isortW le l).Perm l
  | [] => .refl _
  | x :: xs => by
    unfold isortW
    exact (insW_perm x _).trans ((isortW_perm xs).cons x)
theorem insW_map {f : β → α} {le' : β → β → Bool} (h : ∀ x y, le (f x) (f y) = le' x y) (x : β) : ∀ l : List β, insW le (f x) (l.map f) = (insW le' x l).map f
  | [] => rfl
  | y :: ys => by
    simp only [List.map_cons, insW, h]
    split
    · rfl
    · simp only [List.map_cons, insW_map h x ys]
theorem isortW_map {f : β → α} {le' : β → β → Bool} (h : ∀ x y, le (f x) (f y) = le' x y) : ∀ l : List β, isortW le (l.map f) = (isortW le' l).map f
  | [] => rfl
  | x :: xs => by simp only [List.map_cons, isortW, isortW_map h xs, insW_map h]
/-- what is in order stays -/
theorem isortW_id : ∀ l : List α, l.Pairwise (fun a b => le a b = true) → isortW le l = l
  | [], _ => rfl
  | x :: xs, h => by
    obtain ⟨h1, h2⟩ := List.pairwise_cons.mp h
    simp only [isortW, isortW_id xs h2]
    cases xs with
    | nil => rfl
    | cons y ys => simp only [insW, h1 y List.mem_cons_self, if_true]
theorem insW_sorted (tot : ∀ a b, le a b = false → le b a = true) (tr : ∀ a b c, le a b = true → le b c = true → le a c = true) (x : α) : ∀ l : List α, l.Pairwise (fun a b => le a b = true) → (insW le x l).Pairwise fun a b => le a b = true
  | [], _ => by simp [insW]
  | y :: ys, h => by
    obtain ⟨h1, h2⟩ := List.pairwise_cons.mp h
    unfold insW
    cases e : le x y with
    | true =>
      simp only [if_true]
      refine List.pairwise_cons.mpr ⟨fun z hz => ?_, h⟩
      rcases List.mem_cons.mp hz with rfl | hz
      · exact e
      · exact tr _ _ _ e (h1 z hz)
    | false =>
      simp only [Bool.false_eq_true, if_false]
      refine List.pairwise_cons.mpr ⟨fun z hz => ?_, insW_sorted tot tr x ys h2⟩
      rcases List.mem_cons.mp ((insW_perm x ys).mem_iff.mp hz) with rfl | hz
      · exact tot _ _ e
      · exact h1 z hz
theorem isortW_sorted (tot : ∀ a b, le a b = false → le b a = true) (tr : ∀ a b c, le a b = true → le b c = true → le a c = true) : ∀ l : List α, (isortW le l).Pairwise fun a b => le a b = true
  | [] => .nil
  | x :: xs => by
    unfold isortW
    exact insW_sorted tot tr x _ (isortW_sorted tot tr xs)
end

/-! ### texts in order -/
abbrev SLt (x y : Str) : Prop := x.cps.toList < y.cps.toList
theorem str_ext {x y : Str} (h : x.cps.toList = y.cps.toList) : x = y := by
  obtain ⟨a⟩ := x
  obtain ⟨b⟩ := y
  have e : a = b := Array.toList_inj.mp h
  rw [e]
theorem slt_irrefl (x : Str) : ¬ SLt x x := List.lt_irrefl _
theorem slt_trans {x y z : Str} (h : SLt x y) (g : SLt y z) : SLt x z := List.lt_trans h g
theorem slt_asymm {x y : Str} (h : SLt x y) : ¬ SLt y x := fun g => slt_irrefl _ (slt_trans h g)
theorem slt_tri {x y : Str} (h : ¬ SLt x y) (g : ¬ SLt y x) : x = y := str_ext (List.le_antisymm (List.not_lt.mp g) (List.not_lt.mp h))
def sle (x y : Str) : Bool := !decide (SLt y x)
theorem sle_tot (a b : Str) (h : sle a b = false) : sle b a = true := by
  simp only [sle, Bool.not_eq_false', decide_eq_true_eq] at h
  simp only [sle, Bool.not_eq_true', decide_eq_false_iff_not]
  exact slt_asymm h
theorem sle_tr (a b c : Str) (h : sle a b = true) (g : sle b c = true) : sle a c = true := by
  simp only [sle, Bool.not_eq_true', decide_eq_false_iff_not] at *
  intro k
  by_cases hb : SLt a b
  · exact g (slt_trans k hb)
  · have e := slt_tri hb h
    subst e
    exact g k
theorem leS_str (x y : Str) : leS (.str x) (.str y) = sle x y := by
  simp only [leS, D.py, ltP, sle]

/-! ### names, houses -/
def nmOk (x : Str) : Bool := decide (1 ≤ x.cps.size) && (decide (x.cps.size ≤ 8) && x.cps.toList.all fun c => decide (97 ≤ c) && decide (c ≤ 122))
theorem nmOk_mem {x : Str} (h : nmOk x = true) {c : Nat} (hc : c ∈ x.cps.toList) : 97 ≤ c ∧ c ≤ 122 := by
  simp only [nmOk, Bool.and_eq_true, decide_eq_true_eq] at h
  have z := List.all_eq_true.mp h.2.2 c hc
  simpa using z
theorem nmOk_size {x : Str} (h : nmOk x = true) : 1 ≤ x.cps.size ∧ x.cps.size ≤ 8 := by
  simp only [nmOk, Bool.and_eq_true, decide_eq_true_eq] at h
  exact ⟨h.1, h.2.1⟩
theorem nmOk_str {x : Str} (h : nmOk x = true) : PyData.strOk x = true := by
  unfold PyData.strOk
  rw [← Array.all_toList]
  refine List.all_eq_true.mpr fun c hc => ?_
  have z := nmOk_mem h hc
  simp
  omega
abbrev hsD (hs : List Str) : D := .tup (hs.map .str)
theorem inB_tup (x : Str) (hs : List Str) : inB (.str x) (.tup (hs.map .str)) = some (decide (x ∈ hs)) := by
  have h1 : ((hs.map D.str).all flatD) = true := by simp [List.all_map, flatD]
  have h2 : ((hs.map D.str).any fun y => eqF y (.str x)) = decide (x ∈ hs) := by
    induction hs with
    | nil => simp
    | cons a hs ih =>
      simp only [List.map_cons, List.any_cons, List.all_cons] at *
      have z := ih (by simp [List.all_map, flatD])
      rw [z]
      simp only [eqF, List.mem_cons, Bool.decide_or]
      congr 1
      by_cases e : a = x
      · subst e; simp
      · have e2 : ¬ x = a := fun z => e z.symm
        simp [e, e2]
  simp only [inB, flatD, h1, Bool.and_self, if_true, h2]
theorem inB_lst (x : Str) (hs : List Str) : inB (.str x) (.lst (hs.map .str)) = some (decide (x ∈ hs)) := by
  have z := inB_tup x hs
  have h1 : ((hs.map D.str).all flatD) = true := by simp [List.all_map, flatD]
  simp only [inB, flatD, h1, Bool.and_self, if_true] at z ⊢
  exact z
theorem inD_tup (x : Str) (hs : List Str) : inD (.str x) (.tup (hs.map .str)) = some (.bl (decide (x ∈ hs))) := by simp only [inD, inB_tup, Option.map_some]
theorem notInB_tup (x : Str) (hs : List Str) : notInB (.str x) (.tup (hs.map .str)) = some (!decide (x ∈ hs)) := by simp only [notInB, inB_tup, Option.map_some]
theorem notInB_lst (x : Str) (hs : List Str) : notInB (.str x) (.lst (hs.map .str)) = some (!decide (x ∈ hs)) := by simp only [notInB, inB_lst, Option.map_some]

/-! ### links -/
abbrev Lk := Str × Str × Int
abbrev lkD (l : Lk) : D := .tup [.str l.1, .str l.2.1, .int l.2.2]
abbrev prD (p : Str × Str) : D := .tup [.str p.1, .str p.2]
abbrev lsD (ls : List Lk) : D := .tup (ls.map lkD)
def lpr (l : Lk) : Str × Str := (l.1, l.2.1)
abbrev netD (hs : List Str) (ls : List Lk) : D := .obj "Net" [hsD hs, lsD ls]
def PLt (p q : Str × Str) : Prop := SLt p.1 q.1 ∨ (p.1 = q.1 ∧ SLt p.2 q.2)
structure HsOk (hs : List Str) : Prop where
  nm : ∀ x ∈ hs, nmOk x = true
  asc : hs.Pairwise SLt
  two : 2 ≤ hs.length
  six : hs.length ≤ 6
structure LsOk (hs : List Str) (ls : List Lk) : Prop where
  at1 : ∀ l ∈ ls, l.1 ∈ hs
  at2 : ∀ l ∈ ls, l.2.1 ∈ hs
  ne : ∀ l ∈ ls, l.1 ≠ l.2.1
  cap : ∀ l ∈ ls, 1 ≤ l.2.2
  asc : ls.Pairwise fun l m => PLt (lpr l) (lpr m)
theorem eqv_str (x y : Str) : PyData.eqv (.str x) (.str y) = decide (x = y) := by
  simp only [PyData.eqv]
  by_cases h : x = y
  · subst h; simp
  · simp [h]
theorem eqv_pr (p q : Str × Str) : PyData.eqv (prD p).py (prD q).py = decide (p = q) := by
  obtain ⟨a, b⟩ := p
  obtain ⟨c, d⟩ := q
  simp only [D.py, pys, PyData.eqv, PyData.eqvAll, Bool.and_true]
  by_cases h : a = c
  · subst h
    by_cases g : b = d
    · subst g; simp
    · simp [g]
  · simp [h]
theorem areData_map {α : Type} {f : α → D} : ∀ {xs : List α}, (∀ x ∈ xs, (f x).isData = true) → areData (xs.map f) = true
  | [], _ => by simp [areData]
  | x :: xs, h => by simp only [List.map_cons, areData, h x List.mem_cons_self, Bool.true_and]; exact areData_map fun y hy => h y (List.mem_cons_of_mem _ hy)
theorem canLay_map {α : Type} {f : α → D} : ∀ {xs : List α}, (∀ x ∈ xs, (f x).py.canLay0 = true) → PyData.canLayAll0 (pys (xs.map f)) = true
  | [], _ => by simp [pys, PyData.canLayAll0]
  | x :: xs, h => by simp only [List.map_cons, pys, PyData.canLayAll0, h x List.mem_cons_self, Bool.true_and]; exact canLay_map fun y hy => h y (List.mem_cons_of_mem _ hy)
theorem depth_map {α : Type} {f : α → D} {n : Nat} : ∀ {xs : List α}, (∀ x ∈ xs, (f x).py.depth ≤ n) → PyData.depthAll (pys (xs.map f)) ≤ n
  | [], _ => by simp [pys, PyData.depthAll]
  | x :: xs, h => by
    simp only [List.map_cons, pys, PyData.depthAll]
    have h1 := h x List.mem_cons_self
    have h2 := depth_map (n := n) fun y hy => h y (List.mem_cons_of_mem _ hy)
    omega
theorem okD_lst {α : Type} {f : α → D} {xs : List α} (h : ∀ x ∈ xs, (f x).isData = true ∧ (f x).py.canLay0 = true ∧ (f x).py.depth ≤ 60) : (D.lst (xs.map f)).okD = true := by
  simp only [D.okD, D.isData, D.py, SeqAt.shaped, PyData.canLay0, PyData.depth, Bool.and_eq_true, decide_eq_true_eq]
  refine ⟨areData_map fun x hx => (h x hx).1, canLay_map fun x hx => (h x hx).2.1, ?_⟩
  have z := depth_map (f := f) (n := 60) fun x hx => (h x hx).2.2
  omega
theorem okD_tup {α : Type} {f : α → D} {xs : List α} (h : ∀ x ∈ xs, (f x).isData = true ∧ (f x).py.canLay0 = true ∧ (f x).py.depth ≤ 60) : (D.tup (xs.map f)).okD = true := by
  have z := okD_lst h
  simp only [D.okD, D.isData, D.py, SeqAt.shaped, PyData.canLay0, PyData.depth] at z ⊢
  exact z
theorem pr_fine {p : Str × Str} (h1 : PyData.strOk p.1 = true) (h2 : PyData.strOk p.2 = true) : (prD p).isData = true ∧ (prD p).py.canLay0 = true ∧ (prD p).py.depth ≤ 60 := by
  simp [D.isData, areData, D.py, pys, PyData.canLay0, PyData.canLayAll0, PyData.depth, PyData.depthAll, h1, h2]
theorem inB_pr (p : Str × Str) (ps : List (Str × Str)) (h : ∀ q ∈ p :: ps, PyData.strOk q.1 = true ∧ PyData.strOk q.2 = true) : inB (prD p) (.lst (ps.map prD)) = some (decide (p ∈ ps)) := by
  have f1 : (prD p).okD = true := by
    obtain ⟨a, b, c⟩ := pr_fine (h p List.mem_cons_self).1 (h p List.mem_cons_self).2
    simp only [D.okD, SeqAt.shaped, a, b, Bool.true_and, decide_eq_true_eq]
    omega
  have f2 : (D.lst (ps.map prD)).okD = true := okD_lst fun q hq => pr_fine (h q (List.mem_cons_of_mem _ hq)).1 (h q (List.mem_cons_of_mem _ hq)).2
  have f3 : ((pys (ps.map prD)).any fun z => PyData.eqv z (prD p).py) = decide (p ∈ ps) := by
    rw [pys_map, List.map_map, List.any_map]
    clear f1 f2 h
    induction ps with
    | nil => simp
    | cons q ps ih =>
      simp only [List.any_cons, Function.comp_apply, eqv_pr] at *
      rw [ih]
      by_cases e : q = p
      · subst e; simp
      · have e2 : ¬ p = q := fun z => e z.symm
        simp [e, e2]
  simp only [inB, flatD, Bool.false_and, Bool.false_eq_true, if_false, f1, f2, Bool.and_self, if_true, f3]
end VL
set_option Elab.async false
set_option linter.all false
set_option maxRecDepth 100000
set_option autoImplicit false
namespace VL
open PySem PySem.Spec

theorem sortL_tups {α : Type} (f : α → D) (xs : List α) (h1 : ∀ x ∈ xs, (f x).isData = true) (h2 : ∀ x ∈ xs, ∀ y ∈ xs, PySem.W.alike (f x).py (f y).py = true) (h3 : ∀ x ∈ xs, tupNe (f x).py = true) (h4 : ∀ x ∈ xs, (f x).py.depth ≤ 32) (h5 : ∀ x ∈ xs, ∀ y ∈ xs, cmpP (f x).py (f y).py = true) :
    sortL (xs.map f) = some (isortW leS (xs.map f)) := by
  unfold sortL
  rw [if_pos]
  simp only [Bool.and_eq_true, sortOk, cmpAll, pys_map, List.map_map, List.all_eq_true, List.mem_map, Function.comp_apply, Bool.or_eq_true, decide_eq_true_eq]
  refine ⟨areData_map h1, ⟨?_, .inl ?_, ?_⟩, ?_⟩
  · rintro _ ⟨x, hx, rfl⟩ _ ⟨y, hy, rfl⟩
    exact h2 x hx y hy
  · rintro _ ⟨x, hx, rfl⟩
    exact h3 x hx
  · rintro _ ⟨x, hx, rfl⟩
    exact h4 x hx
  · rintro _ ⟨x, hx, rfl⟩ _ ⟨y, hy, rfl⟩
    exact h5 x hx y hy
theorem sortL_strs (xs : List Str) : sortL (xs.map .str) = some ((isortW sle xs).map .str) := by
  have e : sortL (xs.map .str) = some (isortW leS (xs.map .str)) := by
    unfold sortL
    rw [if_pos]
    simp only [Bool.and_eq_true, sortOk, cmpAll, pys_map, List.map_map, List.all_eq_true, List.mem_map, Function.comp_apply, Bool.or_eq_true, decide_eq_true_eq]
    refine ⟨areData_map fun x _ => by simp [D.isData], ⟨?_, .inr ?_, ?_⟩, ?_⟩
    · rintro _ ⟨x, hx, rfl⟩ _ ⟨y, hy, rfl⟩
      simp [D.py, PySem.W.alike]
    · rintro _ ⟨x, hx, rfl⟩
      simp [D.py, noTup]
    · rintro _ ⟨x, hx, rfl⟩
      simp [D.py, PyData.depth]
    · rintro _ ⟨x, hx, rfl⟩ _ ⟨y, hy, rfl⟩
      simp [D.py, cmpP]
  rw [e, isortW_map leS_str]
theorem ltP_lk (l m : Lk) : ltP (lkD l).py (lkD m).py = (if l.1 = m.1 then (if l.2.1 = m.2.1 then decide (l.2.2 < m.2.2) else decide (SLt l.2.1 m.2.1)) else decide (SLt l.1 m.1)) := by
  obtain ⟨a, b, c⟩ := l
  obtain ⟨a', b', c'⟩ := m
  simp only [D.py, pys, ltP, ltPs, eqv_str, decide_eq_true_eq]
  by_cases h : a = a'
  · subst h
    by_cases g : b = b'
    · subst g
      simp only [if_true, PyData.eqv]
      by_cases k : c = c'
      · subst k; simp
      · simp [k]
    · simp [g]
  · simp [h]
theorem leS_lk {l m : Lk} (h : PLt (lpr l) (lpr m)) : leS (lkD l) (lkD m) = true := by
  simp only [leS, ltP_lk, Bool.not_eq_true']
  rcases h with h | ⟨h, g⟩
  · have n : ¬ m.1 = l.1 := fun e => slt_irrefl _ (show SLt l.1 l.1 from by have z : SLt l.1 m.1 := h; rw [e] at z; exact z)
    rw [if_neg n]
    exact decide_eq_false (slt_asymm h)
  · have h' : l.1 = m.1 := h
    have g' : SLt l.2.1 m.2.1 := g
    have n : ¬ m.2.1 = l.2.1 := fun e => slt_irrefl _ (by rw [e] at g'; exact g')
    rw [if_pos h'.symm, if_neg n]
    exact decide_eq_false (slt_asymm g')
theorem lk_cmp (l m : Lk) : cmpP (lkD l).py (lkD m).py = true := by simp [D.py, pys, cmpP, cmpPs]
theorem lk_alike (l m : Lk) : PySem.W.alike (lkD l).py (lkD m).py = true := by simp [D.py, pys, PySem.W.alike, PySem.W.alikeAll]
theorem sortL_lks {ls : List Lk} (h : ls.Pairwise fun l m => PLt (lpr l) (lpr m)) : sortL (ls.map lkD) = some (ls.map lkD) := by
  rw [sortL_tups lkD ls (fun x _ => by simp [D.isData, areData]) (fun x _ y _ => lk_alike x y) (fun x _ => by simp [D.py, pys, tupNe]) (fun x _ => by simp [D.py, pys, PyData.depth, PyData.depthAll]) (fun x _ y _ => lk_cmp x y)]
  congr 1
  refine isortW_id _ ?_
  rw [List.pairwise_map]
  exact h.imp fun h => leS_lk h
/-! ### tuples of texts -/
theorem eqv_hs : ∀ xs ys : List Str, PyData.eqvAll (pys (xs.map .str)) (pys (ys.map .str)) = decide (xs = ys)
  | [], [] => by simp [pys, PyData.eqvAll]
  | [], _ :: _ => by simp [pys, PyData.eqvAll]
  | _ :: _, [] => by simp [pys, PyData.eqvAll]
  | x :: xs, y :: ys => by
    simp only [List.map_cons, pys, D.py, PyData.eqvAll, eqv_str, eqv_hs xs ys, List.cons.injEq]
    by_cases h : x = y <;> simp [h]
theorem hs_cmp : ∀ xs ys : List Str, cmpPs (pys (xs.map .str)) (pys (ys.map .str)) = true
  | [], [] => by simp [pys, cmpPs]
  | [], _ :: _ => by simp [pys, cmpPs]
  | _ :: _, [] => by simp [pys, cmpPs]
  | x :: xs, y :: ys => by
    simp only [List.map_cons, pys, D.py, cmpPs, cmpP, Bool.or_true, Bool.true_and]
    exact hs_cmp xs ys
theorem hs_alike : ∀ xs ys : List Str, PySem.W.alikeAll (pys (xs.map .str)) (pys (ys.map .str)) = true
  | [], [] => by simp [pys, PySem.W.alikeAll]
  | [], _ :: _ => by simp [pys, PySem.W.alikeAll]
  | _ :: _, [] => by simp [pys, PySem.W.alikeAll]
  | x :: xs, y :: ys => by
    simp only [List.map_cons, pys, D.py, PySem.W.alikeAll, PySem.W.alike, Bool.true_and]
    exact hs_alike xs ys
theorem hs_depth (xs : List Str) : (hsD xs).py.depth ≤ 1 := by
  simp only [D.py, PyData.depth]
  have z := depth_map (f := D.str) (n := 0) (xs := xs) (fun x _ => by simp [D.py, PyData.depth])
  omega
theorem hs_data (xs : List Str) : (hsD xs).isData = true := by
  simp only [D.isData]
  exact areData_map fun x _ => by simp [D.isData]
/-- tuples of texts that hold something, sorted: a plain sort of the lists -/
def hlt : List Str → List Str → Bool
  | [], [] => false
  | [], _ :: _ => true
  | _ :: _, [] => false
  | x :: xs, y :: ys => if x = y then hlt xs ys else decide (SLt x y)
theorem ltPs_hs : ∀ xs ys : List Str, ltPs (pys (xs.map .str)) (pys (ys.map .str)) = hlt xs ys
  | [], [] => by simp [pys, ltPs, hlt]
  | [], _ :: _ => by simp [pys, ltPs, hlt]
  | _ :: _, [] => by simp [pys, ltPs, hlt]
  | x :: xs, y :: ys => by
    simp only [List.map_cons, pys, D.py, ltPs, eqv_str, ltPs_hs xs ys, hlt, ltP, decide_eq_true_eq]
def hle (xs ys : List Str) : Bool := !hlt ys xs
theorem leS_hs (xs ys : List Str) : leS (hsD xs) (hsD ys) = hle xs ys := by simp only [leS, D.py, ltP, ltPs_hs, hle]
theorem sortL_hss (xss : List (List Str)) (h : ∀ xs ∈ xss, xs ≠ []) : sortL (xss.map hsD) = some ((isortW hle xss).map hsD) := by
  rw [sortL_tups hsD xss (fun x _ => hs_data x) (fun x _ y _ => by simp only [D.py, PySem.W.alike]; exact hs_alike x y) (fun x hx => by
    cases x with
    | nil => exact absurd rfl (h _ hx)
    | cons a x => simp [D.py, pys, tupNe]) (fun x _ => Nat.le_trans (hs_depth x) (by decide)) (fun x _ y _ => by simp only [D.py, cmpP]; exact hs_cmp x y), isortW_map leS_hs]

/-! ### data that compares to itself -/
def fits : Nat → D → Bool
  | _, .non => true
  | _, .bl _ => true
  | _, .int _ => true
  | _, .str _ => true
  | n + 1, .tup xs => xs.all (fits n)
  | n + 1, .lst xs => xs.all (fits n)
  | _, _ => false
theorem fits_hs (n : Nat) (hs : List Str) : fits (n + 1) (hsD hs) = true := by
  cases n <;> simp [fits, List.all_map]
end VL
set_option Elab.async false
set_option linter.all false
set_option maxRecDepth 100000
set_option autoImplicit false
namespace VL
open PySem PySem.Spec

/-! ### the greatest common divisor by a loop -/
theorem gcd_loop {c : D × D → Rs Bool} {f : D × D → Rs (D × D)} (hc : ∀ a b : Nat, c (.int (a : Int), .int (b : Int)) = .ok (!decide (b = 0))) (hf : ∀ a b : Nat, b ≠ 0 → f (.int (a : Int), .int (b : Int)) = .ok (.int (b : Int), .int ((a % b : Nat) : Int))) :
    ∀ (k n a b : Nat), b < 2 ^ k → 2 * k + 1 ≤ n → whileN c f n (.int (a : Int), .int (b : Int)) = .ok (.int ((Nat.gcd a b : Nat) : Int), .int 0) := by
  have stop : ∀ (n a : Nat), 1 ≤ n → whileN c f n (.int (a : Int), .int ((0 : Nat) : Int)) = .ok (.int (a : Int), .int 0) := fun n a hn => by
    obtain ⟨m, rfl⟩ : ∃ m, n = m + 1 := ⟨n - 1, by omega⟩
    simp only [whileN, hc, Rs.bind_ok]
    simp
  have one : ∀ (n a b : Nat), b ≠ 0 → whileN c f (n + 1) (.int (a : Int), .int (b : Int)) = whileN c f n (.int (b : Int), .int ((a % b : Nat) : Int)) := fun n a b hb => by
    simp only [whileN, hc, Rs.bind_ok, hf a b hb]
    simp [hb]
  intro k
  induction k with
  | zero =>
    intro n a b hb hn
    have e : b = 0 := by omega
    subst e
    rw [stop n a (by omega), Nat.gcd_zero_right]
  | succ k ih =>
    intro n a b hb hn
    by_cases h0 : b = 0
    · subst h0
      rw [stop n a (by omega), Nat.gcd_zero_right]
    · obtain ⟨m, rfl⟩ : ∃ m, n = m + 1 + 1 := ⟨n - 2, by omega⟩
      rw [one _ a b h0]
      have hr : a % b < b := Nat.mod_lt _ (by omega)
      have g1 : Nat.gcd a b = Nat.gcd b (a % b) := by rw [Nat.gcd_comm b, Nat.gcd_comm a b, Nat.gcd_rec b a]
      by_cases h1 : a % b = 0
      · rw [h1] at g1 ⊢
        rw [stop _ b (by omega), g1, Nat.gcd_zero_right]
      · rw [one _ b (a % b) h1, g1]
        have g2 : Nat.gcd b (a % b) = Nat.gcd (a % b) (b % (a % b)) := by rw [Nat.gcd_comm (a % b) (b % (a % b)), Nat.gcd_comm b, Nat.gcd_rec (a % b) b]
        rw [g2]
        have hlt : b % (a % b) < a % b := Nat.mod_lt _ (by omega)
        have hdm := Nat.mod_add_div b (a % b)
        have hq : 1 ≤ b / (a % b) := Nat.div_pos (by omega) (by omega)
        have hmul : a % b ≤ (a % b) * (b / (a % b)) := Nat.le_mul_of_pos_right _ hq
        refine ih _ _ _ ?_ (by omega)
        rw [Nat.pow_succ] at hb
        omega
/-- a ratio: (0, 1) for nothing, None without a way -/
def quo (s w : Int) : D := if s = 0 then .tup [.int 0, .int 1] else if w = 0 then .non else .tup [.int ((s.toNat / Nat.gcd s.toNat w.toNat : Nat) : Int), .int ((w.toNat / Nat.gcd s.toNat w.toNat : Nat) : Int)]
theorem fits_quo (n : Nat) (s w : Int) : fits (n + 1) (quo s w) = true := by
  unfold quo
  split
  · cases n <;> simp [fits]
  · split
    · simp [fits]
    · cases n <;> simp [fits]
theorem fdivD_nat {a g : Nat} (h : 0 < g) (hl : g < 2 ^ 400) : fdivD (.int (a : Int)) (.int (g : Int)) = some (.int ((a / g : Nat) : Int)) := by
  rw [fdivD_int (by omega) (Nat.lt_of_lt_of_le (show (g : Int).natAbs < 2 ^ 400 by simpa using hl) (Nat.pow_le_pow_right (by decide) (by decide)))]
  rfl
theorem modD_nat {a g : Nat} (h : g ≠ 0) : modD (.int (a : Int)) (.int (g : Int)) = some (.int ((a % g : Nat) : Int)) := by
  rw [modD_int (by omega)]
  rfl
/-! ### sums -/
theorem sum_le {α : Type} {f : α → Int} {c : Int} : ∀ {xs : List α}, (∀ x ∈ xs, f x ≤ c) → 0 ≤ c → (xs.map f).sum ≤ xs.length * c
  | [], _, _ => by simp
  | x :: xs, h, hc => by
    have h1 := h x List.mem_cons_self
    have h2 := sum_le (f := f) (c := c) (xs := xs) (fun y hy => h y (List.mem_cons_of_mem _ hy)) hc
    simp only [List.map_cons, List.sum_cons, List.length_cons]
    have e : ((xs.length + 1 : Nat) : Int) * c = (xs.length : Int) * c + c := by rw [Int.natCast_add, Int.add_mul]; simp
    omega
theorem sum_nn {α : Type} {f : α → Int} : ∀ {xs : List α}, (∀ x ∈ xs, 0 ≤ f x) → 0 ≤ (xs.map f).sum
  | [], _ => by simp
  | x :: xs, h => by
    have h1 := h x List.mem_cons_self
    have h2 := sum_nn (f := f) (xs := xs) fun y hy => h y (List.mem_cons_of_mem _ hy)
    simp only [List.map_cons, List.sum_cons]
    omega
theorem itemsD_tup (xs : List D) : itemsD (.tup xs) = some xs := rfl
theorem itemsD_lst (xs : List D) : itemsD (.lst xs) = some xs := rfl
theorem seqD_tup (xs : List D) : seqD (.tup xs) = some xs := rfl
theorem seqD_lst (xs : List D) : seqD (.lst xs) = some xs := rfl
theorem lenD_tup (xs : List D) : lenD [.tup xs] = some (.int xs.length) := rfl
theorem lenD_lst (xs : List D) : lenD [.lst xs] = some (.int xs.length) := rfl
theorem tupleD_lst (xs : List D) : tupleD [.lst xs] = some (.tup xs) := rfl
theorem tupleD_tup (xs : List D) : tupleD [.tup xs] = some (.tup xs) := rfl
theorem listD_tup (xs : List D) : listD [.tup xs] = some (.lst xs) := rfl
theorem listD_lst (xs : List D) : listD [.lst xs] = some (.lst xs) := rfl
/-! ### a list or a tuple -/
def sq (k : Bool) (xs : List D) : D := if k then .lst xs else .tup xs
@[simp] theorem sq_t (xs : List D) : sq true xs = .lst xs := rfl
@[simp] theorem sq_f (xs : List D) : sq false xs = .tup xs := rfl
@[simp] theorem seqD_sq (k : Bool) (xs : List D) : seqD (sq k xs) = some xs := by cases k <;> rfl
@[simp] theorem itemsD_sq (k : Bool) (xs : List D) : itemsD (sq k xs) = some xs := by cases k <;> rfl
@[simp] theorem lenD_sq (k : Bool) (xs : List D) : lenD [sq k xs] = some (.int xs.length) := by cases k <;> rfl
theorem inB_sq (k : Bool) (x : Str) (hs : List Str) : inB (.str x) (sq k (hs.map .str)) = some (decide (x ∈ hs)) := by
  cases k
  · exact inB_tup x hs
  · exact inB_lst x hs
theorem notInB_sq (k : Bool) (x : Str) (hs : List Str) : notInB (.str x) (sq k (hs.map .str)) = some (!decide (x ∈ hs)) := by simp only [notInB, inB_sq, Option.map_some]
/-! ### sizes and ways out -/
def szOf (hs : List Str) (zs : List Int) (cut : List Str) : Int := (((hs.zip zs).filter fun p => decide (p.1 ∈ cut)).map (·.2)).sum
def woOf (ls : List Lk) (cut : List Str) : Int := ((ls.filter fun l => decide (l.1 ∈ cut) && !decide (l.2.1 ∈ cut)).map (·.2.2)).sum
theorem szOf_nn {hs : List Str} {zs : List Int} (cut : List Str) (h : ∀ z ∈ zs, 0 ≤ z) : 0 ≤ szOf hs zs cut :=
  sum_nn fun p hp => h p.2 (List.of_mem_zip (List.mem_filter.mp hp).1).2
theorem woOf_nn {ls : List Lk} (cut : List Str) (h : ∀ l ∈ ls, 1 ≤ l.2.2) : 0 ≤ woOf ls cut := sum_nn fun l hl => by
  have := h l (List.mem_filter.mp hl).1
  omega
theorem woOf_le {ls : List Lk} {c : Int} (cut : List Str) (h : ∀ l ∈ ls, l.2.2 ≤ c) (hc : 0 ≤ c) (hn : ls.length ≤ 36) : woOf ls cut ≤ 36 * c := by
  have z := sum_le (f := fun l : Lk => l.2.2) (c := c) (xs := ls.filter fun l => decide (l.1 ∈ cut) && !decide (l.2.1 ∈ cut)) (fun l hl => h l (List.mem_filter.mp hl).1) hc
  have n1 : (ls.filter fun l => decide (l.1 ∈ cut) && !decide (l.2.1 ∈ cut)).length ≤ 36 := Nat.le_trans (List.length_filter_le _ _) hn
  have z2 : ((ls.filter fun l => decide (l.1 ∈ cut) && !decide (l.2.1 ∈ cut)).length : Int) * c ≤ 36 * c := Int.mul_le_mul_of_nonneg_right (by omega) hc
  exact Int.le_trans z z2
/-! ### all sets of houses -/
def subs : List Str → List (List Str) := List.foldl (fun acc h => acc ++ acc.map fun c => c ++ [h]) [[]]
theorem subs_snoc (hs : List Str) (h : Str) : subs (hs ++ [h]) = subs hs ++ (subs hs).map fun c => c ++ [h] := by simp [subs, List.foldl_append]
theorem rev_ind {α : Type} {P : List α → Prop} (h0 : P []) (h1 : ∀ xs x, P xs → P (xs ++ [x])) (xs : List α) : P xs := by
  have key : ∀ ys : List α, P ys.reverse := fun ys => by
    induction ys with
    | nil => exact h0
    | cons y ys ih => rw [List.reverse_cons]; exact h1 _ _ ih
  have z := key xs.reverse
  rwa [List.reverse_reverse] at z
theorem subs_len (hs : List Str) : (subs hs).length = 2 ^ hs.length := by
  induction hs using rev_ind with
  | h0 => rfl
  | h1 hs h ih => rw [subs_snoc, List.length_append, List.length_map, ih, List.length_append, List.length_cons, List.length_nil, Nat.pow_succ]; omega
theorem subs_sub (hs : List Str) : ∀ c ∈ subs hs, c.Sublist hs := by
  induction hs using rev_ind with
  | h0 => intro c hc; simp [subs] at hc; subst hc; exact .slnil
  | h1 hs h ih =>
    intro c hc
    rw [subs_snoc] at hc
    rcases List.mem_append.mp hc with hc | hc
    · exact (ih c hc).trans (List.sublist_append_left _ _)
    · obtain ⟨b, hb, rfl⟩ := List.mem_map.mp hc
      exact (ih b hb).append (.refl _)
def cutsOf (hs : List Str) : List (List Str) := isortW hle ((subs hs).filter fun c => decide (0 < c.length) && decide (c.length < hs.length))
theorem addD_tup {xs ys : List D} (h : xs.length + ys.length ≤ 1000000) : addD (.tup xs) (.tup ys) = some (.tup (xs ++ ys)) := by
  simp only [addD]
  rw [if_pos (Nat.le_trans h line_ge)]
theorem addD_lst {xs ys : List D} (h : xs.length + ys.length ≤ 1000000) : addD (.lst xs) (.lst ys) = some (.lst (xs ++ ys)) := by
  simp only [addD]
  rw [if_pos (Nat.le_trans h line_ge)]
/-! ### slices -/
theorem slice_tail (xs : List D) : sliceD (.tup xs) (some 1) none = some (.tup (xs.drop 1)) := by
  simp only [sliceD, cutD, HT.sIx]
  rw [if_neg (by omega)]
  cases xs with
  | nil => rfl
  | cons x xs => simp
theorem slice_last (xs : List D) : sliceD (.tup xs) none (some (-1)) = some (.tup xs.dropLast) := by
  simp only [sliceD, cutD, HT.sIx]
  rw [if_pos (by omega), List.dropLast_eq_take, List.drop_zero]
  congr 3
  omega
/-! ### counts -/
def cnt : D → Bool
  | .int i => decide (0 ≤ i)
  | _ => false
end VL
set_option Elab.async false
set_option linter.all false
set_option maxRecDepth 100000
set_option autoImplicit false
namespace VL
open PySem PySem.Spec

theorem subs_mem {hs c : List Str} (h : c.Sublist hs) : c ∈ subs hs := by
  induction hs using rev_ind generalizing c with
  | h0 =>
    rw [List.sublist_nil.mp h]
    simp [subs]
  | h1 hs x ih =>
    obtain ⟨l1, l2, rfl, s1, s2⟩ := List.sublist_append_iff.mp h
    rw [subs_snoc, List.mem_append, List.mem_map]
    rcases List.sublist_cons_iff.mp s2 with s3 | ⟨r, rfl, s3⟩
    · rw [List.sublist_nil.mp s3, List.append_nil]
      exact .inl (ih s1)
    · rw [List.sublist_nil.mp s3]
      exact .inr ⟨l1, ih s1, rfl⟩
theorem cutsOf_mem {hs c : List Str} : c ∈ cutsOf hs ↔ c.Sublist hs ∧ 0 < c.length ∧ c.length < hs.length := by
  unfold cutsOf
  rw [(isortW_perm _).mem_iff, List.mem_filter]
  simp only [Bool.and_eq_true, decide_eq_true_eq]
  exact ⟨fun ⟨h1, h2⟩ => ⟨subs_sub hs c h1, h2⟩, fun ⟨h1, h2⟩ => ⟨subs_mem h1, h2⟩⟩
theorem cutsOf_ne {hs : List Str} (h : 2 ≤ hs.length) : cutsOf hs ≠ [] := by
  cases hs with
  | nil => simp at h
  | cons x hs =>
    intro e
    have m : [x] ∈ cutsOf (x :: hs) := cutsOf_mem.mpr ⟨(List.nil_sublist hs).cons₂ x, by simp, by simp at h ⊢; omega⟩
    rw [e] at m
    simp at m
/-! ### pairs in order -/
theorem ltP_pr (p q : Str × Str) : ltP (prD p).py (prD q).py = (if p.1 = q.1 then (if p.2 = q.2 then false else decide (SLt p.2 q.2)) else decide (SLt p.1 q.1)) := by
  obtain ⟨a, b⟩ := p
  obtain ⟨c, d⟩ := q
  simp only [D.py, pys, ltP, ltPs, eqv_str, decide_eq_true_eq]
theorem leS_pr {p q : Str × Str} (h : PLt p q) : leS (prD p) (prD q) = true := by
  simp only [leS, ltP_pr, Bool.not_eq_true']
  rcases h with h | ⟨h, g⟩
  · have n : ¬ q.1 = p.1 := fun e => slt_irrefl p.1 (by rw [e] at h; exact h)
    rw [if_neg n]
    exact decide_eq_false (slt_asymm h)
  · rw [if_pos h.symm]
    have n : ¬ q.2 = p.2 := fun e => slt_irrefl p.2 (by rw [e] at g; exact g)
    rw [if_neg n]
    exact decide_eq_false (slt_asymm g)
theorem sortL_prs {ps : List (Str × Str)} (h : ps.Pairwise PLt) : sortL (ps.map prD) = some (ps.map prD) := by
  rw [sortL_tups prD ps (fun x _ => by simp [D.isData, areData]) (fun x _ y _ => by simp [D.py, pys, PySem.W.alike, PySem.W.alikeAll]) (fun x _ => by simp [D.py, pys, tupNe]) (fun x _ => by simp [D.py, pys, PyData.depth, PyData.depthAll]) (fun x _ y _ => by simp [D.py, pys, cmpP, cmpPs])]
  congr 1
  refine isortW_id _ ?_
  rw [List.pairwise_map]
  exact h.imp fun h => leS_pr h
/-! ### rising -/
def rising : List Str → Bool
  | x :: y :: r => decide (SLt x y) && rising (y :: r)
  | _ => true
theorem rising_zip : ∀ c : List Str, (c.zip (c.drop 1)).all (fun p => decide (SLt p.1 p.2)) = rising c
  | [] => rfl
  | [x] => rfl
  | x :: y :: r => by
    have ih := rising_zip (y :: r)
    simp only [List.drop_succ_cons, List.drop_zero] at ih ⊢
    rw [List.zip_cons_cons, List.all_cons, rising]
    rw [← ih]
theorem rising_asc : ∀ {c : List Str}, c.Pairwise SLt → rising c = true
  | [], _ => rfl
  | [x], _ => rfl
  | x :: y :: r, h => by
    obtain ⟨h1, h2⟩ := List.pairwise_cons.mp h
    rw [rising, rising_asc h2, decide_eq_true (h1 y List.mem_cons_self)]
    rfl
theorem rising_bad : ∀ (l : List Str) {x y : Str} {r : List Str}, ¬ SLt x y → rising (l ++ x :: y :: r) = false
  | [], x, y, r, h => by simp [rising, h]
  | [z], x, y, r, h => by simp [rising, h]
  | z :: w :: l, x, y, r, h => by
    have ih := rising_bad (w :: l) (r := r) h
    simp only [List.cons_append] at ih ⊢
    rw [rising, ih, Bool.and_false]
theorem cutD_last (ys : List D) (y : D) : sliceD (.tup (ys ++ [y])) (some (-1)) none = some (.tup [y]) := by
  simp only [sliceD, cutD, HT.sIx]
  rw [if_pos (by omega)]
  have e : (-1 + ((ys ++ [y]).length : Int)).toNat = ys.length := by simp; omega
  rw [e]
  simp
theorem minD_of {α : Type} {xs : List α} (f : α → Int) (h : xs ≠ []) : ∃ v, minD [.lst (xs.map fun x => .int (f x))] = some (.int v) := by
  have e : intsD (xs.map fun x => D.int (f x)) = some (xs.map f) := by
    have z := intsD_map (xs.map f)
    rwa [List.map_map] at z
  cases xs with
  | nil => exact absurd rfl h
  | cons x xs =>
    simp only [List.map_cons] at e ⊢
    simp only [minD, e, Option.bind_some, minI, Option.map_some]
    exact ⟨_, rfl⟩
theorem filter_asc {hs c : List Str} (h : c.Sublist hs) (g : hs.Pairwise SLt) : c.Pairwise SLt := g.sublist h
end VL
set_option Elab.async false
set_option linter.all false
set_option maxRecDepth 100000
set_option autoImplicit false
set_option pp.maxSteps 400
set_option maxHeartbeats 8000000
namespace LW
open PySem PySem.Spec L2 VL
open PyProof.Rows hiding St
def top (i : Nat) : Stmt := PySem.Challenge.pw_allgather_k00_errors.main.body.getD i (.Pass ⟨0, 0, 0, 0⟩)
def sub (st : Stmt) (j : Nat) : Stmt := (C8.clsBody st).getD j (.Pass ⟨0, 0, 0, 0⟩)
abbrev FUEL : Nat := 1000000
/-- what stands behind the top -/
structure Txt (K : PySem.W.Frag) (mg : Str → Option Value) where
  f_ValueError : mg "ValueError" = none
  f_abs : mg "abs" = none
  f_all : mg "all" = none
  f_bool : mg "bool" = none
  f_enumerate : mg "enumerate" = none
  f_int : mg "int" = none
  f_isinstance : mg "isinstance" = none
  f_len : mg "len" = none
  f_list : mg "list" = none
  f_range : mg "range" = none
  f_str : mg "str" = none
  f_tuple : mg "tuple" = none
  f_zip : mg "zip" = none
  g_AllKnown : mg "AllKnown" = some (.ref (He.ga K "AllKnown"))
  g_BadAnswer : mg "BadAnswer" = some (.ref (He.ga K "BadAnswer"))
  g_BadLine : mg "BadLine" = some (.ref (He.ga K "BadLine"))
  g_BadLink : mg "BadLink" = some (.ref (He.ga K "BadLink"))
  g_BadText : mg "BadText" = some (.ref (He.ga K "BadText"))
  g_GatherError : mg "GatherError" = some (.ref (He.ga K "GatherError"))
  g_Known : mg "Known" = some (.ref (He.ga K "Known"))
  g_NoHouse : mg "NoHouse" = some (.ref (He.ga K "NoHouse"))
  g_NoLink : mg "NoLink" = some (.ref (He.ga K "NoLink"))
  g_NoNet : mg "NoNet" = some (.ref (He.ga K "NoNet"))
  g_NoNumber : mg "NoNumber" = some (.ref (He.ga K "NoNumber"))
  g_NoWay : mg "NoWay" = some (.ref (He.ga K "NoWay"))
  g_NothingDone : mg "NothingDone" = some (.ref (He.ga K "NothingDone"))
  g_OtherHouses : mg "OtherHouses" = some (.ref (He.ga K "OtherHouses"))
  ox_AllKnown : OexC K (He.ga K "AllKnown")
  ic_AllKnown : PySem.W.findIn K (.ref (He.ga K "AllKnown")) "__init__" = some (some (.ref (He.ma K (He.ga K "AllKnown") "__init__"))) ∧ PySem.W.typeIn K (.ref (He.ma K (He.ga K "AllKnown") "__init__")) = some (.type "function")
  no_AllKnown : PySem.W.findIn K (.ref (He.ga K "AllKnown")) "given" = some none
  xf_AllKnown : XfC K (He.ga K "AllKnown")
  xi_AllKnown : ExI K (He.ga K "AllKnown")
  ox_BadAnswer : OexC K (He.ga K "BadAnswer")
  ic_BadAnswer : PySem.W.findIn K (.ref (He.ga K "BadAnswer")) "__init__" = some (some (.ref (He.ma K (He.ga K "BadAnswer") "__init__"))) ∧ PySem.W.typeIn K (.ref (He.ma K (He.ga K "BadAnswer") "__init__")) = some (.type "function")
  no_BadAnswer : PySem.W.findIn K (.ref (He.ga K "BadAnswer")) "answer" = some none
  xf_BadAnswer : XfC K (He.ga K "BadAnswer")
  xi_BadAnswer : ExI K (He.ga K "BadAnswer")
  ox_BadLine : OexC K (He.ga K "BadLine")
  ic_BadLine : PySem.W.findIn K (.ref (He.ga K "BadLine")) "__init__" = some (some (.ref (He.ma K (He.ga K "BadLine") "__init__"))) ∧ PySem.W.typeIn K (.ref (He.ma K (He.ga K "BadLine") "__init__")) = some (.type "function")
  no_BadLine : PySem.W.findIn K (.ref (He.ga K "BadLine")) "number" = some none
  xf_BadLine : XfC K (He.ga K "BadLine")
  xi_BadLine : ExI K (He.ga K "BadLine")
  ox_BadLink : OexC K (He.ga K "BadLink")
  ic_BadLink : PySem.W.findIn K (.ref (He.ga K "BadLink")) "__init__" = some (some (.ref (He.ma K (He.ga K "BadLink") "__init__"))) ∧ PySem.W.typeIn K (.ref (He.ma K (He.ga K "BadLink") "__init__")) = some (.type "function")
  no_BadLink : PySem.W.findIn K (.ref (He.ga K "BadLink")) "place" = some none
  xf_BadLink : XfC K (He.ga K "BadLink")
  xi_BadLink : ExI K (He.ga K "BadLink")
  ox_BadText : OexC K (He.ga K "BadText")
  ic_BadText : PySem.W.findIn K (.ref (He.ga K "BadText")) "__init__" = some (some (.ref (He.ma K (He.ga K "BadText") "__init__"))) ∧ PySem.W.typeIn K (.ref (He.ma K (He.ga K "BadText") "__init__")) = some (.type "function")
  no_BadText : PySem.W.findIn K (.ref (He.ga K "BadText")) "piece" = some none
  xf_BadText : XfC K (He.ga K "BadText")
  xi_BadText : ExI K (He.ga K "BadText")
  ox_Known : OexC K (He.ga K "Known")
  ic_Known : PySem.W.findIn K (.ref (He.ga K "Known")) "__init__" = some (some (.ref (He.ma K (He.ga K "Known") "__init__"))) ∧ PySem.W.typeIn K (.ref (He.ma K (He.ga K "Known") "__init__")) = some (.type "function")
  no_Known : PySem.W.findIn K (.ref (He.ga K "Known")) "name" = some none
  xf_Known : XfC K (He.ga K "Known")
  xi_Known : ExI K (He.ga K "Known")
  ox_NoHouse : OexC K (He.ga K "NoHouse")
  ic_NoHouse : PySem.W.findIn K (.ref (He.ga K "NoHouse")) "__init__" = some (some (.ref (He.ma K (He.ga K "NoHouse") "__init__"))) ∧ PySem.W.typeIn K (.ref (He.ma K (He.ga K "NoHouse") "__init__")) = some (.type "function")
  no_NoHouse : PySem.W.findIn K (.ref (He.ga K "NoHouse")) "name" = some none
  xf_NoHouse : XfC K (He.ga K "NoHouse")
  xi_NoHouse : ExI K (He.ga K "NoHouse")
  ox_NoLink : OexC K (He.ga K "NoLink")
  ic_NoLink : PySem.W.findIn K (.ref (He.ga K "NoLink")) "__init__" = some (some (.ref (He.ma K (He.ga K "NoLink") "__init__"))) ∧ PySem.W.typeIn K (.ref (He.ma K (He.ga K "NoLink") "__init__")) = some (.type "function")
  no_NoLink : PySem.W.findIn K (.ref (He.ga K "NoLink")) "name" = some none
  xf_NoLink : XfC K (He.ga K "NoLink")
  xi_NoLink : ExI K (He.ga K "NoLink")
  ox_NoNet : OexC K (He.ga K "NoNet")
  ic_NoNet : PySem.W.findIn K (.ref (He.ga K "NoNet")) "__init__" = some (some (.ref (He.ma K (He.ga K "NoNet") "__init__"))) ∧ PySem.W.typeIn K (.ref (He.ma K (He.ga K "NoNet") "__init__")) = some (.type "function")
  no_NoNet : PySem.W.findIn K (.ref (He.ga K "NoNet")) "name" = some none
  xf_NoNet : XfC K (He.ga K "NoNet")
  xi_NoNet : ExI K (He.ga K "NoNet")
  ox_NoNumber : OexC K (He.ga K "NoNumber")
  ic_NoNumber : PySem.W.findIn K (.ref (He.ga K "NoNumber")) "__init__" = some (some (.ref (He.ma K (He.ga K "NoNumber") "__init__"))) ∧ PySem.W.typeIn K (.ref (He.ma K (He.ga K "NoNumber") "__init__")) = some (.type "function")
  no_NoNumber : PySem.W.findIn K (.ref (He.ga K "NoNumber")) "number" = some none
  xf_NoNumber : XfC K (He.ga K "NoNumber")
  xi_NoNumber : ExI K (He.ga K "NoNumber")
  ox_NoWay : OexC K (He.ga K "NoWay")
  ic_NoWay : PySem.W.findIn K (.ref (He.ga K "NoWay")) "__init__" = some (some (.ref (He.ma K (He.ga K "NoWay") "__init__"))) ∧ PySem.W.typeIn K (.ref (He.ma K (He.ga K "NoWay") "__init__")) = some (.type "function")
  no_NoWay : PySem.W.findIn K (.ref (He.ga K "NoWay")) "some" = some none
  xf_NoWay : XfC K (He.ga K "NoWay")
  xi_NoWay : ExI K (He.ga K "NoWay")
  ox_NothingDone : OexC K (He.ga K "NothingDone")
  ic_NothingDone : PySem.W.findIn K (.ref (He.ga K "NothingDone")) "__init__" = some (some (.ref (He.ma K (He.ga K "NothingDone") "__init__"))) ∧ PySem.W.typeIn K (.ref (He.ma K (He.ga K "NothingDone") "__init__")) = some (.type "function")
  no_NothingDone : PySem.W.findIn K (.ref (He.ga K "NothingDone")) "given" = some none
  xf_NothingDone : XfC K (He.ga K "NothingDone")
  xi_NothingDone : ExI K (He.ga K "NothingDone")
  ox_OtherHouses : OexC K (He.ga K "OtherHouses")
  ic_OtherHouses : PySem.W.findIn K (.ref (He.ga K "OtherHouses")) "__init__" = some (some (.ref (He.ma K (He.ga K "OtherHouses") "__init__"))) ∧ PySem.W.typeIn K (.ref (He.ma K (He.ga K "OtherHouses") "__init__")) = some (.type "function")
  no_OtherHouses : PySem.W.findIn K (.ref (He.ga K "OtherHouses")) "given" = some none
  xf_OtherHouses : XfC K (He.ga K "OtherHouses")
  xi_OtherHouses : ExI K (He.ga K "OtherHouses")
  kt_AllKnown_AllKnown : PySem.W.kitOne K (.ref (He.ga K "AllKnown")) (.ref (He.ga K "AllKnown")) = some true
  kt_AllKnown_BadAnswer : PySem.W.kitOne K (.ref (He.ga K "AllKnown")) (.ref (He.ga K "BadAnswer")) = some false
  kt_AllKnown_BadLine : PySem.W.kitOne K (.ref (He.ga K "AllKnown")) (.ref (He.ga K "BadLine")) = some false
  kt_AllKnown_BadLink : PySem.W.kitOne K (.ref (He.ga K "AllKnown")) (.ref (He.ga K "BadLink")) = some false
  kt_AllKnown_BadText : PySem.W.kitOne K (.ref (He.ga K "AllKnown")) (.ref (He.ga K "BadText")) = some false
  kt_AllKnown_GatherError : PySem.W.kitOne K (.ref (He.ga K "AllKnown")) (.ref (He.ga K "GatherError")) = some true
  kt_AllKnown_Known : PySem.W.kitOne K (.ref (He.ga K "AllKnown")) (.ref (He.ga K "Known")) = some false
  kt_AllKnown_NoHouse : PySem.W.kitOne K (.ref (He.ga K "AllKnown")) (.ref (He.ga K "NoHouse")) = some false
  kt_AllKnown_NoLink : PySem.W.kitOne K (.ref (He.ga K "AllKnown")) (.ref (He.ga K "NoLink")) = some false
  kt_AllKnown_NoNet : PySem.W.kitOne K (.ref (He.ga K "AllKnown")) (.ref (He.ga K "NoNet")) = some false
  kt_AllKnown_NoNumber : PySem.W.kitOne K (.ref (He.ga K "AllKnown")) (.ref (He.ga K "NoNumber")) = some false
  kt_AllKnown_NoWay : PySem.W.kitOne K (.ref (He.ga K "AllKnown")) (.ref (He.ga K "NoWay")) = some false
  kt_AllKnown_NothingDone : PySem.W.kitOne K (.ref (He.ga K "AllKnown")) (.ref (He.ga K "NothingDone")) = some false
  kt_AllKnown_OtherHouses : PySem.W.kitOne K (.ref (He.ga K "AllKnown")) (.ref (He.ga K "OtherHouses")) = some false
  kt_AllKnown_ValueError : PySem.W.kitOne K (.ref (He.ga K "AllKnown")) (.type "ValueError") = some true
  kt_BadAnswer_AllKnown : PySem.W.kitOne K (.ref (He.ga K "BadAnswer")) (.ref (He.ga K "AllKnown")) = some false
  kt_BadAnswer_BadAnswer : PySem.W.kitOne K (.ref (He.ga K "BadAnswer")) (.ref (He.ga K "BadAnswer")) = some true
  kt_BadAnswer_BadLine : PySem.W.kitOne K (.ref (He.ga K "BadAnswer")) (.ref (He.ga K "BadLine")) = some false
  kt_BadAnswer_BadLink : PySem.W.kitOne K (.ref (He.ga K "BadAnswer")) (.ref (He.ga K "BadLink")) = some false
  kt_BadAnswer_BadText : PySem.W.kitOne K (.ref (He.ga K "BadAnswer")) (.ref (He.ga K "BadText")) = some false
  kt_BadAnswer_GatherError : PySem.W.kitOne K (.ref (He.ga K "BadAnswer")) (.ref (He.ga K "GatherError")) = some true
  kt_BadAnswer_Known : PySem.W.kitOne K (.ref (He.ga K "BadAnswer")) (.ref (He.ga K "Known")) = some false
  kt_BadAnswer_NoHouse : PySem.W.kitOne K (.ref (He.ga K "BadAnswer")) (.ref (He.ga K "NoHouse")) = some false
  kt_BadAnswer_NoLink : PySem.W.kitOne K (.ref (He.ga K "BadAnswer")) (.ref (He.ga K "NoLink")) = some false
  kt_BadAnswer_NoNet : PySem.W.kitOne K (.ref (He.ga K "BadAnswer")) (.ref (He.ga K "NoNet")) = some false
  kt_BadAnswer_NoNumber : PySem.W.kitOne K (.ref (He.ga K "BadAnswer")) (.ref (He.ga K "NoNumber")) = some false
  kt_BadAnswer_NoWay : PySem.W.kitOne K (.ref (He.ga K "BadAnswer")) (.ref (He.ga K "NoWay")) = some false
  kt_BadAnswer_NothingDone : PySem.W.kitOne K (.ref (He.ga K "BadAnswer")) (.ref (He.ga K "NothingDone")) = some false
  kt_BadAnswer_OtherHouses : PySem.W.kitOne K (.ref (He.ga K "BadAnswer")) (.ref (He.ga K "OtherHouses")) = some false
  kt_BadAnswer_ValueError : PySem.W.kitOne K (.ref (He.ga K "BadAnswer")) (.type "ValueError") = some true
  kt_BadLine_AllKnown : PySem.W.kitOne K (.ref (He.ga K "BadLine")) (.ref (He.ga K "AllKnown")) = some false
  kt_BadLine_BadAnswer : PySem.W.kitOne K (.ref (He.ga K "BadLine")) (.ref (He.ga K "BadAnswer")) = some false
  kt_BadLine_BadLine : PySem.W.kitOne K (.ref (He.ga K "BadLine")) (.ref (He.ga K "BadLine")) = some true
  kt_BadLine_BadLink : PySem.W.kitOne K (.ref (He.ga K "BadLine")) (.ref (He.ga K "BadLink")) = some false
  kt_BadLine_BadText : PySem.W.kitOne K (.ref (He.ga K "BadLine")) (.ref (He.ga K "BadText")) = some false
  kt_BadLine_GatherError : PySem.W.kitOne K (.ref (He.ga K "BadLine")) (.ref (He.ga K "GatherError")) = some true
  kt_BadLine_Known : PySem.W.kitOne K (.ref (He.ga K "BadLine")) (.ref (He.ga K "Known")) = some false
  kt_BadLine_NoHouse : PySem.W.kitOne K (.ref (He.ga K "BadLine")) (.ref (He.ga K "NoHouse")) = some false
  kt_BadLine_NoLink : PySem.W.kitOne K (.ref (He.ga K "BadLine")) (.ref (He.ga K "NoLink")) = some false
  kt_BadLine_NoNet : PySem.W.kitOne K (.ref (He.ga K "BadLine")) (.ref (He.ga K "NoNet")) = some false
  kt_BadLine_NoNumber : PySem.W.kitOne K (.ref (He.ga K "BadLine")) (.ref (He.ga K "NoNumber")) = some false
  kt_BadLine_NoWay : PySem.W.kitOne K (.ref (He.ga K "BadLine")) (.ref (He.ga K "NoWay")) = some false
  kt_BadLine_NothingDone : PySem.W.kitOne K (.ref (He.ga K "BadLine")) (.ref (He.ga K "NothingDone")) = some false
  kt_BadLine_OtherHouses : PySem.W.kitOne K (.ref (He.ga K "BadLine")) (.ref (He.ga K "OtherHouses")) = some false
  kt_BadLine_ValueError : PySem.W.kitOne K (.ref (He.ga K "BadLine")) (.type "ValueError") = some true
  kt_BadLink_AllKnown : PySem.W.kitOne K (.ref (He.ga K "BadLink")) (.ref (He.ga K "AllKnown")) = some false
  kt_BadLink_BadAnswer : PySem.W.kitOne K (.ref (He.ga K "BadLink")) (.ref (He.ga K "BadAnswer")) = some false
  kt_BadLink_BadLine : PySem.W.kitOne K (.ref (He.ga K "BadLink")) (.ref (He.ga K "BadLine")) = some false
  kt_BadLink_BadLink : PySem.W.kitOne K (.ref (He.ga K "BadLink")) (.ref (He.ga K "BadLink")) = some true
  kt_BadLink_BadText : PySem.W.kitOne K (.ref (He.ga K "BadLink")) (.ref (He.ga K "BadText")) = some false
  kt_BadLink_GatherError : PySem.W.kitOne K (.ref (He.ga K "BadLink")) (.ref (He.ga K "GatherError")) = some true
  kt_BadLink_Known : PySem.W.kitOne K (.ref (He.ga K "BadLink")) (.ref (He.ga K "Known")) = some false
  kt_BadLink_NoHouse : PySem.W.kitOne K (.ref (He.ga K "BadLink")) (.ref (He.ga K "NoHouse")) = some false
  kt_BadLink_NoLink : PySem.W.kitOne K (.ref (He.ga K "BadLink")) (.ref (He.ga K "NoLink")) = some false
  kt_BadLink_NoNet : PySem.W.kitOne K (.ref (He.ga K "BadLink")) (.ref (He.ga K "NoNet")) = some false
  kt_BadLink_NoNumber : PySem.W.kitOne K (.ref (He.ga K "BadLink")) (.ref (He.ga K "NoNumber")) = some false
  kt_BadLink_NoWay : PySem.W.kitOne K (.ref (He.ga K "BadLink")) (.ref (He.ga K "NoWay")) = some false
  kt_BadLink_NothingDone : PySem.W.kitOne K (.ref (He.ga K "BadLink")) (.ref (He.ga K "NothingDone")) = some false
  kt_BadLink_OtherHouses : PySem.W.kitOne K (.ref (He.ga K "BadLink")) (.ref (He.ga K "OtherHouses")) = some false
  kt_BadLink_ValueError : PySem.W.kitOne K (.ref (He.ga K "BadLink")) (.type "ValueError") = some true
  kt_BadText_AllKnown : PySem.W.kitOne K (.ref (He.ga K "BadText")) (.ref (He.ga K "AllKnown")) = some false
  kt_BadText_BadAnswer : PySem.W.kitOne K (.ref (He.ga K "BadText")) (.ref (He.ga K "BadAnswer")) = some false
  kt_BadText_BadLine : PySem.W.kitOne K (.ref (He.ga K "BadText")) (.ref (He.ga K "BadLine")) = some false
  kt_BadText_BadLink : PySem.W.kitOne K (.ref (He.ga K "BadText")) (.ref (He.ga K "BadLink")) = some false
  kt_BadText_BadText : PySem.W.kitOne K (.ref (He.ga K "BadText")) (.ref (He.ga K "BadText")) = some true
  kt_BadText_GatherError : PySem.W.kitOne K (.ref (He.ga K "BadText")) (.ref (He.ga K "GatherError")) = some true
  kt_BadText_Known : PySem.W.kitOne K (.ref (He.ga K "BadText")) (.ref (He.ga K "Known")) = some false
  kt_BadText_NoHouse : PySem.W.kitOne K (.ref (He.ga K "BadText")) (.ref (He.ga K "NoHouse")) = some false
  kt_BadText_NoLink : PySem.W.kitOne K (.ref (He.ga K "BadText")) (.ref (He.ga K "NoLink")) = some false
  kt_BadText_NoNet : PySem.W.kitOne K (.ref (He.ga K "BadText")) (.ref (He.ga K "NoNet")) = some false
  kt_BadText_NoNumber : PySem.W.kitOne K (.ref (He.ga K "BadText")) (.ref (He.ga K "NoNumber")) = some false
  kt_BadText_NoWay : PySem.W.kitOne K (.ref (He.ga K "BadText")) (.ref (He.ga K "NoWay")) = some false
  kt_BadText_NothingDone : PySem.W.kitOne K (.ref (He.ga K "BadText")) (.ref (He.ga K "NothingDone")) = some false
  kt_BadText_OtherHouses : PySem.W.kitOne K (.ref (He.ga K "BadText")) (.ref (He.ga K "OtherHouses")) = some false
  kt_BadText_ValueError : PySem.W.kitOne K (.ref (He.ga K "BadText")) (.type "ValueError") = some true
  kt_Known_AllKnown : PySem.W.kitOne K (.ref (He.ga K "Known")) (.ref (He.ga K "AllKnown")) = some false
  kt_Known_BadAnswer : PySem.W.kitOne K (.ref (He.ga K "Known")) (.ref (He.ga K "BadAnswer")) = some false
  kt_Known_BadLine : PySem.W.kitOne K (.ref (He.ga K "Known")) (.ref (He.ga K "BadLine")) = some false
  kt_Known_BadLink : PySem.W.kitOne K (.ref (He.ga K "Known")) (.ref (He.ga K "BadLink")) = some false
  kt_Known_BadText : PySem.W.kitOne K (.ref (He.ga K "Known")) (.ref (He.ga K "BadText")) = some false
  kt_Known_GatherError : PySem.W.kitOne K (.ref (He.ga K "Known")) (.ref (He.ga K "GatherError")) = some true
  kt_Known_Known : PySem.W.kitOne K (.ref (He.ga K "Known")) (.ref (He.ga K "Known")) = some true
  kt_Known_NoHouse : PySem.W.kitOne K (.ref (He.ga K "Known")) (.ref (He.ga K "NoHouse")) = some false
  kt_Known_NoLink : PySem.W.kitOne K (.ref (He.ga K "Known")) (.ref (He.ga K "NoLink")) = some false
  kt_Known_NoNet : PySem.W.kitOne K (.ref (He.ga K "Known")) (.ref (He.ga K "NoNet")) = some false
  kt_Known_NoNumber : PySem.W.kitOne K (.ref (He.ga K "Known")) (.ref (He.ga K "NoNumber")) = some false
  kt_Known_NoWay : PySem.W.kitOne K (.ref (He.ga K "Known")) (.ref (He.ga K "NoWay")) = some false
  kt_Known_NothingDone : PySem.W.kitOne K (.ref (He.ga K "Known")) (.ref (He.ga K "NothingDone")) = some false
  kt_Known_OtherHouses : PySem.W.kitOne K (.ref (He.ga K "Known")) (.ref (He.ga K "OtherHouses")) = some false
  kt_Known_ValueError : PySem.W.kitOne K (.ref (He.ga K "Known")) (.type "ValueError") = some true
  kt_NoHouse_AllKnown : PySem.W.kitOne K (.ref (He.ga K "NoHouse")) (.ref (He.ga K "AllKnown")) = some false
  kt_NoHouse_BadAnswer : PySem.W.kitOne K (.ref (He.ga K "NoHouse")) (.ref (He.ga K "BadAnswer")) = some false
  kt_NoHouse_BadLine : PySem.W.kitOne K (.ref (He.ga K "NoHouse")) (.ref (He.ga K "BadLine")) = some false
  kt_NoHouse_BadLink : PySem.W.kitOne K (.ref (He.ga K "NoHouse")) (.ref (He.ga K "BadLink")) = some false
  kt_NoHouse_BadText : PySem.W.kitOne K (.ref (He.ga K "NoHouse")) (.ref (He.ga K "BadText")) = some false
  kt_NoHouse_GatherError : PySem.W.kitOne K (.ref (He.ga K "NoHouse")) (.ref (He.ga K "GatherError")) = some true
  kt_NoHouse_Known : PySem.W.kitOne K (.ref (He.ga K "NoHouse")) (.ref (He.ga K "Known")) = some false
  kt_NoHouse_NoHouse : PySem.W.kitOne K (.ref (He.ga K "NoHouse")) (.ref (He.ga K "NoHouse")) = some true
  kt_NoHouse_NoLink : PySem.W.kitOne K (.ref (He.ga K "NoHouse")) (.ref (He.ga K "NoLink")) = some false
  kt_NoHouse_NoNet : PySem.W.kitOne K (.ref (He.ga K "NoHouse")) (.ref (He.ga K "NoNet")) = some false
  kt_NoHouse_NoNumber : PySem.W.kitOne K (.ref (He.ga K "NoHouse")) (.ref (He.ga K "NoNumber")) = some false
  kt_NoHouse_NoWay : PySem.W.kitOne K (.ref (He.ga K "NoHouse")) (.ref (He.ga K "NoWay")) = some false
  kt_NoHouse_NothingDone : PySem.W.kitOne K (.ref (He.ga K "NoHouse")) (.ref (He.ga K "NothingDone")) = some false
  kt_NoHouse_OtherHouses : PySem.W.kitOne K (.ref (He.ga K "NoHouse")) (.ref (He.ga K "OtherHouses")) = some false
  kt_NoHouse_ValueError : PySem.W.kitOne K (.ref (He.ga K "NoHouse")) (.type "ValueError") = some true
  kt_NoLink_AllKnown : PySem.W.kitOne K (.ref (He.ga K "NoLink")) (.ref (He.ga K "AllKnown")) = some false
  kt_NoLink_BadAnswer : PySem.W.kitOne K (.ref (He.ga K "NoLink")) (.ref (He.ga K "BadAnswer")) = some false
  kt_NoLink_BadLine : PySem.W.kitOne K (.ref (He.ga K "NoLink")) (.ref (He.ga K "BadLine")) = some false
  kt_NoLink_BadLink : PySem.W.kitOne K (.ref (He.ga K "NoLink")) (.ref (He.ga K "BadLink")) = some false
  kt_NoLink_BadText : PySem.W.kitOne K (.ref (He.ga K "NoLink")) (.ref (He.ga K "BadText")) = some false
  kt_NoLink_GatherError : PySem.W.kitOne K (.ref (He.ga K "NoLink")) (.ref (He.ga K "GatherError")) = some true
  kt_NoLink_Known : PySem.W.kitOne K (.ref (He.ga K "NoLink")) (.ref (He.ga K "Known")) = some false
  kt_NoLink_NoHouse : PySem.W.kitOne K (.ref (He.ga K "NoLink")) (.ref (He.ga K "NoHouse")) = some false
  kt_NoLink_NoLink : PySem.W.kitOne K (.ref (He.ga K "NoLink")) (.ref (He.ga K "NoLink")) = some true
  kt_NoLink_NoNet : PySem.W.kitOne K (.ref (He.ga K "NoLink")) (.ref (He.ga K "NoNet")) = some false
  kt_NoLink_NoNumber : PySem.W.kitOne K (.ref (He.ga K "NoLink")) (.ref (He.ga K "NoNumber")) = some false
  kt_NoLink_NoWay : PySem.W.kitOne K (.ref (He.ga K "NoLink")) (.ref (He.ga K "NoWay")) = some false
  kt_NoLink_NothingDone : PySem.W.kitOne K (.ref (He.ga K "NoLink")) (.ref (He.ga K "NothingDone")) = some false
  kt_NoLink_OtherHouses : PySem.W.kitOne K (.ref (He.ga K "NoLink")) (.ref (He.ga K "OtherHouses")) = some false
  kt_NoLink_ValueError : PySem.W.kitOne K (.ref (He.ga K "NoLink")) (.type "ValueError") = some true
  kt_NoNet_AllKnown : PySem.W.kitOne K (.ref (He.ga K "NoNet")) (.ref (He.ga K "AllKnown")) = some false
  kt_NoNet_BadAnswer : PySem.W.kitOne K (.ref (He.ga K "NoNet")) (.ref (He.ga K "BadAnswer")) = some false
  kt_NoNet_BadLine : PySem.W.kitOne K (.ref (He.ga K "NoNet")) (.ref (He.ga K "BadLine")) = some false
  kt_NoNet_BadLink : PySem.W.kitOne K (.ref (He.ga K "NoNet")) (.ref (He.ga K "BadLink")) = some false
  kt_NoNet_BadText : PySem.W.kitOne K (.ref (He.ga K "NoNet")) (.ref (He.ga K "BadText")) = some false
  kt_NoNet_GatherError : PySem.W.kitOne K (.ref (He.ga K "NoNet")) (.ref (He.ga K "GatherError")) = some true
  kt_NoNet_Known : PySem.W.kitOne K (.ref (He.ga K "NoNet")) (.ref (He.ga K "Known")) = some false
  kt_NoNet_NoHouse : PySem.W.kitOne K (.ref (He.ga K "NoNet")) (.ref (He.ga K "NoHouse")) = some false
  kt_NoNet_NoLink : PySem.W.kitOne K (.ref (He.ga K "NoNet")) (.ref (He.ga K "NoLink")) = some false
  kt_NoNet_NoNet : PySem.W.kitOne K (.ref (He.ga K "NoNet")) (.ref (He.ga K "NoNet")) = some true
  kt_NoNet_NoNumber : PySem.W.kitOne K (.ref (He.ga K "NoNet")) (.ref (He.ga K "NoNumber")) = some false
  kt_NoNet_NoWay : PySem.W.kitOne K (.ref (He.ga K "NoNet")) (.ref (He.ga K "NoWay")) = some false
  kt_NoNet_NothingDone : PySem.W.kitOne K (.ref (He.ga K "NoNet")) (.ref (He.ga K "NothingDone")) = some false
  kt_NoNet_OtherHouses : PySem.W.kitOne K (.ref (He.ga K "NoNet")) (.ref (He.ga K "OtherHouses")) = some false
  kt_NoNet_ValueError : PySem.W.kitOne K (.ref (He.ga K "NoNet")) (.type "ValueError") = some true
  kt_NoNumber_AllKnown : PySem.W.kitOne K (.ref (He.ga K "NoNumber")) (.ref (He.ga K "AllKnown")) = some false
  kt_NoNumber_BadAnswer : PySem.W.kitOne K (.ref (He.ga K "NoNumber")) (.ref (He.ga K "BadAnswer")) = some false
  kt_NoNumber_BadLine : PySem.W.kitOne K (.ref (He.ga K "NoNumber")) (.ref (He.ga K "BadLine")) = some false
  kt_NoNumber_BadLink : PySem.W.kitOne K (.ref (He.ga K "NoNumber")) (.ref (He.ga K "BadLink")) = some false
  kt_NoNumber_BadText : PySem.W.kitOne K (.ref (He.ga K "NoNumber")) (.ref (He.ga K "BadText")) = some false
  kt_NoNumber_GatherError : PySem.W.kitOne K (.ref (He.ga K "NoNumber")) (.ref (He.ga K "GatherError")) = some true
  kt_NoNumber_Known : PySem.W.kitOne K (.ref (He.ga K "NoNumber")) (.ref (He.ga K "Known")) = some false
  kt_NoNumber_NoHouse : PySem.W.kitOne K (.ref (He.ga K "NoNumber")) (.ref (He.ga K "NoHouse")) = some false
  kt_NoNumber_NoLink : PySem.W.kitOne K (.ref (He.ga K "NoNumber")) (.ref (He.ga K "NoLink")) = some false
  kt_NoNumber_NoNet : PySem.W.kitOne K (.ref (He.ga K "NoNumber")) (.ref (He.ga K "NoNet")) = some false
  kt_NoNumber_NoNumber : PySem.W.kitOne K (.ref (He.ga K "NoNumber")) (.ref (He.ga K "NoNumber")) = some true
  kt_NoNumber_NoWay : PySem.W.kitOne K (.ref (He.ga K "NoNumber")) (.ref (He.ga K "NoWay")) = some false
  kt_NoNumber_NothingDone : PySem.W.kitOne K (.ref (He.ga K "NoNumber")) (.ref (He.ga K "NothingDone")) = some false
  kt_NoNumber_OtherHouses : PySem.W.kitOne K (.ref (He.ga K "NoNumber")) (.ref (He.ga K "OtherHouses")) = some false
  kt_NoNumber_ValueError : PySem.W.kitOne K (.ref (He.ga K "NoNumber")) (.type "ValueError") = some true
  kt_NoWay_AllKnown : PySem.W.kitOne K (.ref (He.ga K "NoWay")) (.ref (He.ga K "AllKnown")) = some false
  kt_NoWay_BadAnswer : PySem.W.kitOne K (.ref (He.ga K "NoWay")) (.ref (He.ga K "BadAnswer")) = some false
  kt_NoWay_BadLine : PySem.W.kitOne K (.ref (He.ga K "NoWay")) (.ref (He.ga K "BadLine")) = some false
  kt_NoWay_BadLink : PySem.W.kitOne K (.ref (He.ga K "NoWay")) (.ref (He.ga K "BadLink")) = some false
  kt_NoWay_BadText : PySem.W.kitOne K (.ref (He.ga K "NoWay")) (.ref (He.ga K "BadText")) = some false
  kt_NoWay_GatherError : PySem.W.kitOne K (.ref (He.ga K "NoWay")) (.ref (He.ga K "GatherError")) = some true
  kt_NoWay_Known : PySem.W.kitOne K (.ref (He.ga K "NoWay")) (.ref (He.ga K "Known")) = some false
  kt_NoWay_NoHouse : PySem.W.kitOne K (.ref (He.ga K "NoWay")) (.ref (He.ga K "NoHouse")) = some false
  kt_NoWay_NoLink : PySem.W.kitOne K (.ref (He.ga K "NoWay")) (.ref (He.ga K "NoLink")) = some false
  kt_NoWay_NoNet : PySem.W.kitOne K (.ref (He.ga K "NoWay")) (.ref (He.ga K "NoNet")) = some false
  kt_NoWay_NoNumber : PySem.W.kitOne K (.ref (He.ga K "NoWay")) (.ref (He.ga K "NoNumber")) = some false
  kt_NoWay_NoWay : PySem.W.kitOne K (.ref (He.ga K "NoWay")) (.ref (He.ga K "NoWay")) = some true
  kt_NoWay_NothingDone : PySem.W.kitOne K (.ref (He.ga K "NoWay")) (.ref (He.ga K "NothingDone")) = some false
  kt_NoWay_OtherHouses : PySem.W.kitOne K (.ref (He.ga K "NoWay")) (.ref (He.ga K "OtherHouses")) = some false
  kt_NoWay_ValueError : PySem.W.kitOne K (.ref (He.ga K "NoWay")) (.type "ValueError") = some true
  kt_NothingDone_AllKnown : PySem.W.kitOne K (.ref (He.ga K "NothingDone")) (.ref (He.ga K "AllKnown")) = some false
  kt_NothingDone_BadAnswer : PySem.W.kitOne K (.ref (He.ga K "NothingDone")) (.ref (He.ga K "BadAnswer")) = some false
  kt_NothingDone_BadLine : PySem.W.kitOne K (.ref (He.ga K "NothingDone")) (.ref (He.ga K "BadLine")) = some false
  kt_NothingDone_BadLink : PySem.W.kitOne K (.ref (He.ga K "NothingDone")) (.ref (He.ga K "BadLink")) = some false
  kt_NothingDone_BadText : PySem.W.kitOne K (.ref (He.ga K "NothingDone")) (.ref (He.ga K "BadText")) = some false
  kt_NothingDone_GatherError : PySem.W.kitOne K (.ref (He.ga K "NothingDone")) (.ref (He.ga K "GatherError")) = some true
  kt_NothingDone_Known : PySem.W.kitOne K (.ref (He.ga K "NothingDone")) (.ref (He.ga K "Known")) = some false
  kt_NothingDone_NoHouse : PySem.W.kitOne K (.ref (He.ga K "NothingDone")) (.ref (He.ga K "NoHouse")) = some false
  kt_NothingDone_NoLink : PySem.W.kitOne K (.ref (He.ga K "NothingDone")) (.ref (He.ga K "NoLink")) = some false
  kt_NothingDone_NoNet : PySem.W.kitOne K (.ref (He.ga K "NothingDone")) (.ref (He.ga K "NoNet")) = some false
  kt_NothingDone_NoNumber : PySem.W.kitOne K (.ref (He.ga K "NothingDone")) (.ref (He.ga K "NoNumber")) = some false
  kt_NothingDone_NoWay : PySem.W.kitOne K (.ref (He.ga K "NothingDone")) (.ref (He.ga K "NoWay")) = some false
  kt_NothingDone_NothingDone : PySem.W.kitOne K (.ref (He.ga K "NothingDone")) (.ref (He.ga K "NothingDone")) = some true
  kt_NothingDone_OtherHouses : PySem.W.kitOne K (.ref (He.ga K "NothingDone")) (.ref (He.ga K "OtherHouses")) = some false
  kt_NothingDone_ValueError : PySem.W.kitOne K (.ref (He.ga K "NothingDone")) (.type "ValueError") = some true
  kt_OtherHouses_AllKnown : PySem.W.kitOne K (.ref (He.ga K "OtherHouses")) (.ref (He.ga K "AllKnown")) = some false
  kt_OtherHouses_BadAnswer : PySem.W.kitOne K (.ref (He.ga K "OtherHouses")) (.ref (He.ga K "BadAnswer")) = some false
  kt_OtherHouses_BadLine : PySem.W.kitOne K (.ref (He.ga K "OtherHouses")) (.ref (He.ga K "BadLine")) = some false
  kt_OtherHouses_BadLink : PySem.W.kitOne K (.ref (He.ga K "OtherHouses")) (.ref (He.ga K "BadLink")) = some false
  kt_OtherHouses_BadText : PySem.W.kitOne K (.ref (He.ga K "OtherHouses")) (.ref (He.ga K "BadText")) = some false
  kt_OtherHouses_GatherError : PySem.W.kitOne K (.ref (He.ga K "OtherHouses")) (.ref (He.ga K "GatherError")) = some true
  kt_OtherHouses_Known : PySem.W.kitOne K (.ref (He.ga K "OtherHouses")) (.ref (He.ga K "Known")) = some false
  kt_OtherHouses_NoHouse : PySem.W.kitOne K (.ref (He.ga K "OtherHouses")) (.ref (He.ga K "NoHouse")) = some false
  kt_OtherHouses_NoLink : PySem.W.kitOne K (.ref (He.ga K "OtherHouses")) (.ref (He.ga K "NoLink")) = some false
  kt_OtherHouses_NoNet : PySem.W.kitOne K (.ref (He.ga K "OtherHouses")) (.ref (He.ga K "NoNet")) = some false
  kt_OtherHouses_NoNumber : PySem.W.kitOne K (.ref (He.ga K "OtherHouses")) (.ref (He.ga K "NoNumber")) = some false
  kt_OtherHouses_NoWay : PySem.W.kitOne K (.ref (He.ga K "OtherHouses")) (.ref (He.ga K "NoWay")) = some false
  kt_OtherHouses_NothingDone : PySem.W.kitOne K (.ref (He.ga K "OtherHouses")) (.ref (He.ga K "NothingDone")) = some false
  kt_OtherHouses_OtherHouses : PySem.W.kitOne K (.ref (He.ga K "OtherHouses")) (.ref (He.ga K "OtherHouses")) = some true
  kt_OtherHouses_ValueError : PySem.W.kitOne K (.ref (He.ga K "OtherHouses")) (.type "ValueError") = some true
  kn_AllKnown : PySem.W.kitOne K (.type "NoneType") (.ref (He.ga K "AllKnown")) = some false
  kn_BadAnswer : PySem.W.kitOne K (.type "NoneType") (.ref (He.ga K "BadAnswer")) = some false
  kn_BadLine : PySem.W.kitOne K (.type "NoneType") (.ref (He.ga K "BadLine")) = some false
  kn_BadLink : PySem.W.kitOne K (.type "NoneType") (.ref (He.ga K "BadLink")) = some false
  kn_BadText : PySem.W.kitOne K (.type "NoneType") (.ref (He.ga K "BadText")) = some false
  kn_GatherError : PySem.W.kitOne K (.type "NoneType") (.ref (He.ga K "GatherError")) = some false
  kn_Known : PySem.W.kitOne K (.type "NoneType") (.ref (He.ga K "Known")) = some false
  kn_NoHouse : PySem.W.kitOne K (.type "NoneType") (.ref (He.ga K "NoHouse")) = some false
  kn_NoLink : PySem.W.kitOne K (.type "NoneType") (.ref (He.ga K "NoLink")) = some false
  kn_NoNet : PySem.W.kitOne K (.type "NoneType") (.ref (He.ga K "NoNet")) = some false
  kn_NoNumber : PySem.W.kitOne K (.type "NoneType") (.ref (He.ga K "NoNumber")) = some false
  kn_NoWay : PySem.W.kitOne K (.type "NoneType") (.ref (He.ga K "NoWay")) = some false
  kn_NothingDone : PySem.W.kitOne K (.type "NoneType") (.ref (He.ga K "NothingDone")) = some false
  kn_OtherHouses : PySem.W.kitOne K (.type "NoneType") (.ref (He.ga K "OtherHouses")) = some false
  kn_ValueError : PySem.W.kitOne K (.type "NoneType") (.type "ValueError") = some false
  fd_law_box : FuncData
  F_law_box : FunD K "_law_box" "_law_box" (defArgs (top 16)) (defBody (top 16)) (defScope (top 16)) [] [] (He.ga K "_law_box") fd_law_box
  g_law_box : mg "_law_box" = some (.ref (He.ga K "_law_box"))
  b_law_box : Binds K fd_law_box ["_law_script", "_law_k"] []
  fd_law_take : FuncData
  F_law_take : FunD K "_law_take" "_law_take" (defArgs (top 17)) (defBody (top 17)) (defScope (top 17)) [] [] (He.ga K "_law_take") fd_law_take
  g_law_take : mg "_law_take" = some (.ref (He.ga K "_law_take"))
  b_law_take : Binds K fd_law_take ["_law_box_here", "_law_size_so"] []
  fd_law_cells : FuncData
  F_law_cells : FunD K "_law_cells" "_law_cells" (defArgs (top 18)) (defBody (top 18)) (defScope (top 18)) [] [] (He.ga K "_law_cells") fd_law_cells
  g_law_cells : mg "_law_cells" = some (.ref (He.ga K "_law_cells"))
  b_law_cells : Binds K fd_law_cells ["_law_script", "_law_top_so"] []
  fd_law_of : FuncData
  F_law_of : FunD K "_law_of" "_law_of" (defArgs (top 19)) (defBody (top 19)) (defScope (top 19)) [] [] (He.ga K "_law_of") fd_law_of
  g_law_of : mg "_law_of" = some (.ref (He.ga K "_law_of"))
  b_law_of : Binds K fd_law_of ["_law_box_here", "_law_goods_so"] []
  fd_law_same : FuncData
  F_law_same : FunD K "_law_same" "_law_same" (defArgs (top 20)) (defBody (top 20)) (defScope (top 20)) [] [] (He.ga K "_law_same") fd_law_same
  g_law_same : mg "_law_same" = some (.ref (He.ga K "_law_same"))
  b_law_same : Binds K fd_law_same ["_law_got", "_law_due"] []
  fd_law_sorts : FuncData
  F_law_sorts : FunD K "_law_sorts" "_law_sorts" (defArgs (top 21)) (defBody (top 21)) (defScope (top 21)) [] [] (He.ga K "_law_sorts") fd_law_sorts
  g_law_sorts : mg "_law_sorts" = some (.ref (He.ga K "_law_sorts"))
  b_law_sorts : Binds K fd_law_sorts ["_law_caught"] []
  fd_AllKnown_init : FuncData
  F_AllKnown_init : FunD K "__init__" "AllKnown.__init__" (defArgs (sub (top 11) 0)) (defBody (sub (top 11) 0)) (defScope (sub (top 11) 0)) [] [] (He.ma K (He.ga K "AllKnown") "__init__") fd_AllKnown_init
  b_AllKnown_init : Binds K fd_AllKnown_init ["self"] []
  fd_BadAnswer_init : FuncData
  F_BadAnswer_init : FunD K "__init__" "BadAnswer.__init__" (defArgs (sub (top 10) 0)) (defBody (sub (top 10) 0)) (defScope (sub (top 10) 0)) [] [] (He.ma K (He.ga K "BadAnswer") "__init__") fd_BadAnswer_init
  b_BadAnswer_init : Binds K fd_BadAnswer_init ["self", "answer"] []
  fd_BadLine_init : FuncData
  F_BadLine_init : FunD K "__init__" "BadLine.__init__" (defArgs (sub (top 4) 0)) (defBody (sub (top 4) 0)) (defScope (sub (top 4) 0)) [] [] (He.ma K (He.ga K "BadLine") "__init__") fd_BadLine_init
  b_BadLine_init : Binds K fd_BadLine_init ["self", "number"] []
  fd_BadLink_init : FuncData
  F_BadLink_init : FunD K "__init__" "BadLink.__init__" (defArgs (sub (top 2) 0)) (defBody (sub (top 2) 0)) (defScope (sub (top 2) 0)) [] [] (He.ma K (He.ga K "BadLink") "__init__") fd_BadLink_init
  b_BadLink_init : Binds K fd_BadLink_init ["self", "place"] []
  fd_BadText_init : FuncData
  F_BadText_init : FunD K "__init__" "BadText.__init__" (defArgs (sub (top 3) 0)) (defBody (sub (top 3) 0)) (defScope (sub (top 3) 0)) [] [] (He.ma K (He.ga K "BadText") "__init__") fd_BadText_init
  b_BadText_init : Binds K fd_BadText_init ["self", "piece"] []
  fd_Known_init : FuncData
  F_Known_init : FunD K "__init__" "Known.__init__" (defArgs (sub (top 13) 0)) (defBody (sub (top 13) 0)) (defScope (sub (top 13) 0)) [] [] (He.ma K (He.ga K "Known") "__init__") fd_Known_init
  b_Known_init : Binds K fd_Known_init ["self", "name"] []
  fd_NoHouse_init : FuncData
  F_NoHouse_init : FunD K "__init__" "NoHouse.__init__" (defArgs (sub (top 5) 0)) (defBody (sub (top 5) 0)) (defScope (sub (top 5) 0)) [] [] (He.ma K (He.ga K "NoHouse") "__init__") fd_NoHouse_init
  b_NoHouse_init : Binds K fd_NoHouse_init ["self", "name"] []
  fd_NoLink_init : FuncData
  F_NoLink_init : FunD K "__init__" "NoLink.__init__" (defArgs (sub (top 6) 0)) (defBody (sub (top 6) 0)) (defScope (sub (top 6) 0)) [] [] (He.ma K (He.ga K "NoLink") "__init__") fd_NoLink_init
  b_NoLink_init : Binds K fd_NoLink_init ["self", "name"] []
  fd_NoNet_init : FuncData
  F_NoNet_init : FunD K "__init__" "NoNet.__init__" (defArgs (sub (top 14) 0)) (defBody (sub (top 14) 0)) (defScope (sub (top 14) 0)) [] [] (He.ma K (He.ga K "NoNet") "__init__") fd_NoNet_init
  b_NoNet_init : Binds K fd_NoNet_init ["self", "name"] []
  fd_NoNumber_init : FuncData
  F_NoNumber_init : FunD K "__init__" "NoNumber.__init__" (defArgs (sub (top 9) 0)) (defBody (sub (top 9) 0)) (defScope (sub (top 9) 0)) [] [] (He.ma K (He.ga K "NoNumber") "__init__") fd_NoNumber_init
  b_NoNumber_init : Binds K fd_NoNumber_init ["self", "number"] []
  fd_NoWay_init : FuncData
  F_NoWay_init : FunD K "__init__" "NoWay.__init__" (defArgs (sub (top 7) 0)) (defBody (sub (top 7) 0)) (defScope (sub (top 7) 0)) [] [] (He.ma K (He.ga K "NoWay") "__init__") fd_NoWay_init
  b_NoWay_init : Binds K fd_NoWay_init ["self", "some"] []
  fd_NothingDone_init : FuncData
  F_NothingDone_init : FunD K "__init__" "NothingDone.__init__" (defArgs (sub (top 12) 0)) (defBody (sub (top 12) 0)) (defScope (sub (top 12) 0)) [] [] (He.ma K (He.ga K "NothingDone") "__init__") fd_NothingDone_init
  b_NothingDone_init : Binds K fd_NothingDone_init ["self"] []
  fd_OtherHouses_init : FuncData
  F_OtherHouses_init : FunD K "__init__" "OtherHouses.__init__" (defArgs (sub (top 8) 0)) (defBody (sub (top 8) 0)) (defScope (sub (top 8) 0)) [] [] (He.ma K (He.ga K "OtherHouses") "__init__") fd_OtherHouses_init
  b_OtherHouses_init : Binds K fd_OtherHouses_init ["self"] []
  fd_law_right : FuncData
  F_law_right : FunD K "_law_right" "_law_right" (defArgs (top 22)) (defBody (top 22)) (defScope (top 22)) [] [] (He.ga K "_law_right") fd_law_right
  g_law_right : mg "_law_right" = some (.ref (He.ga K "_law_right"))
  b_law_right : Binds K fd_law_right ["_law_box_here"] []
  fd_law : FuncData
  F_law : FunD K "law" "law" (defArgs (top 23)) (defBody (top 23)) (defScope (top 23)) [] [] (He.ga K "law") fd_law
  g_law : mg "law" = some (.ref (He.ga K "law"))
  b_law : Binds K fd_law ["_law_script"] []
section
variable {P : Program} {w : World} {K : PySem.W.Frag} {mg : Str → Option Value} {base : Heap}
theorem sc_law_box : FnScope ["_law_script", "_law_k", "_law_cell"] ["_law_script", "_law_k"] (defScope (top 16)) := ⟨rfl, rfl, rfl, by decide +kernel, rfl, by decide +kernel, by decide +kernel⟩
def m_law_box (a_law_script a_law_k : D) : Rs (List D) := (((Rs.of (lenD [a_law_script])).bind fun x0 => Rs.of (ltB a_law_k x0)).bind fun k => if k then Rs.of (idxD a_law_script a_law_k) else (Rs.ok (.int 0))).bind fun d1 => ((Rs.of (absD [d1])).bind fun x5 => (((Rs.of (absD [d1])).bind fun x2 => (Rs.of (powD (.int 10) (.int 18))).bind fun x3 => Rs.of (geD x2 x3)).bind fun x4 => Rs.of (intD [x4])).bind fun x6 => Rs.of (mulD x5 x6)).bind fun x11 => ((((Rs.of (intD [d1])).bind fun x7 => Rs.of (modD x7 (.int 2305843009213693951))).bind fun x8 => (Rs.of (mulD (.int 39373) a_law_k)).bind fun x9 => Rs.of (addD x8 x9)).bind fun x10 => Rs.of (addD x10 (.int 92300))).bind fun x12 => Rs.ok [x11, x12, (.int 0)]
theorem k_law_box (T : Txt K mg) : KeepsF P w K mg base 2 (He.ga K "_law_box") T.fd_law_box ["_law_script", "_law_k"] (fun ds => match ds with | [a_law_script, a_law_k] => m_law_box a_law_script a_law_k | _ => Rs.no) :=
  keeps_new T.F_law_box sc_law_box (fun cdv A outer s H E F ds hl hr => match ds, hl with | [a_law_script, a_law_k], _ => bn_as [some (.val a_law_script), some (.val a_law_k), none] (bn_set (as_ev (i := 2) sc_law_box.nd (ev_if (tv_cmpL (op_ltA hr.units) ltD_ok ltD_is (EV.o (ev_var (i := 1) (d := a_law_k) rfl (pv 1))) (EV.o (ev_callBC call_len lenD_ok T.f_len boot_len (oc_consV (EV.o (ev_var (i := 0) (d := a_law_script) rfl (pv 0))) oc_nil))) (nomark _)) (ev_ix2 ix_D idxD_ok (EV.o (ev_var (i := 0) (d := a_law_script) rfl (pv 0))) (EV.o (ev_var (i := 1) (d := a_law_k) rfl (pv 1))) (fun _ _ => rfl)) ev_int)) (fun d1 => (bn_ret (ef_lstC (ac_cons (ev_bin op_mulD mulD_ok (EV.o (ev_callBC call_abs absD_ok T.f_abs boot_abs (oc_consV (EV.o (ev_var (i := 2) (d := d1) rfl (pv 2))) oc_nil))) (EV.o (ev_callTyC call_intD intD_ok T.f_int boot_int (oc_cons (EV.o (ev_cmp (op_geA hr.units) geD_ok (EV.o (ev_callBC call_abs absD_ok T.f_abs boot_abs (oc_consV (EV.o (ev_var (i := 2) (d := d1) rfl (pv 2))) oc_nil))) (EV.o (ev_bin2 op_pow powD_ok (EV.o ev_int) (EV.o ev_int))) (nomark _))) oc_nil)))) (ac_cons (ev_binR op_addD addD_ok (EV.o (ev_bin op_addD addD_ok (EV.o (ev_binR op_modN modD_ok (EV.o (ev_callTyC call_intD intD_ok T.f_int boot_int (oc_consV (EV.o (ev_var (i := 2) (d := d1) rfl (pv 2))) oc_nil))) (EV.o ev_int))) (EV.o (ev_bin2 op_mulD mulD_ok (EV.o ev_int) (EV.o (ev_var (i := 1) (d := a_law_k) rfl (pv 1))))))) (EV.o ev_int)) (ac_consV ev_int ac_nil))))))) rfl rfl)
theorem sc_law_take : FnScope ["_law_box_here", "_law_size_so", "_law_kin_so", "_law_once", "_law_far", "_law_again"] ["_law_box_here", "_law_size_so"] (defScope (top 17)) := ⟨rfl, rfl, rfl, by decide +kernel, rfl, by decide +kernel, by decide +kernel⟩
def m_law_take (a_law_box_here : List D) (a_law_size_so : D) : Rs (D × List D) := ((Rs.of (idxD (.lst a_law_box_here) (.int 0))).bind fun x0 => Rs.of (gtB x0 (.int 0))).bind fun k => if k then (((Rs.of (idxD (.lst a_law_box_here) (.int 0))).bind fun x1 => Rs.of (intD [x1])).bind fun x2 => Rs.of (modD x2 a_law_size_so)).bind fun d3 => ((Rs.of (idxD (.lst a_law_box_here) (.int 0))).bind fun x4 => Rs.of (fdivD x4 a_law_size_so)).bind fun x6 => (Rs.of (setL a_law_box_here (.int 0) x6)).bind fun l5 => Rs.ok (d3, l5) else ((Rs.of (idxD (.lst a_law_box_here) (.int 2))).bind fun x7 => Rs.of (addD x7 (.int 1))).bind fun x36 => (Rs.of (setL a_law_box_here (.int 2) x36)).bind fun l8 => (((((Rs.of (idxD (.lst l8) (.int 1))).bind fun x10 => ((Rs.of (idxD (.lst l8) (.int 2))).bind fun x9 => Rs.of (mulD (.int 48271) x9)).bind fun x11 => Rs.of (addD x10 x11)).bind fun x13 => ((Rs.of (idxD (.lst l8) (.int 2))).bind fun x12 => Rs.of (addD (.int 39373) x12)).bind fun x14 => Rs.of (mulD x13 x14)).bind fun x15 => Rs.of (intD [x15])).bind fun x16 => Rs.of (modD x16 (.int 2147483647))).bind fun d17 => (((Rs.of (intD [d17])).bind fun x18 => Rs.of (modD x18 (.int 40009))).bind fun x19 => Rs.of (addD x19 (.int 7))).bind fun d20 => ((((((Rs.of (idxD (.lst l8) (.int 2))).bind fun x21 => Rs.of (addD d17 x21)).bind fun x23 => ((Rs.of (idxD (.lst l8) (.int 1))).bind fun x22 => Rs.of (fdivD x22 (.int 1000003))).bind fun x24 => Rs.of (addD x23 x24)).bind fun x25 => Rs.of (mulD x25 d20)).bind fun x26 => Rs.of (intD [x26])).bind fun x27 => Rs.of (modD x27 (.int 2147483629))).bind fun d28 => (((((((Rs.of (mulD d28 (.int 48271))).bind fun x29 => Rs.of (addD x29 d17)).bind fun x30 => Rs.of (intD [x30])).bind fun x31 => Rs.of (modD x31 (.int 2147483587))).bind fun x32 => Rs.of (fdivD x32 (.int 64))).bind fun x33 => Rs.of (intD [x33])).bind fun x34 => Rs.of (modD x34 a_law_size_so)).bind fun x35 => Rs.ok (x35, l8)
theorem k_law_take (T : Txt K mg) : KeepsIO P w K mg base 2 (He.ga K "_law_take") T.fd_law_take ["_law_box_here", "_law_size_so"] (fun a_law_box_here ds => match ds with | [a_law_size_so] => m_law_take a_law_box_here a_law_size_so | _ => Rs.no) :=
  keeps_io T.F_law_take sc_law_take (fun cdv A outer s H E F b a_law_box_here ds hl hr => match ds, hl with | [a_law_size_so], _ => bi_as [some (.own false (.lst a_law_box_here)), some (.val a_law_size_so), none, none, none, none] (bi_nox (bi_ifrI ioI (fun _ => rfl) (tv_cmpR (op_gtA hr.units) gtD_ok gtD_is (EV.o (ev_ix2 ix_D idxD_ok (eo_var (i := 0) (l := false) (d := .lst a_law_box_here) rfl (pv 0)) (EV.o ev_int) (fun _ _ => rfl))) (EV.o ev_int) (nomark _)) (bi_set (as_ev (i := 2) sc_law_take.nd (ev_binR op_modN modD_ok (EV.o (ev_callTyC call_intD intD_ok T.f_int boot_int (oc_cons (EV.o (ev_ix2 ix_D idxD_ok (eo_var (i := 0) (l := false) (d := .lst a_law_box_here) rfl (pv 0)) (EV.o ev_int) (fun _ _ => rfl))) oc_nil))) (EV.o (ev_var (i := 1) (d := a_law_size_so) rfl (pv 1))))) (fun d3 => (bi_setix (i := 0) (c := a_law_box_here) (pv 0) (ev_binR op_fdivB fdivD_ok (EV.o (ev_ix2 ix_D idxD_ok (eo_var (i := 0) (l := false) (d := .lst a_law_box_here) rfl (pv 0)) (EV.o ev_int) (fun _ _ => rfl))) (EV.o (ev_var (i := 1) (d := a_law_size_so) rfl (pv 1)))) ev_int (fun l5 => (bi_retP (i := 0) (s := l5) (ev_var (i := 2) (d := d3) rfl (pv 2))))))) (bi_setix (i := 0) (c := a_law_box_here) (pv 0) (ev_binR op_addD addD_ok (EV.o (ev_ix2 ix_D idxD_ok (eo_var (i := 0) (l := false) (d := .lst a_law_box_here) rfl (pv 0)) (EV.o ev_int) (fun _ _ => rfl))) (EV.o ev_int)) ev_int (fun l8 => (bi_set (as_ev (i := 3) sc_law_take.nd (ev_binR op_modN modD_ok (EV.o (ev_callTyC call_intD intD_ok T.f_int boot_int (oc_cons (EV.o (ev_bin op_mulD mulD_ok (EV.o (ev_bin op_addD addD_ok (EV.o (ev_ix2 ix_D idxD_ok (eo_var (i := 0) (l := false) (d := .lst l8) rfl (pv 0)) (EV.o ev_int) (fun _ _ => rfl))) (EV.o (ev_binL op_mulD mulD_ok (EV.o ev_int) (EV.o (ev_ix2 ix_D idxD_ok (eo_var (i := 0) (l := false) (d := .lst l8) rfl (pv 0)) (EV.o ev_int) (fun _ _ => rfl))))))) (EV.o (ev_binL op_addD addD_ok (EV.o ev_int) (EV.o (ev_ix2 ix_D idxD_ok (eo_var (i := 0) (l := false) (d := .lst l8) rfl (pv 0)) (EV.o ev_int) (fun _ _ => rfl))))))) oc_nil))) (EV.o ev_int))) (fun d17 => (bi_set (as_ev (i := 4) sc_law_take.nd (ev_binR op_addD addD_ok (EV.o (ev_binR op_modN modD_ok (EV.o (ev_callTyC call_intD intD_ok T.f_int boot_int (oc_consV (EV.o (ev_var (i := 3) (d := d17) rfl (pv 3))) oc_nil))) (EV.o ev_int))) (EV.o ev_int))) (fun d20 => (bi_set (as_ev (i := 5) sc_law_take.nd (ev_binR op_modN modD_ok (EV.o (ev_callTyC call_intD intD_ok T.f_int boot_int (oc_cons (EV.o (ev_binR op_mulD mulD_ok (EV.o (ev_bin op_addD addD_ok (EV.o (ev_binL op_addD addD_ok (EV.o (ev_var (i := 3) (d := d17) rfl (pv 3))) (EV.o (ev_ix2 ix_D idxD_ok (eo_var (i := 0) (l := false) (d := .lst l8) rfl (pv 0)) (EV.o ev_int) (fun _ _ => rfl))))) (EV.o (ev_binR op_fdivB fdivD_ok (EV.o (ev_ix2 ix_D idxD_ok (eo_var (i := 0) (l := false) (d := .lst l8) rfl (pv 0)) (EV.o ev_int) (fun _ _ => rfl))) (EV.o ev_int))))) (EV.o (ev_var (i := 4) (d := d20) rfl (pv 4))))) oc_nil))) (EV.o ev_int))) (fun d28 => (bi_retP (i := 0) (s := l8) (ev_binR op_modN modD_ok (EV.o (ev_callTyC call_intD intD_ok T.f_int boot_int (oc_cons (EV.o (ev_binR op_fdivB fdivD_ok (EV.o (ev_binR op_modN modD_ok (EV.o (ev_callTyC call_intD intD_ok T.f_int boot_int (oc_cons (EV.o (ev_binR op_addD addD_ok (EV.o (ev_bin2 op_mulD mulD_ok (EV.o (ev_var (i := 5) (d := d28) rfl (pv 5))) (EV.o ev_int))) (EV.o (ev_var (i := 3) (d := d17) rfl (pv 3))))) oc_nil))) (EV.o ev_int))) (EV.o ev_int))) oc_nil))) (EV.o (ev_var (i := 1) (d := a_law_size_so) rfl (pv 1))))))))))))))) rfl rfl)
theorem sc_law_cells : FnScope ["_law_script", "_law_top_so", "_law_cells_so", "_law_k", "_law_cell", "_law_at_so"] ["_law_script", "_law_top_so"] (defScope (top 18)) := ⟨rfl, rfl, rfl, by decide +kernel, rfl, by decide +kernel, by decide +kernel⟩
def m_law_cells (a_law_script a_law_top_so : D) : Rs D := ((((Rs.of (asI a_law_top_so)).bind fun i0 => Rs.of (sliceD a_law_script none i0)).bind fun x1 => Rs.of (listL x1)).bind fun l2 => if l2.isEmpty then Rs.ok [(.int 0)] else Rs.ok l2).bind fun l3 => (((Rs.of (asI a_law_top_so)).bind fun i14 => Rs.of (sliceD a_law_script i14 (some 63))).bind fun x15 => Rs.of (enumD x15)).bind fun l6 => (foldM (fun z4 d => (Rs.of (un2 d)).bind fun y5 => ((Rs.of (intD [y5.1])).bind fun x7 => Rs.of (modD x7 a_law_top_so)).bind fun d8 => ((Rs.of (idxD (.lst z4) d8)).bind fun x10 => ((Rs.of (addD y5.1 (.int 2))).bind fun x9 => Rs.of (mulD y5.2 x9)).bind fun x11 => Rs.of (addD x10 x11)).bind fun x13 => (Rs.of (setL z4 d8 x13)).bind fun l12 => Rs.ok l12) l6 l3).bind fun z4 => (Rs.ok (.lst z4))
theorem k_law_cells (T : Txt K mg) : Keeps P w K mg base 2 (He.ga K "_law_cells") T.fd_law_cells ["_law_script", "_law_top_so"] (fun ds => match ds with | [a_law_script, a_law_top_so] => m_law_cells a_law_script a_law_top_so | _ => Rs.no) :=
  keeps_ret T.F_law_cells sc_law_cells (fun cdv A outer s H E F ds hl hr => match ds, hl with | [a_law_script, a_law_top_so], _ => bi_as [some (.val a_law_script), some (.val a_law_top_so), none, none, none, none] (bi_own (af_ef (i := 2) sc_law_cells.nd (ef_or (ef_list T.f_list (EV.o (EV.to ((Rs.of (asI a_law_top_so)).bind fun i0 => Rs.of (sliceD a_law_script none i0)) (ev_slice (EV.o (ev_var (i := 0) (d := a_law_script) rfl (pv 0))) pv_none (pv_some (ev_var (i := 1) (d := a_law_top_so) rfl (pv 1)))) rfl))) (ef_lstC (ac_consV ev_int ac_nil)))) (fun l3 => (bi_for (post := fun (z4 : List D) => [some (.val a_law_script), some (.val a_law_top_so), some (.own true (.lst z4)), none, none, none]) (z0 := l3) (passes_of rfl) rfl (it_enum rfl T.f_enumerate (EV.to ((Rs.of (asI a_law_top_so)).bind fun i14 => Rs.of (sliceD a_law_script i14 (some 63))) (ev_slice (EV.o (ev_var (i := 0) (d := a_law_script) rfl (pv 0))) (pv_some (ev_var (i := 1) (d := a_law_top_so) rfl (pv 1))) (pv_some ev_int)) rfl)) (Wk.keep (Wk.keep (Wk.keep (Wk.drop (Wk.drop (Wk.drop Wk.nil)))))) (fun z4 => tt_2 (i := 3) rfl (pg_name (i := 3) sc_law_cells.nd rfl (by first | exact Or.inl rfl | exact Or.inr rfl)) (pg_name (i := 4) sc_law_cells.nd rfl (by first | exact Or.inl rfl | exact Or.inr rfl))) (fun z4 y5 => (bi_set (as_ev (i := 5) sc_law_cells.nd (ev_binR op_modN modD_ok (EV.o (ev_callTyC call_intD intD_ok T.f_int boot_int (oc_consV (EV.o (ev_var (i := 3) (d := y5.1) rfl (pv 3))) oc_nil))) (EV.o (ev_var (i := 1) (d := a_law_top_so) rfl (pv 1))))) (fun d8 => (bi_setix (i := 2) (c := z4) (pv 2) (ev_bin op_addD addD_ok (EV.o (ev_ix2 ix_D idxD_ok (eo_var (i := 2) (l := true) (d := .lst z4) rfl (pv 2)) (EV.o (ev_var (i := 5) (d := d8) rfl (pv 5))) (fun _ _ => rfl))) (EV.o (ev_binL op_mulD mulD_ok (EV.o (ev_var (i := 4) (d := y5.2) rfl (pv 4))) (EV.o (ev_bin2 op_addD addD_ok (EV.o (ev_var (i := 3) (d := y5.1) rfl (pv 3))) (EV.o ev_int)))))) (ev_var (i := 5) (d := d8) rfl (pv 5)) (fun l12 => (bi_nil (z := l12) (Wk.keep (Wk.keep (Wk.keep (Wk.drop (Wk.drop (Wk.drop Wk.nil)))))))))))) (fun z4 => (bi_frz 2 (bi_ret (ev_var (i := 2) (d := (.lst z4)) rfl (pv 2)))))))) rfl rfl)
theorem sc_law_of : FnScope ["_law_box_here", "_law_goods_so"] ["_law_box_here", "_law_goods_so"] (defScope (top 19)) := ⟨rfl, rfl, rfl, by decide +kernel, rfl, by decide +kernel, by decide +kernel⟩
def m_law_of (a_law_box_here : List D) (a_law_goods_so : D) : Rs (D × List D) := (((Rs.ok (a_law_goods_so, a_law_box_here))).bind fun u8 => ((((Rs.of (lenD [a_law_goods_so])).bind fun d => Rs.ok (d, u8.2))).bind fun u6 => m_law_take u6.2 u6.1).bind fun u7 => (Rs.of (idxD u8.1 u7.1)).bind fun d => Rs.ok (d, u7.2)).noX
theorem k_law_of (T : Txt K mg) : KeepsIO P w K mg base 4 (He.ga K "_law_of") T.fd_law_of ["_law_box_here", "_law_goods_so"] (fun a_law_box_here ds => match ds with | [a_law_goods_so] => m_law_of a_law_box_here a_law_goods_so | _ => Rs.no) :=
  keeps_io T.F_law_of sc_law_of (fun cdv A outer s H E F b a_law_box_here ds hl hr => match ds, hl with | [a_law_goods_so], _ => bi_as [some (.own false (.lst a_law_box_here)), some (.val a_law_goods_so)] (bi_nox (bk_retB (i := 0) (eb_ix (l := false) ix_D idxD_ok (eb_val (l := false) (s := a_law_box_here) (ev_var (i := 1) (d := a_law_goods_so) rfl (pv 1))) (fun s0 => (eb_ioC (l := false) (k_law_take T) (hr.mono (by decide)) T.g_law_take T.F_law_take.kp T.b_law_take (pv 0) (bc_cons (l := false) (eb_pure (l := false) (s := s0) (ev_callBC call_len lenD_ok T.f_len boot_len (oc_consV (EV.o (ev_var (i := 1) (d := a_law_goods_so) rfl (pv 1))) oc_nil))) (fun s4 => (bc_nil (l := false) (s := s4)))))) (fun _ _ => rfl)))) rfl rfl)
theorem sc_law_same : FnScope ["_law_got", "_law_due", "_law_mine", "_law_its"] ["_law_got", "_law_due"] (defScope (top 20)) := ⟨rfl, rfl, rfl, by decide +kernel, rfl, by decide +kernel, by decide +kernel⟩
def m_law_same : Nat → D → D → Rs D
  | 0, _, _ => Rs.no
  | n + 1, a_law_got, a_law_due => ((Rs.of (isiD2 "list" "tuple" a_law_due)).bind fun x0 => Rs.of (asB x0)).bind fun k => if k then ((Rs.of (isiD "list" a_law_got)).bind fun x1 => (Rs.of (isiD "list" a_law_due)).bind fun x2 => Rs.of (neB x1 x2)).bind fun k => if k then (Rs.ok (.bl false)) else ((Rs.of (isiD "tuple" a_law_got)).bind fun x3 => (Rs.of (isiD "tuple" a_law_due)).bind fun x4 => Rs.of (neB x3 x4)).bind fun k => if k then (Rs.ok (.bl false)) else ((Rs.of (lenD [a_law_got])).bind fun x5 => (Rs.of (lenD [a_law_due])).bind fun x6 => Rs.of (eqD x5 x6)).bind fun x11 => (Rs.of (asB x11)).bind fun k => if k then (((Rs.of (zipD a_law_got a_law_due)).bind fun l8 => compM un2 (fun y7 => Rs.ok true) (fun y7 => m_law_same n y7.1 y7.2) l8).bind fun l9 => Rs.ok (.lst l9)).bind fun x10 => Rs.of (allD [x10]) else Rs.ok (.bl false) else ((Rs.of (isNB a_law_due .non)).bind fun k => if k then Rs.ok true else (Rs.of (isiD2 "bool" "str" a_law_due)).bind fun x12 => Rs.of (asB x12)).bind fun k => if k then (Rs.of (eqD a_law_got a_law_due)).bind fun x18 => (Rs.of (asB x18)).bind fun k => if k then ((Rs.of (isiD "bool" a_law_got)).bind fun x13 => (Rs.of (isiD "bool" a_law_due)).bind fun x14 => Rs.of (eqD x13 x14)).bind fun x17 => (Rs.of (asB x17)).bind fun k => if k then (Rs.of (isND a_law_got .non)).bind fun x15 => (Rs.of (isND a_law_due .non)).bind fun x16 => Rs.of (eqD x15 x16) else Rs.ok (.bl false) else Rs.ok (.bl false) else (Rs.of (isiD "int" a_law_got)).bind fun x21 => (Rs.of (asB x21)).bind fun k => if k then ((Rs.of (isiD "bool" a_law_got)).bind fun x19 => (Rs.of (asB x19)).bind fun k => Rs.ok (.bl (!k))).bind fun x20 => (Rs.of (asB x20)).bind fun k => if k then Rs.of (eqD a_law_got a_law_due) else Rs.ok (.bl false) else Rs.ok (.bl false)
theorem k_law_same (T : Txt K mg) : ∀ n : Nat, Keeps P w K mg base (n + 2) (He.ga K "_law_same") T.fd_law_same ["_law_got", "_law_due"] (fun ds => match ds with | [a_law_got, a_law_due] => m_law_same n a_law_got a_law_due | _ => Rs.no)
  | 0 => keeps_no T.F_law_same sc_law_same (fun ds => by split <;> first | rfl | (simp only [m_law_same]))
  | n + 1 => by
    have ih := k_law_same T n
    exact keeps_ret T.F_law_same sc_law_same (fun cdv A outer s H E F ds hl hr => match ds, hl with | [a_law_got, a_law_due], _ => bi_as [some (.val a_law_got), some (.val a_law_due), none, none] (bi_ifr (tv_val (ev_isi2 T.f_isinstance T.f_list boot_list T.f_tuple boot_tuple kitT_list kitT_tuple (EV.o (ev_var (i := 1) (d := a_law_due) rfl (pv 1))))) (bi_ifr (tv_cmp (op_neA hr.units) neD_ok neD_is (EV.o (ev_isi T.f_isinstance T.f_list boot_list kitT_list (EV.o (ev_var (i := 0) (d := a_law_got) rfl (pv 0))))) (EV.o (ev_isi T.f_isinstance T.f_list boot_list kitT_list (EV.o (ev_var (i := 1) (d := a_law_due) rfl (pv 1))))) (nomark _)) (bi_ret ev_bl) (bi_ifr (tv_cmp (op_neA hr.units) neD_ok neD_is (EV.o (ev_isi T.f_isinstance T.f_tuple boot_tuple kitT_tuple (EV.o (ev_var (i := 0) (d := a_law_got) rfl (pv 0))))) (EV.o (ev_isi T.f_isinstance T.f_tuple boot_tuple kitT_tuple (EV.o (ev_var (i := 1) (d := a_law_due) rfl (pv 1))))) (nomark _)) (bi_ret ev_bl) (bi_ret (ev_and (ev_cmp (op_eqA hr.units) eqD_ok (EV.o (ev_callBC call_len lenD_ok T.f_len boot_len (oc_consV (EV.o (ev_var (i := 0) (d := a_law_got) rfl (pv 0))) oc_nil))) (EV.o (ev_callBC call_len lenD_ok T.f_len boot_len (oc_consV (EV.o (ev_var (i := 1) (d := a_law_due) rfl (pv 1))) oc_nil))) (nomark _)) (ev_one (ev_callBC (cr_all rfl) allD_ok T.f_all boot_all (oc_cons (EV.o (EF.ev (ef_comp rfl sc_law_same.nd (it_zip rfl T.f_zip (ev_var (i := 0) (d := a_law_got) rfl (pv 0)) (ev_var (i := 1) (d := a_law_due) rfl (pv 1))) (blkOk_by (own := [("_law_mine", 2), ("_law_its", 3)]) (by kernel_rfl)) (by decide) (fun _ _ _ _ _ => tt_2 (i := 2) rfl (pg_name (i := 2) sc_law_same.nd rfl (by first | exact Or.inl rfl | exact Or.inr rfl)) (pg_name (i := 3) sc_law_same.nd rfl (by first | exact Or.inl rfl | exact Or.inr rfl))) (fun _ _ _ _ _ y7 => tvs_nil) (fun _ _ _ _ _ y7 => (ev_callC takes0 ih (hr.mono (by omega)) T.g_law_same T.F_law_same.kp T.b_law_same (ac_consV (ev_var (i := 2) (d := y7.1) rfl (pv 2)) (ac_consV (ev_var (i := 3) (d := y7.2) rfl (pv 3)) ac_nil))))))) oc_nil))))))) (bi_ifr (TW.tv (tw_or (tv_cmp2 op_isN isND_ok isND_is (EV.o (ev_var (i := 1) (d := a_law_due) rfl (pv 1))) (EV.o ev_non) (nomark _)) (tw_or1 (tv_val (ev_isi2 T.f_isinstance T.f_bool boot_bool T.f_str boot_str kitT_bool kitT_str (EV.o (ev_var (i := 1) (d := a_law_due) rfl (pv 1)))))))) (bi_ret (ev_and (ev_cmp2 (op_eqA hr.units) eqD_ok (EV.o (ev_var (i := 0) (d := a_law_got) rfl (pv 0))) (EV.o (ev_var (i := 1) (d := a_law_due) rfl (pv 1))) (nomark _)) (ev_and (ev_cmp (op_eqA hr.units) eqD_ok (EV.o (ev_isi T.f_isinstance T.f_bool boot_bool kitT_bool (EV.o (ev_var (i := 0) (d := a_law_got) rfl (pv 0))))) (EV.o (ev_isi T.f_isinstance T.f_bool boot_bool kitT_bool (EV.o (ev_var (i := 1) (d := a_law_due) rfl (pv 1))))) (nomark _)) (ev_one (ev_cmp (op_eqA hr.units) eqD_ok (EV.o (ev_cmp2 op_isN isND_ok (EV.o (ev_var (i := 0) (d := a_law_got) rfl (pv 0))) (EV.o ev_non) (nomark _))) (EV.o (ev_cmp2 op_isN isND_ok (EV.o (ev_var (i := 1) (d := a_law_due) rfl (pv 1))) (EV.o ev_non) (nomark _))) (nomark _)))))) (bi_ret (ev_and (ev_isi T.f_isinstance T.f_int boot_int kitT_int (EV.o (ev_var (i := 0) (d := a_law_got) rfl (pv 0)))) (ev_and (ev_not (ev_isi T.f_isinstance T.f_bool boot_bool kitT_bool (EV.o (ev_var (i := 0) (d := a_law_got) rfl (pv 0))))) (ev_one (ev_cmp2 (op_eqA hr.units) eqD_ok (EV.o (ev_var (i := 0) (d := a_law_got) rfl (pv 0))) (EV.o (ev_var (i := 1) (d := a_law_due) rfl (pv 1))) (nomark _)))))))) rfl rfl)
theorem sc_law_sorts : FnScope ["_law_caught", "_law_kinds_so"] ["_law_caught"] (defScope (top 21)) := ⟨rfl, rfl, rfl, by decide +kernel, rfl, by decide +kernel, by decide +kernel⟩
def m_law_sorts (a_law_caught : D) : Rs D := ((Rs.of (isxD [("AllKnown", false), ("BadAnswer", false), ("BadLine", false), ("BadLink", true), ("BadText", false), ("Known", false), ("NoHouse", false), ("NoLink", false), ("NoNet", false), ("NoNumber", false), ("NoWay", false), ("NothingDone", false), ("OtherHouses", false)] (some false) a_law_caught)).bind fun x0 => (Rs.of (isxD [("AllKnown", false), ("BadAnswer", false), ("BadLine", false), ("BadLink", false), ("BadText", true), ("Known", false), ("NoHouse", false), ("NoLink", false), ("NoNet", false), ("NoNumber", false), ("NoWay", false), ("NothingDone", false), ("OtherHouses", false)] (some false) a_law_caught)).bind fun x1 => (Rs.of (isxD [("AllKnown", false), ("BadAnswer", false), ("BadLine", true), ("BadLink", false), ("BadText", false), ("Known", false), ("NoHouse", false), ("NoLink", false), ("NoNet", false), ("NoNumber", false), ("NoWay", false), ("NothingDone", false), ("OtherHouses", false)] (some false) a_law_caught)).bind fun x2 => Rs.ok (.lst [x0, x1, x2])).bind fun d3 => (((Rs.of (isxD [("AllKnown", false), ("BadAnswer", false), ("BadLine", false), ("BadLink", false), ("BadText", false), ("Known", false), ("NoHouse", true), ("NoLink", false), ("NoNet", false), ("NoNumber", false), ("NoWay", false), ("NothingDone", false), ("OtherHouses", false)] (some false) a_law_caught)).bind fun x4 => (Rs.of (isxD [("AllKnown", false), ("BadAnswer", false), ("BadLine", false), ("BadLink", false), ("BadText", false), ("Known", false), ("NoHouse", false), ("NoLink", true), ("NoNet", false), ("NoNumber", false), ("NoWay", false), ("NothingDone", false), ("OtherHouses", false)] (some false) a_law_caught)).bind fun x5 => Rs.ok (.lst [x4, x5])).bind fun x6 => Rs.of (addD d3 x6)).bind fun d7 => (((Rs.of (isxD [("AllKnown", false), ("BadAnswer", false), ("BadLine", false), ("BadLink", false), ("BadText", false), ("Known", false), ("NoHouse", false), ("NoLink", false), ("NoNet", false), ("NoNumber", false), ("NoWay", true), ("NothingDone", false), ("OtherHouses", false)] (some false) a_law_caught)).bind fun x8 => Rs.ok (.lst [x8])).bind fun x9 => Rs.of (addD d7 x9)).bind fun d10 => (((Rs.of (isxD [("AllKnown", false), ("BadAnswer", false), ("BadLine", false), ("BadLink", false), ("BadText", false), ("Known", false), ("NoHouse", false), ("NoLink", false), ("NoNet", false), ("NoNumber", false), ("NoWay", false), ("NothingDone", false), ("OtherHouses", true)] (some false) a_law_caught)).bind fun x11 => (Rs.of (isxD [("AllKnown", false), ("BadAnswer", false), ("BadLine", false), ("BadLink", false), ("BadText", false), ("Known", false), ("NoHouse", false), ("NoLink", false), ("NoNet", false), ("NoNumber", true), ("NoWay", false), ("NothingDone", false), ("OtherHouses", false)] (some false) a_law_caught)).bind fun x12 => Rs.ok (.lst [x11, x12])).bind fun x13 => Rs.of (addD d10 x13)).bind fun d14 => (((Rs.of (isxD [("AllKnown", false), ("BadAnswer", true), ("BadLine", false), ("BadLink", false), ("BadText", false), ("Known", false), ("NoHouse", false), ("NoLink", false), ("NoNet", false), ("NoNumber", false), ("NoWay", false), ("NothingDone", false), ("OtherHouses", false)] (some false) a_law_caught)).bind fun x15 => Rs.ok (.lst [x15])).bind fun x16 => Rs.of (addD d14 x16)).bind fun d17 => (((Rs.of (isxD [("AllKnown", true), ("BadAnswer", false), ("BadLine", false), ("BadLink", false), ("BadText", false), ("Known", false), ("NoHouse", false), ("NoLink", false), ("NoNet", false), ("NoNumber", false), ("NoWay", false), ("NothingDone", false), ("OtherHouses", false)] (some false) a_law_caught)).bind fun x18 => (Rs.of (isxD [("AllKnown", false), ("BadAnswer", false), ("BadLine", false), ("BadLink", false), ("BadText", false), ("Known", false), ("NoHouse", false), ("NoLink", false), ("NoNet", false), ("NoNumber", false), ("NoWay", false), ("NothingDone", true), ("OtherHouses", false)] (some false) a_law_caught)).bind fun x19 => Rs.ok (.lst [x18, x19])).bind fun x20 => Rs.of (addD d17 x20)).bind fun d21 => (((Rs.of (isxD [("AllKnown", false), ("BadAnswer", false), ("BadLine", false), ("BadLink", false), ("BadText", false), ("Known", true), ("NoHouse", false), ("NoLink", false), ("NoNet", false), ("NoNumber", false), ("NoWay", false), ("NothingDone", false), ("OtherHouses", false)] (some false) a_law_caught)).bind fun x22 => Rs.ok (.lst [x22])).bind fun x23 => Rs.of (addD d21 x23)).bind fun d24 => ((Rs.of (isxD [("AllKnown", false), ("BadAnswer", false), ("BadLine", false), ("BadLink", false), ("BadText", false), ("Known", false), ("NoHouse", false), ("NoLink", false), ("NoNet", true), ("NoNumber", false), ("NoWay", false), ("NothingDone", false), ("OtherHouses", false)] (some false) a_law_caught)).bind fun x25 => Rs.ok (.lst [x25])).bind fun x26 => Rs.of (addD d24 x26)
theorem k_law_sorts (T : Txt K mg) : Keeps P w K mg base 2 (He.ga K "_law_sorts") T.fd_law_sorts ["_law_caught"] (fun ds => match ds with | [a_law_caught] => m_law_sorts a_law_caught | _ => Rs.no) :=
  keeps_ret T.F_law_sorts sc_law_sorts (fun cdv A outer s H E F ds hl hr => match ds, hl with | [a_law_caught], _ => bi_as [some (.val a_law_caught), none] (bi_set (as_ev (i := 1) sc_law_sorts.nd (ev_lstC (ac_cons (ev_isx (tab := [("AllKnown", false), ("BadAnswer", false), ("BadLine", false), ("BadLink", true), ("BadText", false), ("Known", false), ("NoHouse", false), ("NoLink", false), ("NoNet", false), ("NoNumber", false), ("NoWay", false), ("NothingDone", false), ("OtherHouses", false)]) (nb := some false) (ClsV.own _) (pe_glob rfl T.g_BadLink rfl) T.f_isinstance (all_cons ⟨T.xi_AllKnown, T.kt_AllKnown_BadLink⟩ (all_cons ⟨T.xi_BadAnswer, T.kt_BadAnswer_BadLink⟩ (all_cons ⟨T.xi_BadLine, T.kt_BadLine_BadLink⟩ (all_cons ⟨T.xi_BadLink, T.kt_BadLink_BadLink⟩ (all_cons ⟨T.xi_BadText, T.kt_BadText_BadLink⟩ (all_cons ⟨T.xi_Known, T.kt_Known_BadLink⟩ (all_cons ⟨T.xi_NoHouse, T.kt_NoHouse_BadLink⟩ (all_cons ⟨T.xi_NoLink, T.kt_NoLink_BadLink⟩ (all_cons ⟨T.xi_NoNet, T.kt_NoNet_BadLink⟩ (all_cons ⟨T.xi_NoNumber, T.kt_NoNumber_BadLink⟩ (all_cons ⟨T.xi_NoWay, T.kt_NoWay_BadLink⟩ (all_cons ⟨T.xi_NothingDone, T.kt_NothingDone_BadLink⟩ (all_cons ⟨T.xi_OtherHouses, T.kt_OtherHouses_BadLink⟩ all_nil))))))))))))) (fun b h => Option.some.inj h ▸ T.kn_BadLink) (ev_var (i := 0) (d := a_law_caught) rfl (pv 0))) (ac_cons (ev_isx (tab := [("AllKnown", false), ("BadAnswer", false), ("BadLine", false), ("BadLink", false), ("BadText", true), ("Known", false), ("NoHouse", false), ("NoLink", false), ("NoNet", false), ("NoNumber", false), ("NoWay", false), ("NothingDone", false), ("OtherHouses", false)]) (nb := some false) (ClsV.own _) (pe_glob rfl T.g_BadText rfl) T.f_isinstance (all_cons ⟨T.xi_AllKnown, T.kt_AllKnown_BadText⟩ (all_cons ⟨T.xi_BadAnswer, T.kt_BadAnswer_BadText⟩ (all_cons ⟨T.xi_BadLine, T.kt_BadLine_BadText⟩ (all_cons ⟨T.xi_BadLink, T.kt_BadLink_BadText⟩ (all_cons ⟨T.xi_BadText, T.kt_BadText_BadText⟩ (all_cons ⟨T.xi_Known, T.kt_Known_BadText⟩ (all_cons ⟨T.xi_NoHouse, T.kt_NoHouse_BadText⟩ (all_cons ⟨T.xi_NoLink, T.kt_NoLink_BadText⟩ (all_cons ⟨T.xi_NoNet, T.kt_NoNet_BadText⟩ (all_cons ⟨T.xi_NoNumber, T.kt_NoNumber_BadText⟩ (all_cons ⟨T.xi_NoWay, T.kt_NoWay_BadText⟩ (all_cons ⟨T.xi_NothingDone, T.kt_NothingDone_BadText⟩ (all_cons ⟨T.xi_OtherHouses, T.kt_OtherHouses_BadText⟩ all_nil))))))))))))) (fun b h => Option.some.inj h ▸ T.kn_BadText) (ev_var (i := 0) (d := a_law_caught) rfl (pv 0))) (ac_cons (ev_isx (tab := [("AllKnown", false), ("BadAnswer", false), ("BadLine", true), ("BadLink", false), ("BadText", false), ("Known", false), ("NoHouse", false), ("NoLink", false), ("NoNet", false), ("NoNumber", false), ("NoWay", false), ("NothingDone", false), ("OtherHouses", false)]) (nb := some false) (ClsV.own _) (pe_glob rfl T.g_BadLine rfl) T.f_isinstance (all_cons ⟨T.xi_AllKnown, T.kt_AllKnown_BadLine⟩ (all_cons ⟨T.xi_BadAnswer, T.kt_BadAnswer_BadLine⟩ (all_cons ⟨T.xi_BadLine, T.kt_BadLine_BadLine⟩ (all_cons ⟨T.xi_BadLink, T.kt_BadLink_BadLine⟩ (all_cons ⟨T.xi_BadText, T.kt_BadText_BadLine⟩ (all_cons ⟨T.xi_Known, T.kt_Known_BadLine⟩ (all_cons ⟨T.xi_NoHouse, T.kt_NoHouse_BadLine⟩ (all_cons ⟨T.xi_NoLink, T.kt_NoLink_BadLine⟩ (all_cons ⟨T.xi_NoNet, T.kt_NoNet_BadLine⟩ (all_cons ⟨T.xi_NoNumber, T.kt_NoNumber_BadLine⟩ (all_cons ⟨T.xi_NoWay, T.kt_NoWay_BadLine⟩ (all_cons ⟨T.xi_NothingDone, T.kt_NothingDone_BadLine⟩ (all_cons ⟨T.xi_OtherHouses, T.kt_OtherHouses_BadLine⟩ all_nil))))))))))))) (fun b h => Option.some.inj h ▸ T.kn_BadLine) (ev_var (i := 0) (d := a_law_caught) rfl (pv 0))) ac_nil))))) (fun d3 => (bi_set (as_ev (i := 1) sc_law_sorts.nd (ev_binL op_addD addD_ok (EV.o (ev_var (i := 1) (d := d3) rfl (pv 1))) (EV.o (ev_lstC (ac_cons (ev_isx (tab := [("AllKnown", false), ("BadAnswer", false), ("BadLine", false), ("BadLink", false), ("BadText", false), ("Known", false), ("NoHouse", true), ("NoLink", false), ("NoNet", false), ("NoNumber", false), ("NoWay", false), ("NothingDone", false), ("OtherHouses", false)]) (nb := some false) (ClsV.own _) (pe_glob rfl T.g_NoHouse rfl) T.f_isinstance (all_cons ⟨T.xi_AllKnown, T.kt_AllKnown_NoHouse⟩ (all_cons ⟨T.xi_BadAnswer, T.kt_BadAnswer_NoHouse⟩ (all_cons ⟨T.xi_BadLine, T.kt_BadLine_NoHouse⟩ (all_cons ⟨T.xi_BadLink, T.kt_BadLink_NoHouse⟩ (all_cons ⟨T.xi_BadText, T.kt_BadText_NoHouse⟩ (all_cons ⟨T.xi_Known, T.kt_Known_NoHouse⟩ (all_cons ⟨T.xi_NoHouse, T.kt_NoHouse_NoHouse⟩ (all_cons ⟨T.xi_NoLink, T.kt_NoLink_NoHouse⟩ (all_cons ⟨T.xi_NoNet, T.kt_NoNet_NoHouse⟩ (all_cons ⟨T.xi_NoNumber, T.kt_NoNumber_NoHouse⟩ (all_cons ⟨T.xi_NoWay, T.kt_NoWay_NoHouse⟩ (all_cons ⟨T.xi_NothingDone, T.kt_NothingDone_NoHouse⟩ (all_cons ⟨T.xi_OtherHouses, T.kt_OtherHouses_NoHouse⟩ all_nil))))))))))))) (fun b h => Option.some.inj h ▸ T.kn_NoHouse) (ev_var (i := 0) (d := a_law_caught) rfl (pv 0))) (ac_cons (ev_isx (tab := [("AllKnown", false), ("BadAnswer", false), ("BadLine", false), ("BadLink", false), ("BadText", false), ("Known", false), ("NoHouse", false), ("NoLink", true), ("NoNet", false), ("NoNumber", false), ("NoWay", false), ("NothingDone", false), ("OtherHouses", false)]) (nb := some false) (ClsV.own _) (pe_glob rfl T.g_NoLink rfl) T.f_isinstance (all_cons ⟨T.xi_AllKnown, T.kt_AllKnown_NoLink⟩ (all_cons ⟨T.xi_BadAnswer, T.kt_BadAnswer_NoLink⟩ (all_cons ⟨T.xi_BadLine, T.kt_BadLine_NoLink⟩ (all_cons ⟨T.xi_BadLink, T.kt_BadLink_NoLink⟩ (all_cons ⟨T.xi_BadText, T.kt_BadText_NoLink⟩ (all_cons ⟨T.xi_Known, T.kt_Known_NoLink⟩ (all_cons ⟨T.xi_NoHouse, T.kt_NoHouse_NoLink⟩ (all_cons ⟨T.xi_NoLink, T.kt_NoLink_NoLink⟩ (all_cons ⟨T.xi_NoNet, T.kt_NoNet_NoLink⟩ (all_cons ⟨T.xi_NoNumber, T.kt_NoNumber_NoLink⟩ (all_cons ⟨T.xi_NoWay, T.kt_NoWay_NoLink⟩ (all_cons ⟨T.xi_NothingDone, T.kt_NothingDone_NoLink⟩ (all_cons ⟨T.xi_OtherHouses, T.kt_OtherHouses_NoLink⟩ all_nil))))))))))))) (fun b h => Option.some.inj h ▸ T.kn_NoLink) (ev_var (i := 0) (d := a_law_caught) rfl (pv 0))) ac_nil)))))) (fun d7 => (bi_set (as_ev (i := 1) sc_law_sorts.nd (ev_binL op_addD addD_ok (EV.o (ev_var (i := 1) (d := d7) rfl (pv 1))) (EV.o (ev_lstC (ac_cons (ev_isx (tab := [("AllKnown", false), ("BadAnswer", false), ("BadLine", false), ("BadLink", false), ("BadText", false), ("Known", false), ("NoHouse", false), ("NoLink", false), ("NoNet", false), ("NoNumber", false), ("NoWay", true), ("NothingDone", false), ("OtherHouses", false)]) (nb := some false) (ClsV.own _) (pe_glob rfl T.g_NoWay rfl) T.f_isinstance (all_cons ⟨T.xi_AllKnown, T.kt_AllKnown_NoWay⟩ (all_cons ⟨T.xi_BadAnswer, T.kt_BadAnswer_NoWay⟩ (all_cons ⟨T.xi_BadLine, T.kt_BadLine_NoWay⟩ (all_cons ⟨T.xi_BadLink, T.kt_BadLink_NoWay⟩ (all_cons ⟨T.xi_BadText, T.kt_BadText_NoWay⟩ (all_cons ⟨T.xi_Known, T.kt_Known_NoWay⟩ (all_cons ⟨T.xi_NoHouse, T.kt_NoHouse_NoWay⟩ (all_cons ⟨T.xi_NoLink, T.kt_NoLink_NoWay⟩ (all_cons ⟨T.xi_NoNet, T.kt_NoNet_NoWay⟩ (all_cons ⟨T.xi_NoNumber, T.kt_NoNumber_NoWay⟩ (all_cons ⟨T.xi_NoWay, T.kt_NoWay_NoWay⟩ (all_cons ⟨T.xi_NothingDone, T.kt_NothingDone_NoWay⟩ (all_cons ⟨T.xi_OtherHouses, T.kt_OtherHouses_NoWay⟩ all_nil))))))))))))) (fun b h => Option.some.inj h ▸ T.kn_NoWay) (ev_var (i := 0) (d := a_law_caught) rfl (pv 0))) ac_nil))))) (fun d10 => (bi_set (as_ev (i := 1) sc_law_sorts.nd (ev_binL op_addD addD_ok (EV.o (ev_var (i := 1) (d := d10) rfl (pv 1))) (EV.o (ev_lstC (ac_cons (ev_isx (tab := [("AllKnown", false), ("BadAnswer", false), ("BadLine", false), ("BadLink", false), ("BadText", false), ("Known", false), ("NoHouse", false), ("NoLink", false), ("NoNet", false), ("NoNumber", false), ("NoWay", false), ("NothingDone", false), ("OtherHouses", true)]) (nb := some false) (ClsV.own _) (pe_glob rfl T.g_OtherHouses rfl) T.f_isinstance (all_cons ⟨T.xi_AllKnown, T.kt_AllKnown_OtherHouses⟩ (all_cons ⟨T.xi_BadAnswer, T.kt_BadAnswer_OtherHouses⟩ (all_cons ⟨T.xi_BadLine, T.kt_BadLine_OtherHouses⟩ (all_cons ⟨T.xi_BadLink, T.kt_BadLink_OtherHouses⟩ (all_cons ⟨T.xi_BadText, T.kt_BadText_OtherHouses⟩ (all_cons ⟨T.xi_Known, T.kt_Known_OtherHouses⟩ (all_cons ⟨T.xi_NoHouse, T.kt_NoHouse_OtherHouses⟩ (all_cons ⟨T.xi_NoLink, T.kt_NoLink_OtherHouses⟩ (all_cons ⟨T.xi_NoNet, T.kt_NoNet_OtherHouses⟩ (all_cons ⟨T.xi_NoNumber, T.kt_NoNumber_OtherHouses⟩ (all_cons ⟨T.xi_NoWay, T.kt_NoWay_OtherHouses⟩ (all_cons ⟨T.xi_NothingDone, T.kt_NothingDone_OtherHouses⟩ (all_cons ⟨T.xi_OtherHouses, T.kt_OtherHouses_OtherHouses⟩ all_nil))))))))))))) (fun b h => Option.some.inj h ▸ T.kn_OtherHouses) (ev_var (i := 0) (d := a_law_caught) rfl (pv 0))) (ac_cons (ev_isx (tab := [("AllKnown", false), ("BadAnswer", false), ("BadLine", false), ("BadLink", false), ("BadText", false), ("Known", false), ("NoHouse", false), ("NoLink", false), ("NoNet", false), ("NoNumber", true), ("NoWay", false), ("NothingDone", false), ("OtherHouses", false)]) (nb := some false) (ClsV.own _) (pe_glob rfl T.g_NoNumber rfl) T.f_isinstance (all_cons ⟨T.xi_AllKnown, T.kt_AllKnown_NoNumber⟩ (all_cons ⟨T.xi_BadAnswer, T.kt_BadAnswer_NoNumber⟩ (all_cons ⟨T.xi_BadLine, T.kt_BadLine_NoNumber⟩ (all_cons ⟨T.xi_BadLink, T.kt_BadLink_NoNumber⟩ (all_cons ⟨T.xi_BadText, T.kt_BadText_NoNumber⟩ (all_cons ⟨T.xi_Known, T.kt_Known_NoNumber⟩ (all_cons ⟨T.xi_NoHouse, T.kt_NoHouse_NoNumber⟩ (all_cons ⟨T.xi_NoLink, T.kt_NoLink_NoNumber⟩ (all_cons ⟨T.xi_NoNet, T.kt_NoNet_NoNumber⟩ (all_cons ⟨T.xi_NoNumber, T.kt_NoNumber_NoNumber⟩ (all_cons ⟨T.xi_NoWay, T.kt_NoWay_NoNumber⟩ (all_cons ⟨T.xi_NothingDone, T.kt_NothingDone_NoNumber⟩ (all_cons ⟨T.xi_OtherHouses, T.kt_OtherHouses_NoNumber⟩ all_nil))))))))))))) (fun b h => Option.some.inj h ▸ T.kn_NoNumber) (ev_var (i := 0) (d := a_law_caught) rfl (pv 0))) ac_nil)))))) (fun d14 => (bi_set (as_ev (i := 1) sc_law_sorts.nd (ev_binL op_addD addD_ok (EV.o (ev_var (i := 1) (d := d14) rfl (pv 1))) (EV.o (ev_lstC (ac_cons (ev_isx (tab := [("AllKnown", false), ("BadAnswer", true), ("BadLine", false), ("BadLink", false), ("BadText", false), ("Known", false), ("NoHouse", false), ("NoLink", false), ("NoNet", false), ("NoNumber", false), ("NoWay", false), ("NothingDone", false), ("OtherHouses", false)]) (nb := some false) (ClsV.own _) (pe_glob rfl T.g_BadAnswer rfl) T.f_isinstance (all_cons ⟨T.xi_AllKnown, T.kt_AllKnown_BadAnswer⟩ (all_cons ⟨T.xi_BadAnswer, T.kt_BadAnswer_BadAnswer⟩ (all_cons ⟨T.xi_BadLine, T.kt_BadLine_BadAnswer⟩ (all_cons ⟨T.xi_BadLink, T.kt_BadLink_BadAnswer⟩ (all_cons ⟨T.xi_BadText, T.kt_BadText_BadAnswer⟩ (all_cons ⟨T.xi_Known, T.kt_Known_BadAnswer⟩ (all_cons ⟨T.xi_NoHouse, T.kt_NoHouse_BadAnswer⟩ (all_cons ⟨T.xi_NoLink, T.kt_NoLink_BadAnswer⟩ (all_cons ⟨T.xi_NoNet, T.kt_NoNet_BadAnswer⟩ (all_cons ⟨T.xi_NoNumber, T.kt_NoNumber_BadAnswer⟩ (all_cons ⟨T.xi_NoWay, T.kt_NoWay_BadAnswer⟩ (all_cons ⟨T.xi_NothingDone, T.kt_NothingDone_BadAnswer⟩ (all_cons ⟨T.xi_OtherHouses, T.kt_OtherHouses_BadAnswer⟩ all_nil))))))))))))) (fun b h => Option.some.inj h ▸ T.kn_BadAnswer) (ev_var (i := 0) (d := a_law_caught) rfl (pv 0))) ac_nil))))) (fun d17 => (bi_set (as_ev (i := 1) sc_law_sorts.nd (ev_binL op_addD addD_ok (EV.o (ev_var (i := 1) (d := d17) rfl (pv 1))) (EV.o (ev_lstC (ac_cons (ev_isx (tab := [("AllKnown", true), ("BadAnswer", false), ("BadLine", false), ("BadLink", false), ("BadText", false), ("Known", false), ("NoHouse", false), ("NoLink", false), ("NoNet", false), ("NoNumber", false), ("NoWay", false), ("NothingDone", false), ("OtherHouses", false)]) (nb := some false) (ClsV.own _) (pe_glob rfl T.g_AllKnown rfl) T.f_isinstance (all_cons ⟨T.xi_AllKnown, T.kt_AllKnown_AllKnown⟩ (all_cons ⟨T.xi_BadAnswer, T.kt_BadAnswer_AllKnown⟩ (all_cons ⟨T.xi_BadLine, T.kt_BadLine_AllKnown⟩ (all_cons ⟨T.xi_BadLink, T.kt_BadLink_AllKnown⟩ (all_cons ⟨T.xi_BadText, T.kt_BadText_AllKnown⟩ (all_cons ⟨T.xi_Known, T.kt_Known_AllKnown⟩ (all_cons ⟨T.xi_NoHouse, T.kt_NoHouse_AllKnown⟩ (all_cons ⟨T.xi_NoLink, T.kt_NoLink_AllKnown⟩ (all_cons ⟨T.xi_NoNet, T.kt_NoNet_AllKnown⟩ (all_cons ⟨T.xi_NoNumber, T.kt_NoNumber_AllKnown⟩ (all_cons ⟨T.xi_NoWay, T.kt_NoWay_AllKnown⟩ (all_cons ⟨T.xi_NothingDone, T.kt_NothingDone_AllKnown⟩ (all_cons ⟨T.xi_OtherHouses, T.kt_OtherHouses_AllKnown⟩ all_nil))))))))))))) (fun b h => Option.some.inj h ▸ T.kn_AllKnown) (ev_var (i := 0) (d := a_law_caught) rfl (pv 0))) (ac_cons (ev_isx (tab := [("AllKnown", false), ("BadAnswer", false), ("BadLine", false), ("BadLink", false), ("BadText", false), ("Known", false), ("NoHouse", false), ("NoLink", false), ("NoNet", false), ("NoNumber", false), ("NoWay", false), ("NothingDone", true), ("OtherHouses", false)]) (nb := some false) (ClsV.own _) (pe_glob rfl T.g_NothingDone rfl) T.f_isinstance (all_cons ⟨T.xi_AllKnown, T.kt_AllKnown_NothingDone⟩ (all_cons ⟨T.xi_BadAnswer, T.kt_BadAnswer_NothingDone⟩ (all_cons ⟨T.xi_BadLine, T.kt_BadLine_NothingDone⟩ (all_cons ⟨T.xi_BadLink, T.kt_BadLink_NothingDone⟩ (all_cons ⟨T.xi_BadText, T.kt_BadText_NothingDone⟩ (all_cons ⟨T.xi_Known, T.kt_Known_NothingDone⟩ (all_cons ⟨T.xi_NoHouse, T.kt_NoHouse_NothingDone⟩ (all_cons ⟨T.xi_NoLink, T.kt_NoLink_NothingDone⟩ (all_cons ⟨T.xi_NoNet, T.kt_NoNet_NothingDone⟩ (all_cons ⟨T.xi_NoNumber, T.kt_NoNumber_NothingDone⟩ (all_cons ⟨T.xi_NoWay, T.kt_NoWay_NothingDone⟩ (all_cons ⟨T.xi_NothingDone, T.kt_NothingDone_NothingDone⟩ (all_cons ⟨T.xi_OtherHouses, T.kt_OtherHouses_NothingDone⟩ all_nil))))))))))))) (fun b h => Option.some.inj h ▸ T.kn_NothingDone) (ev_var (i := 0) (d := a_law_caught) rfl (pv 0))) ac_nil)))))) (fun d21 => (bi_set (as_ev (i := 1) sc_law_sorts.nd (ev_binL op_addD addD_ok (EV.o (ev_var (i := 1) (d := d21) rfl (pv 1))) (EV.o (ev_lstC (ac_cons (ev_isx (tab := [("AllKnown", false), ("BadAnswer", false), ("BadLine", false), ("BadLink", false), ("BadText", false), ("Known", true), ("NoHouse", false), ("NoLink", false), ("NoNet", false), ("NoNumber", false), ("NoWay", false), ("NothingDone", false), ("OtherHouses", false)]) (nb := some false) (ClsV.own _) (pe_glob rfl T.g_Known rfl) T.f_isinstance (all_cons ⟨T.xi_AllKnown, T.kt_AllKnown_Known⟩ (all_cons ⟨T.xi_BadAnswer, T.kt_BadAnswer_Known⟩ (all_cons ⟨T.xi_BadLine, T.kt_BadLine_Known⟩ (all_cons ⟨T.xi_BadLink, T.kt_BadLink_Known⟩ (all_cons ⟨T.xi_BadText, T.kt_BadText_Known⟩ (all_cons ⟨T.xi_Known, T.kt_Known_Known⟩ (all_cons ⟨T.xi_NoHouse, T.kt_NoHouse_Known⟩ (all_cons ⟨T.xi_NoLink, T.kt_NoLink_Known⟩ (all_cons ⟨T.xi_NoNet, T.kt_NoNet_Known⟩ (all_cons ⟨T.xi_NoNumber, T.kt_NoNumber_Known⟩ (all_cons ⟨T.xi_NoWay, T.kt_NoWay_Known⟩ (all_cons ⟨T.xi_NothingDone, T.kt_NothingDone_Known⟩ (all_cons ⟨T.xi_OtherHouses, T.kt_OtherHouses_Known⟩ all_nil))))))))))))) (fun b h => Option.some.inj h ▸ T.kn_Known) (ev_var (i := 0) (d := a_law_caught) rfl (pv 0))) ac_nil))))) (fun d24 => (bi_ret (ev_binL op_addD addD_ok (EV.o (ev_var (i := 1) (d := d24) rfl (pv 1))) (EV.o (ev_lstC (ac_cons (ev_isx (tab := [("AllKnown", false), ("BadAnswer", false), ("BadLine", false), ("BadLink", false), ("BadText", false), ("Known", false), ("NoHouse", false), ("NoLink", false), ("NoNet", true), ("NoNumber", false), ("NoWay", false), ("NothingDone", false), ("OtherHouses", false)]) (nb := some false) (ClsV.own _) (pe_glob rfl T.g_NoNet rfl) T.f_isinstance (all_cons ⟨T.xi_AllKnown, T.kt_AllKnown_NoNet⟩ (all_cons ⟨T.xi_BadAnswer, T.kt_BadAnswer_NoNet⟩ (all_cons ⟨T.xi_BadLine, T.kt_BadLine_NoNet⟩ (all_cons ⟨T.xi_BadLink, T.kt_BadLink_NoNet⟩ (all_cons ⟨T.xi_BadText, T.kt_BadText_NoNet⟩ (all_cons ⟨T.xi_Known, T.kt_Known_NoNet⟩ (all_cons ⟨T.xi_NoHouse, T.kt_NoHouse_NoNet⟩ (all_cons ⟨T.xi_NoLink, T.kt_NoLink_NoNet⟩ (all_cons ⟨T.xi_NoNet, T.kt_NoNet_NoNet⟩ (all_cons ⟨T.xi_NoNumber, T.kt_NoNumber_NoNet⟩ (all_cons ⟨T.xi_NoWay, T.kt_NoWay_NoNet⟩ (all_cons ⟨T.xi_NothingDone, T.kt_NothingDone_NoNet⟩ (all_cons ⟨T.xi_OtherHouses, T.kt_OtherHouses_NoNet⟩ all_nil))))))))))))) (fun b h => Option.some.inj h ▸ T.kn_NoNet) (ev_var (i := 0) (d := a_law_caught) rfl (pv 0))) ac_nil))))))))))))))))))) rfl rfl)
theorem sc_AllKnown_init : FnScope ["self"] ["self"] (defScope (sub (top 11) 0)) := ⟨rfl, rfl, rfl, by decide +kernel, rfl, by decide +kernel, by decide +kernel⟩
theorem k_AllKnown_init (T : Txt K mg) : FnOk P w K mg base (L2.CX P w) 1 (He.ma K (He.ga K "AllKnown") "__init__") T.fd_AllKnown_init ["self"] (spX0 K "AllKnown" "given") := keeps_xinit0 (k := 0) T.F_AllKnown_init sc_AllKnown_init rfl (by first | exact Or.inl rfl | exact Or.inr rfl) (by decide) (by decide) T.ox_AllKnown T.no_AllKnown
theorem sc_BadAnswer_init : FnScope ["self", "answer"] ["self", "answer"] (defScope (sub (top 10) 0)) := ⟨rfl, rfl, rfl, by decide +kernel, rfl, by decide +kernel, by decide +kernel⟩
theorem k_BadAnswer_init (T : Txt K mg) : FnOk P w K mg base (L2.CX P w) 1 (He.ma K (He.ga K "BadAnswer") "__init__") T.fd_BadAnswer_init ["self", "answer"] (spX K "BadAnswer" "answer") := keeps_xinit (k := 0) T.F_BadAnswer_init sc_BadAnswer_init rfl (by first | exact Or.inl rfl | exact Or.inr rfl) (by first | exact Or.inl rfl | exact Or.inr rfl) (by decide) (by decide) (by decide) (by decide) T.ox_BadAnswer T.no_BadAnswer
theorem sc_BadLine_init : FnScope ["self", "number"] ["self", "number"] (defScope (sub (top 4) 0)) := ⟨rfl, rfl, rfl, by decide +kernel, rfl, by decide +kernel, by decide +kernel⟩
theorem k_BadLine_init (T : Txt K mg) : FnOk P w K mg base (L2.CX P w) 1 (He.ma K (He.ga K "BadLine") "__init__") T.fd_BadLine_init ["self", "number"] (spX K "BadLine" "number") := keeps_xinit (k := 0) T.F_BadLine_init sc_BadLine_init rfl (by first | exact Or.inl rfl | exact Or.inr rfl) (by first | exact Or.inl rfl | exact Or.inr rfl) (by decide) (by decide) (by decide) (by decide) T.ox_BadLine T.no_BadLine
theorem sc_BadLink_init : FnScope ["self", "place"] ["self", "place"] (defScope (sub (top 2) 0)) := ⟨rfl, rfl, rfl, by decide +kernel, rfl, by decide +kernel, by decide +kernel⟩
theorem k_BadLink_init (T : Txt K mg) : FnOk P w K mg base (L2.CX P w) 1 (He.ma K (He.ga K "BadLink") "__init__") T.fd_BadLink_init ["self", "place"] (spX K "BadLink" "place") := keeps_xinit (k := 0) T.F_BadLink_init sc_BadLink_init rfl (by first | exact Or.inl rfl | exact Or.inr rfl) (by first | exact Or.inl rfl | exact Or.inr rfl) (by decide) (by decide) (by decide) (by decide) T.ox_BadLink T.no_BadLink
theorem sc_BadText_init : FnScope ["self", "piece"] ["self", "piece"] (defScope (sub (top 3) 0)) := ⟨rfl, rfl, rfl, by decide +kernel, rfl, by decide +kernel, by decide +kernel⟩
theorem k_BadText_init (T : Txt K mg) : FnOk P w K mg base (L2.CX P w) 1 (He.ma K (He.ga K "BadText") "__init__") T.fd_BadText_init ["self", "piece"] (spX K "BadText" "piece") := keeps_xinit (k := 0) T.F_BadText_init sc_BadText_init rfl (by first | exact Or.inl rfl | exact Or.inr rfl) (by first | exact Or.inl rfl | exact Or.inr rfl) (by decide) (by decide) (by decide) (by decide) T.ox_BadText T.no_BadText
theorem sc_Known_init : FnScope ["self", "name"] ["self", "name"] (defScope (sub (top 13) 0)) := ⟨rfl, rfl, rfl, by decide +kernel, rfl, by decide +kernel, by decide +kernel⟩
theorem k_Known_init (T : Txt K mg) : FnOk P w K mg base (L2.CX P w) 1 (He.ma K (He.ga K "Known") "__init__") T.fd_Known_init ["self", "name"] (spX K "Known" "name") := keeps_xinit (k := 0) T.F_Known_init sc_Known_init rfl (by first | exact Or.inl rfl | exact Or.inr rfl) (by first | exact Or.inl rfl | exact Or.inr rfl) (by decide) (by decide) (by decide) (by decide) T.ox_Known T.no_Known
theorem sc_NoHouse_init : FnScope ["self", "name"] ["self", "name"] (defScope (sub (top 5) 0)) := ⟨rfl, rfl, rfl, by decide +kernel, rfl, by decide +kernel, by decide +kernel⟩
theorem k_NoHouse_init (T : Txt K mg) : FnOk P w K mg base (L2.CX P w) 1 (He.ma K (He.ga K "NoHouse") "__init__") T.fd_NoHouse_init ["self", "name"] (spX K "NoHouse" "name") := keeps_xinit (k := 0) T.F_NoHouse_init sc_NoHouse_init rfl (by first | exact Or.inl rfl | exact Or.inr rfl) (by first | exact Or.inl rfl | exact Or.inr rfl) (by decide) (by decide) (by decide) (by decide) T.ox_NoHouse T.no_NoHouse
theorem sc_NoLink_init : FnScope ["self", "name"] ["self", "name"] (defScope (sub (top 6) 0)) := ⟨rfl, rfl, rfl, by decide +kernel, rfl, by decide +kernel, by decide +kernel⟩
theorem k_NoLink_init (T : Txt K mg) : FnOk P w K mg base (L2.CX P w) 1 (He.ma K (He.ga K "NoLink") "__init__") T.fd_NoLink_init ["self", "name"] (spX K "NoLink" "name") := keeps_xinit (k := 0) T.F_NoLink_init sc_NoLink_init rfl (by first | exact Or.inl rfl | exact Or.inr rfl) (by first | exact Or.inl rfl | exact Or.inr rfl) (by decide) (by decide) (by decide) (by decide) T.ox_NoLink T.no_NoLink
theorem sc_NoNet_init : FnScope ["self", "name"] ["self", "name"] (defScope (sub (top 14) 0)) := ⟨rfl, rfl, rfl, by decide +kernel, rfl, by decide +kernel, by decide +kernel⟩
theorem k_NoNet_init (T : Txt K mg) : FnOk P w K mg base (L2.CX P w) 1 (He.ma K (He.ga K "NoNet") "__init__") T.fd_NoNet_init ["self", "name"] (spX K "NoNet" "name") := keeps_xinit (k := 0) T.F_NoNet_init sc_NoNet_init rfl (by first | exact Or.inl rfl | exact Or.inr rfl) (by first | exact Or.inl rfl | exact Or.inr rfl) (by decide) (by decide) (by decide) (by decide) T.ox_NoNet T.no_NoNet
theorem sc_NoNumber_init : FnScope ["self", "number"] ["self", "number"] (defScope (sub (top 9) 0)) := ⟨rfl, rfl, rfl, by decide +kernel, rfl, by decide +kernel, by decide +kernel⟩
theorem k_NoNumber_init (T : Txt K mg) : FnOk P w K mg base (L2.CX P w) 1 (He.ma K (He.ga K "NoNumber") "__init__") T.fd_NoNumber_init ["self", "number"] (spX K "NoNumber" "number") := keeps_xinit (k := 0) T.F_NoNumber_init sc_NoNumber_init rfl (by first | exact Or.inl rfl | exact Or.inr rfl) (by first | exact Or.inl rfl | exact Or.inr rfl) (by decide) (by decide) (by decide) (by decide) T.ox_NoNumber T.no_NoNumber
theorem sc_NoWay_init : FnScope ["self", "some"] ["self", "some"] (defScope (sub (top 7) 0)) := ⟨rfl, rfl, rfl, by decide +kernel, rfl, by decide +kernel, by decide +kernel⟩
theorem k_NoWay_init (T : Txt K mg) : FnOk P w K mg base (L2.CX P w) 1 (He.ma K (He.ga K "NoWay") "__init__") T.fd_NoWay_init ["self", "some"] (spX K "NoWay" "some") := keeps_xinit (k := 0) T.F_NoWay_init sc_NoWay_init rfl (by first | exact Or.inl rfl | exact Or.inr rfl) (by first | exact Or.inl rfl | exact Or.inr rfl) (by decide) (by decide) (by decide) (by decide) T.ox_NoWay T.no_NoWay
theorem sc_NothingDone_init : FnScope ["self"] ["self"] (defScope (sub (top 12) 0)) := ⟨rfl, rfl, rfl, by decide +kernel, rfl, by decide +kernel, by decide +kernel⟩
theorem k_NothingDone_init (T : Txt K mg) : FnOk P w K mg base (L2.CX P w) 1 (He.ma K (He.ga K "NothingDone") "__init__") T.fd_NothingDone_init ["self"] (spX0 K "NothingDone" "given") := keeps_xinit0 (k := 0) T.F_NothingDone_init sc_NothingDone_init rfl (by first | exact Or.inl rfl | exact Or.inr rfl) (by decide) (by decide) T.ox_NothingDone T.no_NothingDone
theorem sc_OtherHouses_init : FnScope ["self"] ["self"] (defScope (sub (top 8) 0)) := ⟨rfl, rfl, rfl, by decide +kernel, rfl, by decide +kernel, by decide +kernel⟩
theorem k_OtherHouses_init (T : Txt K mg) : FnOk P w K mg base (L2.CX P w) 1 (He.ma K (He.ga K "OtherHouses") "__init__") T.fd_OtherHouses_init ["self"] (spX0 K "OtherHouses" "given") := keeps_xinit0 (k := 0) T.F_OtherHouses_init sc_OtherHouses_init rfl (by first | exact Or.inl rfl | exact Or.inr rfl) (by decide) (by decide) T.ox_OtherHouses T.no_OtherHouses
theorem sc_law_right : FnScope ["_law_box_here", "_law_far", "_law_tag", "_law_every_so", "_law_k", "_law_own", "_law_j", "_law_got", "_law_due"] ["_law_box_here"] (defScope (top 22)) := ⟨rfl, rfl, rfl, by decide +kernel, rfl, by decide +kernel, by decide +kernel⟩
def m_law_right (a_law_box_here : List D) : Rs (D × List D) := (((((Rs.of (powD (.int 10) (.int 9))).bind fun d => Rs.ok (d, a_law_box_here))).bind fun u2 => m_law_take u2.2 u2.1).bind fun u9 => ((((Rs.of (powD (.int 10) (.int 8))).bind fun x7 => Rs.of (mulD (.int 5) x7)).bind fun d => Rs.ok (d, u9.2))).bind fun u8 => (Rs.of (subD u9.1 u8.1)).bind fun d => Rs.ok (d, u8.2)).noX.bind fun u11 => (((Rs.ok ((.lst [(.str "a"), (.str "ants"), (.str "abcdefgh"), (.str "zz")]), u11.2))).bind fun u18 => m_law_of u18.2 u18.1).noX.bind fun w12 => ((Rs.ok (.lst [(.exn "BadLink" [("place", u11.1)]), (.exn "BadText" [("piece", u11.1)]), (.exn "BadLine" [("number", u11.1)]), (.exn "NoHouse" [("name", w12.1)])]))).bind fun d19 => (Rs.of (addD d19 (.lst [(.exn "NoLink" [("name", w12.1)]), (.exn "NoWay" [("some", (.tup [w12.1]))]), (.exn "OtherHouses" [("given", (.tup []))])]))).bind fun d20 => (Rs.of (addD d20 (.lst [(.exn "NoNumber" [("number", u11.1)]), (.exn "BadAnswer" [("answer", u11.1)]), (.exn "AllKnown" [("given", (.tup []))]), (.exn "NothingDone" [("given", (.tup []))]), (.exn "Known" [("name", w12.1)]), (.exn "NoNet" [("name", w12.1)])]))).bind fun d21 => (Rs.of (enumD d21)).bind fun l24 => (loopM (β := Unit) (fun z22 d => (Rs.of (un2 d)).bind fun y23 => ((((m_law_sorts y23.2).bind fun x28 => (((Rs.of (rangeD (.int 13))).bind fun l26 => compM some (fun y25 => Rs.ok true) (fun y25 => Rs.of (eqD y25 y23.1)) l26).bind fun l27 => Rs.ok (.lst l27)).bind fun x29 => m_law_same 14 x28 x29).bind fun x30 => Rs.of (asB x30)).bind fun k => Rs.ok (!k)).bind fun k => if k then liftF (Rs.ok (.rt (.bl false) [.lst w12.2])) else ((((Rs.of (isxD [("AllKnown", true), ("BadAnswer", true), ("BadLine", true), ("BadLink", true), ("BadText", true), ("Known", true), ("NoHouse", true), ("NoLink", true), ("NoNet", true), ("NoNumber", true), ("NoWay", true), ("NothingDone", true), ("OtherHouses", true)] (some false) y23.2)).bind fun x31 => Rs.of (asB x31)).bind fun k => Rs.ok (!k)).bind fun k => if k then Rs.ok true else ((Rs.of (isxD [("AllKnown", true), ("BadAnswer", true), ("BadLine", true), ("BadLink", true), ("BadText", true), ("Known", true), ("NoHouse", true), ("NoLink", true), ("NoNet", true), ("NoNumber", true), ("NoWay", true), ("NothingDone", true), ("OtherHouses", true)] (some false) y23.2)).bind fun x32 => Rs.of (asB x32)).bind fun k => Rs.ok (!k)).bind fun k => if k then liftF (Rs.ok (.rt (.bl false) [.lst w12.2])) else Rs.ok (.nx ())) l24 ()).bind (Fl.toIO fun z22 => (((Rs.of (idxD d21 (.int 0))).bind fun x33 => Rs.of (fldX ["BadLink"] "place" x33)).bind fun x38 => ((Rs.of (idxD d21 (.int 1))).bind fun x34 => Rs.of (fldX ["BadText"] "piece" x34)).bind fun x39 => ((Rs.of (idxD d21 (.int 2))).bind fun x35 => Rs.of (fldX ["BadLine", "NoNumber"] "number" x35)).bind fun x40 => ((Rs.of (idxD d21 (.int 3))).bind fun x36 => Rs.of (fldX ["Known", "NoHouse", "NoLink", "NoNet"] "name" x36)).bind fun x41 => ((Rs.of (idxD d21 (.int 4))).bind fun x37 => Rs.of (fldX ["Known", "NoHouse", "NoLink", "NoNet"] "name" x37)).bind fun x42 => Rs.ok (.lst [x38, x39, x40, x41, x42])).bind fun d43 => ((((Rs.of (idxD d21 (.int 5))).bind fun x44 => Rs.of (fldX ["NoWay"] "some" x44)).bind fun x47 => ((Rs.of (idxD d21 (.int 7))).bind fun x45 => Rs.of (fldX ["BadLine", "NoNumber"] "number" x45)).bind fun x48 => ((Rs.of (idxD d21 (.int 8))).bind fun x46 => Rs.of (fldX ["BadAnswer"] "answer" x46)).bind fun x49 => Rs.ok (.lst [x47, x48, x49])).bind fun x50 => Rs.of (addD d43 x50)).bind fun d51 => ((((Rs.of (idxD d21 (.int 11))).bind fun x52 => Rs.of (fldX ["Known", "NoHouse", "NoLink", "NoNet"] "name" x52)).bind fun x54 => ((Rs.of (idxD d21 (.int 12))).bind fun x53 => Rs.of (fldX ["Known", "NoHouse", "NoLink", "NoNet"] "name" x53)).bind fun x55 => Rs.ok (.lst [x54, x55])).bind fun x56 => Rs.of (addD d51 x56)).bind fun d57 => ((Rs.ok (.lst [u11.1, u11.1, u11.1, w12.1, w12.1, (.tup [w12.1]), u11.1, u11.1, w12.1, w12.1]))).bind fun d58 => (((Rs.of (fldX ["BadLink"] "place" (.exn "BadLink" [("place", u11.1)]))).bind fun x59 => (Rs.of (fldX ["BadText"] "piece" (.exn "BadText" [("piece", (.int 7))]))).bind fun x60 => Rs.ok (.lst [x59, x60])).bind fun x61 => Rs.of (addD d57 x61)).bind fun d62 => (((((Rs.of (negD (.int 1))).bind fun x63 => Rs.ok (.exn "BadLine" [("number", x63)])).bind fun x64 => Rs.of (fldX ["BadLine", "NoNumber"] "number" x64)).bind fun x65 => (Rs.of (fldX ["Known", "NoHouse", "NoLink", "NoNet"] "name" (.exn "NoHouse" [("name", (.str "b"))]))).bind fun x66 => Rs.ok (.lst [x65, x66])).bind fun x67 => Rs.of (addD d62 x67)).bind fun d68 => (((Rs.of (negD (.int 1))).bind fun x69 => Rs.ok (.lst [u11.1, (.int 7), x69, (.str "b")])).bind fun x70 => Rs.of (addD d58 x70)).bind fun d71 => (((Rs.of (fldX ["Known", "NoHouse", "NoLink", "NoNet"] "name" (.exn "NoLink" [("name", w12.1)]))).bind fun x74 => (Rs.of (fldX ["NoWay"] "some" (.exn "NoWay" [("some", (.tup [(.str "a"), (.str "b")]))]))).bind fun x75 => (((Rs.of (powD (.int 10) (.int 30))).bind fun x72 => Rs.ok (.exn "NoNumber" [("number", x72)])).bind fun x73 => Rs.of (fldX ["BadLine", "NoNumber"] "number" x73)).bind fun x76 => Rs.ok (.lst [x74, x75, x76])).bind fun x77 => Rs.of (addD d68 x77)).bind fun d78 => (((Rs.of (powD (.int 10) (.int 30))).bind fun x79 => Rs.ok (.lst [w12.1, (.tup [(.str "a"), (.str "b")]), x79])).bind fun x80 => Rs.of (addD d71 x80)).bind fun d81 => (((Rs.of (fldX ["BadAnswer"] "answer" (.exn "BadAnswer" [("answer", w12.1)]))).bind fun x82 => (Rs.of (fldX ["Known", "NoHouse", "NoLink", "NoNet"] "name" (.exn "Known" [("name", w12.1)]))).bind fun x83 => (Rs.of (fldX ["Known", "NoHouse", "NoLink", "NoNet"] "name" (.exn "NoNet" [("name", w12.1)]))).bind fun x84 => Rs.ok (.lst [x82, x83, x84])).bind fun x85 => Rs.of (addD d78 x85)).bind fun d86 => (((Rs.of (mulD (.lst [w12.1]) (.int 3))).bind fun x87 => Rs.of (addD d81 x87)).bind fun x88 => m_law_same 14 d86 x88).bind fun x89 => Rs.ok (x89, w12.2))
theorem k_law_right (T : Txt K mg) : KeepsIO P w K mg base 18 (He.ga K "_law_right") T.fd_law_right ["_law_box_here"] (fun a_law_box_here ds => match ds with | [] => m_law_right a_law_box_here | _ => Rs.no) :=
  keeps_io T.F_law_right sc_law_right (fun cdv A outer s H E F b a_law_box_here ds hl hr => match ds, hl with | [], _ => bi_as [some (.own false (.lst a_law_box_here)), none, none, none, none, none, none, none, none] (bi_nox (bi_at [some (.own false (.lst a_law_box_here)), none, none, none, none, none, none, none, none] (bi_parB (l := false) (i := 0) (k := 1) (j := 2) rfl sc_law_right.nd (EB.ecb (eb_bin (l := false) op_sub subD_ok (eb_ioC (l := false) (k_law_take T) (hr.mono (by decide)) T.g_law_take T.F_law_take.kp T.b_law_take (pv 0) (bc_cons (l := false) (eb_pure (l := false) (s := a_law_box_here) (ev_bin2 op_pow powD_ok (EV.o ev_int) (EV.o ev_int))) (fun s0 => (bc_nil (l := false) (s := s0))))) (fun s3 => (eb_pure (l := false) (s := s3) (ev_binL op_mulD mulD_ok (EV.o ev_int) (EV.o (ev_bin2 op_pow powD_ok (EV.o ev_int) (EV.o ev_int)))))))) (fun s10 => (EB.ecb (eb_ioC (l := false) (k_law_of T) (hr.mono (by decide)) T.g_law_of T.F_law_of.kp T.b_law_of (pv 0) (bc_cons (l := false) (eb_val (l := false) (s := s10) (ev_lstC (ac_consV ev_str (ac_consV ev_str (ac_consV ev_str (ac_consV ev_str ac_nil)))))) (fun s16 => (bc_nil (l := false) (s := s16))))))) (fun d13 d14 s15 => (bi_at [some (.own false (.lst s15)), some (.val d13), some (.val d14), none, none, none, none, none, none] (bi_set (as_ev (i := 3) sc_law_right.nd (ev_lstC (ac_consV (EV.to (Rs.ok (.exn "BadLink" [("place", d13)])) (ev_exc1 T.ox_BadLink T.ic_BadLink.1 T.ic_BadLink.2 (k_BadLink_init T) (hr.mono (by decide)) T.b_BadLink_init T.g_BadLink (ev_var (i := 1) (d := d13) rfl (pv 1))) rfl) (ac_consV (EV.to (Rs.ok (.exn "BadText" [("piece", d13)])) (ev_exc1 T.ox_BadText T.ic_BadText.1 T.ic_BadText.2 (k_BadText_init T) (hr.mono (by decide)) T.b_BadText_init T.g_BadText (ev_var (i := 1) (d := d13) rfl (pv 1))) rfl) (ac_consV (EV.to (Rs.ok (.exn "BadLine" [("number", d13)])) (ev_exc1 T.ox_BadLine T.ic_BadLine.1 T.ic_BadLine.2 (k_BadLine_init T) (hr.mono (by decide)) T.b_BadLine_init T.g_BadLine (ev_var (i := 1) (d := d13) rfl (pv 1))) rfl) (ac_consV (EV.to (Rs.ok (.exn "NoHouse" [("name", d14)])) (ev_exc1 T.ox_NoHouse T.ic_NoHouse.1 T.ic_NoHouse.2 (k_NoHouse_init T) (hr.mono (by decide)) T.b_NoHouse_init T.g_NoHouse (ev_var (i := 2) (d := d14) rfl (pv 2))) rfl) ac_nil)))))) (fun d19 => (bi_at [some (.own false (.lst s15)), some (.val d13), some (.val d14), some (.val d19), none, none, none, none, none] (bi_set (as_ev (i := 3) sc_law_right.nd (ev_bin2 op_addD addD_ok (EV.o (ev_var (i := 3) (d := d19) rfl (pv 3))) (EV.o (ev_lstC (ac_consV (EV.to (Rs.ok (.exn "NoLink" [("name", d14)])) (ev_exc1 T.ox_NoLink T.ic_NoLink.1 T.ic_NoLink.2 (k_NoLink_init T) (hr.mono (by decide)) T.b_NoLink_init T.g_NoLink (ev_var (i := 2) (d := d14) rfl (pv 2))) rfl) (ac_consV (EV.to (Rs.ok (.exn "NoWay" [("some", (.tup [d14]))])) (ev_exc1 T.ox_NoWay T.ic_NoWay.1 T.ic_NoWay.2 (k_NoWay_init T) (hr.mono (by decide)) T.b_NoWay_init T.g_NoWay (ev_tupC (ac_consV (ev_var (i := 2) (d := d14) rfl (pv 2)) ac_nil))) rfl) (ac_consV (ev_exc0 T.ox_OtherHouses T.ic_OtherHouses.1 T.ic_OtherHouses.2 (k_OtherHouses_init T) (hr.mono (by decide)) (kbN T.F_OtherHouses_init 1 [] [] (fun kV doc pm an cdv ct us ws h1 h2 => match us, ws, h1, h2 with | [_], [], _, _ => rfl)) T.g_OtherHouses) ac_nil))))))) (fun d20 => (bi_at [some (.own false (.lst s15)), some (.val d13), some (.val d14), some (.val d20), none, none, none, none, none] (bi_set (as_ev (i := 3) sc_law_right.nd (ev_bin2 op_addD addD_ok (EV.o (ev_var (i := 3) (d := d20) rfl (pv 3))) (EV.o (ev_lstC (ac_consV (EV.to (Rs.ok (.exn "NoNumber" [("number", d13)])) (ev_exc1 T.ox_NoNumber T.ic_NoNumber.1 T.ic_NoNumber.2 (k_NoNumber_init T) (hr.mono (by decide)) T.b_NoNumber_init T.g_NoNumber (ev_var (i := 1) (d := d13) rfl (pv 1))) rfl) (ac_consV (EV.to (Rs.ok (.exn "BadAnswer" [("answer", d13)])) (ev_exc1 T.ox_BadAnswer T.ic_BadAnswer.1 T.ic_BadAnswer.2 (k_BadAnswer_init T) (hr.mono (by decide)) T.b_BadAnswer_init T.g_BadAnswer (ev_var (i := 1) (d := d13) rfl (pv 1))) rfl) (ac_consV (ev_exc0 T.ox_AllKnown T.ic_AllKnown.1 T.ic_AllKnown.2 (k_AllKnown_init T) (hr.mono (by decide)) (kbN T.F_AllKnown_init 1 [] [] (fun kV doc pm an cdv ct us ws h1 h2 => match us, ws, h1, h2 with | [_], [], _, _ => rfl)) T.g_AllKnown) (ac_consV (ev_exc0 T.ox_NothingDone T.ic_NothingDone.1 T.ic_NothingDone.2 (k_NothingDone_init T) (hr.mono (by decide)) (kbN T.F_NothingDone_init 1 [] [] (fun kV doc pm an cdv ct us ws h1 h2 => match us, ws, h1, h2 with | [_], [], _, _ => rfl)) T.g_NothingDone) (ac_consV (EV.to (Rs.ok (.exn "Known" [("name", d14)])) (ev_exc1 T.ox_Known T.ic_Known.1 T.ic_Known.2 (k_Known_init T) (hr.mono (by decide)) T.b_Known_init T.g_Known (ev_var (i := 2) (d := d14) rfl (pv 2))) rfl) (ac_consV (EV.to (Rs.ok (.exn "NoNet" [("name", d14)])) (ev_exc1 T.ox_NoNet T.ic_NoNet.1 T.ic_NoNet.2 (k_NoNet_init T) (hr.mono (by decide)) T.b_NoNet_init T.g_NoNet (ev_var (i := 2) (d := d14) rfl (pv 2))) rfl) ac_nil)))))))))) (fun d21 => (bi_at [some (.own false (.lst s15)), some (.val d13), some (.val d14), some (.val d21), none, none, none, none, none] (bi_forIO (post := fun (z22 : Unit) => [some (.own false (.lst s15)), some (.val d13), some (.val d14), some (.val d21), none, none, none, none, none]) (z0 := ()) (passes_of rfl) rfl rfl (it_enum rfl T.f_enumerate (ev_var (i := 3) (d := d21) rfl (pv 3))) (Wk.keep (Wk.keep (Wk.keep (Wk.keep (Wk.drop (Wk.drop (Wk.drop (Wk.drop (Wk.drop Wk.nil))))))))) (fun z22 => tt_2 (i := 4) rfl (pg_name (i := 4) sc_law_right.nd rfl (by first | exact Or.inl rfl | exact Or.inr rfl)) (pg_name (i := 5) sc_law_right.nd rfl (by first | exact Or.inl rfl | exact Or.inr rfl))) (fun z22 y23 => (bk_ifr (tv_not (tv_val (ev_callC (takes_of rfl rfl rfl rfl) (k_law_same T 14) (hr.mono (by decide)) T.g_law_same T.F_law_same.kp T.b_law_same (ac_cons (ev_callC (takes_of rfl rfl rfl rfl) (k_law_sorts T) (hr.mono (by decide)) T.g_law_sorts T.F_law_sorts.kp T.b_law_sorts (ac_consV (ev_var (i := 5) (d := y23.2) rfl (pv 5)) ac_nil)) (ac_cons (EF.ev (ef_comp rfl sc_law_right.nd (it_range rfl T.f_range ev_int) (blkOk_by (own := [("_law_j", 6)]) (by kernel_rfl)) (by decide) (fun _ _ _ _ _ => tt_name (i := 6) sc_law_right.nd) (fun _ _ _ _ _ y25 => tvs_nil) (fun _ _ _ _ _ y25 => (ev_cmp2 (op_eqA hr.units) eqD_ok (EV.o (ev_var (i := 6) (d := y25) rfl (pv 6))) (EV.o (ev_var (i := 4) (d := y23.1) rfl (pv 4))) (nomark _))))) ac_nil))))) (bk_retIO (i := 0) (s := .lst s15) ev_bl) (bk_ifr (TW.tv (tw_or (tv_not (tv_val (ev_isx (tab := [("AllKnown", true), ("BadAnswer", true), ("BadLine", true), ("BadLink", true), ("BadText", true), ("Known", true), ("NoHouse", true), ("NoLink", true), ("NoNet", true), ("NoNumber", true), ("NoWay", true), ("NothingDone", true), ("OtherHouses", true)]) (nb := some false) (ClsV.own _) (pe_glob rfl T.g_GatherError rfl) T.f_isinstance (all_cons ⟨T.xi_AllKnown, T.kt_AllKnown_GatherError⟩ (all_cons ⟨T.xi_BadAnswer, T.kt_BadAnswer_GatherError⟩ (all_cons ⟨T.xi_BadLine, T.kt_BadLine_GatherError⟩ (all_cons ⟨T.xi_BadLink, T.kt_BadLink_GatherError⟩ (all_cons ⟨T.xi_BadText, T.kt_BadText_GatherError⟩ (all_cons ⟨T.xi_Known, T.kt_Known_GatherError⟩ (all_cons ⟨T.xi_NoHouse, T.kt_NoHouse_GatherError⟩ (all_cons ⟨T.xi_NoLink, T.kt_NoLink_GatherError⟩ (all_cons ⟨T.xi_NoNet, T.kt_NoNet_GatherError⟩ (all_cons ⟨T.xi_NoNumber, T.kt_NoNumber_GatherError⟩ (all_cons ⟨T.xi_NoWay, T.kt_NoWay_GatherError⟩ (all_cons ⟨T.xi_NothingDone, T.kt_NothingDone_GatherError⟩ (all_cons ⟨T.xi_OtherHouses, T.kt_OtherHouses_GatherError⟩ all_nil))))))))))))) (fun b h => Option.some.inj h ▸ T.kn_GatherError) (ev_var (i := 5) (d := y23.2) rfl (pv 5))))) (tw_or1 (tv_not (tv_val (ev_isx (tab := [("AllKnown", true), ("BadAnswer", true), ("BadLine", true), ("BadLink", true), ("BadText", true), ("Known", true), ("NoHouse", true), ("NoLink", true), ("NoNet", true), ("NoNumber", true), ("NoWay", true), ("NothingDone", true), ("OtherHouses", true)]) (nb := some false) (ClsV.ty _) (pe_bltn rfl T.f_ValueError rfl rfl) T.f_isinstance (all_cons ⟨T.xi_AllKnown, T.kt_AllKnown_ValueError⟩ (all_cons ⟨T.xi_BadAnswer, T.kt_BadAnswer_ValueError⟩ (all_cons ⟨T.xi_BadLine, T.kt_BadLine_ValueError⟩ (all_cons ⟨T.xi_BadLink, T.kt_BadLink_ValueError⟩ (all_cons ⟨T.xi_BadText, T.kt_BadText_ValueError⟩ (all_cons ⟨T.xi_Known, T.kt_Known_ValueError⟩ (all_cons ⟨T.xi_NoHouse, T.kt_NoHouse_ValueError⟩ (all_cons ⟨T.xi_NoLink, T.kt_NoLink_ValueError⟩ (all_cons ⟨T.xi_NoNet, T.kt_NoNet_ValueError⟩ (all_cons ⟨T.xi_NoNumber, T.kt_NoNumber_ValueError⟩ (all_cons ⟨T.xi_NoWay, T.kt_NoWay_ValueError⟩ (all_cons ⟨T.xi_NothingDone, T.kt_NothingDone_ValueError⟩ (all_cons ⟨T.xi_OtherHouses, T.kt_OtherHouses_ValueError⟩ all_nil))))))))))))) (fun b h => Option.some.inj h ▸ T.kn_ValueError) (ev_var (i := 5) (d := y23.2) rfl (pv 5)))))))) (bk_retIO (i := 0) (s := .lst s15) ev_bl) (bk_nil (z := ()) (Wk.keep (Wk.keep (Wk.keep (Wk.keep (Wk.drop (Wk.drop (Wk.drop (Wk.drop (Wk.drop Wk.nil))))))))))))) (fun z22 => (bi_at [some (.own false (.lst s15)), some (.val d13), some (.val d14), some (.val d21), none, none, none, none, none] (bi_set (as_ev (i := 7) sc_law_right.nd (ev_lstC (ac_cons (ev_xfld (cs := ["BadLink"]) (all_cons ⟨T.xf_BadLink, T.no_BadLink⟩ all_nil) (ev_ix2 ix_D idxD_ok (EV.o (ev_var (i := 3) (d := d21) rfl (pv 3))) (EV.o ev_int) (fun _ _ => rfl))) (ac_cons (ev_xfld (cs := ["BadText"]) (all_cons ⟨T.xf_BadText, T.no_BadText⟩ all_nil) (ev_ix2 ix_D idxD_ok (EV.o (ev_var (i := 3) (d := d21) rfl (pv 3))) (EV.o ev_int) (fun _ _ => rfl))) (ac_cons (ev_xfld (cs := ["BadLine", "NoNumber"]) (all_cons ⟨T.xf_BadLine, T.no_BadLine⟩ (all_cons ⟨T.xf_NoNumber, T.no_NoNumber⟩ all_nil)) (ev_ix2 ix_D idxD_ok (EV.o (ev_var (i := 3) (d := d21) rfl (pv 3))) (EV.o ev_int) (fun _ _ => rfl))) (ac_cons (ev_xfld (cs := ["Known", "NoHouse", "NoLink", "NoNet"]) (all_cons ⟨T.xf_Known, T.no_Known⟩ (all_cons ⟨T.xf_NoHouse, T.no_NoHouse⟩ (all_cons ⟨T.xf_NoLink, T.no_NoLink⟩ (all_cons ⟨T.xf_NoNet, T.no_NoNet⟩ all_nil)))) (ev_ix2 ix_D idxD_ok (EV.o (ev_var (i := 3) (d := d21) rfl (pv 3))) (EV.o ev_int) (fun _ _ => rfl))) (ac_cons (ev_xfld (cs := ["Known", "NoHouse", "NoLink", "NoNet"]) (all_cons ⟨T.xf_Known, T.no_Known⟩ (all_cons ⟨T.xf_NoHouse, T.no_NoHouse⟩ (all_cons ⟨T.xf_NoLink, T.no_NoLink⟩ (all_cons ⟨T.xf_NoNet, T.no_NoNet⟩ all_nil)))) (ev_ix2 ix_D idxD_ok (EV.o (ev_var (i := 3) (d := d21) rfl (pv 3))) (EV.o ev_int) (fun _ _ => rfl))) ac_nil))))))) (fun d43 => (bi_at [some (.own false (.lst s15)), some (.val d13), some (.val d14), some (.val d21), none, none, none, some (.val d43), none] (bi_set (as_ev (i := 7) sc_law_right.nd (ev_binL op_addD addD_ok (EV.o (ev_var (i := 7) (d := d43) rfl (pv 7))) (EV.o (ev_lstC (ac_cons (ev_xfld (cs := ["NoWay"]) (all_cons ⟨T.xf_NoWay, T.no_NoWay⟩ all_nil) (ev_ix2 ix_D idxD_ok (EV.o (ev_var (i := 3) (d := d21) rfl (pv 3))) (EV.o ev_int) (fun _ _ => rfl))) (ac_cons (ev_xfld (cs := ["BadLine", "NoNumber"]) (all_cons ⟨T.xf_BadLine, T.no_BadLine⟩ (all_cons ⟨T.xf_NoNumber, T.no_NoNumber⟩ all_nil)) (ev_ix2 ix_D idxD_ok (EV.o (ev_var (i := 3) (d := d21) rfl (pv 3))) (EV.o ev_int) (fun _ _ => rfl))) (ac_cons (ev_xfld (cs := ["BadAnswer"]) (all_cons ⟨T.xf_BadAnswer, T.no_BadAnswer⟩ all_nil) (ev_ix2 ix_D idxD_ok (EV.o (ev_var (i := 3) (d := d21) rfl (pv 3))) (EV.o ev_int) (fun _ _ => rfl))) ac_nil))))))) (fun d51 => (bi_at [some (.own false (.lst s15)), some (.val d13), some (.val d14), some (.val d21), none, none, none, some (.val d51), none] (bi_set (as_ev (i := 7) sc_law_right.nd (ev_binL op_addD addD_ok (EV.o (ev_var (i := 7) (d := d51) rfl (pv 7))) (EV.o (ev_lstC (ac_cons (ev_xfld (cs := ["Known", "NoHouse", "NoLink", "NoNet"]) (all_cons ⟨T.xf_Known, T.no_Known⟩ (all_cons ⟨T.xf_NoHouse, T.no_NoHouse⟩ (all_cons ⟨T.xf_NoLink, T.no_NoLink⟩ (all_cons ⟨T.xf_NoNet, T.no_NoNet⟩ all_nil)))) (ev_ix2 ix_D idxD_ok (EV.o (ev_var (i := 3) (d := d21) rfl (pv 3))) (EV.o ev_int) (fun _ _ => rfl))) (ac_cons (ev_xfld (cs := ["Known", "NoHouse", "NoLink", "NoNet"]) (all_cons ⟨T.xf_Known, T.no_Known⟩ (all_cons ⟨T.xf_NoHouse, T.no_NoHouse⟩ (all_cons ⟨T.xf_NoLink, T.no_NoLink⟩ (all_cons ⟨T.xf_NoNet, T.no_NoNet⟩ all_nil)))) (ev_ix2 ix_D idxD_ok (EV.o (ev_var (i := 3) (d := d21) rfl (pv 3))) (EV.o ev_int) (fun _ _ => rfl))) ac_nil)))))) (fun d57 => (bi_at [some (.own false (.lst s15)), some (.val d13), some (.val d14), some (.val d21), none, none, none, some (.val d57), none] (bi_set (as_ev (i := 8) sc_law_right.nd (ev_lstC (ac_consV (ev_var (i := 1) (d := d13) rfl (pv 1)) (ac_consV (ev_var (i := 1) (d := d13) rfl (pv 1)) (ac_consV (ev_var (i := 1) (d := d13) rfl (pv 1)) (ac_consV (ev_var (i := 2) (d := d14) rfl (pv 2)) (ac_consV (ev_var (i := 2) (d := d14) rfl (pv 2)) (ac_consV (ev_tupC (ac_consV (ev_var (i := 2) (d := d14) rfl (pv 2)) ac_nil)) (ac_consV (ev_var (i := 1) (d := d13) rfl (pv 1)) (ac_consV (ev_var (i := 1) (d := d13) rfl (pv 1)) (ac_consV (ev_var (i := 2) (d := d14) rfl (pv 2)) (ac_consV (ev_var (i := 2) (d := d14) rfl (pv 2)) ac_nil)))))))))))) (fun d58 => (bi_at [some (.own false (.lst s15)), some (.val d13), some (.val d14), some (.val d21), none, none, none, some (.val d57), some (.val d58)] (bi_set (as_ev (i := 7) sc_law_right.nd (ev_binL op_addD addD_ok (EV.o (ev_var (i := 7) (d := d57) rfl (pv 7))) (EV.o (ev_lstC (ac_cons (ev_xfld (cs := ["BadLink"]) (all_cons ⟨T.xf_BadLink, T.no_BadLink⟩ all_nil) (EV.to (Rs.ok (.exn "BadLink" [("place", d13)])) (ev_excK T.ox_BadLink T.ic_BadLink.1 T.ic_BadLink.2 (k_BadLink_init T) (hr.mono (by decide)) (kbN T.F_BadLink_init 1 ["place"] [0] (fun kV doc pm an cdv ct us ws h1 h2 => match us, ws, h1, h2 with | [_], [_], _, _ => rfl)) T.g_BadLink (ev_var (i := 1) (d := d13) rfl (pv 1))) rfl)) (ac_cons (ev_xfld (cs := ["BadText"]) (all_cons ⟨T.xf_BadText, T.no_BadText⟩ all_nil) (EV.to (Rs.ok (.exn "BadText" [("piece", (.int 7))])) (ev_excK T.ox_BadText T.ic_BadText.1 T.ic_BadText.2 (k_BadText_init T) (hr.mono (by decide)) (kbN T.F_BadText_init 1 ["piece"] [0] (fun kV doc pm an cdv ct us ws h1 h2 => match us, ws, h1, h2 with | [_], [_], _, _ => rfl)) T.g_BadText ev_int) rfl)) ac_nil)))))) (fun d62 => (bi_at [some (.own false (.lst s15)), some (.val d13), some (.val d14), some (.val d21), none, none, none, some (.val d62), some (.val d58)] (bi_set (as_ev (i := 7) sc_law_right.nd (ev_binL op_addD addD_ok (EV.o (ev_var (i := 7) (d := d62) rfl (pv 7))) (EV.o (ev_lstC (ac_cons (ev_xfld (cs := ["BadLine", "NoNumber"]) (all_cons ⟨T.xf_BadLine, T.no_BadLine⟩ (all_cons ⟨T.xf_NoNumber, T.no_NoNumber⟩ all_nil)) (ev_excK T.ox_BadLine T.ic_BadLine.1 T.ic_BadLine.2 (k_BadLine_init T) (hr.mono (by decide)) (kbN T.F_BadLine_init 1 ["number"] [0] (fun kV doc pm an cdv ct us ws h1 h2 => match us, ws, h1, h2 with | [_], [_], _, _ => rfl)) T.g_BadLine (ev_un un_neg negD_ok (EV.o ev_int)))) (ac_cons (ev_xfld (cs := ["Known", "NoHouse", "NoLink", "NoNet"]) (all_cons ⟨T.xf_Known, T.no_Known⟩ (all_cons ⟨T.xf_NoHouse, T.no_NoHouse⟩ (all_cons ⟨T.xf_NoLink, T.no_NoLink⟩ (all_cons ⟨T.xf_NoNet, T.no_NoNet⟩ all_nil)))) (EV.to (Rs.ok (.exn "NoHouse" [("name", (.str "b"))])) (ev_excK T.ox_NoHouse T.ic_NoHouse.1 T.ic_NoHouse.2 (k_NoHouse_init T) (hr.mono (by decide)) (kbN T.F_NoHouse_init 1 ["name"] [0] (fun kV doc pm an cdv ct us ws h1 h2 => match us, ws, h1, h2 with | [_], [_], _, _ => rfl)) T.g_NoHouse ev_str) rfl)) ac_nil)))))) (fun d68 => (bi_at [some (.own false (.lst s15)), some (.val d13), some (.val d14), some (.val d21), none, none, none, some (.val d68), some (.val d58)] (bi_set (as_ev (i := 8) sc_law_right.nd (ev_binL op_addD addD_ok (EV.o (ev_var (i := 8) (d := d58) rfl (pv 8))) (EV.o (ev_lstC (ac_consV (ev_var (i := 1) (d := d13) rfl (pv 1)) (ac_consV ev_int (ac_cons (ev_un un_neg negD_ok (EV.o ev_int)) (ac_consV ev_str ac_nil)))))))) (fun d71 => (bi_at [some (.own false (.lst s15)), some (.val d13), some (.val d14), some (.val d21), none, none, none, some (.val d68), some (.val d71)] (bi_set (as_ev (i := 7) sc_law_right.nd (ev_binL op_addD addD_ok (EV.o (ev_var (i := 7) (d := d68) rfl (pv 7))) (EV.o (ev_lstC (ac_cons (ev_xfld (cs := ["Known", "NoHouse", "NoLink", "NoNet"]) (all_cons ⟨T.xf_Known, T.no_Known⟩ (all_cons ⟨T.xf_NoHouse, T.no_NoHouse⟩ (all_cons ⟨T.xf_NoLink, T.no_NoLink⟩ (all_cons ⟨T.xf_NoNet, T.no_NoNet⟩ all_nil)))) (EV.to (Rs.ok (.exn "NoLink" [("name", d14)])) (ev_excK T.ox_NoLink T.ic_NoLink.1 T.ic_NoLink.2 (k_NoLink_init T) (hr.mono (by decide)) (kbN T.F_NoLink_init 1 ["name"] [0] (fun kV doc pm an cdv ct us ws h1 h2 => match us, ws, h1, h2 with | [_], [_], _, _ => rfl)) T.g_NoLink (ev_var (i := 2) (d := d14) rfl (pv 2))) rfl)) (ac_cons (ev_xfld (cs := ["NoWay"]) (all_cons ⟨T.xf_NoWay, T.no_NoWay⟩ all_nil) (EV.to (Rs.ok (.exn "NoWay" [("some", (.tup [(.str "a"), (.str "b")]))])) (ev_excK T.ox_NoWay T.ic_NoWay.1 T.ic_NoWay.2 (k_NoWay_init T) (hr.mono (by decide)) (kbN T.F_NoWay_init 1 ["some"] [0] (fun kV doc pm an cdv ct us ws h1 h2 => match us, ws, h1, h2 with | [_], [_], _, _ => rfl)) T.g_NoWay (ev_tupC (ac_consV ev_str (ac_consV ev_str ac_nil)))) rfl)) (ac_cons (ev_xfld (cs := ["BadLine", "NoNumber"]) (all_cons ⟨T.xf_BadLine, T.no_BadLine⟩ (all_cons ⟨T.xf_NoNumber, T.no_NoNumber⟩ all_nil)) (ev_excK T.ox_NoNumber T.ic_NoNumber.1 T.ic_NoNumber.2 (k_NoNumber_init T) (hr.mono (by decide)) (kbN T.F_NoNumber_init 1 ["number"] [0] (fun kV doc pm an cdv ct us ws h1 h2 => match us, ws, h1, h2 with | [_], [_], _, _ => rfl)) T.g_NoNumber (ev_bin2 op_pow powD_ok (EV.o ev_int) (EV.o ev_int)))) ac_nil))))))) (fun d78 => (bi_at [some (.own false (.lst s15)), some (.val d13), some (.val d14), some (.val d21), none, none, none, some (.val d78), some (.val d71)] (bi_set (as_ev (i := 8) sc_law_right.nd (ev_binL op_addD addD_ok (EV.o (ev_var (i := 8) (d := d71) rfl (pv 8))) (EV.o (ev_lstC (ac_consV (ev_var (i := 2) (d := d14) rfl (pv 2)) (ac_consV (ev_tupC (ac_consV ev_str (ac_consV ev_str ac_nil))) (ac_cons (ev_bin2 op_pow powD_ok (EV.o ev_int) (EV.o ev_int)) ac_nil))))))) (fun d81 => (bi_at [some (.own false (.lst s15)), some (.val d13), some (.val d14), some (.val d21), none, none, none, some (.val d78), some (.val d81)] (bi_set (as_ev (i := 7) sc_law_right.nd (ev_binL op_addD addD_ok (EV.o (ev_var (i := 7) (d := d78) rfl (pv 7))) (EV.o (ev_lstC (ac_cons (ev_xfld (cs := ["BadAnswer"]) (all_cons ⟨T.xf_BadAnswer, T.no_BadAnswer⟩ all_nil) (EV.to (Rs.ok (.exn "BadAnswer" [("answer", d14)])) (ev_excK T.ox_BadAnswer T.ic_BadAnswer.1 T.ic_BadAnswer.2 (k_BadAnswer_init T) (hr.mono (by decide)) (kbN T.F_BadAnswer_init 1 ["answer"] [0] (fun kV doc pm an cdv ct us ws h1 h2 => match us, ws, h1, h2 with | [_], [_], _, _ => rfl)) T.g_BadAnswer (ev_var (i := 2) (d := d14) rfl (pv 2))) rfl)) (ac_cons (ev_xfld (cs := ["Known", "NoHouse", "NoLink", "NoNet"]) (all_cons ⟨T.xf_Known, T.no_Known⟩ (all_cons ⟨T.xf_NoHouse, T.no_NoHouse⟩ (all_cons ⟨T.xf_NoLink, T.no_NoLink⟩ (all_cons ⟨T.xf_NoNet, T.no_NoNet⟩ all_nil)))) (EV.to (Rs.ok (.exn "Known" [("name", d14)])) (ev_excK T.ox_Known T.ic_Known.1 T.ic_Known.2 (k_Known_init T) (hr.mono (by decide)) (kbN T.F_Known_init 1 ["name"] [0] (fun kV doc pm an cdv ct us ws h1 h2 => match us, ws, h1, h2 with | [_], [_], _, _ => rfl)) T.g_Known (ev_var (i := 2) (d := d14) rfl (pv 2))) rfl)) (ac_cons (ev_xfld (cs := ["Known", "NoHouse", "NoLink", "NoNet"]) (all_cons ⟨T.xf_Known, T.no_Known⟩ (all_cons ⟨T.xf_NoHouse, T.no_NoHouse⟩ (all_cons ⟨T.xf_NoLink, T.no_NoLink⟩ (all_cons ⟨T.xf_NoNet, T.no_NoNet⟩ all_nil)))) (EV.to (Rs.ok (.exn "NoNet" [("name", d14)])) (ev_excK T.ox_NoNet T.ic_NoNet.1 T.ic_NoNet.2 (k_NoNet_init T) (hr.mono (by decide)) (kbN T.F_NoNet_init 1 ["name"] [0] (fun kV doc pm an cdv ct us ws h1 h2 => match us, ws, h1, h2 with | [_], [_], _, _ => rfl)) T.g_NoNet (ev_var (i := 2) (d := d14) rfl (pv 2))) rfl)) ac_nil))))))) (fun d86 => (bi_at [some (.own false (.lst s15)), some (.val d13), some (.val d14), some (.val d21), none, none, none, some (.val d86), some (.val d81)] (bi_retP (i := 0) (s := s15) (ev_callC (takes_of rfl rfl rfl rfl) (k_law_same T 14) (hr.mono (by decide)) T.g_law_same T.F_law_same.kp T.b_law_same (ac_consV (ev_var (i := 7) (d := d86) rfl (pv 7)) (ac_cons (ev_binL op_addD addD_ok (EV.o (ev_var (i := 8) (d := d81) rfl (pv 8))) (EV.o (ev_bin2 op_mulD mulD_ok (EV.o (ev_lstC (ac_consV (ev_var (i := 2) (d := d14) rfl (pv 2)) ac_nil))) (EV.o ev_int)))) ac_nil))))))))))))))))))))))))))))))))))))))))))))))))))) rfl rfl)
theorem sc_law : FnScope ["_law_script", "_law_cells_here", "_law_k"] ["_law_script"] (defScope (top 23)) := ⟨rfl, rfl, rfl, by decide +kernel, rfl, by decide +kernel, by decide +kernel⟩
def m_law (a_law_script : D) : Rs D := (m_law_cells a_law_script (.int 3)).bind fun d0 => ((((Rs.of (lenD [d0])).bind fun x1 => Rs.of (rangeD x1)).bind fun l4 => compM some (fun y2 => Rs.ok true) (fun y2 => ((m_law_box d0 y2).noX).bind fun l3 => (m_law_right l3).noX.bind fun u => Rs.ok u.1) l4).bind fun l5 => Rs.ok (.lst l5)).bind fun x6 => Rs.of (allD [x6])
theorem k_law (T : Txt K mg) : Keeps P w K mg base 20 (He.ga K "law") T.fd_law ["_law_script"] (fun ds => match ds with | [a_law_script] => m_law a_law_script | _ => Rs.no) :=
  keeps_ret T.F_law sc_law (fun cdv A outer s H E F ds hl hr => match ds, hl with | [a_law_script], _ => bi_as [some (.val a_law_script), none, none] (bi_set (as_ev (i := 1) sc_law.nd (ev_callC (takes_of rfl rfl rfl rfl) (k_law_cells T) (hr.mono (by decide)) T.g_law_cells T.F_law_cells.kp T.b_law_cells (ac_consV (ev_var (i := 0) (d := a_law_script) rfl (pv 0)) (ac_consV ev_int ac_nil)))) (fun d0 => (bi_ret (ev_callBC (cr_all rfl) allD_ok T.f_all boot_all (oc_cons (EV.o (EF.ev (ef_comp rfl sc_law.nd (it_range rfl T.f_range (ev_callBC call_len lenD_ok T.f_len boot_len (oc_consV (EV.o (ev_var (i := 1) (d := d0) rfl (pv 1))) oc_nil))) (blkOk_by (own := [("_law_k", 2)]) (by kernel_rfl)) (by decide) (fun _ _ _ _ _ => tt_name (i := 2) sc_law.nd) (fun _ _ _ _ _ y2 => tvs_nil) (fun _ _ _ _ _ y2 => (ev_box (k_law_right T) (hr.mono (by decide)) T.g_law_right T.F_law_right.kp T.b_law_right (ef_callC (k_law_box T) (hr.mono (by decide)) T.g_law_box T.F_law_box.kp T.b_law_box (ac_consV (ev_var (i := 1) (d := d0) rfl (pv 1)) (ac_consV (ev_var (i := 2) (d := y2) rfl (pv 2)) ac_nil))) ac_nil))))) oc_nil))))) rfl rfl)
end
end LW
set_option Elab.async false
set_option linter.all false
set_option maxRecDepth 100000
set_option autoImplicit false
set_option maxHeartbeats 1000000
namespace LW
open PySem PySem.Spec VL

theorem take_ok {N : Nat} {s : List D} {n : Int} (hb : Box N s) (hN : N ≤ 1000000000) (hn : 0 < n) (hl : n < 2 ^ 200) : ∃ r s', m_law_take s (.int n) = .ok (.int r, s') ∧ 0 ≤ r ∧ r < n ∧ Box (N + 1) s' := by
  obtain ⟨a, b, c, rfl, ha, hb1, hb2, hc1, hc2⟩ := hb
  have hnl : n.natAbs < 2 ^ 9000 := Nat.lt_of_lt_of_le (show n.natAbs < 2 ^ 200 by omega) (Nat.pow_le_pow_right (by decide) (by decide))
  by_cases h0 : 0 < a
  · refine ⟨a % n, [.int (a / n), .int b, .int c], ?_, Int.emod_nonneg _ (by omega), Int.emod_lt_of_pos _ hn, _, _, _, rfl, Int.ediv_nonneg ha (by omega), hb1, hb2, hc1, by omega⟩
    simp only [m_law_take, idx3_0, Rs.of_some, Rs.bind_ok, gtB_int, decide_eq_true h0, if_true, intD_int, modD_int hn, fdivD_int hn hnl, set3_0]
  · have e1 : mulD (.int 48271) (.int (c + 1)) = some (.int (48271 * (c + 1))) := mulD_int (a := 20) (b := 40) (by decide) (by omega) (by decide) (by decide) (by decide)
    have e2 : mulD (.int (b + 48271 * (c + 1))) (.int (39373 + (c + 1))) = some (.int ((b + 48271 * (c + 1)) * (39373 + (c + 1)))) := mulD_int (a := 80) (b := 40) (by omega) (by omega) (by decide) (by decide) (by decide)
    have m1 : (0 : Int) < 2147483647 := by decide
    have m2 : (0 : Int) < 40009 := by decide
    have m3 : (0 : Int) < 2147483629 := by decide
    have m4 : (0 : Int) < 2147483587 := by decide
    obtain ⟨o, ho⟩ : ∃ o, o = (b + 48271 * (c + 1)) * (39373 + (c + 1)) % 2147483647 := ⟨_, rfl⟩
    have o1 : 0 ≤ o := ho ▸ Int.emod_nonneg _ (by decide)
    have o2 : o < 2147483647 := ho ▸ Int.emod_lt_of_pos _ (by decide)
    have f1 : 0 ≤ o % 40009 := Int.emod_nonneg _ (by decide)
    have f2 : o % 40009 < 40009 := Int.emod_lt_of_pos _ (by decide)
    have d1 : fdivD (.int b) (.int 1000003) = some (.int (b / 1000003)) := fdivD_int (by decide) (Nat.lt_of_lt_of_le (show (1000003 : Int).natAbs < 2 ^ 20 by decide) (Nat.pow_le_pow_right (by decide) (by decide)))
    have d2 : ∀ k : Int, fdivD (.int k) (.int 64) = some (.int (k / 64)) := fun k => fdivD_int (by decide) (Nat.lt_of_lt_of_le (show (64 : Int).natAbs < 2 ^ 20 by decide) (Nat.pow_le_pow_right (by decide) (by decide)))
    have b1 : 0 ≤ b / 1000003 := Int.ediv_nonneg hb1 (by decide)
    have b2 : b / 1000003 ≤ b := Int.ediv_le_self _ hb1
    have e3 : mulD (.int (o + (c + 1) + b / 1000003)) (.int (o % 40009 + 7)) = some (.int ((o + (c + 1) + b / 1000003) * (o % 40009 + 7))) := mulD_int (a := 80) (b := 40) (by omega) (by omega) (by decide) (by decide) (by decide)
    obtain ⟨g, hg⟩ : ∃ g, g = (o + (c + 1) + b / 1000003) * (o % 40009 + 7) % 2147483629 := ⟨_, rfl⟩
    have g1 : 0 ≤ g := hg ▸ Int.emod_nonneg _ (by decide)
    have g2 : g < 2147483629 := hg ▸ Int.emod_lt_of_pos _ (by decide)
    have e4 : mulD (.int g) (.int 48271) = some (.int (g * 48271)) := mulD_int (a := 80) (b := 40) (by omega) (by decide) (by decide) (by decide) (by decide)
    refine ⟨(g * 48271 + o) % 2147483587 / 64 % n, [.int a, .int b, .int (c + 1)], ?_, Int.emod_nonneg _ (by omega), Int.emod_lt_of_pos _ hn, _, _, _, rfl, ha, hb1, hb2, by omega, by omega⟩
    simp only [m_law_take, idx3_0, Rs.of_some, Rs.bind_ok, gtB_int, decide_eq_false h0, Bool.false_eq_true, if_false, idx3_1, idx3_2, addD_int, set3_2, intD_int, e1, e2, modD_int m1, ← ho, modD_int m2, d1, e3, modD_int m3, ← hg, e4, modD_int m4, d2, modD_int hn]
theorem of_ok {N : Nat} {s xs : List D} (hb : Box N s) (hN : N ≤ 1000000000) (hx : 0 < xs.length) (hl : xs.length < 1000) : ∃ d s', m_law_of s (.lst xs) = .ok (d, s') ∧ d ∈ xs ∧ Box (N + 1) s' := by
  obtain ⟨r, s', e, r1, r2, hb'⟩ := take_ok hb hN (n := (xs.length : Int)) (by omega) (by omega)
  obtain ⟨k, rfl⟩ : ∃ k : Nat, r = k := ⟨r.toNat, by omega⟩
  have hk : k < xs.length := by omega
  refine ⟨xs[k], s', ?_, List.getElem_mem hk, hb'⟩
  simp only [m_law_of, Rs.bind_ok, lenD, Rs.of_some, e, idxD_lst xs k xs[k] (List.getElem?_eq_getElem hk), Rs.noX_ok]
theorem same_refl : ∀ (n : Nat) (d : D), fits n d = true → m_law_same (n + 1) d d = .ok (.bl true)
  | n, .exn c xs, h => by cases n <;> simp [fits] at h
  | n, .non, _ => rfl
  | n, .bl b, _ => by cases b <;> rfl
  | n, .int i, _ => by simp [m_law_same, isiD2, isiD, isiB, kindD, isiK, isNB, D.isNon]
  | n, .str x, _ => by simp [m_law_same, isiD2, isiD, isiB, kindD, isiK, isNB, D.isNon, isND]
  | n + 1, .tup xs, h => by
    have h' : ∀ x ∈ xs, fits n x = true := List.all_eq_true.mp (by simpa only [fits] using h)
    have e : compM un2 (fun y7 => Rs.ok true) (fun y7 => m_law_same (n + 1) y7.1 y7.2) (zipL xs xs) = .ok (xs.map fun _ => .bl true) := by
      have z := compM_allU (u := un2) (fe := fun y7 : D × D => m_law_same (n + 1) y7.1 y7.2) (fun x : D => .tup [x, x]) (fun x => (x, x)) (fun _ => .bl true) xs (fun _ _ => rfl) (fun x hx => same_refl n x (h' x hx))
      rw [← z, zipL_self]
    have e2 := allD_of xs fun _ => true
    rw [m_law_same]
    simp [isiD2, isiD, isiB, kindD, isiK, lenD, zipD, seqD, e, e2]
  | n + 1, .lst xs, h => by
    have h' : ∀ x ∈ xs, fits n x = true := List.all_eq_true.mp (by simpa only [fits] using h)
    have e : compM un2 (fun y7 => Rs.ok true) (fun y7 => m_law_same (n + 1) y7.1 y7.2) (zipL xs xs) = .ok (xs.map fun _ => .bl true) := by
      have z := compM_allU (u := un2) (fe := fun y7 : D × D => m_law_same (n + 1) y7.1 y7.2) (fun x : D => .tup [x, x]) (fun x => (x, x)) (fun _ => .bl true) xs (fun _ _ => rfl) (fun x hx => same_refl n x (h' x hx))
      rw [← z, zipL_self]
    have e2 := allD_of xs fun _ => true
    rw [m_law_same]
    simp [isiD2, isiD, isiB, kindD, isiK, lenD, zipD, seqD, e, e2]
  | 0, .tup xs, h => by simp [fits] at h
  | 0, .lst xs, h => by simp [fits] at h
  | n, .scr xs, h => by cases n <;> simp [fits] at h
  | n, .obj c xs, h => by cases n <;> simp [fits] at h
  | n, .dT xs, h => by cases n <;> simp [fits] at h
  | n, .dK xs, h => by cases n <;> simp [fits] at h
end LW
set_option Elab.async false
set_option linter.all false
set_option maxRecDepth 100000
set_option autoImplicit false
set_option maxHeartbeats 1000000
namespace LW
open PySem PySem.Spec VL

theorem cells_ok {ns : List Int} {p : Nat} (hl : ns.length ≤ 63) (hp : p ≤ 2000000) (hb : ∀ n ∈ ns, n.natAbs < 2 ^ p) :
    ∃ cs : List Int, m_law_cells (.scr (ns.map .int)) (.int 3) = .ok (.lst (cs.map .int)) ∧ 0 < cs.length ∧ cs.length ≤ 3 ∧ ∀ c ∈ cs, c.natAbs < 2 ^ (p + 20) := by
  obtain ⟨B, hB⟩ : ∃ B, B = 2 ^ p := ⟨_, rfl⟩
  have hB1 : 0 < B := hB ▸ Nat.pow_pos (by decide)
  have hBt : B * 4096 < 2 ^ (p + 20) := by
    rw [Nat.pow_add, ← hB]
    exact Nat.mul_lt_mul_of_pos_left (by decide) hB1
  have c1 : cutD (ns.map .int) none (some 3) = (ns.take 3).map .int := by
    simp only [cutD, HT.sIx, List.length_map, Nat.sub_zero, List.drop_zero]
    rw [if_neg (by omega), List.map_take]
    by_cases h : 3 ≤ ns.length
    · rw [show min (3 : Int).toNat ns.length = 3 by simp; omega]
    · rw [show min (3 : Int).toNat ns.length = ns.length by simp; omega, List.take_of_length_le (by simp), List.take_of_length_le (by simp; omega)]
  have c2 : cutD (ns.map .int) (some 3) (some 63) = (ns.drop 3).map .int := by
    simp only [cutD, HT.sIx, List.length_map]
    rw [if_neg (by omega), if_neg (by omega), List.map_drop]
    by_cases h : 3 ≤ ns.length
    · rw [show min (3 : Int).toNat ns.length = 3 by simp; omega, show min (63 : Int).toNat ns.length = ns.length by simp; omega, List.take_of_length_le (by simp)]
    · rw [show min (3 : Int).toNat ns.length = ns.length by simp; omega, List.drop_eq_nil_of_le (by simp), List.drop_eq_nil_of_le (by simp; omega)]
      simp
  have s1 : sliceD (.scr (ns.map .int)) none (some 3) = some (.lst ((ns.take 3).map .int)) := by simp only [sliceD, c1]
  have s2 : sliceD (.scr (ns.map .int)) (some 3) (some 63) = some (.lst ((ns.drop 3).map .int)) := by simp only [sliceD, c2]
  have e1 : enumD (.lst ((ns.drop 3).map .int)) = some (((ns.drop 3).zipIdx 0).map fun q => .tup [.int (q.2 : Int), .int q.1]) := by
    simp only [enumD, seqD, Option.map_some, enumL_map D.int (ns.drop 3) 0]
  obtain ⟨f, hf⟩ : ∃ f, f = fun (z4 : List D) (d : D) => (Rs.of (un2 d)).bind fun y5 => ((Rs.of (intD [y5.1])).bind fun x7 => Rs.of (modD x7 (.int 3))).bind fun d8 => ((Rs.of (idxD (.lst z4) d8)).bind fun x10 => ((Rs.of (addD y5.1 (.int 2))).bind fun x9 => Rs.of (mulD y5.2 x9)).bind fun x11 => Rs.of (addD x10 x11)).bind fun x13 => (Rs.of (setL z4 d8 x13)).bind fun l12 => Rs.ok l12 := ⟨_, rfl⟩
  have fin : ∀ cs0 : List Int, (0 < (ns.drop 3).length → cs0.length = 3) → (∀ c ∈ cs0, c.natAbs < B) → ∃ cs : List Int, foldM f (((ns.drop 3).zipIdx 0).map fun q => .tup [.int (q.2 : Int), .int q.1]) (cs0.map .int) = .ok (cs.map .int) ∧ cs.length = cs0.length ∧ ∀ c ∈ cs, c.natAbs < B * 4096 := by
    intro cs0 h0 h1
    have key : ∃ z', foldM f (((ns.drop 3).zipIdx 0).map fun q => .tup [.int (q.2 : Int), .int q.1]) (cs0.map .int) = .ok z' ∧ ∃ cs : List Int, z' = cs.map .int ∧ cs.length = cs0.length ∧ ∀ c ∈ cs, c.natAbs ≤ B + (0 + ((ns.drop 3).zipIdx 0).length) * (B * 65) := by
      refine foldM_ix (fun q : Int × Nat => .tup [.int (q.2 : Int), .int q.1]) (fun j (z : List D) => ∃ cs : List Int, z = cs.map D.int ∧ cs.length = cs0.length ∧ ∀ c ∈ cs, c.natAbs ≤ B + j * (B * 65)) _ 0 _ ⟨cs0, rfl, rfl, fun c hc => by have := h1 c hc; omega⟩ ?_
      rintro j z ⟨a, k⟩ hx hj ⟨cs, rfl, l1, l2⟩
      have hk := List.mem_zipIdx hx
      obtain ⟨_, hk2, hk3⟩ := hk
      simp only [Nat.zero_add, List.length_drop] at hk2
      have ha : a ∈ ns := by
        have : a ∈ ns.drop 3 := by rw [hk3]; exact List.getElem_mem _
        exact List.mem_of_mem_drop this
      have hlen : cs.length = 3 := by rw [l1]; exact h0 (by simp only [List.length_drop]; omega)
      have hm : modD (.int (k : Int)) (.int 3) = some (.int ((k % 3 : Nat) : Int)) := by rw [modD_int (by decide)]; rfl
      have hi : k % 3 < cs.length := by rw [hlen]; exact Nat.mod_lt _ (by decide)
      have hidx : idxD (.lst (cs.map .int)) (.int ((k % 3 : Nat) : Int)) = some (.int cs[k % 3]) := idxD_lst _ _ _ (by simp [hi])
      have hmul : mulD (.int a) (.int ((k : Int) + 2)) = some (.int (a * ((k : Int) + 2))) := mulD_int (a := p + 1) (b := 10) (by have := hb a ha; rw [Nat.pow_succ]; omega) (by omega) (by omega) (by omega) (by decide)
      have hset : setL (cs.map .int) (.int ((k % 3 : Nat) : Int)) (.int (cs[k % 3] + a * ((k : Int) + 2))) = some ((cs.set (k % 3) (cs[k % 3] + a * ((k : Int) + 2))).map .int) := by
        simp only [setL, L2.ixN, List.length_map]
        rw [if_pos (by omega), if_pos (by omega)]
        simp only [Option.map_some, Int.toNat_natCast, List.map_set]
      refine ⟨(cs.set (k % 3) (cs[k % 3] + a * ((k : Int) + 2))).map .int, ?_, _, rfl, by simp [l1], fun c hc => ?_⟩
      · simp only [hf, un2, Rs.of_some, Rs.bind_ok, intD_int, hm, hidx, addD_int, hmul, hset]
      · have e : (j + 1) * (B * 65) = j * (B * 65) + B * 65 := Nat.succ_mul _ _
        rcases List.mem_or_eq_of_mem_set hc with hc | rfl
        · have := l2 c hc
          omega
        · have z1 := l2 cs[k % 3] (List.getElem_mem hi)
          have z2 := Int.natAbs_add_le cs[k % 3] (a * ((k : Int) + 2))
          have z3 : (a * ((k : Int) + 2)).natAbs ≤ B * 65 := by
            rw [Int.natAbs_mul]
            exact Nat.mul_le_mul (by have := hb a ha; omega) (by omega)
          omega
    obtain ⟨z', e, cs, rfl, k1, k2⟩ := key
    refine ⟨cs, e, k1, fun c hc => ?_⟩
    have z := k2 c hc
    simp only [Nat.zero_add, List.length_zipIdx, List.length_drop] at z
    have z2 : (ns.length - 3) * (B * 65) ≤ 60 * (B * 65) := Nat.mul_le_mul_right _ (by omega)
    omega
  have start : ∃ cs0 : List Int, (if ((ns.take 3).map D.int).isEmpty = true then Rs.ok [D.int 0] else Rs.ok ((ns.take 3).map D.int)) = Rs.ok (cs0.map D.int) ∧ 0 < cs0.length ∧ cs0.length ≤ 3 ∧ (0 < (ns.drop 3).length → cs0.length = 3) ∧ ∀ c ∈ cs0, c.natAbs < B := by
    cases ns with
    | nil => exact ⟨[0], rfl, by decide, by decide, fun h => by simp at h, fun c hc => by simp at hc; subst hc; exact hB1⟩
    | cons n ns =>
      refine ⟨(n :: ns).take 3, by simp, by simp, by simp; omega, fun h => ?_, fun c hc => ?_⟩
      · simp only [List.length_drop, List.length_cons] at h
        simp only [List.length_take, List.length_cons]
        omega
      · rw [hB]
        exact hb c (List.mem_of_mem_take hc)
  obtain ⟨cs0, g1, g2, g3, g4, g5⟩ := start
  obtain ⟨cs, k1, k2, k3⟩ := fin cs0 g4 g5
  refine ⟨cs, ?_, by omega, by omega, fun c hc => Nat.lt_trans (k3 c hc) hBt⟩
  subst hf
  simp only [m_law_cells, asI, Rs.of_some, Rs.bind_ok, s1, listL, g1, s2, e1, k1]
theorem pow18 : powD (.int 10) (.int 18) = some (.int 1000000000000000000) := by kernel_rfl
theorem box_ok {cs : List Int} {k q : Nat} (hk : k < cs.length) (h3 : cs.length ≤ 3) (hq : q ≤ 10000000) (hb : ∀ c ∈ cs, c.natAbs < 2 ^ q) : ∃ s, m_law_box (.lst (cs.map .int)) (.int k) = .ok s ∧ Box 0 s := by
  have hidx : idxD (.lst (cs.map .int)) (.int (k : Int)) = some (.int cs[k]) := idxD_lst _ _ _ (by simp [hk])
  obtain ⟨c, hc⟩ : ∃ c, c = cs[k] := ⟨_, rfl⟩
  have hcb : c.natAbs < 2 ^ q := hb c (hc ▸ List.getElem_mem hk)
  have hlt : decide ((k : Int) < (cs.length : Int)) = true := decide_eq_true (by omega)
  have hm : modD (.int c) (.int 2305843009213693951) = some (.int (c % 2305843009213693951)) := modD_int (by decide)
  have m1 := Int.emod_nonneg c (show (2305843009213693951 : Int) ≠ 0 by decide)
  have m2 := Int.emod_lt_of_pos c (show (0 : Int) < 2305843009213693951 by decide)
  have hk2 : mulD (.int 39373) (.int (k : Int)) = some (.int (39373 * (k : Int))) := mulD_int (a := 20) (b := 20) (by decide) (by omega) (by decide) (by decide) (by decide)
  have habs : (if c < 0 then -c else c).natAbs < 2 ^ (q + 1) := by
    rw [Nat.pow_succ]
    split <;> omega
  have ha0 : 0 ≤ (if c < 0 then -c else c) := by split <;> omega
  have fin : ∀ b : Bool, ∃ v, mulD (.int (if c < 0 then -c else c)) (.int (if b = true then 1 else 0)) = some (.int v) ∧ 0 ≤ v := fun b => by
    refine ⟨_, mulD_int (a := q + 1) (b := 2) habs (by cases b <;> decide) (by omega) (by omega) (by decide), ?_⟩
    cases b
    · simp
    · simp only [if_true, Int.mul_one]
      exact ha0
  obtain ⟨v, v1, v2⟩ := fin (decide (1000000000000000000 ≤ (if c < 0 then -c else c)))
  refine ⟨[.int v, .int (c % 2305843009213693951 + 39373 * (k : Int) + 92300), .int 0], ?_, _, _, _, rfl, v2, ?_, ?_, Int.le_refl _, Int.le_refl _⟩
  · simp only [m_law_box, lenD, List.length_map, Rs.of_some, Rs.bind_ok, ltB_int, hlt, if_true, hidx, ← hc, absD, pow18, geD_int, intD, v1, hm, hk2, addD_int]
  · omega
  · omega
end LW
set_option Elab.async false
set_option linter.all false
set_option maxRecDepth 100000
set_option autoImplicit false
set_option maxHeartbeats 1000000
namespace LW
open PySem PySem.Spec VL

theorem of_any {N : Nat} {s xs : List D} (hb : Box N s) (hN : N ≤ 1000000000) (hx : 0 < xs.length) (hl : xs.length < 1000000) : ∃ d s', m_law_of s (.lst xs) = .ok (d, s') ∧ d ∈ xs ∧ Box (N + 1) s' := by
  obtain ⟨r, s', e, r1, r2, hb'⟩ := take_ok hb hN (n := (xs.length : Int)) (by omega) (by omega)
  obtain ⟨j, rfl⟩ : ∃ j : Nat, r = j := ⟨r.toNat, by omega⟩
  have hk : j < xs.length := by omega
  refine ⟨xs[j], s', ?_, List.getElem_mem hk, hb'⟩
  simp only [m_law_of, Rs.bind_ok, lenD, Rs.of_some, e, idxD_lst xs j xs[j] (List.getElem?_eq_getElem hk), Rs.noX_ok]
theorem bind_of {α β : Type} {m : Rs α} {a : α} {f : α → Rs β} {r : Rs β} (h : m = .ok a) (k : f a = r) : m.bind f = r := by
  rw [h]
  exact k
theorem core (x : Int) (t : Str) (s : List D) : (((Rs.ok (.lst [(.exn "BadLink" [("place", (D.int x))]), (.exn "BadText" [("piece", (D.int x))]), (.exn "BadLine" [("number", (D.int x))]), (.exn "NoHouse" [("name", (D.str t))])]))).bind fun d19 => (Rs.of (addD d19 (.lst [(.exn "NoLink" [("name", (D.str t))]), (.exn "NoWay" [("some", (.tup [(D.str t)]))]), (.exn "OtherHouses" [("given", (.tup []))])]))).bind fun d20 => (Rs.of (addD d20 (.lst [(.exn "NoNumber" [("number", (D.int x))]), (.exn "BadAnswer" [("answer", (D.int x))]), (.exn "AllKnown" [("given", (.tup []))]), (.exn "NothingDone" [("given", (.tup []))]), (.exn "Known" [("name", (D.str t))]), (.exn "NoNet" [("name", (D.str t))])]))).bind fun d21 => (Rs.of (enumD d21)).bind fun l24 => (loopM (β := Unit) (fun z22 d => (Rs.of (un2 d)).bind fun y23 => ((((m_law_sorts y23.2).bind fun x28 => (((Rs.of (rangeD (.int 13))).bind fun l26 => compM some (fun y25 => Rs.ok true) (fun y25 => Rs.of (eqD y25 y23.1)) l26).bind fun l27 => Rs.ok (.lst l27)).bind fun x29 => m_law_same 14 x28 x29).bind fun x30 => Rs.of (asB x30)).bind fun k => Rs.ok (!k)).bind fun k => if k then liftF (Rs.ok (.rt (.bl false) [.lst s])) else ((((Rs.of (isxD [("AllKnown", true), ("BadAnswer", true), ("BadLine", true), ("BadLink", true), ("BadText", true), ("Known", true), ("NoHouse", true), ("NoLink", true), ("NoNet", true), ("NoNumber", true), ("NoWay", true), ("NothingDone", true), ("OtherHouses", true)] (some false) y23.2)).bind fun x31 => Rs.of (asB x31)).bind fun k => Rs.ok (!k)).bind fun k => if k then Rs.ok true else ((Rs.of (isxD [("AllKnown", true), ("BadAnswer", true), ("BadLine", true), ("BadLink", true), ("BadText", true), ("Known", true), ("NoHouse", true), ("NoLink", true), ("NoNet", true), ("NoNumber", true), ("NoWay", true), ("NothingDone", true), ("OtherHouses", true)] (some false) y23.2)).bind fun x32 => Rs.of (asB x32)).bind fun k => Rs.ok (!k)).bind fun k => if k then liftF (Rs.ok (.rt (.bl false) [.lst s])) else Rs.ok (.nx ())) l24 ()).bind (Fl.toIO fun z22 => (((Rs.of (idxD d21 (.int 0))).bind fun x33 => Rs.of (fldX ["BadLink"] "place" x33)).bind fun x38 => ((Rs.of (idxD d21 (.int 1))).bind fun x34 => Rs.of (fldX ["BadText"] "piece" x34)).bind fun x39 => ((Rs.of (idxD d21 (.int 2))).bind fun x35 => Rs.of (fldX ["BadLine", "NoNumber"] "number" x35)).bind fun x40 => ((Rs.of (idxD d21 (.int 3))).bind fun x36 => Rs.of (fldX ["Known", "NoHouse", "NoLink", "NoNet"] "name" x36)).bind fun x41 => ((Rs.of (idxD d21 (.int 4))).bind fun x37 => Rs.of (fldX ["Known", "NoHouse", "NoLink", "NoNet"] "name" x37)).bind fun x42 => Rs.ok (.lst [x38, x39, x40, x41, x42])).bind fun d43 => ((((Rs.of (idxD d21 (.int 5))).bind fun x44 => Rs.of (fldX ["NoWay"] "some" x44)).bind fun x47 => ((Rs.of (idxD d21 (.int 7))).bind fun x45 => Rs.of (fldX ["BadLine", "NoNumber"] "number" x45)).bind fun x48 => ((Rs.of (idxD d21 (.int 8))).bind fun x46 => Rs.of (fldX ["BadAnswer"] "answer" x46)).bind fun x49 => Rs.ok (.lst [x47, x48, x49])).bind fun x50 => Rs.of (addD d43 x50)).bind fun d51 => ((((Rs.of (idxD d21 (.int 11))).bind fun x52 => Rs.of (fldX ["Known", "NoHouse", "NoLink", "NoNet"] "name" x52)).bind fun x54 => ((Rs.of (idxD d21 (.int 12))).bind fun x53 => Rs.of (fldX ["Known", "NoHouse", "NoLink", "NoNet"] "name" x53)).bind fun x55 => Rs.ok (.lst [x54, x55])).bind fun x56 => Rs.of (addD d51 x56)).bind fun d57 => ((Rs.ok (.lst [(D.int x), (D.int x), (D.int x), (D.str t), (D.str t), (.tup [(D.str t)]), (D.int x), (D.int x), (D.str t), (D.str t)]))).bind fun d58 => (((Rs.of (fldX ["BadLink"] "place" (.exn "BadLink" [("place", (D.int x))]))).bind fun x59 => (Rs.of (fldX ["BadText"] "piece" (.exn "BadText" [("piece", (.int 7))]))).bind fun x60 => Rs.ok (.lst [x59, x60])).bind fun x61 => Rs.of (addD d57 x61)).bind fun d62 => (((((Rs.of (negD (.int 1))).bind fun x63 => Rs.ok (.exn "BadLine" [("number", x63)])).bind fun x64 => Rs.of (fldX ["BadLine", "NoNumber"] "number" x64)).bind fun x65 => (Rs.of (fldX ["Known", "NoHouse", "NoLink", "NoNet"] "name" (.exn "NoHouse" [("name", (.str "b"))]))).bind fun x66 => Rs.ok (.lst [x65, x66])).bind fun x67 => Rs.of (addD d62 x67)).bind fun d68 => (((Rs.of (negD (.int 1))).bind fun x69 => Rs.ok (.lst [(D.int x), (.int 7), x69, (.str "b")])).bind fun x70 => Rs.of (addD d58 x70)).bind fun d71 => (((Rs.of (fldX ["Known", "NoHouse", "NoLink", "NoNet"] "name" (.exn "NoLink" [("name", (D.str t))]))).bind fun x74 => (Rs.of (fldX ["NoWay"] "some" (.exn "NoWay" [("some", (.tup [(.str "a"), (.str "b")]))]))).bind fun x75 => (((Rs.of (powD (.int 10) (.int 30))).bind fun x72 => Rs.ok (.exn "NoNumber" [("number", x72)])).bind fun x73 => Rs.of (fldX ["BadLine", "NoNumber"] "number" x73)).bind fun x76 => Rs.ok (.lst [x74, x75, x76])).bind fun x77 => Rs.of (addD d68 x77)).bind fun d78 => (((Rs.of (powD (.int 10) (.int 30))).bind fun x79 => Rs.ok (.lst [(D.str t), (.tup [(.str "a"), (.str "b")]), x79])).bind fun x80 => Rs.of (addD d71 x80)).bind fun d81 => (((Rs.of (fldX ["BadAnswer"] "answer" (.exn "BadAnswer" [("answer", (D.str t))]))).bind fun x82 => (Rs.of (fldX ["Known", "NoHouse", "NoLink", "NoNet"] "name" (.exn "Known" [("name", (D.str t))]))).bind fun x83 => (Rs.of (fldX ["Known", "NoHouse", "NoLink", "NoNet"] "name" (.exn "NoNet" [("name", (D.str t))]))).bind fun x84 => Rs.ok (.lst [x82, x83, x84])).bind fun x85 => Rs.of (addD d78 x85)).bind fun d86 => (((Rs.of (mulD (.lst [(D.str t)]) (.int 3))).bind fun x87 => Rs.of (addD d81 x87)).bind fun x88 => m_law_same 14 d86 x88).bind fun x89 => Rs.ok (x89, s)) : Rs (D × List D)) = (m_law_same 14 (.lst [(D.int x), (D.int x), (D.int x), (D.str t), (D.str t), (.tup [(D.str t)]), (D.int x), (D.int x), (D.str t), (D.str t), (D.int x), (.int 7), (.int (-1)), (.str "b"), (D.str t), (.tup [(.str "a"), (.str "b")]), (.int 1000000000000000000000000000000), (D.str t), (D.str t), (D.str t)]) (.lst [(D.int x), (D.int x), (D.int x), (D.str t), (D.str t), (.tup [(D.str t)]), (D.int x), (D.int x), (D.str t), (D.str t), (D.int x), (.int 7), (.int (-1)), (.str "b"), (D.str t), (.tup [(.str "a"), (.str "b")]), (.int 1000000000000000000000000000000), (D.str t), (D.str t), (D.str t)])).bind fun x89 => Rs.ok (x89, s) := by kernel_rfl
theorem right_ok {s : List D} (hb : Box 0 s) : ∃ s', m_law_right s = .ok (.bl true, s') := by
  obtain ⟨r, s1, e1, r1, r2, b1⟩ := take_ok hb (by decide) (n := 1000000000) (by decide) (by decide)
  obtain ⟨d, s2, e2, hd, b2⟩ := of_any (xs := [(.str "a"), (.str "ants"), (.str "abcdefgh"), (.str "zz")]) b1 (by decide) (by decide) (by decide)
  obtain ⟨t, rfl⟩ : ∃ t : Str, d = .str t := by
    simp only [List.mem_cons, List.not_mem_nil, or_false] at hd
    rcases hd with rfl | rfl | rfl | rfl <;> exact ⟨_, rfl⟩
  have p9 : powD (.int 10) (.int 9) = some (.int 1000000000) := by kernel_rfl
  have p8 : powD (.int 10) (.int 8) = some (.int 100000000) := by kernel_rfl
  have m5 : mulD (.int 5) (.int 100000000) = some (.int 500000000) := by kernel_rfl
  have h1 : (((((Rs.of (powD (.int 10) (.int 9))).bind fun d => Rs.ok (d, s))).bind fun u2 => m_law_take u2.2 u2.1).bind fun u9 => ((((Rs.of (powD (.int 10) (.int 8))).bind fun x7 => Rs.of (mulD (.int 5) x7)).bind fun d => Rs.ok (d, u9.2))).bind fun u8 => (Rs.of (subD u9.1 u8.1)).bind fun d => Rs.ok (d, u8.2)).noX = .ok (.int (r - 500000000), s1) := by
    simp only [p9, p8, m5, Rs.of_some, Rs.bind_ok, e1, subD_int, Rs.noX_ok]
  have h2 : (((Rs.ok ((.lst [(.str "a"), (.str "ants"), (.str "abcdefgh"), (.str "zz")]), s1))).bind fun u18 => m_law_of u18.2 u18.1).noX = .ok (.str t, s2) := by
    simp only [Rs.bind_ok, e2, Rs.noX_ok]
  refine ⟨s2, bind_of h1 (bind_of h2 ((core (r - 500000000) t s2).trans ?_))⟩
  rw [same_refl 13 _ (by simp [fits])]
  rfl
theorem plain (ns : List Int) (hl : ns.length ≤ 63) (hb : ∀ i ∈ ns, Builtin.Int.intBits i ≤ 1048576) : m_law (.scr (ns.map .int)) = .ok (.bl true) := by
  have hb' : ∀ n ∈ ns, n.natAbs < 2 ^ 1048576 := fun n hn => by
    have z := hb n hn
    unfold Builtin.Int.intBits at z
    split at z
    · rename_i h0
      have e : n.natAbs = 0 := by simpa using h0
      rw [e]
      exact Nat.pow_pos (by decide)
    · exact Nat.lt_of_lt_of_le Nat.lt_log2_self (Nat.pow_le_pow_right (by decide) z)
  obtain ⟨cs, e1, c1, c2, c3⟩ := cells_ok hl (p := 1048576) (by decide) hb'
  have hr := rangeD_nat (n := cs.length) (by omega)
  have c0 := compM_all (fe := fun y2 => ((m_law_box (.lst (cs.map .int)) y2).noX).bind fun l3 => (m_law_right l3).noX.bind fun u => Rs.ok u.1) (fun (i : Nat) => D.int (0 + (i : Int))) (fun _ => .bl true) (List.range cs.length) fun k hk => by
    obtain ⟨s, e2, b⟩ := box_ok (List.mem_range.mp hk) c2 (by decide) c3
    obtain ⟨s', e3⟩ := right_ok b
    simp only [Int.zero_add, e2, Rs.noX_ok, Rs.bind_ok, e3]
  have a0 := allD_of (List.range cs.length) fun _ => true
  simp only [m_law, e1, Rs.bind_ok, Rs.of_some, lenD_lst, List.length_map, hr, c0, a0]
  simp
end LW
set_option Elab.async false
set_option linter.all false
set_option maxRecDepth 100000
set_option maxHeartbeats 0
set_option autoImplicit false
namespace LW
open PySem PySem.Spec L2 VL
open PyProof.Rows hiding St
def fac0 : List FrB := [freeB "ValueError", freeB "abs", freeB "all", freeB "bool", freeB "enumerate", freeB "int", freeB "isinstance", freeB "len", freeB "list", freeB "range", freeB "str", freeB "tuple", freeB "zip", gloB "AllKnown", gloB "BadAnswer", gloB "BadLine", gloB "BadLink", gloB "BadText", gloB "GatherError", gloB "Known", gloB "NoHouse", gloB "NoLink", gloB "NoNet", gloB "NoNumber", gloB "NoWay"]
def fac1 : List FrB := [gloB "NothingDone", gloB "OtherHouses", oexB "AllKnown", xicB "AllKnown", noatB "AllKnown" "given", xfcB "AllKnown", exiBn "AllKnown", oexB "BadAnswer", xicB "BadAnswer", noatB "BadAnswer" "answer", xfcB "BadAnswer", exiBn "BadAnswer", oexB "BadLine", xicB "BadLine", noatB "BadLine" "number", xfcB "BadLine", exiBn "BadLine", oexB "BadLink", xicB "BadLink", noatB "BadLink" "place", xfcB "BadLink", exiBn "BadLink", oexB "BadText", xicB "BadText", noatB "BadText" "piece"]
def fac2 : List FrB := [xfcB "BadText", exiBn "BadText", oexB "Known", xicB "Known", noatB "Known" "name", xfcB "Known", exiBn "Known", oexB "NoHouse", xicB "NoHouse", noatB "NoHouse" "name", xfcB "NoHouse", exiBn "NoHouse", oexB "NoLink", xicB "NoLink", noatB "NoLink" "name", xfcB "NoLink", exiBn "NoLink", oexB "NoNet", xicB "NoNet", noatB "NoNet" "name", xfcB "NoNet", exiBn "NoNet", oexB "NoNumber", xicB "NoNumber", noatB "NoNumber" "number"]
def fac3 : List FrB := [xfcB "NoNumber", exiBn "NoNumber", oexB "NoWay", xicB "NoWay", noatB "NoWay" "some", xfcB "NoWay", exiBn "NoWay", oexB "NothingDone", xicB "NothingDone", noatB "NothingDone" "given", xfcB "NothingDone", exiBn "NothingDone", oexB "OtherHouses", xicB "OtherHouses", noatB "OtherHouses" "given", xfcB "OtherHouses", exiBn "OtherHouses", kitB1 "AllKnown" "AllKnown" true, kitB1 "AllKnown" "BadAnswer" false, kitB1 "AllKnown" "BadLine" false, kitB1 "AllKnown" "BadLink" false, kitB1 "AllKnown" "BadText" false, kitB1 "AllKnown" "GatherError" true, kitB1 "AllKnown" "Known" false, kitB1 "AllKnown" "NoHouse" false]
def fac4 : List FrB := [kitB1 "AllKnown" "NoLink" false, kitB1 "AllKnown" "NoNet" false, kitB1 "AllKnown" "NoNumber" false, kitB1 "AllKnown" "NoWay" false, kitB1 "AllKnown" "NothingDone" false, kitB1 "AllKnown" "OtherHouses" false, kitTB1 "AllKnown" "ValueError" true, kitB1 "BadAnswer" "AllKnown" false, kitB1 "BadAnswer" "BadAnswer" true, kitB1 "BadAnswer" "BadLine" false, kitB1 "BadAnswer" "BadLink" false, kitB1 "BadAnswer" "BadText" false, kitB1 "BadAnswer" "GatherError" true, kitB1 "BadAnswer" "Known" false, kitB1 "BadAnswer" "NoHouse" false, kitB1 "BadAnswer" "NoLink" false, kitB1 "BadAnswer" "NoNet" false, kitB1 "BadAnswer" "NoNumber" false, kitB1 "BadAnswer" "NoWay" false, kitB1 "BadAnswer" "NothingDone" false, kitB1 "BadAnswer" "OtherHouses" false, kitTB1 "BadAnswer" "ValueError" true, kitB1 "BadLine" "AllKnown" false, kitB1 "BadLine" "BadAnswer" false, kitB1 "BadLine" "BadLine" true]
def fac5 : List FrB := [kitB1 "BadLine" "BadLink" false, kitB1 "BadLine" "BadText" false, kitB1 "BadLine" "GatherError" true, kitB1 "BadLine" "Known" false, kitB1 "BadLine" "NoHouse" false, kitB1 "BadLine" "NoLink" false, kitB1 "BadLine" "NoNet" false, kitB1 "BadLine" "NoNumber" false, kitB1 "BadLine" "NoWay" false, kitB1 "BadLine" "NothingDone" false, kitB1 "BadLine" "OtherHouses" false, kitTB1 "BadLine" "ValueError" true, kitB1 "BadLink" "AllKnown" false, kitB1 "BadLink" "BadAnswer" false, kitB1 "BadLink" "BadLine" false, kitB1 "BadLink" "BadLink" true, kitB1 "BadLink" "BadText" false, kitB1 "BadLink" "GatherError" true, kitB1 "BadLink" "Known" false, kitB1 "BadLink" "NoHouse" false, kitB1 "BadLink" "NoLink" false, kitB1 "BadLink" "NoNet" false, kitB1 "BadLink" "NoNumber" false, kitB1 "BadLink" "NoWay" false, kitB1 "BadLink" "NothingDone" false]
def fac6 : List FrB := [kitB1 "BadLink" "OtherHouses" false, kitTB1 "BadLink" "ValueError" true, kitB1 "BadText" "AllKnown" false, kitB1 "BadText" "BadAnswer" false, kitB1 "BadText" "BadLine" false, kitB1 "BadText" "BadLink" false, kitB1 "BadText" "BadText" true, kitB1 "BadText" "GatherError" true, kitB1 "BadText" "Known" false, kitB1 "BadText" "NoHouse" false, kitB1 "BadText" "NoLink" false, kitB1 "BadText" "NoNet" false, kitB1 "BadText" "NoNumber" false, kitB1 "BadText" "NoWay" false, kitB1 "BadText" "NothingDone" false, kitB1 "BadText" "OtherHouses" false, kitTB1 "BadText" "ValueError" true, kitB1 "Known" "AllKnown" false, kitB1 "Known" "BadAnswer" false, kitB1 "Known" "BadLine" false, kitB1 "Known" "BadLink" false, kitB1 "Known" "BadText" false, kitB1 "Known" "GatherError" true, kitB1 "Known" "Known" true, kitB1 "Known" "NoHouse" false]
def fac7 : List FrB := [kitB1 "Known" "NoLink" false, kitB1 "Known" "NoNet" false, kitB1 "Known" "NoNumber" false, kitB1 "Known" "NoWay" false, kitB1 "Known" "NothingDone" false, kitB1 "Known" "OtherHouses" false, kitTB1 "Known" "ValueError" true, kitB1 "NoHouse" "AllKnown" false, kitB1 "NoHouse" "BadAnswer" false, kitB1 "NoHouse" "BadLine" false, kitB1 "NoHouse" "BadLink" false, kitB1 "NoHouse" "BadText" false, kitB1 "NoHouse" "GatherError" true, kitB1 "NoHouse" "Known" false, kitB1 "NoHouse" "NoHouse" true, kitB1 "NoHouse" "NoLink" false, kitB1 "NoHouse" "NoNet" false, kitB1 "NoHouse" "NoNumber" false, kitB1 "NoHouse" "NoWay" false, kitB1 "NoHouse" "NothingDone" false, kitB1 "NoHouse" "OtherHouses" false, kitTB1 "NoHouse" "ValueError" true, kitB1 "NoLink" "AllKnown" false, kitB1 "NoLink" "BadAnswer" false, kitB1 "NoLink" "BadLine" false]
def fac8 : List FrB := [kitB1 "NoLink" "BadLink" false, kitB1 "NoLink" "BadText" false, kitB1 "NoLink" "GatherError" true, kitB1 "NoLink" "Known" false, kitB1 "NoLink" "NoHouse" false, kitB1 "NoLink" "NoLink" true, kitB1 "NoLink" "NoNet" false, kitB1 "NoLink" "NoNumber" false, kitB1 "NoLink" "NoWay" false, kitB1 "NoLink" "NothingDone" false, kitB1 "NoLink" "OtherHouses" false, kitTB1 "NoLink" "ValueError" true, kitB1 "NoNet" "AllKnown" false, kitB1 "NoNet" "BadAnswer" false, kitB1 "NoNet" "BadLine" false, kitB1 "NoNet" "BadLink" false, kitB1 "NoNet" "BadText" false, kitB1 "NoNet" "GatherError" true, kitB1 "NoNet" "Known" false, kitB1 "NoNet" "NoHouse" false, kitB1 "NoNet" "NoLink" false, kitB1 "NoNet" "NoNet" true, kitB1 "NoNet" "NoNumber" false, kitB1 "NoNet" "NoWay" false, kitB1 "NoNet" "NothingDone" false]
def fac9 : List FrB := [kitB1 "NoNet" "OtherHouses" false, kitTB1 "NoNet" "ValueError" true, kitB1 "NoNumber" "AllKnown" false, kitB1 "NoNumber" "BadAnswer" false, kitB1 "NoNumber" "BadLine" false, kitB1 "NoNumber" "BadLink" false, kitB1 "NoNumber" "BadText" false, kitB1 "NoNumber" "GatherError" true, kitB1 "NoNumber" "Known" false, kitB1 "NoNumber" "NoHouse" false, kitB1 "NoNumber" "NoLink" false, kitB1 "NoNumber" "NoNet" false, kitB1 "NoNumber" "NoNumber" true, kitB1 "NoNumber" "NoWay" false, kitB1 "NoNumber" "NothingDone" false, kitB1 "NoNumber" "OtherHouses" false, kitTB1 "NoNumber" "ValueError" true, kitB1 "NoWay" "AllKnown" false, kitB1 "NoWay" "BadAnswer" false, kitB1 "NoWay" "BadLine" false, kitB1 "NoWay" "BadLink" false, kitB1 "NoWay" "BadText" false, kitB1 "NoWay" "GatherError" true, kitB1 "NoWay" "Known" false, kitB1 "NoWay" "NoHouse" false]
def fac10 : List FrB := [kitB1 "NoWay" "NoLink" false, kitB1 "NoWay" "NoNet" false, kitB1 "NoWay" "NoNumber" false, kitB1 "NoWay" "NoWay" true, kitB1 "NoWay" "NothingDone" false, kitB1 "NoWay" "OtherHouses" false, kitTB1 "NoWay" "ValueError" true, kitB1 "NothingDone" "AllKnown" false, kitB1 "NothingDone" "BadAnswer" false, kitB1 "NothingDone" "BadLine" false, kitB1 "NothingDone" "BadLink" false, kitB1 "NothingDone" "BadText" false, kitB1 "NothingDone" "GatherError" true, kitB1 "NothingDone" "Known" false, kitB1 "NothingDone" "NoHouse" false, kitB1 "NothingDone" "NoLink" false, kitB1 "NothingDone" "NoNet" false, kitB1 "NothingDone" "NoNumber" false, kitB1 "NothingDone" "NoWay" false, kitB1 "NothingDone" "NothingDone" true, kitB1 "NothingDone" "OtherHouses" false, kitTB1 "NothingDone" "ValueError" true, kitB1 "OtherHouses" "AllKnown" false, kitB1 "OtherHouses" "BadAnswer" false, kitB1 "OtherHouses" "BadLine" false]
def fac11 : List FrB := [kitB1 "OtherHouses" "BadLink" false, kitB1 "OtherHouses" "BadText" false, kitB1 "OtherHouses" "GatherError" true, kitB1 "OtherHouses" "Known" false, kitB1 "OtherHouses" "NoHouse" false, kitB1 "OtherHouses" "NoLink" false, kitB1 "OtherHouses" "NoNet" false, kitB1 "OtherHouses" "NoNumber" false, kitB1 "OtherHouses" "NoWay" false, kitB1 "OtherHouses" "NothingDone" false, kitB1 "OtherHouses" "OtherHouses" true, kitTB1 "OtherHouses" "ValueError" true, kitNB1 "AllKnown" false, kitNB1 "BadAnswer" false, kitNB1 "BadLine" false, kitNB1 "BadLink" false, kitNB1 "BadText" false, kitNB1 "GatherError" false, kitNB1 "Known" false, kitNB1 "NoHouse" false, kitNB1 "NoLink" false, kitNB1 "NoNet" false, kitNB1 "NoNumber" false, kitNB1 "NoWay" false, kitNB1 "NothingDone" false]
def fac12 : List FrB := [kitNB1 "OtherHouses" false, kitNTB1 "ValueError" false, gloB "_law_box", gloB "_law_take", gloB "_law_cells", gloB "_law_of", gloB "_law_same", gloB "_law_sorts", gloB "_law_right", gloB "law"]
def fac : List FrB := fac0 ++ fac1 ++ fac2 ++ fac3 ++ fac4 ++ fac5 ++ fac6 ++ fac7 ++ fac8 ++ fac9 ++ fac10 ++ fac11 ++ fac12
def df_law_box : DefA := ⟨fun K => (He.ga K "_law_box"), "_law_box", "_law_box", defArgs (top 16), defBody (top 16), defScope (top 16), []⟩
def df_law_take : DefA := ⟨fun K => (He.ga K "_law_take"), "_law_take", "_law_take", defArgs (top 17), defBody (top 17), defScope (top 17), []⟩
def df_law_cells : DefA := ⟨fun K => (He.ga K "_law_cells"), "_law_cells", "_law_cells", defArgs (top 18), defBody (top 18), defScope (top 18), []⟩
def df_law_of : DefA := ⟨fun K => (He.ga K "_law_of"), "_law_of", "_law_of", defArgs (top 19), defBody (top 19), defScope (top 19), []⟩
def df_law_same : DefA := ⟨fun K => (He.ga K "_law_same"), "_law_same", "_law_same", defArgs (top 20), defBody (top 20), defScope (top 20), []⟩
def df_law_sorts : DefA := ⟨fun K => (He.ga K "_law_sorts"), "_law_sorts", "_law_sorts", defArgs (top 21), defBody (top 21), defScope (top 21), []⟩
def df_AllKnown_init : DefA := ⟨fun K => (He.ma K (He.ga K "AllKnown") "__init__"), "__init__", "AllKnown.__init__", defArgs (sub (top 11) 0), defBody (sub (top 11) 0), defScope (sub (top 11) 0), []⟩
def df_BadAnswer_init : DefA := ⟨fun K => (He.ma K (He.ga K "BadAnswer") "__init__"), "__init__", "BadAnswer.__init__", defArgs (sub (top 10) 0), defBody (sub (top 10) 0), defScope (sub (top 10) 0), []⟩
def df_BadLine_init : DefA := ⟨fun K => (He.ma K (He.ga K "BadLine") "__init__"), "__init__", "BadLine.__init__", defArgs (sub (top 4) 0), defBody (sub (top 4) 0), defScope (sub (top 4) 0), []⟩
def df_BadLink_init : DefA := ⟨fun K => (He.ma K (He.ga K "BadLink") "__init__"), "__init__", "BadLink.__init__", defArgs (sub (top 2) 0), defBody (sub (top 2) 0), defScope (sub (top 2) 0), []⟩
def df_BadText_init : DefA := ⟨fun K => (He.ma K (He.ga K "BadText") "__init__"), "__init__", "BadText.__init__", defArgs (sub (top 3) 0), defBody (sub (top 3) 0), defScope (sub (top 3) 0), []⟩
def df_Known_init : DefA := ⟨fun K => (He.ma K (He.ga K "Known") "__init__"), "__init__", "Known.__init__", defArgs (sub (top 13) 0), defBody (sub (top 13) 0), defScope (sub (top 13) 0), []⟩
def df_NoHouse_init : DefA := ⟨fun K => (He.ma K (He.ga K "NoHouse") "__init__"), "__init__", "NoHouse.__init__", defArgs (sub (top 5) 0), defBody (sub (top 5) 0), defScope (sub (top 5) 0), []⟩
def df_NoLink_init : DefA := ⟨fun K => (He.ma K (He.ga K "NoLink") "__init__"), "__init__", "NoLink.__init__", defArgs (sub (top 6) 0), defBody (sub (top 6) 0), defScope (sub (top 6) 0), []⟩
def df_NoNet_init : DefA := ⟨fun K => (He.ma K (He.ga K "NoNet") "__init__"), "__init__", "NoNet.__init__", defArgs (sub (top 14) 0), defBody (sub (top 14) 0), defScope (sub (top 14) 0), []⟩
def df_NoNumber_init : DefA := ⟨fun K => (He.ma K (He.ga K "NoNumber") "__init__"), "__init__", "NoNumber.__init__", defArgs (sub (top 9) 0), defBody (sub (top 9) 0), defScope (sub (top 9) 0), []⟩
def df_NoWay_init : DefA := ⟨fun K => (He.ma K (He.ga K "NoWay") "__init__"), "__init__", "NoWay.__init__", defArgs (sub (top 7) 0), defBody (sub (top 7) 0), defScope (sub (top 7) 0), []⟩
def df_NothingDone_init : DefA := ⟨fun K => (He.ma K (He.ga K "NothingDone") "__init__"), "__init__", "NothingDone.__init__", defArgs (sub (top 12) 0), defBody (sub (top 12) 0), defScope (sub (top 12) 0), []⟩
def df_OtherHouses_init : DefA := ⟨fun K => (He.ma K (He.ga K "OtherHouses") "__init__"), "__init__", "OtherHouses.__init__", defArgs (sub (top 8) 0), defBody (sub (top 8) 0), defScope (sub (top 8) 0), []⟩
def df_law_right : DefA := ⟨fun K => (He.ga K "_law_right"), "_law_right", "_law_right", defArgs (top 22), defBody (top 22), defScope (top 22), []⟩
def df_law : DefA := ⟨fun K => (He.ga K "law"), "law", "law", defArgs (top 23), defBody (top 23), defScope (top 23), []⟩
def fns : List DefA := [df_law_box, df_law_take, df_law_cells, df_law_of, df_law_same, df_law_sorts, df_AllKnown_init, df_BadAnswer_init, df_BadLine_init, df_BadLink_init, df_BadText_init, df_Known_init, df_NoHouse_init, df_NoLink_init, df_NoNet_init, df_NoNumber_init, df_NoWay_init, df_NothingDone_init, df_OtherHouses_init, df_law_right, df_law]
theorem mkTxt {K : PySem.W.Frag} {mg : Str → Option Value} {h : Heap} (X : K.In h) (G : h.Ns mainGlobals mg) (c : SaysV fac fns K) : Nonempty (Txt K mg) := by
  obtain ⟨fd0, F0⟩ := c.fn_ 0 (d := df_law_box) rfl
  obtain ⟨fd1, F1⟩ := c.fn_ 1 (d := df_law_take) rfl
  obtain ⟨fd2, F2⟩ := c.fn_ 2 (d := df_law_cells) rfl
  obtain ⟨fd3, F3⟩ := c.fn_ 3 (d := df_law_of) rfl
  obtain ⟨fd4, F4⟩ := c.fn_ 4 (d := df_law_same) rfl
  obtain ⟨fd5, F5⟩ := c.fn_ 5 (d := df_law_sorts) rfl
  obtain ⟨fd6, F6⟩ := c.fn_ 6 (d := df_AllKnown_init) rfl
  obtain ⟨fd7, F7⟩ := c.fn_ 7 (d := df_BadAnswer_init) rfl
  obtain ⟨fd8, F8⟩ := c.fn_ 8 (d := df_BadLine_init) rfl
  obtain ⟨fd9, F9⟩ := c.fn_ 9 (d := df_BadLink_init) rfl
  obtain ⟨fd10, F10⟩ := c.fn_ 10 (d := df_BadText_init) rfl
  obtain ⟨fd11, F11⟩ := c.fn_ 11 (d := df_Known_init) rfl
  obtain ⟨fd12, F12⟩ := c.fn_ 12 (d := df_NoHouse_init) rfl
  obtain ⟨fd13, F13⟩ := c.fn_ 13 (d := df_NoLink_init) rfl
  obtain ⟨fd14, F14⟩ := c.fn_ 14 (d := df_NoNet_init) rfl
  obtain ⟨fd15, F15⟩ := c.fn_ 15 (d := df_NoNumber_init) rfl
  obtain ⟨fd16, F16⟩ := c.fn_ 16 (d := df_NoWay_init) rfl
  obtain ⟨fd17, F17⟩ := c.fn_ 17 (d := df_NothingDone_init) rfl
  obtain ⟨fd18, F18⟩ := c.fn_ 18 (d := df_OtherHouses_init) rfl
  obtain ⟨fd19, F19⟩ := c.fn_ 19 (d := df_law_right) rfl
  obtain ⟨fd20, F20⟩ := c.fn_ 20 (d := df_law) rfl
  exact ⟨{
    f_ValueError := He.free_ok X G (c.fact 0 (f := freeB "ValueError") rfl)
    f_abs := He.free_ok X G (c.fact 1 (f := freeB "abs") rfl)
    f_all := He.free_ok X G (c.fact 2 (f := freeB "all") rfl)
    f_bool := He.free_ok X G (c.fact 3 (f := freeB "bool") rfl)
    f_enumerate := He.free_ok X G (c.fact 4 (f := freeB "enumerate") rfl)
    f_int := He.free_ok X G (c.fact 5 (f := freeB "int") rfl)
    f_isinstance := He.free_ok X G (c.fact 6 (f := freeB "isinstance") rfl)
    f_len := He.free_ok X G (c.fact 7 (f := freeB "len") rfl)
    f_list := He.free_ok X G (c.fact 8 (f := freeB "list") rfl)
    f_range := He.free_ok X G (c.fact 9 (f := freeB "range") rfl)
    f_str := He.free_ok X G (c.fact 10 (f := freeB "str") rfl)
    f_tuple := He.free_ok X G (c.fact 11 (f := freeB "tuple") rfl)
    f_zip := He.free_ok X G (c.fact 12 (f := freeB "zip") rfl)
    g_AllKnown := He.glo_ok X G (c.fact 13 (f := gloB "AllKnown") rfl)
    g_BadAnswer := He.glo_ok X G (c.fact 14 (f := gloB "BadAnswer") rfl)
    g_BadLine := He.glo_ok X G (c.fact 15 (f := gloB "BadLine") rfl)
    g_BadLink := He.glo_ok X G (c.fact 16 (f := gloB "BadLink") rfl)
    g_BadText := He.glo_ok X G (c.fact 17 (f := gloB "BadText") rfl)
    g_GatherError := He.glo_ok X G (c.fact 18 (f := gloB "GatherError") rfl)
    g_Known := He.glo_ok X G (c.fact 19 (f := gloB "Known") rfl)
    g_NoHouse := He.glo_ok X G (c.fact 20 (f := gloB "NoHouse") rfl)
    g_NoLink := He.glo_ok X G (c.fact 21 (f := gloB "NoLink") rfl)
    g_NoNet := He.glo_ok X G (c.fact 22 (f := gloB "NoNet") rfl)
    g_NoNumber := He.glo_ok X G (c.fact 23 (f := gloB "NoNumber") rfl)
    g_NoWay := He.glo_ok X G (c.fact 24 (f := gloB "NoWay") rfl)
    g_NothingDone := He.glo_ok X G (c.fact 25 (f := gloB "NothingDone") rfl)
    g_OtherHouses := He.glo_ok X G (c.fact 26 (f := gloB "OtherHouses") rfl)
    ox_AllKnown := oexB_ok (c.fact 27 (f := oexB "AllKnown") rfl)
    ic_AllKnown := xicB_ok (c.fact 28 (f := xicB "AllKnown") rfl)
    no_AllKnown := He.eqO_ok (c.fact 29 (f := noatB "AllKnown" "given") rfl)
    xf_AllKnown := xfB_ok (c.fact 30 (f := xfcB "AllKnown") rfl)
    xi_AllKnown := exiB_ok (C := fun K => He.ga K "AllKnown") (c.fact 31 (f := exiBn "AllKnown") rfl)
    ox_BadAnswer := oexB_ok (c.fact 32 (f := oexB "BadAnswer") rfl)
    ic_BadAnswer := xicB_ok (c.fact 33 (f := xicB "BadAnswer") rfl)
    no_BadAnswer := He.eqO_ok (c.fact 34 (f := noatB "BadAnswer" "answer") rfl)
    xf_BadAnswer := xfB_ok (c.fact 35 (f := xfcB "BadAnswer") rfl)
    xi_BadAnswer := exiB_ok (C := fun K => He.ga K "BadAnswer") (c.fact 36 (f := exiBn "BadAnswer") rfl)
    ox_BadLine := oexB_ok (c.fact 37 (f := oexB "BadLine") rfl)
    ic_BadLine := xicB_ok (c.fact 38 (f := xicB "BadLine") rfl)
    no_BadLine := He.eqO_ok (c.fact 39 (f := noatB "BadLine" "number") rfl)
    xf_BadLine := xfB_ok (c.fact 40 (f := xfcB "BadLine") rfl)
    xi_BadLine := exiB_ok (C := fun K => He.ga K "BadLine") (c.fact 41 (f := exiBn "BadLine") rfl)
    ox_BadLink := oexB_ok (c.fact 42 (f := oexB "BadLink") rfl)
    ic_BadLink := xicB_ok (c.fact 43 (f := xicB "BadLink") rfl)
    no_BadLink := He.eqO_ok (c.fact 44 (f := noatB "BadLink" "place") rfl)
    xf_BadLink := xfB_ok (c.fact 45 (f := xfcB "BadLink") rfl)
    xi_BadLink := exiB_ok (C := fun K => He.ga K "BadLink") (c.fact 46 (f := exiBn "BadLink") rfl)
    ox_BadText := oexB_ok (c.fact 47 (f := oexB "BadText") rfl)
    ic_BadText := xicB_ok (c.fact 48 (f := xicB "BadText") rfl)
    no_BadText := He.eqO_ok (c.fact 49 (f := noatB "BadText" "piece") rfl)
    xf_BadText := xfB_ok (c.fact 50 (f := xfcB "BadText") rfl)
    xi_BadText := exiB_ok (C := fun K => He.ga K "BadText") (c.fact 51 (f := exiBn "BadText") rfl)
    ox_Known := oexB_ok (c.fact 52 (f := oexB "Known") rfl)
    ic_Known := xicB_ok (c.fact 53 (f := xicB "Known") rfl)
    no_Known := He.eqO_ok (c.fact 54 (f := noatB "Known" "name") rfl)
    xf_Known := xfB_ok (c.fact 55 (f := xfcB "Known") rfl)
    xi_Known := exiB_ok (C := fun K => He.ga K "Known") (c.fact 56 (f := exiBn "Known") rfl)
    ox_NoHouse := oexB_ok (c.fact 57 (f := oexB "NoHouse") rfl)
    ic_NoHouse := xicB_ok (c.fact 58 (f := xicB "NoHouse") rfl)
    no_NoHouse := He.eqO_ok (c.fact 59 (f := noatB "NoHouse" "name") rfl)
    xf_NoHouse := xfB_ok (c.fact 60 (f := xfcB "NoHouse") rfl)
    xi_NoHouse := exiB_ok (C := fun K => He.ga K "NoHouse") (c.fact 61 (f := exiBn "NoHouse") rfl)
    ox_NoLink := oexB_ok (c.fact 62 (f := oexB "NoLink") rfl)
    ic_NoLink := xicB_ok (c.fact 63 (f := xicB "NoLink") rfl)
    no_NoLink := He.eqO_ok (c.fact 64 (f := noatB "NoLink" "name") rfl)
    xf_NoLink := xfB_ok (c.fact 65 (f := xfcB "NoLink") rfl)
    xi_NoLink := exiB_ok (C := fun K => He.ga K "NoLink") (c.fact 66 (f := exiBn "NoLink") rfl)
    ox_NoNet := oexB_ok (c.fact 67 (f := oexB "NoNet") rfl)
    ic_NoNet := xicB_ok (c.fact 68 (f := xicB "NoNet") rfl)
    no_NoNet := He.eqO_ok (c.fact 69 (f := noatB "NoNet" "name") rfl)
    xf_NoNet := xfB_ok (c.fact 70 (f := xfcB "NoNet") rfl)
    xi_NoNet := exiB_ok (C := fun K => He.ga K "NoNet") (c.fact 71 (f := exiBn "NoNet") rfl)
    ox_NoNumber := oexB_ok (c.fact 72 (f := oexB "NoNumber") rfl)
    ic_NoNumber := xicB_ok (c.fact 73 (f := xicB "NoNumber") rfl)
    no_NoNumber := He.eqO_ok (c.fact 74 (f := noatB "NoNumber" "number") rfl)
    xf_NoNumber := xfB_ok (c.fact 75 (f := xfcB "NoNumber") rfl)
    xi_NoNumber := exiB_ok (C := fun K => He.ga K "NoNumber") (c.fact 76 (f := exiBn "NoNumber") rfl)
    ox_NoWay := oexB_ok (c.fact 77 (f := oexB "NoWay") rfl)
    ic_NoWay := xicB_ok (c.fact 78 (f := xicB "NoWay") rfl)
    no_NoWay := He.eqO_ok (c.fact 79 (f := noatB "NoWay" "some") rfl)
    xf_NoWay := xfB_ok (c.fact 80 (f := xfcB "NoWay") rfl)
    xi_NoWay := exiB_ok (C := fun K => He.ga K "NoWay") (c.fact 81 (f := exiBn "NoWay") rfl)
    ox_NothingDone := oexB_ok (c.fact 82 (f := oexB "NothingDone") rfl)
    ic_NothingDone := xicB_ok (c.fact 83 (f := xicB "NothingDone") rfl)
    no_NothingDone := He.eqO_ok (c.fact 84 (f := noatB "NothingDone" "given") rfl)
    xf_NothingDone := xfB_ok (c.fact 85 (f := xfcB "NothingDone") rfl)
    xi_NothingDone := exiB_ok (C := fun K => He.ga K "NothingDone") (c.fact 86 (f := exiBn "NothingDone") rfl)
    ox_OtherHouses := oexB_ok (c.fact 87 (f := oexB "OtherHouses") rfl)
    ic_OtherHouses := xicB_ok (c.fact 88 (f := xicB "OtherHouses") rfl)
    no_OtherHouses := He.eqO_ok (c.fact 89 (f := noatB "OtherHouses" "given") rfl)
    xf_OtherHouses := xfB_ok (c.fact 90 (f := xfcB "OtherHouses") rfl)
    xi_OtherHouses := exiB_ok (C := fun K => He.ga K "OtherHouses") (c.fact 91 (f := exiBn "OtherHouses") rfl)
    kt_AllKnown_AllKnown := of_decide_eq_true (c.fact 92 (f := kitB1 "AllKnown" "AllKnown" true) rfl)
    kt_AllKnown_BadAnswer := of_decide_eq_true (c.fact 93 (f := kitB1 "AllKnown" "BadAnswer" false) rfl)
    kt_AllKnown_BadLine := of_decide_eq_true (c.fact 94 (f := kitB1 "AllKnown" "BadLine" false) rfl)
    kt_AllKnown_BadLink := of_decide_eq_true (c.fact 95 (f := kitB1 "AllKnown" "BadLink" false) rfl)
    kt_AllKnown_BadText := of_decide_eq_true (c.fact 96 (f := kitB1 "AllKnown" "BadText" false) rfl)
    kt_AllKnown_GatherError := of_decide_eq_true (c.fact 97 (f := kitB1 "AllKnown" "GatherError" true) rfl)
    kt_AllKnown_Known := of_decide_eq_true (c.fact 98 (f := kitB1 "AllKnown" "Known" false) rfl)
    kt_AllKnown_NoHouse := of_decide_eq_true (c.fact 99 (f := kitB1 "AllKnown" "NoHouse" false) rfl)
    kt_AllKnown_NoLink := of_decide_eq_true (c.fact 100 (f := kitB1 "AllKnown" "NoLink" false) rfl)
    kt_AllKnown_NoNet := of_decide_eq_true (c.fact 101 (f := kitB1 "AllKnown" "NoNet" false) rfl)
    kt_AllKnown_NoNumber := of_decide_eq_true (c.fact 102 (f := kitB1 "AllKnown" "NoNumber" false) rfl)
    kt_AllKnown_NoWay := of_decide_eq_true (c.fact 103 (f := kitB1 "AllKnown" "NoWay" false) rfl)
    kt_AllKnown_NothingDone := of_decide_eq_true (c.fact 104 (f := kitB1 "AllKnown" "NothingDone" false) rfl)
    kt_AllKnown_OtherHouses := of_decide_eq_true (c.fact 105 (f := kitB1 "AllKnown" "OtherHouses" false) rfl)
    kt_AllKnown_ValueError := of_decide_eq_true (c.fact 106 (f := kitTB1 "AllKnown" "ValueError" true) rfl)
    kt_BadAnswer_AllKnown := of_decide_eq_true (c.fact 107 (f := kitB1 "BadAnswer" "AllKnown" false) rfl)
    kt_BadAnswer_BadAnswer := of_decide_eq_true (c.fact 108 (f := kitB1 "BadAnswer" "BadAnswer" true) rfl)
    kt_BadAnswer_BadLine := of_decide_eq_true (c.fact 109 (f := kitB1 "BadAnswer" "BadLine" false) rfl)
    kt_BadAnswer_BadLink := of_decide_eq_true (c.fact 110 (f := kitB1 "BadAnswer" "BadLink" false) rfl)
    kt_BadAnswer_BadText := of_decide_eq_true (c.fact 111 (f := kitB1 "BadAnswer" "BadText" false) rfl)
    kt_BadAnswer_GatherError := of_decide_eq_true (c.fact 112 (f := kitB1 "BadAnswer" "GatherError" true) rfl)
    kt_BadAnswer_Known := of_decide_eq_true (c.fact 113 (f := kitB1 "BadAnswer" "Known" false) rfl)
    kt_BadAnswer_NoHouse := of_decide_eq_true (c.fact 114 (f := kitB1 "BadAnswer" "NoHouse" false) rfl)
    kt_BadAnswer_NoLink := of_decide_eq_true (c.fact 115 (f := kitB1 "BadAnswer" "NoLink" false) rfl)
    kt_BadAnswer_NoNet := of_decide_eq_true (c.fact 116 (f := kitB1 "BadAnswer" "NoNet" false) rfl)
    kt_BadAnswer_NoNumber := of_decide_eq_true (c.fact 117 (f := kitB1 "BadAnswer" "NoNumber" false) rfl)
    kt_BadAnswer_NoWay := of_decide_eq_true (c.fact 118 (f := kitB1 "BadAnswer" "NoWay" false) rfl)
    kt_BadAnswer_NothingDone := of_decide_eq_true (c.fact 119 (f := kitB1 "BadAnswer" "NothingDone" false) rfl)
    kt_BadAnswer_OtherHouses := of_decide_eq_true (c.fact 120 (f := kitB1 "BadAnswer" "OtherHouses" false) rfl)
    kt_BadAnswer_ValueError := of_decide_eq_true (c.fact 121 (f := kitTB1 "BadAnswer" "ValueError" true) rfl)
    kt_BadLine_AllKnown := of_decide_eq_true (c.fact 122 (f := kitB1 "BadLine" "AllKnown" false) rfl)
    kt_BadLine_BadAnswer := of_decide_eq_true (c.fact 123 (f := kitB1 "BadLine" "BadAnswer" false) rfl)
    kt_BadLine_BadLine := of_decide_eq_true (c.fact 124 (f := kitB1 "BadLine" "BadLine" true) rfl)
    kt_BadLine_BadLink := of_decide_eq_true (c.fact 125 (f := kitB1 "BadLine" "BadLink" false) rfl)
    kt_BadLine_BadText := of_decide_eq_true (c.fact 126 (f := kitB1 "BadLine" "BadText" false) rfl)
    kt_BadLine_GatherError := of_decide_eq_true (c.fact 127 (f := kitB1 "BadLine" "GatherError" true) rfl)
    kt_BadLine_Known := of_decide_eq_true (c.fact 128 (f := kitB1 "BadLine" "Known" false) rfl)
    kt_BadLine_NoHouse := of_decide_eq_true (c.fact 129 (f := kitB1 "BadLine" "NoHouse" false) rfl)
    kt_BadLine_NoLink := of_decide_eq_true (c.fact 130 (f := kitB1 "BadLine" "NoLink" false) rfl)
    kt_BadLine_NoNet := of_decide_eq_true (c.fact 131 (f := kitB1 "BadLine" "NoNet" false) rfl)
    kt_BadLine_NoNumber := of_decide_eq_true (c.fact 132 (f := kitB1 "BadLine" "NoNumber" false) rfl)
    kt_BadLine_NoWay := of_decide_eq_true (c.fact 133 (f := kitB1 "BadLine" "NoWay" false) rfl)
    kt_BadLine_NothingDone := of_decide_eq_true (c.fact 134 (f := kitB1 "BadLine" "NothingDone" false) rfl)
    kt_BadLine_OtherHouses := of_decide_eq_true (c.fact 135 (f := kitB1 "BadLine" "OtherHouses" false) rfl)
    kt_BadLine_ValueError := of_decide_eq_true (c.fact 136 (f := kitTB1 "BadLine" "ValueError" true) rfl)
    kt_BadLink_AllKnown := of_decide_eq_true (c.fact 137 (f := kitB1 "BadLink" "AllKnown" false) rfl)
    kt_BadLink_BadAnswer := of_decide_eq_true (c.fact 138 (f := kitB1 "BadLink" "BadAnswer" false) rfl)
    kt_BadLink_BadLine := of_decide_eq_true (c.fact 139 (f := kitB1 "BadLink" "BadLine" false) rfl)
    kt_BadLink_BadLink := of_decide_eq_true (c.fact 140 (f := kitB1 "BadLink" "BadLink" true) rfl)
    kt_BadLink_BadText := of_decide_eq_true (c.fact 141 (f := kitB1 "BadLink" "BadText" false) rfl)
    kt_BadLink_GatherError := of_decide_eq_true (c.fact 142 (f := kitB1 "BadLink" "GatherError" true) rfl)
    kt_BadLink_Known := of_decide_eq_true (c.fact 143 (f := kitB1 "BadLink" "Known" false) rfl)
    kt_BadLink_NoHouse := of_decide_eq_true (c.fact 144 (f := kitB1 "BadLink" "NoHouse" false) rfl)
    kt_BadLink_NoLink := of_decide_eq_true (c.fact 145 (f := kitB1 "BadLink" "NoLink" false) rfl)
    kt_BadLink_NoNet := of_decide_eq_true (c.fact 146 (f := kitB1 "BadLink" "NoNet" false) rfl)
    kt_BadLink_NoNumber := of_decide_eq_true (c.fact 147 (f := kitB1 "BadLink" "NoNumber" false) rfl)
    kt_BadLink_NoWay := of_decide_eq_true (c.fact 148 (f := kitB1 "BadLink" "NoWay" false) rfl)
    kt_BadLink_NothingDone := of_decide_eq_true (c.fact 149 (f := kitB1 "BadLink" "NothingDone" false) rfl)
    kt_BadLink_OtherHouses := of_decide_eq_true (c.fact 150 (f := kitB1 "BadLink" "OtherHouses" false) rfl)
    kt_BadLink_ValueError := of_decide_eq_true (c.fact 151 (f := kitTB1 "BadLink" "ValueError" true) rfl)
    kt_BadText_AllKnown := of_decide_eq_true (c.fact 152 (f := kitB1 "BadText" "AllKnown" false) rfl)
    kt_BadText_BadAnswer := of_decide_eq_true (c.fact 153 (f := kitB1 "BadText" "BadAnswer" false) rfl)
    kt_BadText_BadLine := of_decide_eq_true (c.fact 154 (f := kitB1 "BadText" "BadLine" false) rfl)
    kt_BadText_BadLink := of_decide_eq_true (c.fact 155 (f := kitB1 "BadText" "BadLink" false) rfl)
    kt_BadText_BadText := of_decide_eq_true (c.fact 156 (f := kitB1 "BadText" "BadText" true) rfl)
    kt_BadText_GatherError := of_decide_eq_true (c.fact 157 (f := kitB1 "BadText" "GatherError" true) rfl)
    kt_BadText_Known := of_decide_eq_true (c.fact 158 (f := kitB1 "BadText" "Known" false) rfl)
    kt_BadText_NoHouse := of_decide_eq_true (c.fact 159 (f := kitB1 "BadText" "NoHouse" false) rfl)
    kt_BadText_NoLink := of_decide_eq_true (c.fact 160 (f := kitB1 "BadText" "NoLink" false) rfl)
    kt_BadText_NoNet := of_decide_eq_true (c.fact 161 (f := kitB1 "BadText" "NoNet" false) rfl)
    kt_BadText_NoNumber := of_decide_eq_true (c.fact 162 (f := kitB1 "BadText" "NoNumber" false) rfl)
    kt_BadText_NoWay := of_decide_eq_true (c.fact 163 (f := kitB1 "BadText" "NoWay" false) rfl)
    kt_BadText_NothingDone := of_decide_eq_true (c.fact 164 (f := kitB1 "BadText" "NothingDone" false) rfl)
    kt_BadText_OtherHouses := of_decide_eq_true (c.fact 165 (f := kitB1 "BadText" "OtherHouses" false) rfl)
    kt_BadText_ValueError := of_decide_eq_true (c.fact 166 (f := kitTB1 "BadText" "ValueError" true) rfl)
    kt_Known_AllKnown := of_decide_eq_true (c.fact 167 (f := kitB1 "Known" "AllKnown" false) rfl)
    kt_Known_BadAnswer := of_decide_eq_true (c.fact 168 (f := kitB1 "Known" "BadAnswer" false) rfl)
    kt_Known_BadLine := of_decide_eq_true (c.fact 169 (f := kitB1 "Known" "BadLine" false) rfl)
    kt_Known_BadLink := of_decide_eq_true (c.fact 170 (f := kitB1 "Known" "BadLink" false) rfl)
    kt_Known_BadText := of_decide_eq_true (c.fact 171 (f := kitB1 "Known" "BadText" false) rfl)
    kt_Known_GatherError := of_decide_eq_true (c.fact 172 (f := kitB1 "Known" "GatherError" true) rfl)
    kt_Known_Known := of_decide_eq_true (c.fact 173 (f := kitB1 "Known" "Known" true) rfl)
    kt_Known_NoHouse := of_decide_eq_true (c.fact 174 (f := kitB1 "Known" "NoHouse" false) rfl)
    kt_Known_NoLink := of_decide_eq_true (c.fact 175 (f := kitB1 "Known" "NoLink" false) rfl)
    kt_Known_NoNet := of_decide_eq_true (c.fact 176 (f := kitB1 "Known" "NoNet" false) rfl)
    kt_Known_NoNumber := of_decide_eq_true (c.fact 177 (f := kitB1 "Known" "NoNumber" false) rfl)
    kt_Known_NoWay := of_decide_eq_true (c.fact 178 (f := kitB1 "Known" "NoWay" false) rfl)
    kt_Known_NothingDone := of_decide_eq_true (c.fact 179 (f := kitB1 "Known" "NothingDone" false) rfl)
    kt_Known_OtherHouses := of_decide_eq_true (c.fact 180 (f := kitB1 "Known" "OtherHouses" false) rfl)
    kt_Known_ValueError := of_decide_eq_true (c.fact 181 (f := kitTB1 "Known" "ValueError" true) rfl)
    kt_NoHouse_AllKnown := of_decide_eq_true (c.fact 182 (f := kitB1 "NoHouse" "AllKnown" false) rfl)
    kt_NoHouse_BadAnswer := of_decide_eq_true (c.fact 183 (f := kitB1 "NoHouse" "BadAnswer" false) rfl)
    kt_NoHouse_BadLine := of_decide_eq_true (c.fact 184 (f := kitB1 "NoHouse" "BadLine" false) rfl)
    kt_NoHouse_BadLink := of_decide_eq_true (c.fact 185 (f := kitB1 "NoHouse" "BadLink" false) rfl)
    kt_NoHouse_BadText := of_decide_eq_true (c.fact 186 (f := kitB1 "NoHouse" "BadText" false) rfl)
    kt_NoHouse_GatherError := of_decide_eq_true (c.fact 187 (f := kitB1 "NoHouse" "GatherError" true) rfl)
    kt_NoHouse_Known := of_decide_eq_true (c.fact 188 (f := kitB1 "NoHouse" "Known" false) rfl)
    kt_NoHouse_NoHouse := of_decide_eq_true (c.fact 189 (f := kitB1 "NoHouse" "NoHouse" true) rfl)
    kt_NoHouse_NoLink := of_decide_eq_true (c.fact 190 (f := kitB1 "NoHouse" "NoLink" false) rfl)
    kt_NoHouse_NoNet := of_decide_eq_true (c.fact 191 (f := kitB1 "NoHouse" "NoNet" false) rfl)
    kt_NoHouse_NoNumber := of_decide_eq_true (c.fact 192 (f := kitB1 "NoHouse" "NoNumber" false) rfl)
    kt_NoHouse_NoWay := of_decide_eq_true (c.fact 193 (f := kitB1 "NoHouse" "NoWay" false) rfl)
    kt_NoHouse_NothingDone := of_decide_eq_true (c.fact 194 (f := kitB1 "NoHouse" "NothingDone" false) rfl)
    kt_NoHouse_OtherHouses := of_decide_eq_true (c.fact 195 (f := kitB1 "NoHouse" "OtherHouses" false) rfl)
    kt_NoHouse_ValueError := of_decide_eq_true (c.fact 196 (f := kitTB1 "NoHouse" "ValueError" true) rfl)
    kt_NoLink_AllKnown := of_decide_eq_true (c.fact 197 (f := kitB1 "NoLink" "AllKnown" false) rfl)
    kt_NoLink_BadAnswer := of_decide_eq_true (c.fact 198 (f := kitB1 "NoLink" "BadAnswer" false) rfl)
    kt_NoLink_BadLine := of_decide_eq_true (c.fact 199 (f := kitB1 "NoLink" "BadLine" false) rfl)
    kt_NoLink_BadLink := of_decide_eq_true (c.fact 200 (f := kitB1 "NoLink" "BadLink" false) rfl)
    kt_NoLink_BadText := of_decide_eq_true (c.fact 201 (f := kitB1 "NoLink" "BadText" false) rfl)
    kt_NoLink_GatherError := of_decide_eq_true (c.fact 202 (f := kitB1 "NoLink" "GatherError" true) rfl)
    kt_NoLink_Known := of_decide_eq_true (c.fact 203 (f := kitB1 "NoLink" "Known" false) rfl)
    kt_NoLink_NoHouse := of_decide_eq_true (c.fact 204 (f := kitB1 "NoLink" "NoHouse" false) rfl)
    kt_NoLink_NoLink := of_decide_eq_true (c.fact 205 (f := kitB1 "NoLink" "NoLink" true) rfl)
    kt_NoLink_NoNet := of_decide_eq_true (c.fact 206 (f := kitB1 "NoLink" "NoNet" false) rfl)
    kt_NoLink_NoNumber := of_decide_eq_true (c.fact 207 (f := kitB1 "NoLink" "NoNumber" false) rfl)
    kt_NoLink_NoWay := of_decide_eq_true (c.fact 208 (f := kitB1 "NoLink" "NoWay" false) rfl)
    kt_NoLink_NothingDone := of_decide_eq_true (c.fact 209 (f := kitB1 "NoLink" "NothingDone" false) rfl)
    kt_NoLink_OtherHouses := of_decide_eq_true (c.fact 210 (f := kitB1 "NoLink" "OtherHouses" false) rfl)
    kt_NoLink_ValueError := of_decide_eq_true (c.fact 211 (f := kitTB1 "NoLink" "ValueError" true) rfl)
    kt_NoNet_AllKnown := of_decide_eq_true (c.fact 212 (f := kitB1 "NoNet" "AllKnown" false) rfl)
    kt_NoNet_BadAnswer := of_decide_eq_true (c.fact 213 (f := kitB1 "NoNet" "BadAnswer" false) rfl)
    kt_NoNet_BadLine := of_decide_eq_true (c.fact 214 (f := kitB1 "NoNet" "BadLine" false) rfl)
    kt_NoNet_BadLink := of_decide_eq_true (c.fact 215 (f := kitB1 "NoNet" "BadLink" false) rfl)
    kt_NoNet_BadText := of_decide_eq_true (c.fact 216 (f := kitB1 "NoNet" "BadText" false) rfl)
    kt_NoNet_GatherError := of_decide_eq_true (c.fact 217 (f := kitB1 "NoNet" "GatherError" true) rfl)
    kt_NoNet_Known := of_decide_eq_true (c.fact 218 (f := kitB1 "NoNet" "Known" false) rfl)
    kt_NoNet_NoHouse := of_decide_eq_true (c.fact 219 (f := kitB1 "NoNet" "NoHouse" false) rfl)
    kt_NoNet_NoLink := of_decide_eq_true (c.fact 220 (f := kitB1 "NoNet" "NoLink" false) rfl)
    kt_NoNet_NoNet := of_decide_eq_true (c.fact 221 (f := kitB1 "NoNet" "NoNet" true) rfl)
    kt_NoNet_NoNumber := of_decide_eq_true (c.fact 222 (f := kitB1 "NoNet" "NoNumber" false) rfl)
    kt_NoNet_NoWay := of_decide_eq_true (c.fact 223 (f := kitB1 "NoNet" "NoWay" false) rfl)
    kt_NoNet_NothingDone := of_decide_eq_true (c.fact 224 (f := kitB1 "NoNet" "NothingDone" false) rfl)
    kt_NoNet_OtherHouses := of_decide_eq_true (c.fact 225 (f := kitB1 "NoNet" "OtherHouses" false) rfl)
    kt_NoNet_ValueError := of_decide_eq_true (c.fact 226 (f := kitTB1 "NoNet" "ValueError" true) rfl)
    kt_NoNumber_AllKnown := of_decide_eq_true (c.fact 227 (f := kitB1 "NoNumber" "AllKnown" false) rfl)
    kt_NoNumber_BadAnswer := of_decide_eq_true (c.fact 228 (f := kitB1 "NoNumber" "BadAnswer" false) rfl)
    kt_NoNumber_BadLine := of_decide_eq_true (c.fact 229 (f := kitB1 "NoNumber" "BadLine" false) rfl)
    kt_NoNumber_BadLink := of_decide_eq_true (c.fact 230 (f := kitB1 "NoNumber" "BadLink" false) rfl)
    kt_NoNumber_BadText := of_decide_eq_true (c.fact 231 (f := kitB1 "NoNumber" "BadText" false) rfl)
    kt_NoNumber_GatherError := of_decide_eq_true (c.fact 232 (f := kitB1 "NoNumber" "GatherError" true) rfl)
    kt_NoNumber_Known := of_decide_eq_true (c.fact 233 (f := kitB1 "NoNumber" "Known" false) rfl)
    kt_NoNumber_NoHouse := of_decide_eq_true (c.fact 234 (f := kitB1 "NoNumber" "NoHouse" false) rfl)
    kt_NoNumber_NoLink := of_decide_eq_true (c.fact 235 (f := kitB1 "NoNumber" "NoLink" false) rfl)
    kt_NoNumber_NoNet := of_decide_eq_true (c.fact 236 (f := kitB1 "NoNumber" "NoNet" false) rfl)
    kt_NoNumber_NoNumber := of_decide_eq_true (c.fact 237 (f := kitB1 "NoNumber" "NoNumber" true) rfl)
    kt_NoNumber_NoWay := of_decide_eq_true (c.fact 238 (f := kitB1 "NoNumber" "NoWay" false) rfl)
    kt_NoNumber_NothingDone := of_decide_eq_true (c.fact 239 (f := kitB1 "NoNumber" "NothingDone" false) rfl)
    kt_NoNumber_OtherHouses := of_decide_eq_true (c.fact 240 (f := kitB1 "NoNumber" "OtherHouses" false) rfl)
    kt_NoNumber_ValueError := of_decide_eq_true (c.fact 241 (f := kitTB1 "NoNumber" "ValueError" true) rfl)
    kt_NoWay_AllKnown := of_decide_eq_true (c.fact 242 (f := kitB1 "NoWay" "AllKnown" false) rfl)
    kt_NoWay_BadAnswer := of_decide_eq_true (c.fact 243 (f := kitB1 "NoWay" "BadAnswer" false) rfl)
    kt_NoWay_BadLine := of_decide_eq_true (c.fact 244 (f := kitB1 "NoWay" "BadLine" false) rfl)
    kt_NoWay_BadLink := of_decide_eq_true (c.fact 245 (f := kitB1 "NoWay" "BadLink" false) rfl)
    kt_NoWay_BadText := of_decide_eq_true (c.fact 246 (f := kitB1 "NoWay" "BadText" false) rfl)
    kt_NoWay_GatherError := of_decide_eq_true (c.fact 247 (f := kitB1 "NoWay" "GatherError" true) rfl)
    kt_NoWay_Known := of_decide_eq_true (c.fact 248 (f := kitB1 "NoWay" "Known" false) rfl)
    kt_NoWay_NoHouse := of_decide_eq_true (c.fact 249 (f := kitB1 "NoWay" "NoHouse" false) rfl)
    kt_NoWay_NoLink := of_decide_eq_true (c.fact 250 (f := kitB1 "NoWay" "NoLink" false) rfl)
    kt_NoWay_NoNet := of_decide_eq_true (c.fact 251 (f := kitB1 "NoWay" "NoNet" false) rfl)
    kt_NoWay_NoNumber := of_decide_eq_true (c.fact 252 (f := kitB1 "NoWay" "NoNumber" false) rfl)
    kt_NoWay_NoWay := of_decide_eq_true (c.fact 253 (f := kitB1 "NoWay" "NoWay" true) rfl)
    kt_NoWay_NothingDone := of_decide_eq_true (c.fact 254 (f := kitB1 "NoWay" "NothingDone" false) rfl)
    kt_NoWay_OtherHouses := of_decide_eq_true (c.fact 255 (f := kitB1 "NoWay" "OtherHouses" false) rfl)
    kt_NoWay_ValueError := of_decide_eq_true (c.fact 256 (f := kitTB1 "NoWay" "ValueError" true) rfl)
    kt_NothingDone_AllKnown := of_decide_eq_true (c.fact 257 (f := kitB1 "NothingDone" "AllKnown" false) rfl)
    kt_NothingDone_BadAnswer := of_decide_eq_true (c.fact 258 (f := kitB1 "NothingDone" "BadAnswer" false) rfl)
    kt_NothingDone_BadLine := of_decide_eq_true (c.fact 259 (f := kitB1 "NothingDone" "BadLine" false) rfl)
    kt_NothingDone_BadLink := of_decide_eq_true (c.fact 260 (f := kitB1 "NothingDone" "BadLink" false) rfl)
    kt_NothingDone_BadText := of_decide_eq_true (c.fact 261 (f := kitB1 "NothingDone" "BadText" false) rfl)
    kt_NothingDone_GatherError := of_decide_eq_true (c.fact 262 (f := kitB1 "NothingDone" "GatherError" true) rfl)
    kt_NothingDone_Known := of_decide_eq_true (c.fact 263 (f := kitB1 "NothingDone" "Known" false) rfl)
    kt_NothingDone_NoHouse := of_decide_eq_true (c.fact 264 (f := kitB1 "NothingDone" "NoHouse" false) rfl)
    kt_NothingDone_NoLink := of_decide_eq_true (c.fact 265 (f := kitB1 "NothingDone" "NoLink" false) rfl)
    kt_NothingDone_NoNet := of_decide_eq_true (c.fact 266 (f := kitB1 "NothingDone" "NoNet" false) rfl)
    kt_NothingDone_NoNumber := of_decide_eq_true (c.fact 267 (f := kitB1 "NothingDone" "NoNumber" false) rfl)
    kt_NothingDone_NoWay := of_decide_eq_true (c.fact 268 (f := kitB1 "NothingDone" "NoWay" false) rfl)
    kt_NothingDone_NothingDone := of_decide_eq_true (c.fact 269 (f := kitB1 "NothingDone" "NothingDone" true) rfl)
    kt_NothingDone_OtherHouses := of_decide_eq_true (c.fact 270 (f := kitB1 "NothingDone" "OtherHouses" false) rfl)
    kt_NothingDone_ValueError := of_decide_eq_true (c.fact 271 (f := kitTB1 "NothingDone" "ValueError" true) rfl)
    kt_OtherHouses_AllKnown := of_decide_eq_true (c.fact 272 (f := kitB1 "OtherHouses" "AllKnown" false) rfl)
    kt_OtherHouses_BadAnswer := of_decide_eq_true (c.fact 273 (f := kitB1 "OtherHouses" "BadAnswer" false) rfl)
    kt_OtherHouses_BadLine := of_decide_eq_true (c.fact 274 (f := kitB1 "OtherHouses" "BadLine" false) rfl)
    kt_OtherHouses_BadLink := of_decide_eq_true (c.fact 275 (f := kitB1 "OtherHouses" "BadLink" false) rfl)
    kt_OtherHouses_BadText := of_decide_eq_true (c.fact 276 (f := kitB1 "OtherHouses" "BadText" false) rfl)
    kt_OtherHouses_GatherError := of_decide_eq_true (c.fact 277 (f := kitB1 "OtherHouses" "GatherError" true) rfl)
    kt_OtherHouses_Known := of_decide_eq_true (c.fact 278 (f := kitB1 "OtherHouses" "Known" false) rfl)
    kt_OtherHouses_NoHouse := of_decide_eq_true (c.fact 279 (f := kitB1 "OtherHouses" "NoHouse" false) rfl)
    kt_OtherHouses_NoLink := of_decide_eq_true (c.fact 280 (f := kitB1 "OtherHouses" "NoLink" false) rfl)
    kt_OtherHouses_NoNet := of_decide_eq_true (c.fact 281 (f := kitB1 "OtherHouses" "NoNet" false) rfl)
    kt_OtherHouses_NoNumber := of_decide_eq_true (c.fact 282 (f := kitB1 "OtherHouses" "NoNumber" false) rfl)
    kt_OtherHouses_NoWay := of_decide_eq_true (c.fact 283 (f := kitB1 "OtherHouses" "NoWay" false) rfl)
    kt_OtherHouses_NothingDone := of_decide_eq_true (c.fact 284 (f := kitB1 "OtherHouses" "NothingDone" false) rfl)
    kt_OtherHouses_OtherHouses := of_decide_eq_true (c.fact 285 (f := kitB1 "OtherHouses" "OtherHouses" true) rfl)
    kt_OtherHouses_ValueError := of_decide_eq_true (c.fact 286 (f := kitTB1 "OtherHouses" "ValueError" true) rfl)
    kn_AllKnown := of_decide_eq_true (c.fact 287 (f := kitNB1 "AllKnown" false) rfl)
    kn_BadAnswer := of_decide_eq_true (c.fact 288 (f := kitNB1 "BadAnswer" false) rfl)
    kn_BadLine := of_decide_eq_true (c.fact 289 (f := kitNB1 "BadLine" false) rfl)
    kn_BadLink := of_decide_eq_true (c.fact 290 (f := kitNB1 "BadLink" false) rfl)
    kn_BadText := of_decide_eq_true (c.fact 291 (f := kitNB1 "BadText" false) rfl)
    kn_GatherError := of_decide_eq_true (c.fact 292 (f := kitNB1 "GatherError" false) rfl)
    kn_Known := of_decide_eq_true (c.fact 293 (f := kitNB1 "Known" false) rfl)
    kn_NoHouse := of_decide_eq_true (c.fact 294 (f := kitNB1 "NoHouse" false) rfl)
    kn_NoLink := of_decide_eq_true (c.fact 295 (f := kitNB1 "NoLink" false) rfl)
    kn_NoNet := of_decide_eq_true (c.fact 296 (f := kitNB1 "NoNet" false) rfl)
    kn_NoNumber := of_decide_eq_true (c.fact 297 (f := kitNB1 "NoNumber" false) rfl)
    kn_NoWay := of_decide_eq_true (c.fact 298 (f := kitNB1 "NoWay" false) rfl)
    kn_NothingDone := of_decide_eq_true (c.fact 299 (f := kitNB1 "NothingDone" false) rfl)
    kn_OtherHouses := of_decide_eq_true (c.fact 300 (f := kitNB1 "OtherHouses" false) rfl)
    kn_ValueError := of_decide_eq_true (c.fact 301 (f := kitNTB1 "ValueError" false) rfl)
    fd_law_box := fd0
    F_law_box := F0
    g_law_box := He.glo_ok X G (c.fact 302 (f := gloB "_law_box") rfl)
    b_law_box := FunD.bindsN F0 fun _ _ _ _ _ _ us hl => match us, hl with | [_, _], _ => rfl
    fd_law_take := fd1
    F_law_take := F1
    g_law_take := He.glo_ok X G (c.fact 303 (f := gloB "_law_take") rfl)
    b_law_take := FunD.bindsN F1 fun _ _ _ _ _ _ us hl => match us, hl with | [_, _], _ => rfl
    fd_law_cells := fd2
    F_law_cells := F2
    g_law_cells := He.glo_ok X G (c.fact 304 (f := gloB "_law_cells") rfl)
    b_law_cells := FunD.bindsN F2 fun _ _ _ _ _ _ us hl => match us, hl with | [_, _], _ => rfl
    fd_law_of := fd3
    F_law_of := F3
    g_law_of := He.glo_ok X G (c.fact 305 (f := gloB "_law_of") rfl)
    b_law_of := FunD.bindsN F3 fun _ _ _ _ _ _ us hl => match us, hl with | [_, _], _ => rfl
    fd_law_same := fd4
    F_law_same := F4
    g_law_same := He.glo_ok X G (c.fact 306 (f := gloB "_law_same") rfl)
    b_law_same := FunD.bindsN F4 fun _ _ _ _ _ _ us hl => match us, hl with | [_, _], _ => rfl
    fd_law_sorts := fd5
    F_law_sorts := F5
    g_law_sorts := He.glo_ok X G (c.fact 307 (f := gloB "_law_sorts") rfl)
    b_law_sorts := FunD.bindsN F5 fun _ _ _ _ _ _ us hl => match us, hl with | [_], _ => rfl
    fd_AllKnown_init := fd6
    F_AllKnown_init := F6
    b_AllKnown_init := FunD.bindsN F6 fun _ _ _ _ _ _ us hl => match us, hl with | [_], _ => rfl
    fd_BadAnswer_init := fd7
    F_BadAnswer_init := F7
    b_BadAnswer_init := FunD.bindsN F7 fun _ _ _ _ _ _ us hl => match us, hl with | [_, _], _ => rfl
    fd_BadLine_init := fd8
    F_BadLine_init := F8
    b_BadLine_init := FunD.bindsN F8 fun _ _ _ _ _ _ us hl => match us, hl with | [_, _], _ => rfl
    fd_BadLink_init := fd9
    F_BadLink_init := F9
    b_BadLink_init := FunD.bindsN F9 fun _ _ _ _ _ _ us hl => match us, hl with | [_, _], _ => rfl
    fd_BadText_init := fd10
    F_BadText_init := F10
    b_BadText_init := FunD.bindsN F10 fun _ _ _ _ _ _ us hl => match us, hl with | [_, _], _ => rfl
    fd_Known_init := fd11
    F_Known_init := F11
    b_Known_init := FunD.bindsN F11 fun _ _ _ _ _ _ us hl => match us, hl with | [_, _], _ => rfl
    fd_NoHouse_init := fd12
    F_NoHouse_init := F12
    b_NoHouse_init := FunD.bindsN F12 fun _ _ _ _ _ _ us hl => match us, hl with | [_, _], _ => rfl
    fd_NoLink_init := fd13
    F_NoLink_init := F13
    b_NoLink_init := FunD.bindsN F13 fun _ _ _ _ _ _ us hl => match us, hl with | [_, _], _ => rfl
    fd_NoNet_init := fd14
    F_NoNet_init := F14
    b_NoNet_init := FunD.bindsN F14 fun _ _ _ _ _ _ us hl => match us, hl with | [_, _], _ => rfl
    fd_NoNumber_init := fd15
    F_NoNumber_init := F15
    b_NoNumber_init := FunD.bindsN F15 fun _ _ _ _ _ _ us hl => match us, hl with | [_, _], _ => rfl
    fd_NoWay_init := fd16
    F_NoWay_init := F16
    b_NoWay_init := FunD.bindsN F16 fun _ _ _ _ _ _ us hl => match us, hl with | [_, _], _ => rfl
    fd_NothingDone_init := fd17
    F_NothingDone_init := F17
    b_NothingDone_init := FunD.bindsN F17 fun _ _ _ _ _ _ us hl => match us, hl with | [_], _ => rfl
    fd_OtherHouses_init := fd18
    F_OtherHouses_init := F18
    b_OtherHouses_init := FunD.bindsN F18 fun _ _ _ _ _ _ us hl => match us, hl with | [_], _ => rfl
    fd_law_right := fd19
    F_law_right := F19
    g_law_right := He.glo_ok X G (c.fact 308 (f := gloB "_law_right") rfl)
    b_law_right := FunD.bindsN F19 fun _ _ _ _ _ _ us hl => match us, hl with | [_], _ => rfl
    fd_law := fd20
    F_law := F20
    g_law := He.glo_ok X G (c.fact 309 (f := gloB "law") rfl)
    b_law := FunD.bindsN F20 fun _ _ _ _ _ _ us hl => match us, hl with | [_], _ => rfl
  }⟩
abbrev R : PySem.W.OpenRow := PySem.W.OpenLaw.row PySem.Challenge.rw_allgather_k00_errors
abbrev hk : PySem.W.Hook := hookV 5 fac fns
def ob (s : PySem.W.SharedT) : AlV := obsVG 5 fac fns (HandSHeadRun.getT s)
theorem ob_eq (s : PySem.W.SharedT) : ob s = hk.obs s.abs := obsVG_eq (HandSHeadRun.getT_eq s)
def lo0 : List PySem.Str := ["GatherError", "BadLink", "BadText", "BadLine", "NoHouse", "NoLink", "NoWay", "OtherHouses", "NoNumber", "BadAnswer", "AllKnown", "NothingDone", "Known", "NoNet", "_law_box", "_law_take", "_law_cells", "_law_of", "_law_same", "_law_sorts", "_law_right"]
def lo : List PySem.Str := lo0
theorem run (w : World) : HandSHeadRun.RunEq R (PySem.W.view R.prog [23]) hk ob 20000 lo w := by
  intro os
  kernel_rfl
def mLaw : List D → Rs D := fun ds => match ds with | [x] => m_law x | _ => .no
theorem fin {P : Program} {w : World} {K : PySem.W.Frag} {mg : Str → Option Value} {h : Heap} {fa : Addr} (X : K.In h) (G : h.Ns mainGlobals mg) (hmg : mg "law" = some (.ref fa)) (c : SaysV fac fns K) :
    ∃ (fd : FuncData) (sp : Sp), (∀ (s : Shared) (v : Value), BindsTo s fd ⟨[v], []⟩ [("_law_script", v)]) ∧ (∀ (H : Hp) (a : Addr) (ns : List Int), ns.length ≤ 63 → (∀ i ∈ ns, Builtin.Int.intBits i ≤ 1048576) → Only H → SqL K H a (ns.map V.int) → sp [.ref a] H (fun v _ => v = .bl true) fun _ _ _ => False) ∧ ∀ base : Heap, FnOk P w K mg base (L2.CX P w) 20 fa fd ["_law_script"] sp := by
  obtain ⟨T⟩ := mkTxt X G c
  obtain rfl : fa = He.ga K "law" := by
    have e := hmg.symm.trans T.g_law
    injection e with e
    injection e
  exact ⟨T.fd_law, spM K 1 mLaw, fun s v => FunD.bindsA (ps := ["_law_script"]) T.F_law (fun _ _ _ _ _ _ us hl => match us, hl with | [_], _ => rfl) s [v] rfl, fun H a ns hl hb _ hS => end_ok hl hS (plain ns hl hb), fun base => k_law T⟩
end LW
open PySem PySem.W PySem.Calls PyProof.Rows
theorem PySem.Challenge.cw_allgather_k00_errors_holds : PySem.Challenge.rw_allgather_k00_errors.Holds := by
  w_on; o_law
  refine HandSHeadRun.head_any (r := LW.R) (q := view LW.R.prog [23]) (H := LW.hk) (ob := LW.ob) (M := 20000) (loose := LW.lo) (d := HandSHeadRun.topDef LW.R.prog 23) (kwd := []) LW.ob_eq
    (by kernel_rfl) (fun s => by kernel_rfl) LW.run (by kernel_rfl) (by kernel_rfl) (by kernel_rfl) (by rfl) (by first | assumption | decide +kernel) (by decide +kernel) ⟨rfl, rfl, rfl, rfl, rfl, by decide +kernel⟩ ?hw ?hc
  case hw => w_witness2
  case hc =>
    refine VL.walk_ofV (l := PySem.Challenge.rw_allgather_k00_errors) (n := 63) (k := 20) (x := "_law_script") (CX := fun w => L2.CX LW.R.prog w) rfl (by decide) (by kernel_rfl) ⟨rfl, by decide, by decide⟩ ?F VL.cx_no
    intro w mg fa h Y G hmg0
    obtain ⟨K, KX, c⟩ := Y
    have hmg : mg ("law" : PySem.Str) = some (.ref fa) := by
      have e : (HandSHeadRun.topDef LW.R.prog 23).name = ("law" : PySem.Str) := by kernel_rfl
      rw [← e]
      exact hmg0
    obtain ⟨fd, sp, h1, h2, h3⟩ := LW.fin (P := (PySem.Challenge.rw_allgather_k00_errors).prog) (w := w) KX G hmg c
    exact ⟨K, fd, sp, KX, h1, h2, fun base _ _ => h3 base⟩
